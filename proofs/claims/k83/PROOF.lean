import PyProof.Rows.All
import Wide.All
import OpenK.AllK
import Wide.FinOn
import HandS.ForMost
import HandS.Exc
import HandS.TryOnly
import HandS.ExcOwn
import HandS.WordsExc
import HandS.IsInst
import HandS.FStr
import HandS.Wide
import HandS.Style
import HandS.Conv
import KE.DataEq
import HandS.TupAny
import PyProof.ListStr
import HandS.Star
import KE.GoesRaise
import KE.KUnpackStar
import HandS.ExcValue
import KE.KExcSuper
import KE.KSuper
import HandS.ExcInit
import HandS.ExcField
import PySem.Challenge.RW_whichwalks_k83_texts_of_values
import KE.IntTextLaws
import KE.KExcLine
set_option Elab.async false
set_option linter.all false
set_option maxRecDepth 100000
set_option maxHeartbeats 1000000
/-! D0: values as data (D) over the hand layer: what they are worth (RV), what is tracked (M), what stays (Kp); names, calls, statements read over data. -/
namespace Dl
open PySem PySem.Spec PyProof.Rows L2

/-! ### data -/
inductive D where
  | non | bl (b : Bool) | int (i : Int) | str (s : Str) | ty (n : String) | ref (a : Addr)
  | tup (l : List D) | lst (l : List D) | scr (ns : List Int)
inductive DO where
  | lst (l : List D)
  | xd (fs : List (Str × D))
  | raw (o : HO)
abbrev DHp := Addr → Option DO
def updD (M : DHp) (a : Addr) (o : DO) : DHp := fun b => if b = a then some o else M b
def ersD (M : DHp) (a : Addr) : DHp := fun b => if b = a then none else M b
theorem updD_same {M : DHp} {a : Addr} {o : DO} : updD M a o a = some o := by unfold updD; rw [if_pos rfl]
theorem updD_ne {M : DHp} {a b : Addr} {o : DO} (h : b ≠ a) : updD M a o b = M b := by unfold updD; rw [if_neg h]
theorem updD_updD {M : DHp} {a : Addr} {o u : DO} : updD (updD M a o) a u = updD M a u := by
  funext b; unfold updD; split <;> rfl
theorem ersD_same {M : DHp} {a : Addr} : ersD M a a = none := by unfold ersD; rw [if_pos rfl]
theorem ersD_ne {M : DHp} {a b : Addr} (h : b ≠ a) : ersD M a b = M b := by unfold ersD; rw [if_neg h]
theorem ersD_updD {M : DHp} {a : Addr} {o : DO} (h : M a = none) : ersD (updD M a o) a = M := by
  funext b
  by_cases e : b = a
  · subst e; rw [ersD_same, h]
  · rw [ersD_ne e, updD_ne e]
theorem ne_ofD {M : DHp} {a b : Addr} {o : DO} (h : M a = some o) (h' : M b = none) : a ≠ b := by
  intro e; subst e; rw [h] at h'; cases h'

/-- a tuple of the module's top -/
def KT (K : PySem.W.Frag) (a : Addr) (xs : List V) : Prop :=
  ∃ (o : Obj) (its : Array Value) (n : Nat), K.lookup a = some o ∧ o.cls = .type "tuple" ∧ o.data = .seq its n ∧ its.size ≤ sizeLine ∧ Vals xs its.toList

/-- a list of ints of the module's top -/
def KLi (K : PySem.W.Frag) (a : Addr) (ns : List Int) : Prop :=
  ∃ (o : Obj) (its : Array Value) (n : Nat), K.lookup a = some o ∧ o.cls = .type "list" ∧ o.dict = none ∧ o.data = .seq its n ∧ its.size ≤ sizeLine ∧ Vals (ns.map V.int) its.toList

section
variable (K : PySem.W.Frag) (H : Hp) (M : DHp)
mutual
/-- the value v is worth d: tuples and lists that are not tracked stand still -/
def RV : D → V → Prop
  | .non, v => v = .non
  | .bl b, v => v = .bl b
  | .int i, v => v = .int i
  | .str s, v => v = .str s
  | .ty n, v => v = .ty n
  | .ref a, v => v = .ref a
  | .tup ds, v => ∃ a xs, v = .ref a ∧ ((H a = some (.tup xs) ∧ M a = none) ∨ KT K a xs) ∧ RVs ds xs
  | .lst ds, v => ∃ a xs, v = .ref a ∧ H a = some (.lst xs) ∧ M a = none ∧ RVs ds xs
  | .scr ns, v => ∃ a, v = .ref a ∧ ((∃ o, H a = some (.frz o (.lst (ns.map V.int))) ∧ M a = none) ∨ KLi K a ns)
def RVs : List D → List V → Prop
  | [], xs => xs = []
  | d :: ds, xs => ∃ x r, xs = x :: r ∧ RV d x ∧ RVs ds r
end
/-- an exception's fields -/
def FRp : List (Str × D) → List (Str × V) → Prop
  | [], vs => vs = []
  | (f, d) :: fs, vs => ∃ v r, vs = (f, v) :: r ∧ RV K H M d v ∧ FRp fs r
def RO (a : Addr) : DO → Prop
  | .lst ds => ∃ vs, H a = some (.lst vs) ∧ RVs K H M ds vs
  | .xd fs => ∃ vs, H a = some (.xd vs) ∧ FRp K H M fs vs
  | .raw o => H a = some o
def RM : Prop := ∀ a o, M a = some o → RO K H M a o
end

/-- what is not tracked stands still -/
def Kp (H : Hp) (M : DHp) (H' : Hp) (M' : DHp) : Prop := ∀ a o, H a = some o → M a = none → H' a = some o ∧ M' a = none
section
variable {K : PySem.W.Frag} {H H' H'' : Hp} {M M' M'' : DHp} {a : Addr}
theorem Kp.refl : Kp H M H M := fun _ _ h m => ⟨h, m⟩
theorem Kp.trans (x : Kp H M H' M') (y : Kp H' M' H'' M'') : Kp H M H'' M'' := fun a o h m => y a o (x a o h m).1 (x a o h m).2
mutual
theorem RV.keep (k : Kp H M H' M') : ∀ (d : D) (v : V), RV K H M d v → RV K H' M' d v
  | .non, v, h => h
  | .bl _, v, h => h
  | .int _, v, h => h
  | .str _, v, h => h
  | .ty _, v, h => h
  | .ref _, v, h => h
  | .tup ds, v, h => by
    obtain ⟨a, xs, e, q, r⟩ := h
    refine ⟨a, xs, e, ?_, RVs.keep k ds xs r⟩
    rcases q with ⟨h1, h2⟩ | q
    · exact .inl (k a _ h1 h2)
    · exact .inr q
  | .lst ds, v, h => by
    obtain ⟨a, xs, e, h1, h2, r⟩ := h
    exact ⟨a, xs, e, (k a _ h1 h2).1, (k a _ h1 h2).2, RVs.keep k ds xs r⟩
  | .scr ns, v, h => by
    obtain ⟨a, e, q⟩ := h
    refine ⟨a, e, ?_⟩
    rcases q with ⟨o, h1, h2⟩ | q
    · exact .inl ⟨o, k a _ h1 h2⟩
    · exact .inr q
theorem RVs.keep (k : Kp H M H' M') : ∀ (ds : List D) (xs : List V), RVs K H M ds xs → RVs K H' M' ds xs
  | [], xs, h => h
  | d :: ds, xs, h => by
    obtain ⟨x, r, e, h1, h2⟩ := h
    exact ⟨x, r, e, RV.keep k d x h1, RVs.keep k ds r h2⟩
end
theorem RVs.length : ∀ {ds : List D} {xs : List V}, RVs K H M ds xs → xs.length = ds.length
  | [], xs, h => by cases h; rfl
  | d :: ds, xs, h => by
    obtain ⟨x, r, rfl, _, h2⟩ := h
    simp [RVs.length h2]
theorem RVs.get : ∀ {ds : List D} {xs : List V} {i : Nat} {d : D}, RVs K H M ds xs → ds[i]? = some d → ∃ x, xs[i]? = some x ∧ RV K H M d x
  | [], xs, i, d, _, e => by simp at e
  | d' :: ds, xs, 0, d, h, e => by
    obtain ⟨x, r, rfl, h1, _⟩ := h
    simp at e; subst e
    exact ⟨x, rfl, h1⟩
  | d' :: ds, xs, i + 1, d, h, e => by
    obtain ⟨x, r, rfl, _, h2⟩ := h
    exact RVs.get (i := i) h2 (by simpa using e)
theorem RVs.get' {ds : List D} {xs : List V} {i : Nat} {x : V} (h : RVs K H M ds xs) (e : xs[i]? = some x) : ∃ d, ds[i]? = some d ∧ RV K H M d x := by
  have hl := h.length
  have hi : i < ds.length := by
    have := (List.getElem?_eq_some_iff.mp e).1
    omega
  obtain ⟨y, e2, r⟩ := h.get (List.getElem?_eq_getElem hi)
  rw [e] at e2; cases e2
  exact ⟨_, List.getElem?_eq_getElem hi, r⟩
theorem RVs.append : ∀ {ds es : List D} {xs ys : List V}, RVs K H M ds xs → RVs K H M es ys → RVs K H M (ds ++ es) (xs ++ ys)
  | [], es, xs, ys, h, h' => by cases h; exact h'
  | d :: ds, es, xs, ys, h, h' => by
    obtain ⟨x, r, rfl, h1, h2⟩ := h
    exact ⟨x, r ++ ys, rfl, h1, RVs.append h2 h'⟩
theorem RVs.one {d : D} {x : V} (h : RV K H M d x) : RVs K H M [d] [x] := ⟨x, [], rfl, h, rfl⟩
theorem RVs.split : ∀ {ds es : List D} {xs : List V}, RVs K H M (ds ++ es) xs → ∃ ys zs, xs = ys ++ zs ∧ RVs K H M ds ys ∧ RVs K H M es zs
  | [], es, xs, h => ⟨[], xs, rfl, rfl, h⟩
  | d :: ds, es, xs, h => by
    obtain ⟨x, r, rfl, h1, h2⟩ := h
    obtain ⟨ys, zs, rfl, a, b⟩ := RVs.split (ds := ds) h2
    exact ⟨x :: ys, zs, rfl, ⟨x, ys, rfl, h1, a⟩, b⟩
theorem RVs.take : ∀ {ds : List D} {xs : List V} (n : Nat), RVs K H M ds xs → RVs K H M (ds.take n) (xs.take n)
  | ds, xs, 0, _ => by simp only [List.take_zero]; rfl
  | [], xs, n + 1, h => by cases h; rfl
  | d :: ds, xs, n + 1, h => by
    obtain ⟨x, r, rfl, h1, h2⟩ := h
    exact ⟨x, r.take n, rfl, h1, RVs.take n h2⟩
theorem RVs.drop : ∀ {ds : List D} {xs : List V} (n : Nat), RVs K H M ds xs → RVs K H M (ds.drop n) (xs.drop n)
  | ds, xs, 0, h => h
  | [], xs, n + 1, h => by cases h; rfl
  | d :: ds, xs, n + 1, h => by
    obtain ⟨x, r, rfl, h1, h2⟩ := h
    exact RVs.drop n h2
theorem RVs.reverse : ∀ {ds : List D} {xs : List V}, RVs K H M ds xs → RVs K H M ds.reverse xs.reverse
  | [], xs, h => by cases h; rfl
  | d :: ds, xs, h => by
    obtain ⟨x, r, rfl, h1, h2⟩ := h
    rw [List.reverse_cons, List.reverse_cons]
    exact (RVs.reverse h2).append (.one h1)
theorem RVs.set : ∀ {ds : List D} {xs : List V} (i : Nat) {d : D} {x : V}, RVs K H M ds xs → RV K H M d x → RVs K H M (ds.set i d) (xs.set i x)
  | [], xs, i, d, x, h, _ => by cases h; rfl
  | e :: ds, xs, 0, d, x, h, q => by
    obtain ⟨y, r, rfl, _, h2⟩ := h
    exact ⟨x, r, rfl, q, h2⟩
  | e :: ds, xs, i + 1, d, x, h, q => by
    obtain ⟨y, r, rfl, h1, h2⟩ := h
    exact ⟨y, r.set i x, rfl, h1, RVs.set i h2 q⟩
theorem RVs.eraseIdx : ∀ {ds : List D} {xs : List V} (i : Nat), RVs K H M ds xs → RVs K H M (ds.eraseIdx i) (xs.eraseIdx i)
  | [], xs, i, h => by cases h; rfl
  | e :: ds, xs, 0, h => by
    obtain ⟨y, r, rfl, _, h2⟩ := h
    exact h2
  | e :: ds, xs, i + 1, h => by
    obtain ⟨y, r, rfl, h1, h2⟩ := h
    exact ⟨y, r.eraseIdx i, rfl, h1, RVs.eraseIdx i h2⟩
theorem RVs.dropLast {ds : List D} {xs : List V} (h : RVs K H M ds xs) : RVs K H M ds.dropLast xs.dropLast := by
  rw [List.dropLast_eq_take, List.dropLast_eq_take, h.length]
  exact h.take _
theorem RVs.strs : ∀ (l : List Str), RVs K H M (l.map D.str) (l.map V.str)
  | [] => rfl
  | s :: l => ⟨.str s, l.map V.str, rfl, rfl, RVs.strs l⟩
theorem RVs.strs_inv : ∀ {l : List Str} {xs : List V}, RVs K H M (l.map D.str) xs → xs = l.map V.str
  | [], xs, h => h
  | s :: l, xs, h => by
    obtain ⟨x, r, rfl, h1, h2⟩ := h
    have h1 : x = .str s := h1
    rw [h1, RVs.strs_inv h2]; rfl
theorem RVs.bls : ∀ (l : List Bool), RVs K H M (l.map D.bl) (l.map V.bl)
  | [] => rfl
  | s :: l => ⟨.bl s, l.map V.bl, rfl, rfl, RVs.bls l⟩
theorem RVs.bls_inv : ∀ {l : List Bool} {xs : List V}, RVs K H M (l.map D.bl) xs → xs = l.map V.bl
  | [], xs, h => h
  | s :: l, xs, h => by
    obtain ⟨x, r, rfl, h1, h2⟩ := h
    have h1 : x = .bl s := h1
    rw [h1, RVs.bls_inv h2]; rfl
theorem RVs.ints : ∀ (l : List Int), RVs K H M (l.map D.int) (l.map V.int)
  | [] => rfl
  | s :: l => ⟨.int s, l.map V.int, rfl, rfl, RVs.ints l⟩
theorem RVs.ints_inv : ∀ {l : List Int} {xs : List V}, RVs K H M (l.map D.int) xs → xs = l.map V.int
  | [], xs, h => h
  | s :: l, xs, h => by
    obtain ⟨x, r, rfl, h1, h2⟩ := h
    have h1 : x = .int s := h1
    rw [h1, RVs.ints_inv h2]; rfl

/-! ### heaps -/
/-- p is new in H -/
theorem Kp.new {p : Addr} {o : HO} (hp : H p = none) : Kp H M (upd H p o) M := fun a u h m => ⟨by rw [upd_ne (ne_of_none h hp)]; exact h, m⟩
theorem Kp.newD {p : Addr} {o : HO} {u : DO} (hp : H p = none) : Kp H M (upd H p o) (updD M p u) := fun a w h m => ⟨by rw [upd_ne (ne_of_none h hp)]; exact h, by rw [updD_ne (ne_of_none h hp)]; exact m⟩
/-- a tracked object is written -/
theorem Kp.wr {p : Addr} {o : HO} {u v : DO} (hp : M p = some u) : Kp H M (upd H p o) (updD M p v) := fun a w h m => by
  have ne : a ≠ p := fun e => by subst e; rw [hp] at m; cases m
  exact ⟨by rw [upd_ne ne]; exact h, by rw [updD_ne ne]; exact m⟩
/-- less is tracked -/
theorem Kp.ers {p : Addr} : Kp H M H (ersD M p) := fun a w h m => ⟨h, by
  by_cases e : a = p
  · subst e; exact ersD_same
  · rw [ersD_ne e]; exact m⟩
theorem RM.free (x : RM K H M) (h : H a = none) : M a = none := by
  cases e : M a with
  | none => rfl
  | some o =>
    have q := x a o e
    cases o with
    | lst ds => obtain ⟨vs, q, _⟩ := q; rw [h] at q; cases q
    | xd fs => obtain ⟨vs, q, _⟩ := q; rw [h] at q; cases q
    | raw u => have q : H a = some u := q; rw [h] at q; cases q
theorem FRp.keep (k : Kp H M H' M') : ∀ {fs : List (Str × D)} {vs : List (Str × V)}, FRp K H M fs vs → FRp K H' M' fs vs
  | [], _, h => h
  | (f, d) :: fs, vs, h => by
    obtain ⟨v, r, e, h1, h2⟩ := h
    exact ⟨v, r, e, h1.keep k _ _, FRp.keep k h2⟩
theorem RO.keep {o : DO} (k : Kp H M H' M') (e : H' a = H a) (x : RO K H M a o) : RO K H' M' a o := by
  cases o with
  | lst ds =>
    obtain ⟨vs, q, r⟩ := x
    exact ⟨vs, e.trans q, r.keep k _ _⟩
  | xd fs =>
    obtain ⟨vs, q, r⟩ := x
    exact ⟨vs, e.trans q, r.keep k⟩
  | raw u => exact e.trans x
/-- a new object that is not told of -/
theorem RM.new {p : Addr} {o : HO} (x : RM K H M) (hp : H p = none) : RM K (upd H p o) M := fun a u e => by
  refine (x a u e).keep (Kp.new hp) ?_
  have : a ≠ p := fun z => by subst z; rw [x.free hp] at e; cases e
  exact upd_ne this
theorem RM.newD {p : Addr} {vs : List V} {ds : List D} (x : RM K H M) (hp : H p = none) (r : RVs K H M ds vs) : RM K (upd H p (.lst vs)) (updD M p (.lst ds)) := fun a u e => by
  by_cases z : a = p
  · subst z
    rw [updD_same] at e; cases e
    exact ⟨vs, upd_same, r.keep (Kp.newD hp) _ _⟩
  · rw [updD_ne z] at e
    exact (x a u e).keep (Kp.newD hp) (upd_ne z)
theorem RM.wr {p : Addr} {u : DO} {vs : List V} {ds : List D} (x : RM K H M) (hp : M p = some u) (r : RVs K H M ds vs) : RM K (upd H p (.lst vs)) (updD M p (.lst ds)) := fun a w e => by
  by_cases z : a = p
  · subst z
    rw [updD_same] at e; cases e
    exact ⟨vs, upd_same, r.keep (Kp.wr hp) _ _⟩
  · rw [updD_ne z] at e
    exact (x a w e).keep (Kp.wr hp) (upd_ne z)
theorem RM.ers {p : Addr} (x : RM K H M) : RM K H (ersD M p) := fun a u e => by
  by_cases z : a = p
  · subst z; rw [ersD_same] at e; cases e
  · rw [ersD_ne z] at e
    exact (x a u e).keep Kp.ers rfl
/-- a new tuple, a new list that stands still -/
theorem RV.tupNew {p : Addr} {xs : List V} {ds : List D} (x : RM K H M) (hp : H p = none) (r : RVs K H M ds xs) : RV K (upd H p (.tup xs)) M (.tup ds) (.ref p) :=
  ⟨p, xs, rfl, .inl ⟨upd_same, x.free hp⟩, r.keep (Kp.new hp) _ _⟩
theorem RV.lstNew {p : Addr} {xs : List V} {ds : List D} (x : RM K H M) (hp : H p = none) (r : RVs K H M ds xs) : RV K (upd H p (.lst xs)) M (.lst ds) (.ref p) :=
  ⟨p, xs, rfl, upd_same, x.free hp, r.keep (Kp.new hp) _ _⟩
/-- a tracked list is from now on one that stands still -/
theorem RV.frz {p : Addr} {ds : List D} (x : RM K H M) (hp : M p = some (.lst ds)) : RV K H (ersD M p) (.lst ds) (.ref p) := by
  obtain ⟨vs, q, r⟩ := x p _ hp
  exact ⟨p, vs, rfl, q, ersD_same, r.keep Kp.ers _ _⟩
/-- as the hand layer reads it -/
theorem RV.sqT {ds : List D} {v : V} (h : RV K H M (.tup ds) v) : ∃ a xs, v = .ref a ∧ SqT K H a xs ∧ RVs K H M ds xs := by
  obtain ⟨a, xs, e, q, r⟩ := h
  refine ⟨a, xs, e, ?_, r⟩
  rcases q with ⟨q, _⟩ | q
  · exact .inl (.inl q)
  · exact .inr q
theorem RV.sqL {ds : List D} {v : V} (h : RV K H M (.lst ds) v) : ∃ a xs, v = .ref a ∧ SqL K H a xs ∧ RVs K H M ds xs := by
  obtain ⟨a, xs, e, q, _, r⟩ := h
  exact ⟨a, xs, e, .inl (.inl q), r⟩
end

/-! ### slots -/
abbrev Sd := List (Option D)
def RS (K : PySem.W.Frag) (H : Hp) (M : DHp) (σ : L2.St) (δ : Sd) : Prop := σ.length = δ.length ∧ ∀ (i : Nat) (d : D), δ[i]? = some (some d) → ∃ v, σ[i]? = some (some v) ∧ RV K H M d v
section
variable {K : PySem.W.Frag} {H H' : Hp} {M M' : DHp} {σ : L2.St} {δ : Sd}
theorem RS.keep (k : Kp H M H' M') (x : RS K H M σ δ) : RS K H' M' σ δ := ⟨x.1, fun i d e => by
  obtain ⟨v, e2, r⟩ := x.2 i d e
  exact ⟨v, e2, r.keep k _ _⟩⟩
theorem RS.set (x : RS K H M σ δ) (i : Nat) {d : D} {v : V} (r : RV K H M d v) : RS K H M (σ.set i (some v)) (δ.set i (some d)) := by
  refine ⟨by simp [x.1], fun j e h => ?_⟩
  by_cases hj : i = j
  · subst hj
    rw [List.getElem?_set] at h
    rw [List.getElem?_set]
    by_cases hi : i < δ.length
    · simp [hi] at h
      subst h
      exact ⟨v, by simp [x.1, hi], r⟩
    · simp [hi] at h
  · rw [List.getElem?_set_ne hj] at h
    rw [List.getElem?_set_ne hj]
    exact x.2 j e h
theorem RS.wipe1 (x : RS K H M σ δ) (i : Nat) : RS K H M (σ.set i none) (δ.set i none) := by
  refine ⟨by simp [x.1], fun j e h => ?_⟩
  by_cases hj : i = j
  · subst hj
    rw [List.getElem?_set] at h
    by_cases hi : i < δ.length
    · simp [hi] at h
    · simp [hi] at h
  · rw [List.getElem?_set_ne hj] at h
    rw [List.getElem?_set_ne hj]
    exact x.2 j e h
end
/-- the state over data -/
def Rp (K : PySem.W.Frag) (σ : L2.St) (H : Hp) (δ : Sd) (M : DHp) : Prop := RM K H M ∧ RS K H M σ δ

/-! ### readings over data -/
abbrev QD := D → DHp → Prop
abbrev TD := Sd → DHp → QD → Prop
abbrev TDs := Sd → DHp → (List D → DHp → Prop) → Prop
abbrev TDt := Sd → DHp → (Bool → DHp → Prop) → Prop
/-- exceptions: the class, its own dict (tracked) -/
abbrev WXd := Value → Option Addr → Sd → DHp → Prop
structure Wsh where
  d : WXd
  h : WX
/-- the data's wish leads to the hand layer's, from what stood at H, M -/
def Lx (K : PySem.W.Frag) (w : Wsh) (H : Hp) (M : DHp) : Prop := ∀ σ' δ' H' M' c dd, Rp K σ' H' δ' M' → Kp H M H' M' → w.d c dd δ' M' → w.h c dd σ' H'
theorem Lx.go {K : PySem.W.Frag} {w : Wsh} {H H' : Hp} {M M' : DHp} (x : Lx K w H M) (k : Kp H M H' M') : Lx K w H' M' := fun σ' δ' H' M' c dd a k' => x σ' δ' H' M' c dd a (k.trans k')
/-- nothing is raised -/
def wN : Wsh := ⟨fun _ _ _ _ => False, fun _ _ _ _ => False⟩
theorem lxN {K : PySem.W.Frag} {H : Hp} {M : DHp} : Lx K wN H M := fun _ _ _ _ _ _ _ _ z => z
def upE (K : PySem.W.Frag) (w : Wsh) (t : TD) : TE := fun σ H Q => ∃ δ M Qd, Rp K σ H δ M ∧ t δ M Qd ∧ (∀ v H' d M', RV K H' M' d v → RM K H' M' → Kp H M H' M' → Qd d M' → Q v H') ∧ Lx K w H M
def upA (K : PySem.W.Frag) (w : Wsh) (t : TDs) : TA := fun σ H Q => ∃ δ M Qd, Rp K σ H δ M ∧ t δ M Qd ∧ (∀ vs H' ds M', RVs K H' M' ds vs → RM K H' M' → Kp H M H' M' → Qd ds M' → Q vs H') ∧ Lx K w H M
def upT (K : PySem.W.Frag) (w : Wsh) (t : TDt) : TT := fun σ H Q => ∃ δ M Qd, Rp K σ H δ M ∧ t δ M Qd ∧ (∀ b H' M', RM K H' M' → Kp H M H' M' → Qd b M' → Q b H') ∧ Lx K w H M
structure DEnds where
  nx : Sd → DHp → Prop
  rt : QD
  bk : Sd → DHp → Prop := fun _ _ => False
  ct : Sd → DHp → Prop := fun _ _ => False
abbrev TDS := DEnds → Sd → DHp → Prop
/-- Dd's ends lead to D's, from what stood at H, M -/
structure Lead (K : PySem.W.Frag) (H : Hp) (M : DHp) (Dd : DEnds) (D : Ends) : Prop where
  nx : ∀ σ' H' δ' M', Rp K σ' H' δ' M' → Kp H M H' M' → Dd.nx δ' M' → D.nx σ' H'
  rt : ∀ v H' d M', RV K H' M' d v → RM K H' M' → Kp H M H' M' → Dd.rt d M' → D.rt v H'
  bk : ∀ σ' H' δ' M', Rp K σ' H' δ' M' → Kp H M H' M' → Dd.bk δ' M' → D.bk σ' H'
  ct : ∀ σ' H' δ' M', Rp K σ' H' δ' M' → Kp H M H' M' → Dd.ct δ' M' → D.ct σ' H'
theorem Lead.go {K : PySem.W.Frag} {H H' : Hp} {M M' : DHp} {Dd : DEnds} {D : Ends} (x : Lead K H M Dd D) (k : Kp H M H' M') : Lead K H' M' Dd D :=
  ⟨fun _ _ _ _ a k' => x.nx _ _ _ _ a (k.trans k'), fun _ _ _ _ a b k' => x.rt _ _ _ _ a b (k.trans k'), fun _ _ _ _ a k' => x.bk _ _ _ _ a (k.trans k'), fun _ _ _ _ a k' => x.ct _ _ _ _ a (k.trans k')⟩
def upS (K : PySem.W.Frag) (w : Wsh) (t : TDS) : TS := fun D σ H => ∃ δ M Dd, Rp K σ H δ M ∧ t Dd δ M ∧ Lead K H M Dd D ∧ Lx K w H M
abbrev DE (X : Cx) (w : Wsh) (e : Expr) (t : TD) : Prop := PE X e (upE X.K w t)
abbrev DA (X : Cx) (w : Wsh) (es : List Expr) (t : TDs) : Prop := PA X es (upA X.K w t)
abbrev DT (X : Cx) (w : Wsh) (e : Expr) (t : TDt) : Prop := PT X e (upT X.K w t)
abbrev DW (X : Cx) (w : Wsh) (e : Expr) (t : TDt) : Prop := PW X e (upT X.K w t)
abbrev DS (X : Cx) (w : Wsh) (st : Stmt) (t : TDS) : Prop := PS X st (upS X.K w t)
abbrev DSs (X : Cx) (w : Wsh) (st : List Stmt) (t : TDS) : Prop := PSs X st (upS X.K w t)
/-- weaken a reading -/
theorem weakE {X : Cx} {e : Expr} {t u : TE} (h : PE X e t) (w : ∀ σ H Q, u σ H Q → t σ H Q) : PE X e u := ⟨fun pins s σ H Q I q => h.run pins s σ H Q I (w σ H Q q)⟩
theorem weakA {X : Cx} {e : List Expr} {t u : TA} (h : PA X e t) (w : ∀ σ H Q, u σ H Q → t σ H Q) : PA X e u := ⟨fun pos pins s σ H Q I q => h.run pos pins s σ H Q I (w σ H Q q)⟩
theorem weakT {X : Cx} {e : Expr} {t u : TT} (h : PT X e t) (w : ∀ σ H Q, u σ H Q → t σ H Q) : PT X e u := ⟨fun pins s σ H Q I q => h.run pins s σ H Q I (w σ H Q q)⟩
theorem weakW {X : Cx} {e : Expr} {t u : TT} (h : PW X e t) (w : ∀ σ H Q, u σ H Q → t σ H Q) : PW X e u := ⟨fun wh pins s σ H Q I q => h.run wh pins s σ H Q I (w σ H Q q)⟩
theorem weakS {X : Cx} {e : Stmt} {t u : TS} (h : PS X e t) (w : ∀ D σ H, u D σ H → t D σ H) : PS X e u := ⟨fun pins s σ H D I q => h.run pins s σ H D I (w D σ H q)⟩
theorem weakSs {X : Cx} {e : List Stmt} {t u : TS} (h : PSs X e t) (w : ∀ D σ H, u D σ H → t D σ H) : PSs X e u := ⟨fun pins s σ H D I q => h.run pins s σ H D I (w D σ H q)⟩
end Dl
set_option Elab.async false
set_option linter.all false
set_option maxRecDepth 100000
set_option maxHeartbeats 1000000
/-! D1: the lifts: names, constants, operators, tests, arguments, calls by values over data. -/
namespace Dl
open PySem PySem.Spec PyProof.Rows L2
section
variable {X : Cx} {w : Wsh} {a b c : Expr} {ta tb tc : TD} {pos : Pos}

/-! ### names, constants -/
def dVar (i : Nat) : TD := fun δ M Q => match δ[i]? with
  | some (some d) => Q d M
  | _ => False
def dC (d : D) : TD := fun _ M Q => Q d M
theorem de_var {x : Str} (i : Nat) (h : PE X (.Name x pos) (tVar i)) : DE X w (.Name x pos) (dVar i) := weakE h fun σ H Q h => by
  obtain ⟨δ, M, Qd, ⟨rm, rs⟩, q, k, x⟩ := h
  unfold dVar at q
  split at q
  · rename_i d e
    obtain ⟨v, e2, r⟩ := rs.2 i d e
    exact ⟨v, e2, k v H d M r rm .refl q⟩
  · exact q.elim
theorem dv (i : Nat) {x : Str} {pos : Pos} (hN : X.N[i]? = some x := by rfl) (hv : Vis X.env.scope x := by first | exact Or.inl rfl | exact Or.inr (Or.inl rfl) | exact Or.inr (Or.inr rfl)) (hd : (x == ("__debug__" : Str)) = false := by decide)
    (hcd : (x == ("__classdict__" : Str)) = false := by decide) : DE X w (.Name x pos) (dVar i) := de_var i (pe_var hN hv hd hcd)
/-- a constant: v is worth d wherever it stands -/
def Cst (K : PySem.W.Frag) (v : V) (d : D) : Prop := ∀ (H : Hp) (M : DHp), RV K H M d v
theorem de_c {e : Expr} {v : V} {d : D} (h : PE X e (tC v)) (hc : Cst X.K v d) : DE X w e (dC d) := weakE h fun σ H Q h => by
  obtain ⟨δ, M, Qd, ⟨rm, rs⟩, q, k, x⟩ := h
  exact k v H d M (hc _ _) rm .refl q
theorem de_int {i j} : DE X w (.Constant (.int i) j pos) (dC (.int i)) := de_c pe_int fun _ _ => rfl
theorem de_bl {i j} : DE X w (.Constant (.bool i) j pos) (dC (.bl i)) := de_c pe_bl fun _ _ => rfl
theorem de_non {j} : DE X w (.Constant .none j pos) (dC .non) := de_c pe_non fun _ _ => rfl
theorem de_str {x j} : DE X w (.Constant (.str x) j pos) (dC (.str x)) := de_c pe_str fun _ _ => rfl
/-- a module's constant -/
theorem de_glob {x : Str} {v : V} {d : D} {u : Value} {pos : Pos} (hg : Gl X x) (hm : X.mg x = some u) (r : RelV v u) (hc : Cst X.K v d) (hd : (x == ("__debug__" : Str)) = false := by decide) : DE X w (.Name x pos) (dC d) := de_c (pe_glob hg hm r hd) hc
theorem de_bltn {x : Str} {T : String} {pos : Pos} (hg : Gl X x) (hm : X.mg x = none) (hv : bootBuiltins x = some (.type T)) (hn : x ≠ "__name__" := by decide) (hd : (x == ("__debug__" : Str)) = false := by decide) : DE X w (.Name x pos) (dC (.ty T)) := de_c (pe_bltn hg hm hv (v := .ty T) rfl hn hd) fun _ _ => rfl

/-! ### operators by values -/
abbrev R2D := D → D → DHp → QD → Prop
/-- what the hand layer asks of two values follows from what is asked of their data -/
def Up2 (K : PySem.W.Frag) (r : R2) (rd : R2D) : Prop := ∀ (x y : V) (H : Hp) (Q : VK) (d e : D) (M : DHp) (Qd : QD), RM K H M → RV K H M d x → RV K H M e y → rd d e M Qd →
  (∀ v H' z M', RV K H' M' z v → RM K H' M' → Kp H M H' M' → Qd z M' → Q v H') → r x y H Q
def dOp (rd : R2D) (ta tb : TD) : TD := fun δ M Q => ta δ M fun x M1 => tb δ M1 fun y M2 => rd x y M2 Q
theorem up_op {K : PySem.W.Frag} {r : R2} {rd : R2D} (u : Up2 K r rd) {σ : L2.St} {H : Hp} {Q : VK} (h : upE K w (dOp rd ta tb) σ H Q) : tOp r (upE K w ta) (upE K w tb) σ H Q := by
  obtain ⟨δ, M, Qd, ⟨rm, rs⟩, q, k, x⟩ := h
  refine ⟨δ, M, _, ⟨rm, rs⟩, q, fun v H1 d M1 rv rm1 k1 q1 => ?_, x⟩
  refine ⟨δ, M1, _, ⟨rm1, rs.keep k1⟩, q1, fun w H2 e M2 rw' rm2 k2 q2 => ?_, x.go k1⟩
  exact u v w H2 Q d e M2 Qd rm2 (rv.keep k2 _ _) rw' q2 fun z H' f M' r1 r2 k3 q3 => k z H' f M' r1 r2 ((k1.trans k2).trans k3) q3
theorem de_op {op : Operator} {r : R2} {rd : R2D} (ho : OpR X (binaryOp op) r) (u : Up2 X.K r rd) (ha : DE X w a ta) (hb : DE X w b tb) : DE X w (.BinOp a op b pos) (dOp rd ta tb) :=
  weakE (pe_op ho ha hb) fun _ _ _ h => up_op u h
theorem de_cmp {op : CmpOp} {r : R2} {rd : R2D} (ho : OpR X (compareOp op) r) (u : Up2 X.K r rd) (ha : DE X w a ta) (hb : DE X w b tb) (hm : behindInMarks op b = false := by first | exact nobehind _ (by decide) (by decide) | rfl) : DE X w (.Compare a [op] [b] pos) (dOp rd ta tb) :=
  weakE (pe_cmpR ho ha hb hm) fun _ _ _ h => up_op u h
/-- a subscript -/
theorem de_ix {r : R2} {rd : R2D} (hr : IxR X r) (u : Up2 X.K r rd) (ha : DE X w a ta) (hb : DE X w b tb) (hs : PlainIx b := by exact fun _ _ => rfl) : DE X w (.Subscript a b pos) (dOp rd ta tb) :=
  weakE (pe_ix hr ha hb hs) fun _ _ _ h => up_op u h
/-- one place -/
def Up1 (K : PySem.W.Frag) (r : V → Hp → VK → Prop) (rd : D → DHp → QD → Prop) : Prop := ∀ (x : V) (H : Hp) (Q : VK) (d : D) (M : DHp) (Qd : QD), RM K H M → RV K H M d x → rd d M Qd →
  (∀ v H' z M', RV K H' M' z v → RM K H' M' → Kp H M H' M' → Qd z M' → Q v H') → r x H Q
def dUn (rd : D → DHp → QD → Prop) (ta : TD) : TD := fun δ M Q => ta δ M fun x M1 => rd x M1 Q
theorem de_un {op : UnaryOp} {r : V → Hp → VK → Prop} {rd : D → DHp → QD → Prop} (ho : UnR X (unaryOp op) r) (u : Up1 X.K r rd) (ha : DE X w a ta) : DE X w (.UnaryOp op a pos) (dUn rd ta) :=
  weakE (pe_un ho ha) fun σ H Q h => by
    obtain ⟨δ, M, Qd, rp, q, k, x⟩ := h
    exact ⟨δ, M, _, rp, q, fun v H1 d M1 rv rm1 k1 q1 => u v H1 Q d M1 Qd rm1 rv q1 fun z H' f M' r1 r2 k2 q2 => k z H' f M' r1 r2 (k1.trans k2) q2, x⟩
/-- a value as a test -/
def dB (t : TD) : TDt := fun δ M Q => t δ M fun d M' => match d with
  | .bl b => Q b M'
  | _ => False
theorem up_test {K : PySem.W.Frag} {t : TD} {te : TE} (u : ∀ σ H Q, upE K w t σ H Q → te σ H Q) {σ : L2.St} {H : Hp} {Q : Bool → Hp → Prop} (h : upT K w (dB t) σ H Q) : tTest te σ H Q := by
  obtain ⟨δ, M, Qd, rp, q, k, x⟩ := h
  refine u σ H _ ⟨δ, M, _, rp, q, fun v H' d M' rv rm kp q' => ?_, x⟩
  cases d with
  | bl b => exact ⟨b, rv, k b H' M' rm kp q'⟩
  | _ => exact q'.elim
theorem dt_cmp {op : CmpOp} {r : R2} {rd : R2D} (ho : OpR X (compareOp op) r) (u : Up2 X.K r rd) (ha : DE X w a ta) (hb : DE X w b tb) (hm : behindInMarks op b = false := by first | exact nobehind _ (by decide) (by decide) | rfl) : DT X w (.Compare a [op] [b] pos) (dB (dOp rd ta tb)) :=
  weakT (pt_cmpR ho ha hb hm) fun _ _ _ h => up_test (fun _ _ _ h => up_op u h) h
/-- an expression that gives a truth value, as a test -/
theorem dt_val {e : Expr} {t : TD} (h : DE X w e t) (he : ∀ whole, isTrue e X.env whole = (do let v ← whole; standAt e.pos; holding [v] (truthy v)) := by intro _; rfl) : DT X w e (dB t) :=
  weakT (pt_val h he) fun σ H Q h => up_test (fun _ _ _ h => h) h
/-- a < b < c -/
def dChain (rd rd' : R2D) (ta tb tc : TD) : TD := fun δ M Q => ta δ M fun x M1 => tb δ M1 fun y M2 => rd x y M2 fun z M3 => match z with
  | .bl k => if k = true then tc δ M3 fun v M4 => rd' y v M4 Q else Q (.bl false) M3
  | _ => False
theorem up_chain {K : PySem.W.Frag} {r r' : R2} {rd rd' : R2D} (u : Up2 K r rd) (u' : Up2 K r' rd') {σ : L2.St} {H : Hp} {Q : VK} (h : upE K w (dChain rd rd' ta tb tc) σ H Q) : tChain r r' (upE K w ta) (upE K w tb) (upE K w tc) σ H Q := by
  obtain ⟨δ, M, Qd, ⟨rm, rs⟩, q, k, x⟩ := h
  refine ⟨δ, M, _, ⟨rm, rs⟩, q, fun v H1 d M1 rv rm1 k1 q1 => ?_, x⟩
  refine ⟨δ, M1, _, ⟨rm1, rs.keep k1⟩, q1, fun y H2 e M2 ry rm2 k2 q2 => ?_, x.go k1⟩
  refine u v y H2 _ d e M2 _ rm2 (rv.keep k2 _ _) ry q2 fun z H3 f M3 r1 rm3 k3 q3 => ?_
  cases f with
  | bl kk =>
    refine ⟨kk, r1, ?_⟩
    cases kk with
    | true =>
      refine ⟨δ, M3, _, ⟨rm3, rs.keep ((k1.trans k2).trans k3)⟩, q3, fun y4 H4 e4 M4 ry4 rm4 k4 q4 => ?_, x.go ((k1.trans k2).trans k3)⟩
      exact u' y y4 H4 Q e e4 M4 Qd rm4 (ry.keep (k3.trans k4) _ _) ry4 q4 fun z H' f M' r1 r2 k5 q5 => k z H' f M' r1 r2 ((((k1.trans k2).trans k3).trans k4).trans k5) q5
    | false => exact k _ H3 _ M3 (show RV _ _ _ (.bl false) (.bl false) from rfl) rm3 ((k1.trans k2).trans k3) q3
  | _ => exact q3.elim
theorem de_chain {op op' : CmpOp} {r r' : R2} {rd rd' : R2D} (ho : OpR X (compareOp op) r) (u : Up2 X.K r rd) (ho' : OpR X (compareOp op') r') (u' : Up2 X.K r' rd') (ha : DE X w a ta) (hb : DE X w b tb) (hc : DE X w c tc)
    (h : PE X (.Compare a [op, op'] [b, c] pos) (tChain r r' (upE X.K w ta) (upE X.K w tb) (upE X.K w tc)) := by exact pe_chain ‹_› ‹_› ‹_› ‹_› ‹_›) : DE X w (.Compare a [op, op'] [b, c] pos) (dChain rd rd' ta tb tc) :=
  weakE h fun _ _ _ h => up_chain u u' h
theorem dt_chain {op op' : CmpOp} {r r' : R2} {rd rd' : R2D} (ho : OpR X (compareOp op) r) (u : Up2 X.K r rd) (ho' : OpR X (compareOp op') r') (u' : Up2 X.K r' rd') (ha : DE X w a ta) (hb : DE X w b tb) (hc : DE X w c tc)
    (h : PT X (.Compare a [op, op'] [b, c] pos) (tTest (tChain r r' (upE X.K w ta) (upE X.K w tb) (upE X.K w tc))) := by exact pt_chain ‹_› ‹_› ‹_› ‹_› ‹_›) : DT X w (.Compare a [op, op'] [b, c] pos) (dB (dChain rd rd' ta tb tc)) :=
  weakT h fun _ _ _ h => up_test (fun _ _ _ h => up_chain u u' h) h

/-! ### and, or, not -/
variable {tA tB' : TDt} {rest : List Expr}
def dAnd (t u : TDt) : TDt := fun δ M Q => t δ M fun c M1 => if c = true then u δ M1 Q else Q false M1
def dOr (t u : TDt) : TDt := fun δ M Q => t δ M fun c M1 => if c = true then Q true M1 else u δ M1 Q
def dNot (t : TDt) : TDt := fun δ M Q => t δ M fun c M1 => Q (!c) M1
theorem dw_and1 (ha : DT X w a tA) : DW X w (.BoolOp .And [a] pos) tA := pw_and1 ha
theorem dw_or1 (ha : DT X w a tA) : DW X w (.BoolOp .Or [a] pos) tA := pw_or1 ha
theorem dw_and (ha : DT X w a tA) (hb : DW X w (.BoolOp .And (b :: rest) pos) tB') : DW X w (.BoolOp .And (a :: b :: rest) pos) (dAnd tA tB') :=
  weakW (pw_and ha hb) fun σ H Q h => by
    obtain ⟨δ, M, Qd, ⟨rm, rs⟩, q, k, x⟩ := h
    refine ⟨δ, M, _, ⟨rm, rs⟩, q, fun b H1 M1 rm1 k1 q1 => ?_, x⟩
    cases b with
    | true => exact ⟨δ, M1, _, ⟨rm1, rs.keep k1⟩, q1, fun b H2 M2 rm2 k2 q2 => k b H2 M2 rm2 (k1.trans k2) q2, x.go k1⟩
    | false => exact k false H1 M1 rm1 k1 q1
theorem dw_or (ha : DT X w a tA) (hb : DW X w (.BoolOp .Or (b :: rest) pos) tB') : DW X w (.BoolOp .Or (a :: b :: rest) pos) (dOr tA tB') :=
  weakW (pw_or ha hb) fun σ H Q h => by
    obtain ⟨δ, M, Qd, ⟨rm, rs⟩, q, k, x⟩ := h
    refine ⟨δ, M, _, ⟨rm, rs⟩, q, fun b H1 M1 rm1 k1 q1 => ?_, x⟩
    cases b with
    | false => exact ⟨δ, M1, _, ⟨rm1, rs.keep k1⟩, q1, fun b H2 M2 rm2 k2 q2 => k b H2 M2 rm2 (k1.trans k2) q2, x.go k1⟩
    | true => exact k true H1 M1 rm1 k1 q1
theorem dw_pt {e : Expr} (h : DW X w e tA) : DT X w e tA := PW.pt h
theorem dt_not (ha : DT X w a tA) : DT X w (.UnaryOp .Not a pos) (dNot tA) :=
  weakT (pt_not ha) fun σ H Q h => by
    obtain ⟨δ, M, Qd, rp, q, k, x⟩ := h
    exact ⟨δ, M, _, rp, q, fun b H1 M1 rm1 k1 q1 => k (!b) H1 M1 rm1 k1 q1, x⟩
/-- values that are truth values: and, or, not -/
def dAndV (ta tb : TD) : TD := fun δ M Q => ta δ M fun d M1 => match d with
  | .bl c => if c = true then tb δ M1 Q else Q (.bl false) M1
  | _ => False
def dOrV (ta tb : TD) : TD := fun δ M Q => ta δ M fun d M1 => match d with
  | .bl c => if c = true then Q (.bl true) M1 else tb δ M1 Q
  | _ => False
def dNotV (ta : TD) : TD := fun δ M Q => ta δ M fun d M1 => match d with
  | .bl c => Q (.bl (!c)) M1
  | _ => False
theorem de_one {op} {t : TD} (h : DE X w a t) : DE X w (.BoolOp op [a] pos) t := pe_one h
theorem de_and (ha : DE X w a ta) (hb : DE X w (.BoolOp .And (b :: rest) pos) tb) : DE X w (.BoolOp .And (a :: b :: rest) pos) (dAndV ta tb) :=
  weakE (pe_and ha hb) fun σ H Q h => by
    obtain ⟨δ, M, Qd, ⟨rm, rs⟩, q, k, x⟩ := h
    refine ⟨δ, M, _, ⟨rm, rs⟩, q, fun v H1 d M1 rv rm1 k1 q1 => ?_, x⟩
    cases d with
    | bl c =>
      refine ⟨c, rv, ?_⟩
      cases c with
      | true => exact ⟨δ, M1, _, ⟨rm1, rs.keep k1⟩, q1, fun b H2 z M2 r2 rm2 k2 q2 => k b H2 z M2 r2 rm2 (k1.trans k2) q2, x.go k1⟩
      | false => exact k _ H1 _ M1 (show RV _ _ _ (.bl false) (.bl false) from rfl) rm1 k1 q1
    | _ => exact q1.elim
theorem de_or (ha : DE X w a ta) (hb : DE X w (.BoolOp .Or (b :: rest) pos) tb) : DE X w (.BoolOp .Or (a :: b :: rest) pos) (dOrV ta tb) :=
  weakE (pe_or ha hb) fun σ H Q h => by
    obtain ⟨δ, M, Qd, ⟨rm, rs⟩, q, k, x⟩ := h
    refine ⟨δ, M, _, ⟨rm, rs⟩, q, fun v H1 d M1 rv rm1 k1 q1 => ?_, x⟩
    cases d with
    | bl c =>
      refine ⟨c, rv, ?_⟩
      cases c with
      | false => exact ⟨δ, M1, _, ⟨rm1, rs.keep k1⟩, q1, fun b H2 z M2 r2 rm2 k2 q2 => k b H2 z M2 r2 rm2 (k1.trans k2) q2, x.go k1⟩
      | true => exact k _ H1 _ M1 (show RV _ _ _ (.bl true) (.bl true) from rfl) rm1 k1 q1
    | _ => exact q1.elim
theorem de_not (ha : DE X w a ta) : DE X w (.UnaryOp .Not a pos) (dNotV ta) :=
  weakE (pe_not ha) fun σ H Q h => by
    obtain ⟨δ, M, Qd, rp, q, k, x⟩ := h
    refine ⟨δ, M, _, rp, q, fun v H1 d M1 rv rm1 k1 q1 => ?_, x⟩
    cases d with
    | bl c => exact ⟨c, rv, k _ H1 _ M1 (show RV _ _ _ (.bl (!c)) (.bl (!c)) from rfl) rm1 k1 q1⟩
    | _ => exact q1.elim
def dIfE (t : TDt) (ta tb : TD) : TD := fun δ M Q => t δ M fun c M1 => if c = true then ta δ M1 Q else tb δ M1 Q
theorem de_ifExp (hc : DT X w c tA) (ha : DE X w a ta) (hb : DE X w b tb) : DE X w (.IfExp c a b pos) (dIfE tA ta tb) :=
  weakE (pe_ifExp hc ha hb) fun σ H Q h => by
    obtain ⟨δ, M, Qd, ⟨rm, rs⟩, q, k, x⟩ := h
    refine ⟨δ, M, _, ⟨rm, rs⟩, q, fun b H1 M1 rm1 k1 q1 => ?_, x⟩
    cases b with
    | true => exact ⟨δ, M1, _, ⟨rm1, rs.keep k1⟩, q1, fun b H2 z M2 r2 rm2 k2 q2 => k b H2 z M2 r2 rm2 (k1.trans k2) q2, x.go k1⟩
    | false => exact ⟨δ, M1, _, ⟨rm1, rs.keep k1⟩, q1, fun b H2 z M2 r2 rm2 k2 q2 => k b H2 z M2 r2 rm2 (k1.trans k2) q2, x.go k1⟩

/-! ### arguments, displays -/
def dNil : TDs := fun _ M Q => Q [] M
def dCons (t : TD) (u : TDs) : TDs := fun δ M Q => t δ M fun x M1 => u δ M1 fun xs M2 => Q (x :: xs) M2
variable {es : List Expr} {te : TDs}
theorem da_nil : DA X w [] dNil := weakA pa_nil fun σ H Q h => by
  obtain ⟨δ, M, Qd, ⟨rm, rs⟩, q, k, x⟩ := h
  exact k [] H [] M rfl rm .refl q
theorem da_cons (h1 : DE X w a ta) (h2 : DA X w es te) (hs : starEach (a :: es) X.env = (false, eval a X.env) :: starEach es X.env := by rfl) : DA X w (a :: es) (dCons ta te) := weakA (pa_cons h1 h2 hs) fun σ H Q h => by
  obtain ⟨δ, M, Qd, ⟨rm, rs⟩, q, k, x⟩ := h
  refine ⟨δ, M, _, ⟨rm, rs⟩, q, fun v H1 d M1 rv rm1 k1 q1 => ?_, x⟩
  refine ⟨δ, M1, _, ⟨rm1, rs.keep k1⟩, q1, fun ws H2 ds M2 rws rm2 k2 q2 => ?_, x.go k1⟩
  exact k _ H2 (d :: ds) M2 (by exact ⟨v, ws, rfl, rv.keep k2 _ _, rws⟩) rm2 (k1.trans k2) q2
def dTup (t : TDs) : TD := fun δ M Q => t δ M fun xs M1 => xs.length ≤ sizeLine ∧ Q (.tup xs) M1
theorem de_tup {k : Nat} (h : DA X w es te) : DE X w (.Tuple es k pos) (dTup te) := weakE (pe_tup h) fun σ H Q h => by
  obtain ⟨δ, M, Qd, rp, q, k, x⟩ := h
  refine ⟨δ, M, _, rp, q, fun vs H1 ds M1 rv rm1 k1 q1 => ⟨by rw [rv.length]; exact q1.1, fun p hp => ?_⟩, x⟩
  exact k _ _ _ M1 (RV.tupNew rm1 hp rv) (rm1.new hp) (k1.trans (Kp.new hp)) q1.2
/-- a list that stands still; a list that is tracked -/
def dLst (t : TDs) : TD := fun δ M Q => t δ M fun xs M1 => xs.length ≤ sizeLine ∧ Q (.lst xs) M1
def dLstT (t : TDs) : TD := fun δ M Q => t δ M fun xs M1 => xs.length ≤ sizeLine ∧ ∀ p, M1 p = none → Q (.ref p) (updD M1 p (.lst xs))
theorem de_lst (h : DA X w es te) : DE X w (.List es pos) (dLst te) := weakE (pe_lst h) fun σ H Q h => by
  obtain ⟨δ, M, Qd, rp, q, k, x⟩ := h
  refine ⟨δ, M, _, rp, q, fun vs H1 ds M1 rv rm1 k1 q1 => ⟨by rw [rv.length]; exact q1.1, fun p hp => ?_⟩, x⟩
  exact k _ _ _ M1 (RV.lstNew rm1 hp rv) (rm1.new hp) (k1.trans (Kp.new hp)) q1.2
theorem de_lstT (h : DA X w es te) : DE X w (.List es pos) (dLstT te) := weakE (pe_lst h) fun σ H Q h => by
  obtain ⟨δ, M, Qd, rp, q, k, x⟩ := h
  refine ⟨δ, M, _, rp, q, fun vs H1 ds M1 rv rm1 k1 q1 => ⟨by rw [rv.length]; exact q1.1, fun p hp => ?_⟩, x⟩
  exact k _ _ (.ref p) _ rfl (rm1.newD hp rv) (k1.trans (Kp.newD hp)) (q1.2 p (rm1.free hp))
/-- a tracked list is told as one that stands still -/
def dFrz (t : TD) : TD := fun δ M Q => t δ M fun d M1 => ∃ p l, d = .ref p ∧ M1 p = some (.lst l) ∧ Q (.lst l) (ersD M1 p)
theorem de_frz {t : TD} (h : DE X w a t) : DE X w a (dFrz t) := weakE h fun σ H Q h => by
  obtain ⟨δ, M, Qd, rp, q, k, x⟩ := h
  refine ⟨δ, M, _, rp, q, fun v H1 d M1 rv rm1 k1 q1 => ?_, x⟩
  obtain ⟨p, l, rfl, hp, q1⟩ := q1
  have rv : v = .ref p := rv
  subst rv
  exact k _ H1 _ _ (RV.frz rm1 hp) rm1.ers (k1.trans Kp.ers) q1

/-! ### calls by values -/
abbrev R1D := List D → DHp → QD → Prop
def UpC (K : PySem.W.Frag) (r : List V → Hp → VK → Prop) (rd : R1D) : Prop := ∀ (xs : List V) (H : Hp) (Q : VK) (ds : List D) (M : DHp) (Qd : QD), RM K H M → RVs K H M ds xs → rd ds M Qd →
  (∀ v H' z M', RV K H' M' z v → RM K H' M' → Kp H M H' M' → Qd z M' → Q v H') → r xs H Q
def dCall (rd : R1D) (t : TDs) : TD := fun δ M Q => t δ M fun xs M1 => rd xs M1 Q
theorem up_call {K : PySem.W.Frag} {r : List V → Hp → VK → Prop} {rd : R1D} (u : UpC K r rd) {σ : L2.St} {H : Hp} {Q : VK} (h : upE K w (dCall rd te) σ H Q) : tCB r (upA K w te) σ H Q := by
  obtain ⟨δ, M, Qd, rp, q, k, x⟩ := h
  refine ⟨δ, M, _, rp, q, fun vs H1 ds M1 rv rm1 k1 q1 => ?_, x⟩
  exact u vs H1 Q ds M1 Qd rm1 rv q1 fun v H' z M' r1 r2 k2 q2 => k v H' z M' r1 r2 (k1.trans k2) q2
theorem de_callB {x : Str} {id : String} {p : Pos} {e : Expr} {es : List Expr} {te : TDs} {r : List V → Hp → VK → Prop} {rd : R1D} (hc : CallR X (.builtin id) r) (u : UpC X.K r rd) (hg : Gl X x) (hm : X.mg x = none) (hv : bootBuiltins x = some (.builtin id)) (ha : DA X w (e :: es) te)
    (hn : x ≠ "__name__" := by decide) (hdb : (x == ("__debug__" : Str)) = false := by decide)
    (he : starEach (e :: es) X.env = (false, eval e X.env) :: starEach es X.env := by rfl) (hpl : (backTo pos (starEach es X.env)).any (·.1) = false := by rfl) : DE X w (.Call (.Name x p) (e :: es) [] pos) (dCall rd te) :=
  weakE (pe_callB hc hg hm hv ha hn hdb he hpl) fun _ _ _ h => up_call u h
theorem de_callTy {x : Str} {T : String} {p : Pos} {e : Expr} {es : List Expr} {te : TDs} {r : List V → Hp → VK → Prop} {rd : R1D} (hc : CallR X (.type T) r) (u : UpC X.K r rd) (hg : Gl X x) (hm : X.mg x = none) (hv : bootBuiltins x = some (.type T)) (ha : DA X w (e :: es) te)
    (hn : x ≠ "__name__" := by decide) (hdb : (x == ("__debug__" : Str)) = false := by decide)
    (he : starEach (e :: es) X.env = (false, eval e X.env) :: starEach es X.env := by rfl) (hpl : (backTo pos (starEach es X.env)).any (·.1) = false := by rfl) : DE X w (.Call (.Name x p) (e :: es) [] pos) (dCall rd te) :=
  weakE (pe_callTy hc hg hm hv ha hn hdb he hpl) fun _ _ _ h => up_call u h

/-! ### methods by values -/
abbrev RMd := D → List D → DHp → QD → Prop
def UpM (K : PySem.W.Frag) (r : V → List V → Hp → VK → Prop) (rd : RMd) : Prop := ∀ (x : V) (xs : List V) (H : Hp) (Q : VK) (d : D) (ds : List D) (M : DHp) (Qd : QD), RM K H M → RV K H M d x → RVs K H M ds xs → rd d ds M Qd →
  (∀ v H' z M', RV K H' M' z v → RM K H' M' → Kp H M H' M' → Qd z M' → Q v H') → r x xs H Q
/-- what is a T -/
def UpTy (K : PySem.W.Frag) (T : String) (p : D → DHp → Prop) : Prop := ∀ (x : V) (H : Hp) (d : D) (M : DHp), RM K H M → RV K H M d x → p d M → tyV K T x H
def dMeth (p : D → DHp → Prop) (rd : RMd) (to : TD) (t : TDs) : TD := fun δ M Q => to δ M fun o M1 => p o M1 ∧ t δ M1 fun xs M2 => rd o xs M2 Q
theorem de_bm {T : String} {name : Str} {id : String} {o : Expr} {to : TD} {e : Expr} {es : List Expr} {te : TDs} {apos cpos : Pos} {r : V → List V → Hp → VK → Prop} {rd : RMd} {p : D → DHp → Prop} (pa : PlainAttrs T) (slot : Slot T name id) (hty : typeOf (.builtin id) = pure (.type "method_descriptor")) (hm : MtR X id r) (ut : UpTy X.K T p) (u : UpM X.K r rd) (ho : DE X w o to) (ha : DA X w (e :: es) te)
    (hbase : attributeBase o name X.env (eval o X.env) = eval o X.env := by rfl)
    (hfew : ((backTo cpos (starEach (e :: es) X.env)).all (fun x => !x.1) && (backToKw cpos (keywordEach [] X.env)).all (fun x => x.1.isSome)
      && decide ((e :: es).length + ([] : List Keyword).length + (if ([] : List Keyword).isEmpty then 0 else 1) < 30)) = true := by rfl)
    (hline : (apos.endLine == cpos.line) = true := by rfl) (hs : starEach (e :: es) X.env = (false, eval e X.env) :: starEach es X.env := by rfl) (hplain : (backTo cpos (starEach es X.env)).any (·.1) = false := by rfl) :
    DE X w (.Call (.Attribute o name apos) (e :: es) [] cpos) (dMeth p rd to te) :=
  weakE (pe_bm pa slot hty hm ho ha hbase hfew hline hs hplain) fun σ H Q h => by
    obtain ⟨δ, M, Qd, ⟨rm, rs⟩, q, k, x⟩ := h
    refine ⟨δ, M, _, ⟨rm, rs⟩, q, fun v H1 d M1 rv rm1 k1 q1 => ⟨ut v H1 d M1 rm1 rv q1.1, ?_⟩, x⟩
    refine ⟨δ, M1, _, ⟨rm1, rs.keep k1⟩, q1.2, fun vs H2 ds M2 rvs rm2 k2 q2 => ?_, x.go k1⟩
    exact u v vs H2 Q d ds M2 Qd rm2 (rv.keep k2 _ _) rvs q2 fun z H' f M' r1 r2 k3 q3 => k z H' f M' r1 r2 ((k1.trans k2).trans k3) q3
theorem de_bm0 {T : String} {name : Str} {id : String} {o : Expr} {to : TD} {apos cpos : Pos} {r : V → List V → Hp → VK → Prop} {rd : RMd} {p : D → DHp → Prop} (pa : PlainAttrs T) (slot : Slot T name id) (hty : typeOf (.builtin id) = pure (.type "method_descriptor")) (hm : MtR X id r) (ut : UpTy X.K T p) (u : UpM X.K r rd) (ho : DE X w o to)
    (hbase : attributeBase o name X.env (eval o X.env) = eval o X.env := by rfl) (hline : (apos.endLine == cpos.line) = true := by rfl) :
    DE X w (.Call (.Attribute o name apos) [] [] cpos) (dMeth p rd to dNil) :=
  weakE (pe_bm0 pa slot hty hm ho hbase hline) fun σ H Q h => by
    obtain ⟨δ, M, Qd, ⟨rm, rs⟩, q, k, x⟩ := h
    refine ⟨δ, M, _, ⟨rm, rs⟩, q, fun v H1 d M1 rv rm1 k1 q1 => ⟨ut v H1 d M1 rm1 rv q1.1, ?_⟩, x⟩
    exact u v [] H1 Q d [] M1 Qd rm1 rv rfl q1.2 fun z H' f M' r1 r2 k3 q3 => k z H' f M' r1 r2 (k1.trans k3) q3
/-- a text's method of one argument -/
theorem de_m1 {id : String} {name : Str} {o e : Expr} {to t : TD} {apos cpos : Pos} {r : V → List V → Hp → VK → Prop} {rd : Str → D → DHp → QD → Prop} (slot : Slot "str" name id) (ty : typeOf (.builtin id) = pure (.type "method_descriptor")) (rule : MtR X id r)
    (u : ∀ (z : Str) (y : V) (H : Hp) (Q : VK) (d : D) (M : DHp) (Qd : QD), RM X.K H M → RV X.K H M d y → rd z d M Qd → (∀ v H' z M', RV X.K H' M' z v → RM X.K H' M' → Kp H M H' M' → Qd z M' → Q v H') → r (.str z) [y] H Q)
    (ho : DE X w o to) (he : DE X w e t) (hs : starEach [e] X.env = [(false, eval e X.env)] := by rfl) (hbase : attributeBase o name X.env (eval o X.env) = eval o X.env := by rfl) (hline : (apos.endLine == cpos.line) = true := by rfl) :
    DE X w (.Call (.Attribute o name apos) [e] [] cpos) (fun δ M Q => to δ M fun o M1 => match o with
      | .str z => t δ M1 fun x M2 => rd z x M2 Q
      | _ => False) :=
  weakE (pe_m1 slot ty rule ho he hs hbase hline) fun σ H Q h => by
    obtain ⟨δ, M, Qd, ⟨rm, rs⟩, q, k, x⟩ := h
    refine ⟨δ, M, _, ⟨rm, rs⟩, q, fun v H1 d M1 rv rm1 k1 q1 => ?_, x⟩
    cases d with
    | str z =>
      have rv : v = .str z := rv
      subst rv
      refine ⟨⟨z, rfl⟩, δ, M1, _, ⟨rm1, rs.keep k1⟩, q1, fun y H2 e M2 ry rm2 k2 q2 => ?_, x.go k1⟩
      exact u z y H2 Q e M2 Qd rm2 ry q2 fun z H' f M' r1 r2 k3 q3 => k z H' f M' r1 r2 ((k1.trans k2).trans k3) q3
    | _ => exact q1.elim
end
end Dl
set_option Elab.async false
set_option linter.all false
set_option maxRecDepth 100000
set_option maxHeartbeats 1000000
/-! D2: slices, targets, statements, loops, comprehensions over data. -/
namespace Dl
open PySem PySem.Spec PyProof.Rows L2
section
variable {X : Cx} {w : Wsh} {a b c : Expr} {ta tb tc : TD} {pos : Pos}

/-! ### slices -/
abbrev TDo := Sd → DHp → (Option Int → DHp → Prop) → Prop
def upP (K : PySem.W.Frag) (w : Wsh) (t : TDo) : TO := fun σ H Q => ∃ δ M Qd, Rp K σ H δ M ∧ t δ M Qd ∧ (∀ o H' M', RM K H' M' → Kp H M H' M' → Qd o M' → Q o H') ∧ Lx K w H M
abbrev DPo (X : Cx) (w : Wsh) (o : Option Expr) (t : TDo) : Prop := PO X o (upP X.K w t)
theorem weakP {X : Cx} {e : Option Expr} {t u : TO} (h : PO X e t) (wk : ∀ σ H Q, u σ H Q → t σ H Q) : PO X e u := ⟨fun pins s σ H Q I q => h.run pins s σ H Q I (wk σ H Q q)⟩
def dNo : TDo := fun _ M Q => Q none M
def dPart (t : TD) : TDo := fun δ M Q => t δ M fun d M1 => match d with
  | .int i => Q (some i) M1
  | _ => False
theorem dp_none : DPo X w none dNo := weakP po_none fun σ H Q h => by
  obtain ⟨δ, M, Qd, ⟨rm, rs⟩, q, k, x⟩ := h
  exact k none H M rm .refl q
theorem dp_some (h : DE X w a ta) : DPo X w (some a) (dPart ta) := weakP (po_some h) fun σ H Q h => by
  obtain ⟨δ, M, Qd, rp, q, k, x⟩ := h
  refine ⟨δ, M, _, rp, q, fun v H1 d M1 rv rm1 k1 q1 => ?_, x⟩
  cases d with
  | int i => exact ⟨i, rv, k _ H1 M1 rm1 k1 q1⟩
  | _ => exact q1.elim
abbrev RSl := D → Option Int → Option Int → DHp → QD → Prop
def UpSl (K : PySem.W.Frag) (r : V → Option Int → Option Int → Hp → VK → Prop) (rd : RSl) : Prop := ∀ (x : V) (lo hi : Option Int) (H : Hp) (Q : VK) (d : D) (M : DHp) (Qd : QD), RM K H M → RV K H M d x → rd d lo hi M Qd →
  (∀ v H' z M', RV K H' M' z v → RM K H' M' → Kp H M H' M' → Qd z M' → Q v H') → r x lo hi H Q
def dSl (rd : RSl) (te : TD) (tl th : TDo) : TD := fun δ M Q => te δ M fun x M1 => tl δ M1 fun l M2 => th δ M2 fun u M3 => rd x l u M3 Q
theorem de_slice {r : V → Option Int → Option Int → Hp → VK → Prop} {rd : RSl} {lo hi : Option Expr} {tl th : TDo} {p2 : Pos} (hr : SlR X r) (u : UpSl X.K r rd) (he : DE X w a ta) (hl : DPo X w lo tl) (hu : DPo X w hi th) :
    DE X w (.Subscript a (.Slice lo hi none p2) pos) (dSl rd ta tl th) := weakE (pe_slice hr he hl hu) fun σ H Q h => by
  obtain ⟨δ, M, Qd, ⟨rm, rs⟩, q, k, x⟩ := h
  refine ⟨δ, M, _, ⟨rm, rs⟩, q, fun v H1 d M1 rv rm1 k1 q1 => ?_, x⟩
  refine ⟨δ, M1, _, ⟨rm1, rs.keep k1⟩, q1, fun l H2 M2 rm2 k2 q2 => ?_, x.go k1⟩
  refine ⟨δ, M2, _, ⟨rm2, rs.keep (k1.trans k2)⟩, q2, fun l2 H3 M3 rm3 k3 q3 => ?_, x.go (k1.trans k2)⟩
  exact u v l l2 H3 Q d M3 Qd rm3 (rv.keep (k2.trans k3) _ _) q3 fun z H' f M' r1 r2 k4 q4 => k z H' f M' r1 r2 (((k1.trans k2).trans k3).trans k4) q4

/-! ### targets -/
abbrev TGd := D → Sd → DHp → (Sd → DHp → Prop) → Prop
abbrev TGsd := List D → Sd → DHp → (Sd → DHp → Prop) → Prop
/-- fp: the slots that may change -/
def Off (fp : List Nat) (σ σ' : L2.St) : Prop := σ'.length = σ.length ∧ ∀ i : Nat, i ∉ fp → σ'[i]? = σ[i]?
def upG (K : PySem.W.Frag) (w : Wsh) (fp : List Nat) (g : TGd) : TG := fun v σ H Q => ∃ d δ M Qd, RV K H M d v ∧ Rp K σ H δ M ∧ g d δ M Qd ∧ (∀ σ' H' δ' M', Rp K σ' H' δ' M' → Kp H M H' M' → Off fp σ σ' → Qd δ' M' → Q σ' H') ∧ Lx K w H M
def upGs (K : PySem.W.Frag) (w : Wsh) (fp : List Nat) (g : TGsd) : TGs := fun vs σ H Q => ∃ ds δ M Qd, RVs K H M ds vs ∧ Rp K σ H δ M ∧ g ds δ M Qd ∧ (∀ σ' H' δ' M', Rp K σ' H' δ' M' → Kp H M H' M' → Off fp σ σ' → Qd δ' M' → Q σ' H') ∧ Lx K w H M
abbrev DG (X : Cx) (w : Wsh) (e : Expr) (fp : List Nat) (g : TGd) : Prop := PG X e (upG X.K w fp g)
abbrev DGs (X : Cx) (w : Wsh) (es : List Expr) (fp : List Nat) (g : TGsd) : Prop := PGs X es (upGs X.K w fp g)
theorem weakG {X : Cx} {e : Expr} {t u : TG} (h : PG X e t) (wk : ∀ v σ H Q, u v σ H Q → t v σ H Q) : PG X e u := ⟨fun pins s σ H v uu Q I r q => h.run pins s σ H v uu Q I r (wk v σ H Q q)⟩
theorem weakGs {X : Cx} {e : List Expr} {t u : TGs} (h : PGs X e t) (wk : ∀ v σ H Q, u v σ H Q → t v σ H Q) : PGs X e u := ⟨fun pins s σ H v uu Q I r q => h.run pins s σ H v uu Q I r (wk v σ H Q q)⟩
def dgName (i : Nat) : TGd := fun d δ M Q => Q (δ.set i (some d)) M
theorem dg_name {i : Nat} {x : Str} (hN : X.N.Nodup) (hi : X.N[i]? = some x) (hx : Loc X.env.scope x) (hf : X.fn x = true ∨ X.env.scope.names.lookup x = some .local := by first | exact .inl rfl | exact .inr rfl | assumption) : DG X w (.Name x pos) [i] (dgName i) :=
  weakG (pg_name hN hi hx hf) fun v σ H Q h => by
    obtain ⟨d, δ, M, Qd, rv, ⟨rm, rs⟩, q, k, x⟩ := h
    refine k _ H _ M ⟨rm, rs.set i rv⟩ .refl ⟨List.length_set, fun j hj => ?_⟩ q
    rw [List.getElem?_set_ne]
    intro e; exact hj (by simp [e])
def dgNil : TGsd := fun ds δ M Q => match ds with
  | [] => Q δ M
  | _ :: _ => False
def dgCons (g : TGd) (gs : TGsd) : TGsd := fun ds δ M Q => match ds with
  | [] => False
  | d :: r => g d δ M fun δ1 M1 => gs r δ1 M1 Q
theorem dgs_nil : DGs X w [] [] dgNil := weakGs pgs_nil fun v σ H Q h => by
  obtain ⟨ds, δ, M, Qd, rv, rp, q, k, x⟩ := h
  cases ds with
  | nil => exact ⟨rv, k σ H δ M rp .refl ⟨rfl, fun _ _ => rfl⟩ q⟩
  | cons d r => exact q.elim
theorem dgs_cons {e : Expr} {es : List Expr} {fp fp' : List Nat} {g : TGd} {gs : TGsd} (h1 : DG X w e fp g) (h2 : DGs X w es fp' gs) (hs : (assignEach (e :: es) X.env).map (·.2) = assign e X.env :: (assignEach es X.env).map (·.2) := by rfl) : DGs X w (e :: es) (fp ++ fp') (dgCons g gs) :=
  weakGs (pgs_cons h1 h2 hs) fun vs σ H Q h => by
    obtain ⟨ds, δ, M, Qd, rv, rp, q, k, x⟩ := h
    cases ds with
    | nil => exact q.elim
    | cons d r =>
      obtain ⟨y, ys, e, ry, rys⟩ := rv
      refine ⟨y, ys, e, d, δ, M, _, ry, rp, q, fun σ1 H1 δ1 M1 rp1 k1 f1 q1 => ?_, x⟩
      refine ⟨r, δ1, M1, _, rys.keep k1 _ _, rp1, q1, fun σ2 H2 δ2 M2 rp2 k2 f2 q2 => ?_, x.go k1⟩
      refine k σ2 H2 δ2 M2 rp2 (k1.trans k2) ⟨f2.1.trans f1.1, fun i hi => ?_⟩ q2
      rw [f2.2 i fun z => hi (List.mem_append_right _ z), f1.2 i fun z => hi (List.mem_append_left _ z)]
def dgTup (n : Nat) (gs : TGsd) : TGd := fun d δ M Q => match d with
  | .tup ds => ds.length = n ∧ gs ds δ M Q
  | _ => False
theorem dg_tup {es : List Expr} {k : Nat} {fp : List Nat} {gs : TGsd} {n : Nat} (hc : X.calm = true) (h : DGs X w es fp gs)
    (hn : (assignEach es X.env).length = n := by rfl) (hst : (assignEach es X.env).findIdx? (·.1) = none := by rfl) : DG X w (.Tuple es k pos) fp (dgTup n gs) :=
  weakG (pg_tup hc h hn hst) fun v σ H Q h => by
    obtain ⟨d, δ, M, Qd, rv, rp, q, k, x⟩ := h
    cases d with
    | tup ds =>
      obtain ⟨a, xs, e, hq, rvs⟩ := rv.sqT
      exact ⟨a, xs, e, hq, by rw [rvs.length]; exact q.1, ds, δ, M, Qd, rvs, rp, q.2, k, x⟩
    | _ => exact q.elim
/-- o[i] = v -/
abbrev R3D := D → D → D → DHp → (DHp → Prop) → Prop
def Up3 (K : PySem.W.Frag) (t : TSet) (rd : R3D) : Prop := ∀ (o i v : V) (H : Hp) (Q : Hp → Prop) (od id vd : D) (M : DHp) (Qd : DHp → Prop), RM K H M → RV K H M od o → RV K H M id i → RV K H M vd v → rd od id vd M Qd →
  (∀ H' M', RM K H' M' → Kp H M H' M' → Qd M' → Q H') → t o i v H Q
def dgSub (rd : R3D) (to ti : TD) : TGd := fun d δ M Q => to δ M fun o M1 => ti δ M1 fun i M2 => rd o i d M2 fun M3 => Q δ M3
theorem dg_sub {o i : Expr} {to ti : TD} {t : TSet} {rd : R3D} (hs : PSet X t) (u : Up3 X.K t rd) (ho : DE X w o to) (hi : DE X w i ti)
    (ha : ∀ v, assign (.Subscript o i pos) X.env v = (do
      let ov ← holding [v] (eval o X.env)
      let iv ← holding [v, ov] (eval i X.env)
      standAt pos
      holding [v, ov, iv] (setItem ov iv v)
      release [v, ov, iv] []) := by intro _; rfl) : DG X w (.Subscript o i pos) [] (dgSub rd to ti) :=
  weakG (pg_sub ho hi hs ha) fun v σ H Q h => by
    obtain ⟨d, δ, M, Qd, rv, ⟨rm, rs⟩, q, k, x⟩ := h
    refine ⟨δ, M, _, ⟨rm, rs⟩, q, fun ov H1 od M1 r1 rm1 k1 q1 => ?_, x⟩
    refine ⟨δ, M1, _, ⟨rm1, rs.keep k1⟩, q1, fun iv H2 id M2 r2 rm2 k2 q2 => ?_, x.go k1⟩
    refine u ov iv v H2 _ od id d M2 _ rm2 (r1.keep k2 _ _) r2 (rv.keep (k1.trans k2) _ _) q2 fun H3 M3 rm3 k3 q3 => ?_
    exact k σ H3 δ M3 ⟨rm3, rs.keep ((k1.trans k2).trans k3)⟩ ((k1.trans k2).trans k3) ⟨rfl, fun _ _ => rfl⟩ q3

/-! ### statements -/
variable {st : Stmt} {rest : List Stmt} {t u : TDS}
def dNext : TDS := fun D δ M => D.nx δ M
def dSeq (t u : TDS) : TDS := fun D δ M => t { D with nx := u D } δ M
theorem dss_nil : DSs X w [] dNext := weakSs pss_nil fun D σ H h => by
  obtain ⟨δ, M, Dd, rp, q, k, x⟩ := h
  exact k.nx σ H δ M rp .refl q
theorem dss_cons (h1 : DS X w st t) (h2 : DSs X w rest u) : DSs X w (st :: rest) (dSeq t u) := weakSs (pss_cons h1 h2) fun D σ H h => by
  obtain ⟨δ, M, Dd, rp, q, k, x⟩ := h
  refine ⟨δ, M, _, rp, q, ⟨fun σ1 H1 δ1 M1 rp1 k1 q1 => ?_, k.rt, k.bk, k.ct⟩, x⟩
  exact ⟨δ1, M1, Dd, rp1, q1, k.go k1, x.go k1⟩
theorem dss_one (h1 : DS X w st t) : DSs X w [st] t := pss_one h1
def dBrk : TDS := fun D δ M => D.bk δ M
def dCnt : TDS := fun D δ M => D.ct δ M
theorem ds_pass : DS X w (.Pass pos) dNext := weakS ps_pass fun D σ H h => by
  obtain ⟨δ, M, Dd, rp, q, k, x⟩ := h
  exact k.nx σ H δ M rp .refl q
theorem ds_break : DS X w (.Break pos) dBrk := weakS ps_break fun D σ H h => by
  obtain ⟨δ, M, Dd, rp, q, k, x⟩ := h
  exact k.bk σ H δ M rp .refl q
theorem ds_continue : DS X w (.Continue pos) dCnt := weakS ps_continue fun D σ H h => by
  obtain ⟨δ, M, Dd, rp, q, k, x⟩ := h
  exact k.ct σ H δ M rp .refl q
def dDrop (te : TD) : TDS := fun D δ M => te δ M fun _ M1 => D.nx δ M1
theorem ds_expr (he : DE X w a ta) (hs : swapsWith a none pos.line X.env = pure false := by rfl) : DS X w (.Expr a pos) (dDrop ta) := weakS (ps_expr he hs) fun D σ H h => by
  obtain ⟨δ, M, Dd, ⟨rm, rs⟩, q, k, x⟩ := h
  exact ⟨δ, M, _, ⟨rm, rs⟩, q, fun v H1 d M1 rv rm1 k1 q1 => k.nx σ H1 δ M1 ⟨rm1, rs.keep k1⟩ k1 q1, x⟩
def dRet (te : TD) : TDS := fun D δ M => te δ M D.rt
theorem ds_ret (he : DE X w a ta) : DS X w (.Return (some a) pos) (dRet ta) := weakS (ps_ret he) fun D σ H h => by
  obtain ⟨δ, M, Dd, rp, q, k, x⟩ := h
  exact ⟨δ, M, _, rp, q, fun v H1 d M1 rv rm1 k1 q1 => k.rt v H1 d M1 rv rm1 k1 q1, x⟩
def dRetN : TDS := fun D _ M => D.rt .non M
theorem ds_retN : DS X w (.Return none pos) dRetN := weakS ps_retN fun D σ H h => by
  obtain ⟨δ, M, Dd, ⟨rm, rs⟩, q, k, x⟩ := h
  exact k.rt .non H .non M rfl rm .refl q
def dIf (c : TDt) (t u : TDS) : TDS := fun D δ M => c δ M fun b M1 => if b = true then t D δ M1 else u D δ M1
theorem ds_if {e : Expr} {p q : List Stmt} {tt : TDt} (hc : DT X w e tt) (ha : DSs X w p t) (hb : DSs X w q u) : DS X w (.If e p q pos) (dIf tt t u) := weakS (ps_if hc ha hb) fun D σ H h => by
  obtain ⟨δ, M, Dd, ⟨rm, rs⟩, q, k, x⟩ := h
  refine ⟨δ, M, _, ⟨rm, rs⟩, q, fun b H1 M1 rm1 k1 q1 => ?_, x⟩
  cases b with
  | true => exact ⟨δ, M1, Dd, ⟨rm1, rs.keep k1⟩, q1, k.go k1, x.go k1⟩
  | false => exact ⟨δ, M1, Dd, ⟨rm1, rs.keep k1⟩, q1, k.go k1, x.go k1⟩
def dAsg (te : TD) (g : TGd) : TDS := fun D δ M => te δ M fun d M1 => g d δ M1 D.nx
theorem ds_asg {tg e : Expr} {te : TD} {fp : List Nat} {g : TGd} (he : DE X w e te) (hg : DG X w tg fp g) (hs : swapsWithSole [tg] e pos.line X.env = pure false := by rfl) (hw : swappedStores [tg] e X.env = pure none := by rfl)
    (h1 : (assignEach [tg] X.env).map (·.2) = [assign tg X.env] := by rfl) : DS X w (.Assign [tg] e pos) (dAsg te g) := weakS (ps_asg he hg hs hw h1) fun D σ H h => by
  obtain ⟨δ, M, Dd, ⟨rm, rs⟩, q, k, x⟩ := h
  refine ⟨δ, M, _, ⟨rm, rs⟩, q, fun v H1 d M1 rv rm1 k1 q1 => ?_, x⟩
  exact ⟨d, δ, M1, _, rv, ⟨rm1, rs.keep k1⟩, q1, fun σ2 H2 δ2 M2 rp2 k2 _ q2 => k.nx σ2 H2 δ2 M2 rp2 (k1.trans k2) q2, x.go k1⟩
def dSet (i : Nat) (te : TD) : TDS := fun D δ M => te δ M fun d M1 => D.nx (δ.set i (some d)) M1
theorem up_set {K : PySem.W.Frag} {i : Nat} {te : TD} {D : Ends} {σ : L2.St} {H : Hp} (h : upS K w (dSet i te) D σ H) : tAsg (upE K w te) (gName i) D σ H := by
  obtain ⟨δ, M, Dd, ⟨rm, rs⟩, q, k, x⟩ := h
  refine ⟨δ, M, _, ⟨rm, rs⟩, q, fun v H1 d M1 rv rm1 k1 q1 => ?_, x⟩
  exact k.nx _ H1 _ M1 ⟨rm1, (rs.keep k1).set i rv⟩ k1 q1
theorem ds_set (i : Nat) {x : Str} {e : Expr} {te : TD} {pos' : Pos} (hN : X.N.Nodup) (he : DE X w e te) (hi : X.N[i]? = some x := by rfl) (hx : Loc X.env.scope x := by first | exact Or.inl rfl | exact Or.inr rfl) (hs : swapsWith e (some (.Name x pos')) pos.line X.env = pure false := by rfl) (hf : X.fn x = true ∨ X.env.scope.names.lookup x = some .local := by first | exact .inl rfl | exact .inr rfl | assumption) :
    DS X w (.Assign [.Name x pos'] e pos) (dSet i te) := weakS (ps_set hN hi hx he hs hf) fun D σ H h => up_set h
/-- a, b = x, y -/
def dPar (i j : Nat) (t : TDs) : TDS := fun D δ M => t δ M fun ds M1 => match ds with
  | [d, e] => D.nx ((δ.set i (some d)).set j (some e)) M1
  | _ => False
theorem ds_par (i j : Nat) {x y : Str} {a b : Expr} {t : TDs} {px py pt : Pos} {kt k2 pt2} (hc : X.calm = true) (hN : X.N.Nodup) (ha : DA X w [a, b] t)
    (hi : X.N[i]? = some x := by rfl) (hj : X.N[j]? = some y := by rfl) (hij : i ≠ j := by decide)
    (hx : X.env.scope.names.lookup x = some .local := by rfl) (hy : X.env.scope.names.lookup y = some .local := by rfl)
    (hw : swappedStores [.Tuple [.Name x px, .Name y py] kt pt] (.Tuple [a, b] k2 pt2) X.env = pure (some [x, y]) := by rfl)
    (hs : swapsWithSole [.Tuple [.Name x px, .Name y py] kt pt] (.Tuple [a, b] k2 pt2) pos.line X.env = pure false := by rfl) :
    DS X w (.Assign [.Tuple [.Name x px, .Name y py] kt pt] (.Tuple [a, b] k2 pt2) pos) (dPar i j t) := weakS (ps_par hc hN hi hj hij hx hy ha hw hs) fun D σ H h => by
  obtain ⟨δ, M, Dd, ⟨rm, rs⟩, q, k, x⟩ := h
  refine ⟨δ, M, _, ⟨rm, rs⟩, q, fun vs H1 ds M1 rv rm1 k1 q1 => ?_, x⟩
  split at q1
  · obtain ⟨v, r1, e1, rv1, h2⟩ := rv
    obtain ⟨v2, r2, e2, rv2, e3⟩ := h2
    cases (show r2 = [] from e3)
    subst e2
    exact ⟨v, v2, e1, k.nx _ H1 _ M1 ⟨rm1, ((rs.keep k1).set i rv1).set j rv2⟩ k1 q1⟩
  · exact q1.elim

/-! ### what a for walks -/
structure ItD (K : PySem.W.Frag) (J : It) (items : List D) (H : Hp) (M : DHp) : Prop where
  go : ∀ (i : Nat) H' M', Kp H M H' M' → RM K H' M' → i < items.length → J.go i H'
  yld : ∀ (i : Nat) H' M' x H'', Kp H M H' M' → RM K H' M' → i < items.length → J.yld i H' x H'' → ∃ d, items[i]? = some d ∧ RV K H'' M' d x ∧ RM K H'' M' ∧ Kp H' M' H'' M'
  stop : ∀ (i : Nat) H' M', Kp H M H' M' → RM K H' M' → items.length ≤ i → J.stop i H'
abbrev TDi := Sd → DHp → (List D → DHp → Prop) → Prop
def upI (K : PySem.W.Frag) (w : Wsh) (t : TDi) : TI := fun σ H R => ∃ δ M Qd, Rp K σ H δ M ∧ t δ M Qd ∧ (∀ J H' M' items, ItD K J items H' M' → RM K H' M' → Kp H M H' M' → Qd items M' → R J H') ∧ Lx K w H M
abbrev DI (X : Cx) (w : Wsh) (tg iter : Expr) (t : TDi) : Prop := PI X tg iter (upI X.K w t)
theorem weakI {X : Cx} {tg e : Expr} {t u : TI} (h : PI X tg e t) (wk : ∀ σ H Q, u σ H Q → t σ H Q) : PI X tg e u := ⟨fun pins s σ H Q I q => h.run pins s σ H Q I (wk σ H Q q)⟩
theorem ItD.seq {K : PySem.W.Frag} {items : List D} {H : Hp} {M : DHp} {J : It} (f : Hp → List V → Prop) (hf : ∀ H xs H' M', f H xs → Kp H M H' M' → f H' xs) (xs : List V) (h : f H xs) (r : RVs K H M items xs)
    (g : ∀ i H', (∃ xs x, f H' xs ∧ xs[i]? = some x) → J.go i H') (y : ∀ i H' x H'', J.yld i H' x H'' → H'' = H' ∧ ∀ xs, f H' xs → xs[i]? = some x) (s : ∀ i H', (∃ xs, f H' xs ∧ xs.length ≤ i) → J.stop i H') : ItD K J items H M := by
  refine ⟨fun i H' M' k rm hi => ?_, fun i H' M' x H'' k rm hi hy => ?_, fun i H' M' k rm hi => ?_⟩
  · have hl := r.length
    exact g i H' ⟨xs, xs[i]'(by omega), hf H xs H' M' h k, List.getElem?_eq_getElem _⟩
  · obtain ⟨e, q⟩ := y i H' x H'' hy
    subst e
    obtain ⟨d, e2, r2⟩ := r.get' (q xs (hf H xs _ M' h k))
    exact ⟨d, e2, r2.keep k _ _, rm, .refl⟩
  · exact s i H' ⟨xs, hf H xs H' M' h k, by rw [r.length]; exact hi⟩
/-- a list that stands still -/
def diLst (t : TD) : TDi := fun δ M Q => t δ M fun d M1 => match d with
  | .lst ds => Q ds M1
  | _ => False
theorem di_lst {tg : Expr} (h : DE X w a ta) : DI X w tg a (diLst ta) := weakI (pi_list h) fun σ H R h => by
  obtain ⟨δ, M, Qd, rp, q, k, x⟩ := h
  refine ⟨δ, M, _, rp, q, fun v H1 d M1 rv rm1 k1 q1 => ?_, x⟩
  cases d with
  | lst ds =>
    obtain ⟨p, xs, e, hp, mp, rvs⟩ := rv
    refine ⟨p, e, ⟨xs, .inl (.inl hp)⟩, k _ H1 M1 ds ?_ rm1 k1 q1⟩
    refine ⟨fun i H' M' kk rm hi => ?_, fun i H' M' x H'' kk rm hi hy => ?_, fun i H' M' kk rm hi => ?_⟩
    · have hl := rvs.length
      exact ⟨xs, xs[i]'(by omega), .inl (.inl (kk p _ hp mp).1), List.getElem?_eq_getElem _⟩
    · obtain ⟨e, q⟩ := hy
      subst e
      obtain ⟨d, e2, r2⟩ := rvs.get' (q xs (.inl (.inl (kk p _ hp mp).1)))
      exact ⟨d, e2, r2.keep kk _ _, rm, .refl⟩
    · exact ⟨xs, .inl (.inl (kk p _ hp mp).1), by rw [rvs.length]; exact hi⟩
  | _ => exact q1.elim
def diTup (t : TD) : TDi := fun δ M Q => t δ M fun d M1 => match d with
  | .tup ds => Q ds M1
  | _ => False
theorem RV.sqT_keep {K : PySem.W.Frag} {H : Hp} {M : DHp} {ds : List D} {v : V} (h : RV K H M (.tup ds) v) : ∃ a xs, v = .ref a ∧ (∀ H' M', Kp H M H' M' → SqT K H' a xs) ∧ RVs K H M ds xs := by
  obtain ⟨a, xs, e, q, r⟩ := h
  refine ⟨a, xs, e, fun H' M' k => ?_, r⟩
  rcases q with ⟨q, m⟩ | q
  · exact .inl (.inl (k a _ q m).1)
  · exact .inr q
theorem di_tup {tg : Expr} (h : DE X w a ta) : DI X w tg a (diTup ta) := weakI (pi_tup h) fun σ H R h => by
  obtain ⟨δ, M, Qd, rp, q, k, x⟩ := h
  refine ⟨δ, M, _, rp, q, fun v H1 d M1 rv rm1 k1 q1 => ?_, x⟩
  cases d with
  | tup ds =>
    obtain ⟨p, xs, e, hp, rvs⟩ := rv.sqT_keep
    refine ⟨p, e, ⟨xs, hp _ _ .refl⟩, k _ H1 M1 ds ?_ rm1 k1 q1⟩
    refine ⟨fun i H' M' kk rm hi => ?_, fun i H' M' x H'' kk rm hi hy => ?_, fun i H' M' kk rm hi => ?_⟩
    · have hl := rvs.length
      exact ⟨xs, xs[i]'(by omega), hp _ _ kk, List.getElem?_eq_getElem _⟩
    · obtain ⟨e, q⟩ := hy
      subst e
      obtain ⟨d, e2, r2⟩ := rvs.get' (q xs (hp _ _ kk))
      exact ⟨d, e2, r2.keep kk _ _, rm, .refl⟩
    · exact ⟨xs, hp _ _ kk, by rw [rvs.length]; exact hi⟩
  | _ => exact q1.elim
/-- the signs of a text -/
def signs (z : Str) : List Str := z.cps.toList.map fun c => ⟨#[c]⟩
def diStr (t : TD) : TDi := fun δ M Q => t δ M fun d M1 => match d with
  | .str z => Q ((signs z).map D.str) M1
  | _ => False
theorem di_str {tg : Expr} (h : DE X w a ta) : DI X w tg a (diStr ta) := weakI (pi_str h) fun σ H R h => by
  obtain ⟨δ, M, Qd, rp, q, k, x⟩ := h
  refine ⟨δ, M, _, rp, q, fun v H1 d M1 rv rm1 k1 q1 => ?_, x⟩
  cases d with
  | str z =>
    have hl : ((signs z).map D.str).length = z.cps.size := by simp [signs]
    refine ⟨z, rv, k _ H1 M1 _ ?_ rm1 k1 q1⟩
    refine ⟨fun i H' M' kk rm hi => ?_, fun i H' M' x H'' kk rm hi hy => ?_, fun i H' M' kk rm hi => ?_⟩
    · rw [hl] at hi; exact hi
    · obtain ⟨e, c, hc, e2⟩ := hy
      subst e e2
      refine ⟨.str ⟨#[c]⟩, ?_, rfl, rm, .refl⟩
      simp only [signs, List.map_map, List.getElem?_map]
      rw [Array.getElem?_toList, hc]
      rfl
    · rw [hl] at hi; exact hi
  | _ => exact q1.elim
/-- 0, 1, .. below n -/
def rngD (lo : Int) (n : Nat) : List D := (List.range n).map fun i => D.int (lo + (i : Nat))
def diRng (t : TDs) : TDi := fun δ M Q => t δ M fun ds M1 => match ds with
  | [.int j] => (-(2 ^ 62) ≤ j ∧ j < 2 ^ 62) ∧ Q (rngD 0 j.toNat) M1
  | _ => False
theorem itD_range {K : PySem.W.Frag} {H : Hp} {M : DHp} (lo : Int) (n : Nat) : ItD K (Itr lo n) (rngD lo n) H M := by
  have hl : (rngD lo n).length = n := by simp [rngD]
  refine ⟨fun i H' M' kk rm hi => ?_, fun i H' M' x H'' kk rm hi hy => ?_, fun i H' M' kk rm hi => ?_⟩
  · rw [hl] at hi; exact hi
  · obtain ⟨e, e2⟩ := hy
    subst e e2
    rw [hl] at hi
    refine ⟨.int (lo + i), ?_, rfl, rm, .refl⟩
    simp [rngD, hi]
  · rw [hl] at hi; exact hi
theorem di_range1 {tg e : Expr} {p : Pos} {t : TDs} (hg : Gl X "range") (hm : X.mg "range" = none) (ha : DA X w [e] t) (hs : starEach [e] X.env = [(false, eval e X.env)] := by rfl) : DI X w tg (.Call (.Name "range" p) [e] [] pos) (diRng t) :=
  weakI (pi_range1 hg hm ha hs) fun σ H R h => by
    obtain ⟨δ, M, Qd, rp, q, k, x⟩ := h
    refine ⟨δ, M, _, rp, q, fun vs H1 ds M1 rv rm1 k1 q1 => ?_, x⟩
    split at q1
    · rename_i j
      obtain ⟨v, r, e1, rv1, e2⟩ := rv
      have rv1 : v = .int j := rv1
      have e2 : r = [] := e2
      subst e2 rv1
      exact ⟨j, e1, q1.1.1, q1.1.2, k _ H1 M1 _ (itD_range 0 j.toNat) rm1 k1 q1.2⟩
    · exact q1.elim

/-! ### for -/
def forRec (g : TGd) (tb : TDS) : List D → TDS
  | [], D, δ, M => D.nx δ M
  | x :: xs, D, δ, M => g x δ M fun δ1 M1 => tb { D with nx := fun δ2 M2 => forRec g tb xs D δ2 M2, ct := fun δ2 M2 => forRec g tb xs D δ2 M2, bk := D.nx } δ1 M1
def dFor (ti : TDi) (g : TGd) (tb : TDS) : TDS := fun D δ M => ti δ M fun items M1 => forRec g tb items D δ M1
theorem ds_for {tg iter : Expr} {body : List Stmt} {ti : TDi} {fp : List Nat} {g : TGd} {tb : TDS} (hp : PassesOwn (model X.prog X.w) X.A X.env X.xe) (hc : X.calm = true) (hi : DI X w tg iter ti) (hg : DG X w tg fp g) (hb : DSs X w body tb)
    (hs : ∀ x, foldedSetIterable iter X.env x = pure x := by intro _; rfl) : DS X w (.For tg iter body [] pos) (dFor ti g tb) := weakS (ps_for hp hc hi hg hb hs) fun D σ H h => by
  obtain ⟨δ, M, Dd, ⟨rm, rs⟩, q, k, x⟩ := h
  refine ⟨δ, M, _, ⟨rm, rs⟩, q, fun J H1 M1 items it rm1 k1 q1 => ?_, x⟩
  refine ⟨fun i m σ2 H2 => m + i = items.length ∧ ∃ δ2 M2, Rp X.K σ2 H2 δ2 M2 ∧ Kp H1 M1 H2 M2 ∧ forRec g tb (items.drop i) Dd δ2 M2, ⟨items.length, rfl, δ, M1, ⟨rm1, rs.keep k1⟩, .refl, q1⟩, fun i m σ2 H2 hw => ?_⟩
  obtain ⟨em, δ2, M2, ⟨rm2, rs2⟩, k2, q2⟩ := hw
  by_cases hi : i < items.length
  · refine .inr ⟨it.go i H2 M2 k2 rm2 hi, fun σ3 H3 => ∃ δ3 M3, Rp X.K σ3 H3 δ3 M3 ∧ Kp H1 M1 H3 M3 ∧ forRec g tb (items.drop (i + 1)) Dd δ3 M3, fun σ3 H3 hn => ⟨m - 1, by omega, by omega, hn⟩, fun v H3 hy => ?_⟩
    obtain ⟨d, hd, rv, rm3, k3⟩ := it.yld i H2 M2 v H3 k2 rm2 hi hy
    have ed : items.drop i = d :: items.drop (i + 1) := by
      rw [List.drop_eq_getElem_cons hi]
      congr 1
      rw [List.getElem?_eq_getElem hi] at hd
      exact Option.some.inj hd
    rw [ed] at q2
    refine ⟨d, δ2, M2, _, rv, ⟨rm3, rs2.keep k3⟩, q2, fun σ4 H4 δ4 M4 rp4 k4 _ q4 => ?_, x.go ((k1.trans k2).trans k3)⟩
    refine ⟨δ4, M4, _, rp4, q4, ⟨fun σ5 H5 δ5 M5 rp5 k5 q5 => ?_, fun v H5 d M5 r5 rm5 k5 q5 => ?_, fun σ5 H5 δ5 M5 rp5 k5 q5 => ?_, fun σ5 H5 δ5 M5 rp5 k5 q5 => ?_⟩, x.go (((k1.trans k2).trans k3).trans k4)⟩
    · exact ⟨δ5, M5, rp5, ((k2.trans k3).trans k4).trans k5, q5⟩
    · exact k.rt v H5 d M5 r5 rm5 ((((k1.trans k2).trans k3).trans k4).trans k5) q5
    · exact k.nx σ5 H5 δ5 M5 rp5 ((((k1.trans k2).trans k3).trans k4).trans k5) q5
    · exact ⟨δ5, M5, rp5, ((k2.trans k3).trans k4).trans k5, q5⟩
  · refine .inl ⟨it.stop i H2 M2 k2 rm2 (by omega), ?_⟩
    rw [List.drop_eq_nil_of_le (by omega)] at q2
    exact k.nx σ2 H2 δ2 M2 ⟨rm2, rs2⟩ (k1.trans k2) q2

/-! ### while -/
def dWhile (c : TDt) (tb : TDS) : TDS := fun D δ M => ∃ W : Nat → Sd → DHp → Prop, (∃ m, W m δ M) ∧ ∀ m δ1 M1, W m δ1 M1 → c δ1 M1 fun b M2 => if b = true then tb { D with nx := fun δ3 M3 => ∃ m', m' < m ∧ W m' δ3 M3, ct := fun δ3 M3 => ∃ m', m' < m ∧ W m' δ3 M3, bk := D.nx } δ1 M2 else D.nx δ1 M2
theorem ds_while {e : Expr} {body : List Stmt} {tt : TDt} {tb : TDS} (hp : PassesOwn (model X.prog X.w) X.A X.env X.xe) (hc : DT X w e tt) (hb : DSs X w body tb) : DS X w (.While e body [] pos) (dWhile tt tb) := weakS (ps_while hp hc hb) fun D σ H h => by
  obtain ⟨δ, M, Dd, rp, ⟨W, ⟨m0, w0⟩, step⟩, k, x⟩ := h
  refine ⟨fun m σ1 H1 => ∃ δ1 M1, Rp X.K σ1 H1 δ1 M1 ∧ Kp H M H1 M1 ∧ W m δ1 M1, ⟨m0, δ, M, rp, .refl, w0⟩, fun m σ1 H1 hw => ?_⟩
  obtain ⟨δ1, M1, ⟨rm1, rs1⟩, k1, w1⟩ := hw
  refine ⟨δ1, M1, _, ⟨rm1, rs1⟩, step m δ1 M1 w1, fun b H2 M2 rm2 k2 q2 => ?_, x.go k1⟩
  cases b with
  | true =>
    rw [if_pos rfl] at q2 ⊢
    refine ⟨fun σ3 H3 => ∃ δ3 M3, Rp X.K σ3 H3 δ3 M3 ∧ Kp H M H3 M3 ∧ ∃ m', m' < m ∧ W m' δ3 M3, fun σ3 H3 hn => ?_, ?_⟩
    · obtain ⟨δ3, M3, rp3, k3, m', hm, w3⟩ := hn
      exact ⟨m', hm, δ3, M3, rp3, k3, w3⟩
    · refine ⟨δ1, M2, _, ⟨rm2, rs1.keep k2⟩, q2, ⟨fun σ5 H5 δ5 M5 rp5 k5 q5 => ?_, fun v H5 d M5 r5 rm5 k5 q5 => ?_, fun σ5 H5 δ5 M5 rp5 k5 q5 => ?_, fun σ5 H5 δ5 M5 rp5 k5 q5 => ?_⟩, x.go (k1.trans k2)⟩
      · exact ⟨δ5, M5, rp5, (k1.trans k2).trans k5, q5⟩
      · exact k.rt v H5 d M5 r5 rm5 ((k1.trans k2).trans k5) q5
      · exact k.nx σ5 H5 δ5 M5 rp5 ((k1.trans k2).trans k5) q5
      · exact ⟨δ5, M5, rp5, (k1.trans k2).trans k5, q5⟩
  | false =>
    rw [if_neg Bool.false_ne_true] at q2 ⊢
    exact k.nx σ1 H2 δ1 M2 ⟨rm2, rs1.keep k2⟩ (k1.trans k2) q2
end
end Dl
set_option Elab.async false
set_option linter.all false
set_option maxRecDepth 100000
set_option maxHeartbeats 1000000
/-! D3: comprehensions, promises, calls of defs, raise and try over data. -/
namespace Dl
open PySem PySem.Spec PyProof.Rows L2

/-! ### comprehensions -/
def wipeD (δ : Sd) : List Nat → Sd
  | [] => δ
  | v :: vs => (wipeD δ vs).set v none
theorem RS.wipe {K : PySem.W.Frag} {H : Hp} {M : DHp} {σ : L2.St} {δ : Sd} (x : RS K H M σ δ) : ∀ vs : List Nat, RS K H M (wipe σ vs) (wipeD δ vs)
  | [] => x
  | v :: vs => (RS.wipe x vs).wipe1 v
theorem wipe_in {i : Nat} (ρ : L2.St) : ∀ (vs : List Nat), i ∈ vs → (wipe ρ vs)[i]? = if i < ρ.length then some none else none
  | [], h => nomatch h
  | v :: r, h => by
    unfold wipe
    by_cases e : v = i
    · subst e
      rw [List.getElem?_set]
      simp [wipe_length]
    · rw [List.getElem?_set_ne e]
      exact wipe_in ρ r (by rcases List.mem_cons.mp h with q | q; exact absurd q.symm e; exact q)
theorem wipe_get : ∀ {σ τ : L2.St} {vs : List Nat}, σ.length = τ.length → (∀ i : Nat, i ∉ vs → σ[i]? = τ[i]?) → wipe σ vs = wipe τ vs
  | σ, τ, vs, hl, h => by
    refine List.ext_getElem? fun i => ?_
    by_cases hi : i ∈ vs
    · rw [wipe_in σ vs hi, wipe_in τ vs hi, hl]
    · rw [wipe_out hi, wipe_out hi]
      exact h i hi
theorem wipe_wipe (σ : L2.St) (vs : List Nat) : wipe (wipe σ vs) vs = wipe σ vs := by
  refine List.ext_getElem? fun i => ?_
  by_cases hi : i ∈ vs
  · rw [wipe_in _ vs hi, wipe_in _ vs hi, wipe_length]
  · rw [wipe_out hi]
abbrev TDc := Sd → DHp → QD → Prop
/-- the turns of a comprehension whose list is made at p -/
def compRec (g : TGd) (tt : TDt) (te : TD) (δ0 : Sd) (p : Addr) : List D → DHp → (DHp → Prop) → Prop
  | [], M, Q => Q M
  | x :: xs, M, Q => g x δ0 M fun δ2 M2 => tt δ2 M2 fun b M3 => if b = true then te δ2 M3 fun y M4 => ∃ acc, M4 p = some (.lst acc) ∧ acc.length < sizeLine ∧ compRec g tt te δ0 p xs (updD M4 p (.lst (acc ++ [y]))) Q else compRec g tt te δ0 p xs M3 Q
def dLcT (ti : TDi) (g : TGd) (tt : TDt) (te : TD) (vs : List Nat) : TD := fun δ M Q => ti δ M fun items M1 => ∀ p, M1 p = none → compRec g tt te (wipeD δ vs) p items (updD M1 p (.lst [])) fun M2 => Q (.ref p) M2
/-- its list stands still -/
abbrev dLc (ti : TDi) (g : TGd) (tt : TDt) (te : TD) (vs : List Nat) : TD := dFrz (dLcT ti g tt te vs)
/-- one turn -/
def Body (g : TGd) (tt : TDt) (te : TD) (δ0 : Sd) (x : D) (M : DHp) (R : Option D → DHp → Prop) : Prop := g x δ0 M fun δ2 M2 => tt δ2 M2 fun b M3 => if b = true then te δ2 M3 fun y M4 => R (some y) M4 else R none M3
/-- the turns change nothing: what each gives is told by o -/
theorem compRec_pure {g : TGd} {tt : TDt} {te : TD} {δ0 : Sd} {p : Addr} {o : D → Option D} : ∀ {items : List D} {M : DHp} {Q : DHp → Prop} (acc : List D), (∀ x ∈ items, ∀ M R, R (o x) M → Body g tt te δ0 x M R) → acc.length + items.length ≤ sizeLine → M p = some (.lst acc) → Q (updD M p (.lst (acc ++ items.filterMap o))) → compRec g tt te δ0 p items M Q
  | [], M, Q, acc, hb, hl, hp, hq => by
    have e : updD M p (.lst (acc ++ [].filterMap o)) = M := by
      funext b
      by_cases z : b = p
      · subst z; rw [updD_same, hp]; simp
      · rw [updD_ne z]
    rw [e] at hq
    exact hq
  | x :: xs, M, Q, acc, hb, hl, hp, hq => by
    have h1 := hb x List.mem_cons_self M (fun o M4 => match o with
      | some y => ∃ acc, M4 p = some (.lst acc) ∧ acc.length < sizeLine ∧ compRec g tt te δ0 p xs (updD M4 p (.lst (acc ++ [y]))) Q
      | none => compRec g tt te δ0 p xs M4 Q)
    have hl' : acc.length + (xs.length + 1) ≤ sizeLine := hl
    refine h1 ?_
    cases e : o x with
    | some y =>
      refine ⟨acc, hp, by omega, compRec_pure (acc ++ [y]) (fun z hz => hb z (List.mem_cons_of_mem _ hz)) (by rw [List.length_append]; show acc.length + 1 + xs.length ≤ sizeLine; omega) updD_same ?_⟩
      rw [updD_updD]
      rw [List.filterMap_cons_some e] at hq
      rw [List.append_assoc]
      exact hq
    | none =>
      refine compRec_pure acc (fun z hz => hb z (List.mem_cons_of_mem _ hz)) (by omega) hp ?_
      rw [List.filterMap_cons_none e] at hq
      exact hq
theorem lc_pure {g : TGd} {tt : TDt} {te : TD} {δ0 : Sd} {items : List D} {M : DHp} {Q : QD} (o : D → Option D) (hl : items.length ≤ sizeLine) (hb : ∀ x ∈ items, ∀ M R, R (o x) M → Body g tt te δ0 x M R) (hq : Q (.lst (items.filterMap o)) M) :
    ∀ p, M p = none → compRec g tt te δ0 p items (updD M p (.lst [])) fun M2 => ∃ p' l, (D.ref p) = .ref p' ∧ M2 p' = some (.lst l) ∧ Q (.lst l) (ersD M2 p') := fun p hp => by
  refine compRec_pure (o := o) [] hb (by simpa using hl) updD_same ⟨p, _, rfl, updD_same, ?_⟩
  rw [updD_updD, ersD_updD hp]
  exact hq
abbrev upTs := upT
abbrev DTs (X : Cx) (w : Wsh) (ifs : List Expr) (t : TDt) : Prop := PTs X ifs (upT X.K w t)
def dYes : TDt := fun _ M Q => Q true M
section
variable {X : Cx} {w : Wsh} {pos : Pos}
theorem weakTs {X : Cx} {e : List Expr} {t u : TT} (h : PTs X e t) (wk : ∀ σ H Q, u σ H Q → t σ H Q) : PTs X e u := ⟨fun pins s σ H Q I q => h.run pins s σ H Q I (wk σ H Q q)⟩
theorem dts_nil : DTs X w [] dYes := weakTs pts_nil fun σ H Q h => by
  obtain ⟨δ, M, Qd, ⟨rm, rs⟩, q, k, x⟩ := h
  exact k true H M rm .refl q
theorem dts_one {c : Expr} {t : TDt} (h : DT X w c t) : DTs X w [c] t := pts_one h
theorem up_lc {K : PySem.W.Frag} {ti : TDi} {fp vs : List Nat} {g : TGd} {tt : TDt} {te : TD} {σ : L2.St} {H : Hp} {Q : VK} (hv : ∀ i ∈ fp, i ∈ vs) (h : upE K w (dLcT ti g tt te vs) σ H Q) :
    tLc (upI K w ti) (upG K wN fp g) (upT K wN tt) (upE K wN te) vs σ H Q := by
  obtain ⟨δ, M, Qd, ⟨rm, rs⟩, q, k, x⟩ := h
  refine ⟨δ, M, _, ⟨rm, rs⟩, q, fun J H1 M1 items it rm1 k1 q1 => fun p hp => ?_, x⟩
  have kp : Kp H1 M1 (upd H1 p (.lst [])) (updD M1 p (.lst [])) := Kp.newD hp
  refine ⟨fun i m H2 => m + i = items.length ∧ ∃ M2, RM K H2 M2 ∧ Kp H1 M1 H2 M2 ∧ compRec g tt te (wipeD δ vs) p (items.drop i) M2 fun M3 => Qd (.ref p) M3, ⟨items.length, rfl, _, rm1.newD hp (ds := []) rfl, kp, q1 p (rm1.free hp)⟩, fun i m H2 hw => ?_⟩
  obtain ⟨em, M2, rm2, k2, q2⟩ := hw
  by_cases hi : i < items.length
  · refine .inr ⟨it.go i H2 M2 k2 rm2 hi, fun H3 => ∃ M3, RM K H3 M3 ∧ Kp H1 M1 H3 M3 ∧ compRec g tt te (wipeD δ vs) p (items.drop (i + 1)) M3 fun M3 => Qd (.ref p) M3, fun H3 hn => ⟨m - 1, by omega, by omega, hn⟩, fun v H3 hy => ?_⟩
    obtain ⟨d, hd, rv, rm3, k3⟩ := it.yld i H2 M2 v H3 k2 rm2 hi hy
    have ed : items.drop i = d :: items.drop (i + 1) := by
      rw [List.drop_eq_getElem_cons hi]
      congr 1
      rw [List.getElem?_eq_getElem hi] at hd
      exact Option.some.inj hd
    rw [ed] at q2
    refine ⟨d, wipeD δ vs, M2, _, rv, ⟨rm3, (rs.keep ((k1.trans k2).trans k3)).wipe vs⟩, q2, fun σ4 H4 δ4 M4 rp4 k4 f4 q4 => ?_, lxN⟩
    obtain ⟨rm4, rs4⟩ := rp4
    have ew : wipe σ4 vs = wipe σ vs := by
      rw [wipe_get f4.1 fun j hj => f4.2 j fun z => hj (hv j z)]
      exact wipe_wipe σ vs
    refine ⟨ew, δ4, M4, _, ⟨rm4, rs4⟩, q4, fun b H5 M5 rm5 k5 q5 => ?_, lxN⟩
    cases b with
    | true =>
      rw [if_pos rfl] at q5 ⊢
      refine ⟨δ4, M5, _, ⟨rm5, rs4.keep k5⟩, q5, fun y H6 d6 M6 ry rm6 k6 q6 => ?_, lxN⟩
      obtain ⟨acc, e6, hl, q6⟩ := q6
      obtain ⟨as, e7, ra⟩ := rm6 p _ e6
      refine ⟨as, e7, by rw [ra.length]; exact hl, _, rm6.wr e6 (ra.append (.one ry)), ((((k2.trans k3).trans k4).trans k5).trans k6).trans (Kp.wr e6), q6⟩
    | false =>
      rw [if_neg Bool.false_ne_true] at q5 ⊢
      exact ⟨M5, rm5, ((k2.trans k3).trans k4).trans k5, q5⟩
  · refine .inl ⟨it.stop i H2 M2 k2 rm2 (by omega), ?_⟩
    rw [List.drop_eq_nil_of_le (by omega)] at q2
    exact k (.ref p) H2 (.ref p) M2 rfl rm2 (k1.trans k2) q2
theorem de_lcT {elt tg iter : Expr} {ifs : List Expr} {scope : Scope} {own : List (Str × Nat)} {ti : TDi} {fp : List Nat} {g : TGd} {tt : TDt} {te : TD} (hc : X.calm = true) (hN : X.N.Nodup) (hi : DI X w tg iter ti) (ok : BlkOk X.N X.env.scope scope own)
    (hg : ∀ (s : Shared) (H : Hp) (C : Addr) (cl : List (Str × Addr)) (q : List Addr), DG (X.blk s H scope (compEnvC scope cl C X.env) q) wN tg fp g) (ht : ∀ (s : Shared) (H : Hp) (C : Addr) (cl : List (Str × Addr)) (q : List Addr), DTs (X.blk s H scope (compEnvC scope cl C X.env) q) wN ifs tt)
    (he : ∀ (s : Shared) (H : Hp) (C : Addr) (cl : List (Str × Addr)) (q : List Addr), DE (X.blk s H scope (compEnvC scope cl C X.env) q) wN elt te) (hv : ∀ i ∈ fp, i ∈ own.map (·.2) := by decide) (hs : ∀ x, foldedSetIterable iter X.env x = pure x := by intro _; rfl) :
    DE X w (.ListComp elt [⟨tg, iter, ifs, 0⟩] scope pos) (dLcT ti g tt te (own.map (·.2))) := weakE (pe_lc hc hN hi ok hg ht he hs) fun σ H Q h => up_lc hv h
theorem de_lc {elt tg iter : Expr} {ifs : List Expr} {scope : Scope} {own : List (Str × Nat)} {ti : TDi} {fp : List Nat} {g : TGd} {tt : TDt} {te : TD} (hc : X.calm = true) (hN : X.N.Nodup) (hi : DI X w tg iter ti) (ok : BlkOk X.N X.env.scope scope own)
    (hg : ∀ (s : Shared) (H : Hp) (C : Addr) (cl : List (Str × Addr)) (q : List Addr), DG (X.blk s H scope (compEnvC scope cl C X.env) q) wN tg fp g) (ht : ∀ (s : Shared) (H : Hp) (C : Addr) (cl : List (Str × Addr)) (q : List Addr), DTs (X.blk s H scope (compEnvC scope cl C X.env) q) wN ifs tt)
    (he : ∀ (s : Shared) (H : Hp) (C : Addr) (cl : List (Str × Addr)) (q : List Addr), DE (X.blk s H scope (compEnvC scope cl C X.env) q) wN elt te) (hv : ∀ i ∈ fp, i ∈ own.map (·.2) := by decide) (hs : ∀ x, foldedSetIterable iter X.env x = pure x := by intro _; rfl) :
    DE X w (.ListComp elt [⟨tg, iter, ifs, 0⟩] scope pos) (dLc ti g tt te (own.map (·.2))) := de_frz (de_lcT hc hN hi ok hg ht he hv hs)
/-- name = [..] on one line -/
theorem up_frz {K : PySem.W.Frag} {t : TD} {te : TE} (u : ∀ σ H Q, upE K w t σ H Q → te σ H Q) {σ : L2.St} {H : Hp} {Q : VK} (h : upE K w (dFrz t) σ H Q) : te σ H Q := u σ H Q (by
  obtain ⟨δ, M, Qd, rp, q, k, x⟩ := h
  refine ⟨δ, M, _, rp, q, fun v H1 d M1 rv rm1 k1 q1 => ?_, x⟩
  obtain ⟨p, l, rfl, hp, q1⟩ := q1
  have rv : v = .ref p := rv
  subst rv
  exact k _ H1 _ _ (RV.frz rm1 hp) rm1.ers (k1.trans Kp.ers) q1)
theorem up_asg {K : PySem.W.Frag} {i : Nat} {t : TD} {te : TE} (u : ∀ σ H Q, upE K w t σ H Q → te σ H Q) {D : Ends} {σ : L2.St} {H : Hp} (h : upS K w (dSet i t) D σ H) : tAsg te (gName i) D σ H := by
  obtain ⟨δ, M, Dd, ⟨rm, rs⟩, q, k, x⟩ := h
  refine u σ H _ ⟨δ, M, _, ⟨rm, rs⟩, q, fun v H1 d M1 rv rm1 k1 q1 => ?_, x⟩
  exact k.nx _ H1 _ M1 ⟨rm1, (rs.keep k1).set i rv⟩ k1 q1
theorem ds_setLc {y : Str} {py spos : Pos} (i : Nat) {elt tg iter : Expr} {ifs : List Expr} {scope : Scope} {own : List (Str × Nat)} {ti : TDi} {fp : List Nat} {g : TGd} {tt : TDt} {te : TD}
    (h : PS X (.Assign [.Name y py] (.ListComp elt [⟨tg, iter, ifs, 0⟩] scope pos) spos) (tAsg (tLc (upI X.K w ti) (upG X.K wN fp g) (upT X.K wN tt) (upE X.K wN te) (own.map (·.2))) (gName i))) (hv : ∀ i ∈ fp, i ∈ own.map (·.2) := by decide) :
    DS X w (.Assign [.Name y py] (.ListComp elt [⟨tg, iter, ifs, 0⟩] scope pos) spos) (dSet i (dLc ti g tt te (own.map (·.2)))) := weakS h fun D σ H h => up_asg (fun _ _ _ h => up_frz (fun _ _ _ h => up_lc hv h) h) h
theorem ds_setLcT {y : Str} {py spos : Pos} (i : Nat) {elt tg iter : Expr} {ifs : List Expr} {scope : Scope} {own : List (Str × Nat)} {ti : TDi} {fp : List Nat} {g : TGd} {tt : TDt} {te : TD}
    (h : PS X (.Assign [.Name y py] (.ListComp elt [⟨tg, iter, ifs, 0⟩] scope pos) spos) (tAsg (tLc (upI X.K w ti) (upG X.K wN fp g) (upT X.K wN tt) (upE X.K wN te) (own.map (·.2))) (gName i))) (hv : ∀ i ∈ fp, i ∈ own.map (·.2) := by decide) :
    DS X w (.Assign [.Name y py] (.ListComp elt [⟨tg, iter, ifs, 0⟩] scope pos) spos) (dSet i (dLcT ti g tt te (own.map (·.2)))) := weakS h fun D σ H h => up_asg (fun _ _ _ h => up_lc hv h) h

/-! ### promises -/
abbrev XD := Value → Option Addr → DHp → Prop
abbrev SpD := List D → DHp → QD → XD → Prop
def dSp (K : PySem.W.Frag) (n : Nat) (S : SpD) : Sp := fun vs H Q E => vs.length = n ∧ ∃ ds M Qd Ed, RVs K H M ds vs ∧ RM K H M ∧ S ds M Qd Ed ∧ (∀ v H' d M', RV K H' M' d v → RM K H' M' → Kp H M H' M' → Qd d M' → Q v H') ∧
  (∀ c dd H' M', RM K H' M' → Kp H M H' M' → Ed c dd M' → E c dd H')
def startD (N : List Str) (ds : List D) : Sd := ds.map some ++ List.replicate (N.length - ds.length) none
theorem rs_start {K : PySem.W.Frag} {H : Hp} {M : DHp} {N : List Str} {ds : List D} {vs : List V} (r : RVs K H M ds vs) : RS K H M (L2.start N vs) (startD N ds) := by
  refine ⟨by simp [L2.start, startD, r.length], fun i d e => ?_⟩
  unfold startD at e
  unfold L2.start
  by_cases hi : i < ds.length
  · rw [List.getElem?_append_left (by simpa using hi), List.getElem?_map] at e
    rw [List.getElem?_append_left (by simpa [r.length] using hi), List.getElem?_map]
    cases ed : ds[i]? with
    | none => rw [ed] at e; simp at e
    | some d' =>
      rw [ed] at e
      have e : d' = d := by simpa using e
      subst e
      obtain ⟨v, e2, rv⟩ := r.get ed
      exact ⟨v, by rw [e2]; rfl, rv⟩
  · rw [List.getElem?_append_right (by simpa using hi)] at e
    rw [List.getElem?_replicate] at e
    split at e <;> simp at e
/-- the wish of a def -/
abbrev wD (Ed : XD) (E : XK) : Wsh := ⟨fun c fs _ M => Ed c fs M, fun c d _ H => E c d H⟩
section
variable {P : Program} {wd : World} {K : PySem.W.Frag} {mg : Str → Option Value} {base : Heap}
/-- a promise about a def -/
abbrev FnD (P : Program) (wd : World) (K : PySem.W.Frag) (mg : Str → Option Value) (base : Heap) (k : Nat) (f : Addr) (fd : FuncData) (ps : List Str) (S : SpD) : Prop := FnOk P wd K mg base (L2.CX P wd) k f fd ps (dSp K ps.length S)
/-- THE RULE for a def -/
theorem fnD {x qual : Str} {st : Stmt} {f : Addr} {fd : FuncData} {N ps : List Str} {k : Nat} {S : SpD} (F : Fun K x qual st f fd) (Sc : FnScope N ps (defScope st))
    (hbody : ∀ (cdv : Value) (A : Around) (outer : List Env) (s : Shared) (H : Hp) (E : XK) (Ed : XD), Room k (A.deeper (envOfC qual (defScope st) s.heap.objs.size f cdv)) →
      ∃ t, DSs (cxOf (L2.CX P wd) P wd K mg base N qual (defScope st) f cdv A outer s H E) (wD Ed E) (defBody st) t ∧ ∀ ds M Qd, ds.length = ps.length → S ds M Qd Ed → t { nx := fun _ M' => Qd .non M', rt := Qd } (startD N ds) M) : FnD P wd K mg base (k + 1) f fd ps S := by
  refine F.okX Sc (fun vs H Q E h => h.1) fun cdv A outer s H vs Q E hr h => ?_
  obtain ⟨hl, ds, M, Qd, Ed, rv, rm, hs, kq, kx⟩ := h
  obtain ⟨t, ht, hr⟩ := hbody cdv A outer s H E Ed hr
  refine ⟨_, ht, startD N ds, M, _, ⟨rm, rs_start rv⟩, hr ds M Qd (by rw [← rv.length]; exact hl) hs, ⟨fun σ' H' δ' M' rp k q => ?_, fun v H' d M' rv rm k q => kq v H' d M' rv rm k q, fun σ' H' δ' M' rp k q => q, fun σ' H' δ' M' rp k q => q⟩, fun σ' δ' H' M' c dd rp kp q => kx c dd H' M' rp.1 kp q⟩
  exact kq .non H' .non M' rfl rp.1 k q
end

/-! ### calls of defs -/
def dCallF (wd : WXd) (S : SpD) (t : TDs) : TD := fun δ M Q => t δ M fun ds M1 => S ds M1 Q fun c fs M' => wd c fs δ M'
theorem up_callF {K : PySem.W.Frag} {S : SpD} {n : Nat} {te : TDs} {σ : L2.St} {H : Hp} {Q : VK} (hn : ∀ ds M Q E, S ds M Q E → ds.length = n) (h : upE K w (dCallF w.d S te) σ H Q) : tCallS (dSp K n S) (WE w.h) (upA K w te) σ H Q := by
  obtain ⟨δ, M, Qd, ⟨rm, rs⟩, q, k, x⟩ := h
  refine ⟨δ, M, _, ⟨rm, rs⟩, q, fun vs H1 ds M1 rv rm1 k1 q1 => ?_, x⟩
  refine ⟨by rw [rv.length]; exact hn _ _ _ _ q1, ds, M1, Qd, _, rv, rm1, q1, fun v H' d M' rv rm' kp q' => k v H' d M' rv rm' (k1.trans kp) q', fun c dd H' M' rm' kp q' => ?_⟩
  exact x σ δ H' M' c dd ⟨rm', rs.keep (k1.trans kp)⟩ (k1.trans kp) q'
theorem de_call {x : Str} {f : Addr} {fd : FuncData} {ps : List Str} {S : SpD} {k : Nat} {e : Expr} {es : List Expr} {p pos : Pos} {te : TDs} (F : FnD X.prog X.w X.K X.mg X.base k f fd ps S) (hr : Room k X.A) (hm : X.mg x = some (.ref f)) (hk : PySem.W.keepIn X.K (.ref f) = true) (hb : Binds X.K fd ps []) (tk : Takes X w.h)
    (hn : ∀ ds M Q E, S ds M Q E → ds.length = ps.length) (ha : DA X w (e :: es) te) (hg : Gl X x := by rfl) (hdb : (x == ("__debug__" : Str)) = false := by decide)
    (he : starEach (e :: es) X.env = (false, eval e X.env) :: starEach es X.env := by rfl) (hpl : (backTo pos (starEach es X.env)).any (·.1) = false := by rfl) :
    DE X w (.Call (.Name x p) (e :: es) [] pos) (dCallF w.d S te) := weakE (pe_callS F hr hg hm hk hb (fun σ => passAt tk σ) ha hdb he hpl) fun σ H Q h => up_callF hn h
/-- nothing is raised: nothing is asked -/
theorem takesN {X : Cx} : Takes X wN.h := fun u s' ⟨_, _, _, _, _, _, _, _, _, _, _, _, _, _, _, _, z⟩ => False.elim z

/-! ### raise -/
def dRaise (wd : WXd) (c : Value) : TDS := fun _ δ M => wd c none δ M
theorem ds_raise {e : Expr} {c : Value} (hc : X.calm = true) (tk : Takes X w.h) (he : PMk X e fun _ H Q => Q c none H) : DS X w (.Raise (some e) none pos) (dRaise w.d c) := weakS (ps_raise hc tk he) fun D σ H h => by
  obtain ⟨δ, M, Dd, rp, q, k, x⟩ := h
  exact x σ δ H M c none rp .refl q
end
end Dl
set_option Elab.async false
set_option linter.all false
set_option maxRecDepth 100000
set_option maxHeartbeats 1000000
/-! D4: the operators, calls and methods over data, one each, whatever the data's kind. -/
namespace Dl
open PySem PySem.Spec PyProof.Rows L2

/-! ### lists, tracked or still -/
/-- a list's items -/
def lstOf (M : DHp) : D → Option (List D)
  | .lst l => some l
  | .ref p => match M p with
    | some (.lst l) => some l
    | _ => none
  | _ => none
/-- the items of a list or a tuple -/
def seqOf (M : DHp) : D → Option (List D)
  | .tup l => some l
  | .scr ns => some (ns.map D.int)
  | d => lstOf M d
theorem lstOf_lst {M : DHp} {l : List D} : lstOf M (.lst l) = some l := rfl
theorem lstOf_ref {M : DHp} {p : Addr} {l : List D} (h : M p = some (.lst l)) : lstOf M (.ref p) = some l := by unfold lstOf; simp only [h]
theorem lstOf_upd {M : DHp} {p : Addr} {l : List D} : lstOf (updD M p (.lst l)) (.ref p) = some l := lstOf_ref updD_same
theorem seqOf_ref {M : DHp} {p : Addr} {l : List D} (h : M p = some (.lst l)) : seqOf M (.ref p) = some l := lstOf_ref h
section
variable {K : PySem.W.Frag} {H H' : Hp} {M M' : DHp} {d : D} {l : List D} {v : V}
theorem RV.lstH (rm : RM K H M) (rv : RV K H M d v) (h : lstOf M d = some l) : ∃ a xs, v = .ref a ∧ H a = some (.lst xs) ∧ RVs K H M l xs := by
  cases d with
  | lst l' =>
    cases h
    obtain ⟨a, xs, e, h1, _, r⟩ := rv
    exact ⟨a, xs, e, h1, r⟩
  | ref p =>
    cases e : M p with
    | none => simp [lstOf, e] at h
    | some o =>
      cases o with
      | raw u => simp [lstOf, e] at h
      | xd u => simp [lstOf, e] at h
      | lst l' =>
        simp [lstOf, e] at h
        subst h
        obtain ⟨vs, e2, r⟩ := rm p _ e
        have rv : v = .ref p := rv
        exact ⟨p, vs, rv, e2, r⟩
  | _ => cases h
theorem RV.lstS (rm : RM K H M) (rv : RV K H M d v) (h : lstOf M d = some l) : ∃ a xs, v = .ref a ∧ SqL K H a xs ∧ RVs K H M l xs := by
  obtain ⟨a, xs, e, h1, r⟩ := rv.lstH rm h
  exact ⟨a, xs, e, .inl (.inl h1), r⟩
theorem RV.seqS (rm : RM K H M) (rv : RV K H M d v) (h : seqOf M d = some l) : ∃ a xs, v = .ref a ∧ (SqL K H a xs ∨ SqT K H a xs) ∧ RVs K H M l xs := by
  cases d with
  | tup l' =>
    cases h
    obtain ⟨a, xs, e, q, r⟩ := rv.sqT
    exact ⟨a, xs, e, .inr q, r⟩
  | scr ns =>
    cases h
    obtain ⟨a, e, q⟩ := rv
    refine ⟨a, ns.map V.int, e, .inl ?_, RVs.ints ns⟩
    rcases q with ⟨o, q, _⟩ | q
    · exact .inl (.inr ⟨o, q⟩)
    · exact .inr q
  | _ =>
    obtain ⟨a, xs, e, q, r⟩ := RV.lstS rm rv (show lstOf M _ = some l from h)
    exact ⟨a, xs, e, .inl q, r⟩
end

/-! ### data without identities, as the library's data -/
mutual
def toP : D → PyData
  | .non => .none
  | .bl b => .bool b
  | .int i => .int i
  | .str s => .str s
  | .tup l => .tuple (toPs l)
  | .lst l => .list (toPs l)
  | _ => .none
def toPs : List D → List PyData
  | [] => []
  | d :: ds => toP d :: toPs ds
end
mutual
/-- no identity, no class within -/
def dat : D → Bool
  | .non | .bl _ | .int _ | .str _ => true
  | .tup l | .lst l => dats l
  | _ => false
def dats : List D → Bool
  | [] => true
  | d :: ds => dat d && dats ds
end
theorem dats_all : ∀ {l : List D}, dats l = true ↔ ∀ d ∈ l, dat d = true
  | [] => by simp [dats]
  | d :: l => by simp [dats, dats_all (l := l)]
theorem dats_append {l m : List D} : dats (l ++ m) = (dats l && dats m) := by
  induction l with
  | nil => rfl
  | cons d l ih => simp only [List.cons_append, dats, ih, Bool.and_assoc]
mutual
theorem toP_plain : ∀ d : D, (toP d).plain = true
  | .non => rfl
  | .bl _ => rfl
  | .int _ => rfl
  | .str _ => rfl
  | .ty _ => rfl
  | .ref _ => rfl
  | .scr _ => rfl
  | .tup l => by simp only [toP, PyData.plain]; exact toPs_plain l
  | .lst l => by simp only [toP, PyData.plain]; exact toPs_plain l
theorem toPs_plain : ∀ l : List D, PyData.plainAll (toPs l) = true
  | [] => rfl
  | d :: l => by simp only [toPs, PyData.plainAll, toP_plain d, toPs_plain l, Bool.and_self]
end
section
variable {K : PySem.W.Frag} {H : Hp} {M : DHp}
mutual
theorem RV.dp : ∀ (d : D) (v : V), RV K H M d v → dat d = true → Dp K H v (toP d)
  | .non, v, h, _ => by cases (show v = V.non from h); exact .non
  | .bl b, v, h, _ => by cases (show v = V.bl b from h); exact .bl b
  | .int b, v, h, _ => by cases (show v = V.int b from h); exact .int b
  | .str b, v, h, _ => by cases (show v = V.str b from h); exact .str b
  | .ty _, _, _, q => by cases q
  | .ref _, _, _, q => by cases q
  | .scr _, _, _, q => by cases q
  | .tup l, v, h, q => by
    obtain ⟨a, xs, e, h1, r⟩ := h.sqT
    subst e
    simp only [toP]
    exact .tup h1 (RVs.dp l xs r (by simpa [dat] using q))
  | .lst l, v, h, q => by
    obtain ⟨a, xs, e, h1, r⟩ := h.sqL
    subst e
    simp only [toP]
    exact .lst h1 (RVs.dp l xs r (by simpa [dat] using q))
theorem RVs.dp : ∀ (l : List D) (xs : List V), RVs K H M l xs → dats l = true → DpAll K H xs (toPs l)
  | [], xs, h, _ => by cases (show xs = [] from h); exact .nil
  | d :: l, xs, h, q => by
    obtain ⟨x, r, e, h1, h2⟩ := h
    subst e
    have q : dat d = true ∧ dats l = true := by simpa [dats] using q
    exact .cons (RV.dp d x h1 q.1) (RVs.dp l r h2 q.2)
end
end
/-- a tracked list by its items -/
def thw (M : DHp) (d : D) : D := match d with
  | .ref p => match M p with
    | some (.lst l) => .lst l
    | _ => .ref p
  | d => d
theorem thw_ref {M : DHp} {p : Addr} {l : List D} (h : M p = some (.lst l)) : thw M (.ref p) = .lst l := by unfold thw; simp only [h]
theorem RV.thwP {K : PySem.W.Frag} {H : Hp} {M : DHp} {d : D} {v : V} (rm : RM K H M) (rv : RV K H M d v) (h : dat (thw M d) = true) : Dp K H v (toP (thw M d)) := by
  unfold thw at h ⊢
  split at h
  · rename_i p
    split at h
    · rename_i l e
      obtain ⟨vs, e2, r⟩ := rm p _ e
      have rv : v = .ref p := rv
      subst rv
      simp only [toP]
      exact .lst (.inl (.inl e2)) (r.dp l vs (by simpa [dat] using h))
    · cases h
  · exact rv.dp _ _ h
def eqD (d e : D) : Bool := PyData.eqv (toP d) (toP e)
def dep (d : D) : Nat := (toP d).depth

section
variable {X : Cx} {w : Wsh} {a b c : Expr} {ta tb tc : TD} {pos : Pos}
/-! ### == and != -/
theorem eq_D (hu : X.A.units + 160 < cLine) : OpR X (compareOp .Eq) (fun x y H Q => ∃ d e, Dp X.K H x d ∧ Dp X.K H y e ∧ d.plain = true ∧ e.plain = true ∧ min d.depth e.depth ≤ 160 ∧ Q (.bl (PyData.eqv d e)) H) := by
  intro pins s σ H x y v u Q I rx ry h
  obtain ⟨d, e, hd, he, sd, se, hz, q⟩ := h
  obtain ⟨as, r1⟩ := Dp.reads I d x v hd rx
  obtain ⟨bs, r2⟩ := Dp.reads I e y u he ry
  exact SeqAt.eq_plain r1 r2 sd se (by omega) ⟨.bl _, H, I, rfl, q⟩
theorem ne_D (hu : X.A.units + 160 < cLine) : OpR X (compareOp .NotEq) (fun x y H Q => ∃ d e, Dp X.K H x d ∧ Dp X.K H y e ∧ d.plain = true ∧ e.plain = true ∧ min d.depth e.depth ≤ 160 ∧ Q (.bl (!PyData.eqv d e)) H) := by
  intro pins s σ H x y v u Q I rx ry h
  obtain ⟨d, e, hd, he, sd, se, hz, q⟩ := h
  obtain ⟨as, r1⟩ := Dp.reads I d x v hd rx
  obtain ⟨bs, r2⟩ := Dp.reads I e y u he ry
  exact SeqAt.ne_plain r1 r2 sd se (by omega) ⟨.bl _, H, I, rfl, q⟩
def rdEq : R2D := fun d e M Q => dat (thw M d) = true ∧ dat (thw M e) = true ∧ min (dep (thw M d)) (dep (thw M e)) ≤ 160 ∧ Q (.bl (eqD (thw M d) (thw M e))) M
def rdNe : R2D := fun d e M Q => dat (thw M d) = true ∧ dat (thw M e) = true ∧ min (dep (thw M d)) (dep (thw M e)) ≤ 160 ∧ Q (.bl (!eqD (thw M d) (thw M e))) M
theorem u_eq {K : PySem.W.Frag} : Up2 K (fun x y H Q => ∃ d e, Dp K H x d ∧ Dp K H y e ∧ d.plain = true ∧ e.plain = true ∧ min d.depth e.depth ≤ 160 ∧ Q (.bl (PyData.eqv d e)) H) rdEq := fun x y H Q d e M Qd rm rx ry q k =>
  ⟨_, _, rx.thwP rm q.1, ry.thwP rm q.2.1, toP_plain _, toP_plain _, q.2.2.1, k _ H _ M (show RV _ _ _ (.bl _) (.bl _) from rfl) rm .refl q.2.2.2⟩
theorem u_ne {K : PySem.W.Frag} : Up2 K (fun x y H Q => ∃ d e, Dp K H x d ∧ Dp K H y e ∧ d.plain = true ∧ e.plain = true ∧ min d.depth e.depth ≤ 160 ∧ Q (.bl (!PyData.eqv d e)) H) rdNe := fun x y H Q d e M Qd rm rx ry q k =>
  ⟨_, _, rx.thwP rm q.1, ry.thwP rm q.2.1, toP_plain _, toP_plain _, q.2.2.1, k _ H _ M (show RV _ _ _ (.bl _) (.bl _) from rfl) rm .refl q.2.2.2⟩
theorem de_eq (hu : X.A.units + 160 < cLine) (ha : DE X w a ta) (hb : DE X w b tb) : DE X w (.Compare a [.Eq] [b] pos) (dOp rdEq ta tb) := de_cmp (eq_D hu) u_eq ha hb
theorem de_ne (hu : X.A.units + 160 < cLine) (ha : DE X w a ta) (hb : DE X w b tb) : DE X w (.Compare a [.NotEq] [b] pos) (dOp rdNe ta tb) := de_cmp (ne_D hu) u_ne ha hb
theorem dt_eq (hu : X.A.units + 160 < cLine) (ha : DE X w a ta) (hb : DE X w b tb) : DT X w (.Compare a [.Eq] [b] pos) (dB (dOp rdEq ta tb)) := dt_cmp (eq_D hu) u_eq ha hb
theorem dt_ne (hu : X.A.units + 160 < cLine) (ha : DE X w a ta) (hb : DE X w b tb) : DT X w (.Compare a [.NotEq] [b] pos) (dB (dOp rdNe ta tb)) := dt_cmp (ne_D hu) u_ne ha hb

/-! ### <, <=, >, >= of ints and of texts -/
def ltS (s t : Str) : Bool := decide (s.cps.toList < t.cps.toList)
def rdLt : R2D := fun d e M Q => match d, e with
  | .int i, .int j => Q (.bl (decide (i < j))) M
  | .str s, .str t => Q (.bl (ltS s t)) M
  | _, _ => False
def rdLe : R2D := fun d e M Q => match d, e with
  | .int i, .int j => Q (.bl (decide (i ≤ j))) M
  | .str s, .str t => Q (.bl (!ltS t s)) M
  | _, _ => False
def rdGt : R2D := fun d e M Q => match d, e with
  | .int i, .int j => Q (.bl (decide (j < i))) M
  | .str s, .str t => Q (.bl (ltS t s)) M
  | _, _ => False
def rdGe : R2D := fun d e M Q => match d, e with
  | .int i, .int j => Q (.bl (decide (j ≤ i))) M
  | .str s, .str t => Q (.bl (!ltS s t)) M
  | _, _ => False
/-- two ints or two texts -/
theorem u_two {K : PySem.W.Frag} {r r' : R2} {rd : R2D} {g : Int → Int → Bool} {g' : Str → Str → Bool} (h : ∀ i j H Q, Q (.bl (g i j)) H → r (.int i) (.int j) H Q) (h' : ∀ i j H Q, Q (.bl (g' i j)) H → r' (.str i) (.str j) H Q)
    (hi : ∀ i j M Q, rd (.int i) (.int j) M Q → Q (.bl (g i j)) M) (hs : ∀ i j M Q, rd (.str i) (.str j) M Q → Q (.bl (g' i j)) M) (hn : ∀ d e M Q, rd d e M Q → (∃ i j, d = .int i ∧ e = .int j) ∨ ∃ i j, d = .str i ∧ e = .str j) :
    Up2 K (fun x y H Q => r x y H Q ∨ r' x y H Q) rd := fun x y H Q d e M Qd rm rx ry q k => by
  rcases hn d e M Qd q with ⟨i, j, rfl, rfl⟩ | ⟨i, j, rfl, rfl⟩
  · cases (show x = V.int i from rx)
    cases (show y = V.int j from ry)
    exact .inl (h i j H Q (k _ H (.bl _) M rfl rm .refl (hi i j M Qd q)))
  · cases (show x = V.str i from rx)
    cases (show y = V.str j from ry)
    exact .inr (h' i j H Q (k _ H (.bl _) M rfl rm .refl (hs i j M Qd q)))
theorem u_lt {K : PySem.W.Frag} : Up2 K (fun x y H Q => rI0 (fun i j => .bl (decide (i < j))) x y H Q ∨ ∃ i j, x = .str i ∧ y = .str j ∧ Q (.bl (decide (i.cps.toList < j.cps.toList))) H) rdLt :=
  u_two (g := fun i j => decide (i < j)) (g' := fun i j => ltS i j) (fun i j H Q q => ⟨i, j, rfl, rfl, q⟩) (fun i j H Q q => ⟨i, j, rfl, rfl, q⟩) (fun _ _ _ _ q => q) (fun _ _ _ _ q => q)
    fun d e M Q q => by unfold rdLt at q; split at q <;> first | exact .inl ⟨_, _, rfl, rfl⟩ | exact .inr ⟨_, _, rfl, rfl⟩ | exact q.elim
theorem u_le {K : PySem.W.Frag} : Up2 K (fun x y H Q => rI0 (fun i j => .bl (decide (i ≤ j))) x y H Q ∨ ∃ i j, x = .str i ∧ y = .str j ∧ Q (.bl (!decide (j.cps.toList < i.cps.toList))) H) rdLe :=
  u_two (g := fun i j => decide (i ≤ j)) (g' := fun i j => !ltS j i) (fun i j H Q q => ⟨i, j, rfl, rfl, q⟩) (fun i j H Q q => ⟨i, j, rfl, rfl, q⟩) (fun _ _ _ _ q => q) (fun _ _ _ _ q => q)
    fun d e M Q q => by unfold rdLe at q; split at q <;> first | exact .inl ⟨_, _, rfl, rfl⟩ | exact .inr ⟨_, _, rfl, rfl⟩ | exact q.elim
theorem u_gt {K : PySem.W.Frag} : Up2 K (fun x y H Q => rI0 (fun i j => .bl (decide (j < i))) x y H Q ∨ ∃ i j, x = .str i ∧ y = .str j ∧ Q (.bl (decide (j.cps.toList < i.cps.toList))) H) rdGt :=
  u_two (g := fun i j => decide (j < i)) (g' := fun i j => ltS j i) (fun i j H Q q => ⟨i, j, rfl, rfl, q⟩) (fun i j H Q q => ⟨i, j, rfl, rfl, q⟩) (fun _ _ _ _ q => q) (fun _ _ _ _ q => q)
    fun d e M Q q => by unfold rdGt at q; split at q <;> first | exact .inl ⟨_, _, rfl, rfl⟩ | exact .inr ⟨_, _, rfl, rfl⟩ | exact q.elim
theorem u_ge {K : PySem.W.Frag} : Up2 K (fun x y H Q => rI0 (fun i j => .bl (decide (j ≤ i))) x y H Q ∨ ∃ i j, x = .str i ∧ y = .str j ∧ Q (.bl (!decide (i.cps.toList < j.cps.toList))) H) rdGe :=
  u_two (g := fun i j => decide (j ≤ i)) (g' := fun i j => !ltS i j) (fun i j H Q q => ⟨i, j, rfl, rfl, q⟩) (fun i j H Q q => ⟨i, j, rfl, rfl, q⟩) (fun _ _ _ _ q => q) (fun _ _ _ _ q => q)
    fun d e M Q q => by unfold rdGe at q; split at q <;> first | exact .inl ⟨_, _, rfl, rfl⟩ | exact .inr ⟨_, _, rfl, rfl⟩ | exact q.elim
theorem de_lt (ha : DE X w a ta) (hb : DE X w b tb) : DE X w (.Compare a [.Lt] [b] pos) (dOp rdLt ta tb) := de_cmp (OpR.or op_lt op_lt_str) u_lt ha hb
theorem de_le (ha : DE X w a ta) (hb : DE X w b tb) : DE X w (.Compare a [.LtE] [b] pos) (dOp rdLe ta tb) := de_cmp (OpR.or op_le op_le_str) u_le ha hb
theorem de_gt (ha : DE X w a ta) (hb : DE X w b tb) : DE X w (.Compare a [.Gt] [b] pos) (dOp rdGt ta tb) := de_cmp (OpR.or op_gt op_gt_str) u_gt ha hb
theorem de_ge (ha : DE X w a ta) (hb : DE X w b tb) : DE X w (.Compare a [.GtE] [b] pos) (dOp rdGe ta tb) := de_cmp (OpR.or op_ge op_ge_str) u_ge ha hb
theorem dt_lt (ha : DE X w a ta) (hb : DE X w b tb) : DT X w (.Compare a [.Lt] [b] pos) (dB (dOp rdLt ta tb)) := dt_cmp (OpR.or op_lt op_lt_str) u_lt ha hb
theorem dt_le (ha : DE X w a ta) (hb : DE X w b tb) : DT X w (.Compare a [.LtE] [b] pos) (dB (dOp rdLe ta tb)) := dt_cmp (OpR.or op_le op_le_str) u_le ha hb
theorem dt_gt (ha : DE X w a ta) (hb : DE X w b tb) : DT X w (.Compare a [.Gt] [b] pos) (dB (dOp rdGt ta tb)) := dt_cmp (OpR.or op_gt op_gt_str) u_gt ha hb
theorem dt_ge (ha : DE X w a ta) (hb : DE X w b tb) : DT X w (.Compare a [.GtE] [b] pos) (dB (dOp rdGe ta tb)) := dt_cmp (OpR.or op_ge op_ge_str) u_ge ha hb
theorem de_lele (ha : DE X w a ta) (hb : DE X w b tb) (hc : DE X w c tc) (hm : lastMarks [.LtE, .LtE] [b, c] = false := by with_unfolding_all rfl) : DE X w (.Compare a [.LtE, .LtE] [b, c] pos) (dChain rdLe rdLe ta tb tc) := de_chain (OpR.or op_le op_le_str) u_le (OpR.or op_le op_le_str) u_le ha hb hc (pe_chain (OpR.or op_le op_le_str) (OpR.or op_le op_le_str) ha hb hc hm)
theorem dt_lele (ha : DE X w a ta) (hb : DE X w b tb) (hc : DE X w c tc) (hm : lastMarks [.LtE, .LtE] [b, c] = false := by with_unfolding_all rfl) : DT X w (.Compare a [.LtE, .LtE] [b, c] pos) (dB (dChain rdLe rdLe ta tb tc)) := dt_chain (OpR.or op_le op_le_str) u_le (OpR.or op_le op_le_str) u_le ha hb hc (pt_chain (OpR.or op_le op_le_str) (OpR.or op_le op_le_str) ha hb hc hm)

/-! ### is None, in -/
def isNonD : D → Bool
  | .non => true
  | _ => false
theorem RV.isN {K : PySem.W.Frag} {H : Hp} {M : DHp} : ∀ {d : D} {v : V}, RV K H M d v → decide (v = .non) = isNonD d
  | .non, v, h => by cases (show v = V.non from h); rfl
  | .bl b, v, h => by cases (show v = V.bl b from h); rfl
  | .int b, v, h => by cases (show v = V.int b from h); rfl
  | .str b, v, h => by cases (show v = V.str b from h); rfl
  | .ty b, v, h => by cases (show v = V.ty b from h); rfl
  | .ref b, v, h => by cases (show v = V.ref b from h); rfl
  | .scr b, v, h => by obtain ⟨a, e, _⟩ := h; subst e; rfl
  | .tup l, v, h => by obtain ⟨a, xs, e, _⟩ := h; subst e; rfl
  | .lst l, v, h => by obtain ⟨a, xs, e, _⟩ := h; subst e; rfl
def rdIsN : R2D := fun d e M Q => e = .non ∧ Q (.bl (isNonD d)) M
def rdNotN : R2D := fun d e M Q => e = .non ∧ Q (.bl (!isNonD d)) M
theorem u_isN {K : PySem.W.Frag} : Up2 K (fun x y H Q => y = .non ∧ Q (.bl (decide (x = .non))) H) rdIsN := fun x y H Q d e M Qd rm rx ry q k => by
  obtain ⟨rfl, q⟩ := q
  exact ⟨ry, by rw [rx.isN]; exact k _ H (.bl _) M rfl rm .refl q⟩
theorem u_notN {K : PySem.W.Frag} : Up2 K (fun x y H Q => y = .non ∧ Q (.bl (!decide (x = .non))) H) rdNotN := fun x y H Q d e M Qd rm rx ry q k => by
  obtain ⟨rfl, q⟩ := q
  exact ⟨ry, by rw [rx.isN]; exact k _ H (.bl _) M rfl rm .refl q⟩
theorem de_is (ha : DE X w a ta) (hb : DE X w b tb) : DE X w (.Compare a [.Is] [b] pos) (dOp rdIsN ta tb) := de_cmp op_isN u_isN ha hb
theorem dt_is (ha : DE X w a ta) (hb : DE X w b tb) : DT X w (.Compare a [.Is] [b] pos) (dB (dOp rdIsN ta tb)) := dt_cmp op_isN u_isN ha hb
theorem de_isnot (ha : DE X w a ta) (hb : DE X w b tb) : DE X w (.Compare a [.IsNot] [b] pos) (dOp rdNotN ta tb) := de_cmp op_notN u_notN ha hb
theorem dt_isnot (ha : DE X w a ta) (hb : DE X w b tb) : DT X w (.Compare a [.IsNot] [b] pos) (dB (dOp rdNotN ta tb)) := dt_cmp op_notN u_notN ha hb
/-- in a list or tuple of data; a sign in a text -/
theorem in_D (hu : X.A.units + 160 < cLine) : OpR X (compareOp .In) (fun x y H Q => ∃ d e es, Dp X.K H x d ∧ Dp X.K H y e ∧ d.plain = true ∧ PyData.plainAll es = true ∧ (e = .list es ∨ e = .tuple es) ∧ d.depth ≤ 100 ∧ Q (.bl (es.any fun z => PyData.eqv z d)) H) := by
  intro pins s σ H x y v u Q I rx ry h
  obtain ⟨d, e, es, hd, he, sd, se, ee, hz, q⟩ := h
  obtain ⟨as, r1⟩ := Dp.reads I d x v hd rx
  obtain ⟨bs, r2⟩ := Dp.reads I e y u he ry
  rcases ee with rfl | rfl
  · exact SeqAt.in_list_data r2 r1 se sd (by omega) ⟨.bl _, H, I, rfl, q⟩
  · exact SeqAt.in_tuple_data r2 r1 se sd (by omega) ⟨.bl _, H, I, rfl, q⟩
theorem notin_D (hu : X.A.units + 160 < cLine) : OpR X (compareOp .NotIn) (fun x y H Q => ∃ d e es, Dp X.K H x d ∧ Dp X.K H y e ∧ d.plain = true ∧ PyData.plainAll es = true ∧ (e = .list es ∨ e = .tuple es) ∧ d.depth ≤ 100 ∧ Q (.bl (!es.any fun z => PyData.eqv z d)) H) := by
  intro pins s σ H x y v u Q I rx ry h
  obtain ⟨d, e, es, hd, he, sd, se, ee, hz, q⟩ := h
  obtain ⟨as, r1⟩ := Dp.reads I d x v hd rx
  obtain ⟨bs, r2⟩ := Dp.reads I e y u he ry
  rcases ee with rfl | rfl
  · exact SeqAt.notIn_list_data r2 r1 se sd (by omega) ⟨.bl _, H, I, rfl, q⟩
  · exact SeqAt.notIn_tuple_data r2 r1 se sd (by omega) ⟨.bl _, H, I, rfl, q⟩
def inSt (s z : Str) : Option Bool := match s.cps.toList with
  | [c] => some (decide (c ∈ z.cps.toList))
  | _ => none
def rdInN (neg : Bool) : R2D := fun d e M Q => match d, e with
  | .str s, .str z => ∃ c, inSt s z = some c ∧ Q (.bl (if neg then !c else c)) M
  | d, e => dat d = true ∧ dep d ≤ 100 ∧ ∃ l, seqOf M e = some l ∧ dats l = true ∧ Q (.bl (if neg then !l.any (fun z => eqD z d) else l.any fun z => eqD z d)) M
theorem toPs_any {l : List D} {d : D} : (toPs l).any (fun z => PyData.eqv z (toP d)) = l.any fun z => eqD z d := by
  induction l with
  | nil => rfl
  | cons e l ih => simp only [toPs, List.any_cons, ih, eqD]
theorem RV.seqP {K : PySem.W.Frag} {H : Hp} {M : DHp} {d : D} {v : V} {l : List D} (rm : RM K H M) (rv : RV K H M d v) (h : seqOf M d = some l) (hd : dats l = true) : Dp K H v (.list (toPs l)) ∨ Dp K H v (.tuple (toPs l)) := by
  obtain ⟨a, xs, rfl, q, r⟩ := rv.seqS rm h
  rcases q with q | q
  · exact .inl (.lst q (r.dp l xs hd))
  · exact .inr (.tup q (r.dp l xs hd))
theorem inSt_of {s z : Str} {c : Bool} (h : inSt s z = some c) : ∃ k, s = ⟨#[k]⟩ ∧ c = decide (k ∈ z.cps.toList) := by
  unfold inSt at h
  split at h
  · rename_i k e
    cases h
    refine ⟨k, ?_, rfl⟩
    obtain ⟨a⟩ := s
    congr 1
    apply Array.toList_inj.mp
    simpa using e
  · cases h
theorem u_in {K : PySem.W.Frag} : Up2 K (fun x y H Q => (∃ d e es, Dp K H x d ∧ Dp K H y e ∧ d.plain = true ∧ PyData.plainAll es = true ∧ (e = .list es ∨ e = .tuple es) ∧ d.depth ≤ 100 ∧ Q (.bl (es.any fun z => PyData.eqv z d)) H) ∨
    ∃ (c : Nat) (z : Str), x = .str ⟨#[c]⟩ ∧ y = .str z ∧ Q (.bl (decide (c ∈ z.cps.toList))) H) (rdInN false) := fun x y H Q d e M Qd rm rx ry q k => by
  unfold rdInN at q
  split at q
  · rename_i s z
    obtain ⟨c, hc, q⟩ := q
    obtain ⟨n, rfl, rfl⟩ := inSt_of hc
    exact .inr ⟨n, z, rx, ry, k _ H (.bl _) M rfl rm .refl q⟩
  · obtain ⟨h1, h2, l, h3, h4, q⟩ := q
    refine .inl ?_
    rcases ry.seqP rm h3 h4 with w | w
    · exact ⟨_, _, toPs l, rx.dp _ _ h1, w, toP_plain _, toPs_plain _, .inl rfl, h2, by rw [toPs_any]; exact k _ H (.bl _) M rfl rm .refl q⟩
    · exact ⟨_, _, toPs l, rx.dp _ _ h1, w, toP_plain _, toPs_plain _, .inr rfl, h2, by rw [toPs_any]; exact k _ H (.bl _) M rfl rm .refl q⟩
theorem u_notin {K : PySem.W.Frag} : Up2 K (fun x y H Q => (∃ d e es, Dp K H x d ∧ Dp K H y e ∧ d.plain = true ∧ PyData.plainAll es = true ∧ (e = .list es ∨ e = .tuple es) ∧ d.depth ≤ 100 ∧ Q (.bl (!es.any fun z => PyData.eqv z d)) H) ∨
    ∃ (c : Nat) (z : Str), x = .str ⟨#[c]⟩ ∧ y = .str z ∧ Q (.bl (!decide (c ∈ z.cps.toList))) H) (rdInN true) := fun x y H Q d e M Qd rm rx ry q k => by
  unfold rdInN at q
  split at q
  · rename_i s z
    obtain ⟨c, hc, q⟩ := q
    obtain ⟨n, rfl, rfl⟩ := inSt_of hc
    exact .inr ⟨n, z, rx, ry, k _ H (.bl _) M rfl rm .refl q⟩
  · obtain ⟨h1, h2, l, h3, h4, q⟩ := q
    refine .inl ?_
    rcases ry.seqP rm h3 h4 with w | w
    · exact ⟨_, _, toPs l, rx.dp _ _ h1, w, toP_plain _, toPs_plain _, .inl rfl, h2, by rw [toPs_any]; exact k _ H (.bl _) M rfl rm .refl q⟩
    · exact ⟨_, _, toPs l, rx.dp _ _ h1, w, toP_plain _, toPs_plain _, .inr rfl, h2, by rw [toPs_any]; exact k _ H (.bl _) M rfl rm .refl q⟩
theorem de_in (hu : X.A.units + 160 < cLine) (ha : DE X w a ta) (hb : DE X w b tb) (hm : behindInMarks .In b = false := by rfl) : DE X w (.Compare a [.In] [b] pos) (dOp (rdInN false) ta tb) := de_cmp (OpR.or (in_D hu) op_in_sign) u_in ha hb hm
theorem dt_in (hu : X.A.units + 160 < cLine) (ha : DE X w a ta) (hb : DE X w b tb) (hm : behindInMarks .In b = false := by rfl) : DT X w (.Compare a [.In] [b] pos) (dB (dOp (rdInN false) ta tb)) := dt_cmp (OpR.or (in_D hu) op_in_sign) u_in ha hb hm
theorem de_notin (hu : X.A.units + 160 < cLine) (ha : DE X w a ta) (hb : DE X w b tb) (hm : behindInMarks .NotIn b = false := by rfl) : DE X w (.Compare a [.NotIn] [b] pos) (dOp (rdInN true) ta tb) := de_cmp (OpR.or (notin_D hu) op_notIn_sign) u_notin ha hb hm
theorem dt_notin (hu : X.A.units + 160 < cLine) (ha : DE X w a ta) (hb : DE X w b tb) (hm : behindInMarks .NotIn b = false := by rfl) : DT X w (.Compare a [.NotIn] [b] pos) (dB (dOp (rdInN true) ta tb)) := dt_cmp (OpR.or (notin_D hu) op_notIn_sign) u_notin ha hb hm
end
end Dl
set_option Elab.async false
set_option linter.all false
set_option maxRecDepth 100000
set_option maxHeartbeats 1000000
/-! D5: arithmetic, +, calls, methods, subscripts, slices, f-texts over data. -/
namespace Dl
open PySem PySem.Spec PyProof.Rows L2

/-! ### rules of ours by values -/
section
variable {X : Cx}
/-- a text many times -/
theorem op_strMul : OpR X (binaryOp .Mult) (fun x y H Q => ∃ z i, x = .str z ∧ y = .int i ∧ 0 ≤ i ∧ i ≤ 1048576 ∧ z.length ≤ 16 ∧ Q (.str (Txt.mul z i)) H) := by
  intro pins s σ H x y v u Q I rx ry h
  obtain ⟨z, i, rfl, rfl, h0, h1, h2, q⟩ := h
  obtain ⟨t, rfl⟩ := rx
  obtain ⟨k, rfl⟩ := ry
  exact SB.mul (mulOk_of 16 1048576 h2 h1 (by omega) (by decide) (by decide)) fun t' k => ⟨.str _, H, I.tok _, ⟨t', rfl⟩, q⟩
/-- great powers -/
def CPowW (i j : Int) : Prop := 0 ≤ j ∧ j ≤ 1000 ∧ i.natAbs < 2 ^ 10000
theorem op_powW : OpR X (binaryOp .Pow) (rI CPowW fun i j => .int (i ^ j.toNat)) := opI fun i j _ _ _ _ _ hc q => by
  refine pow_int hc.1 ?_ q
  have hb : Builtin.Int.intBits i ≤ 10000 := intBits_le hc.2.2
  have h1 : (Builtin.Int.intBits i : Int) * j ≤ 10000 * j := Int.mul_le_mul_of_nonneg_right (by omega) hc.1
  have := hc.2.1
  omega
/-- list(text) -/
theorem call_listStr (hc : X.calm = true) : CallR X (.type "list") (fun xs H Q => ∃ z, xs = [.str z] ∧ z.length ≤ sizeLine ∧ ∀ p, H p = none → Q (.ref p) (upd H p (.lst ((signs z).map V.str)))) := by
  intro pins s σ H xs us Q I r h
  obtain ⟨z, rfl, hz, q⟩ := h
  obtain ⟨u, rfl, rx⟩ := vals1 r
  obtain ⟨t, rfl⟩ := rx
  refine call_list_str (I.ok.hd hc) z t (fun h' tk acc' c' kp e it => ?_) hz
  have hl : ((signs z).map V.str).length = z.length := by simp [signs, Str.length]
  refine ⟨.ref s.heap.objs.size, upd H s.heap.objs.size (.lst ((signs z).map V.str)), I.laid (t' := tk) kp (Nat.le_refl _) ⟨by rw [hl]; exact hz, acc'.toList, c', ?_, by simpa using e⟩, rfl, q _ (I.hok.fresh (Nat.le_refl _))⟩
  have key : ∀ (xs : List V) (us : List Value), xs.length = us.length → (∀ (i : Nat) v, us[i]? = some v → ∃ x, xs[i]? = some x ∧ RelV x v) → Vals xs us := by
    intro xs
    induction xs with
    | nil => intro us hl _; cases us with
      | nil => exact .nil
      | cons _ _ => cases hl
    | cons x xs ih =>
      intro us hl h
      cases us with
      | nil => cases hl
      | cons u us =>
        obtain ⟨y, e1, r1⟩ := h 0 u rfl
        cases e1
        exact .cons r1 (ih us (by simpa using hl) fun i v e => by simpa using h (i + 1) v (by simpa using e))
  refine key _ _ (by rw [hl, Array.length_toList, it.1]; rfl) fun i v e => ?_
  obtain ⟨c, u, hc, rfl⟩ := it.2 i v (by simpa using e)
  refine ⟨.str ⟨#[c]⟩, ?_, ⟨u, rfl⟩⟩
  simp only [signs, List.map_map, List.getElem?_map, Array.getElem?_toList, hc]
  rfl
end

section
variable {X : Cx} {w : Wsh} {a b c : Expr} {ta tb tc : TD} {pos : Pos}

/-! ### + -/
def rdAdd : R2D := fun d e M Q => match d, e with
  | .int i, .int j => Q (.int (i + j)) M
  | .str s, .str t => s.length + t.length ≤ sizeLine ∧ Q (.str (s ++ t)) M
  | .tup xs, .tup ys => xs ≠ [] ∧ xs.length + ys.length ≤ sizeLine ∧ Q (.tup (xs ++ ys)) M
  | d, e => ∃ xs ys, lstOf M d = some xs ∧ lstOf M e = some ys ∧ xs.length + ys.length ≤ sizeLine ∧ Q (.lst (xs ++ ys)) M
theorem u_add {K : PySem.W.Frag} : Up2 K (fun x y H Q => rI0 (fun i j => .int (i + j)) x y H Q ∨ (∃ i j, x = .str i ∧ y = .str j ∧ i.length + j.length ≤ sizeLine ∧ Q (.str (i ++ j)) H) ∨ rCatT K x y H Q ∨ rCat x y H Q) rdAdd := fun x y H Q d e M Qd rm rx ry q k => by
  unfold rdAdd at q
  split at q
  · rename_i i j
    exact .inl ⟨i, j, rx, ry, k _ H (.int _) M rfl rm .refl q⟩
  · rename_i i j
    exact .inr (.inl ⟨i, j, rx, ry, q.1, k _ H (.str _) M rfl rm .refl q.2⟩)
  · rename_i xs ys
    obtain ⟨a1, v1, rfl, h1, r1⟩ := rx.sqT
    obtain ⟨a2, v2, rfl, h2, r2⟩ := ry.sqT
    refine .inr (.inr (.inl ⟨a1, a2, v1, v2, rfl, rfl, h1, h2, fun z => ?_, by rw [r1.length, r2.length]; exact q.2.1, fun z => ?_, fun z p hp => ?_⟩))
    · subst z
      have := r1.length
      cases xs with
      | nil => exact q.1 rfl
      | cons _ _ => cases this
    · subst z
      have := r2.length
      cases ys with
      | nil =>
        have q2 := q.2.2
        rw [List.append_nil] at q2
        exact k _ H _ M rx rm .refl q2
      | cons _ _ => cases this
    · exact k _ _ _ M (RV.tupNew rm hp (r1.append r2)) (rm.new hp) (Kp.new hp) q.2.2
  · obtain ⟨xs, ys, e1, e2, hl, q⟩ := q
    obtain ⟨a1, v1, rfl, h1, r1⟩ := rx.lstH rm e1
    obtain ⟨a2, v2, rfl, h2, r2⟩ := ry.lstH rm e2
    exact .inr (.inr (.inr ⟨a1, a2, v1, v2, rfl, rfl, h1, h2, by rw [r1.length, r2.length]; exact hl, fun p hp => k _ _ _ M (RV.lstNew rm hp (r1.append r2)) (rm.new hp) (Kp.new hp) q⟩))
theorem de_add (ha : DE X w a ta) (hb : DE X w b tb) : DE X w (.BinOp a .Add b pos) (dOp rdAdd ta tb) := de_op (OpR.or op_add (OpR.or op_add_str (OpR.or op_catT op_cat))) u_add ha hb

/-! ### -, *, //, %, ** -/
def rdSub : R2D := fun d e M Q => match d, e with
  | .int i, .int j => Q (.int (i - j)) M
  | _, _ => False
def rdMod : R2D := fun d e M Q => match d, e with
  | .int i, .int j => 0 < j ∧ Q (.int (i % j)) M
  | _, _ => False
def rdDiv : R2D := fun d e M Q => match d, e with
  | .int i, .int j => CDivW i j ∧ Q (.int (i / j)) M
  | _, _ => False
def rdPow : R2D := fun d e M Q => match d, e with
  | .int i, .int j => CPowW i j ∧ Q (.int (i ^ j.toNat)) M
  | _, _ => False
def rdMul : R2D := fun d e M Q => match d, e with
  | .int i, .int j => CMulW i j ∧ Q (.int (i * j)) M
  | .str z, .int i => (0 ≤ i ∧ i ≤ 1048576 ∧ z.length ≤ 16) ∧ Q (.str (Txt.mul z i)) M
  | _, _ => False
theorem u_sub {K : PySem.W.Frag} : Up2 K (rI0 fun i j => .int (i - j)) rdSub := fun x y H Q d e M Qd rm rx ry q k => by
  unfold rdSub at q
  split at q
  · exact ⟨_, _, rx, ry, k _ H (.int _) M rfl rm .refl q⟩
  · exact q.elim
theorem u_mod {K : PySem.W.Frag} : Up2 K (rI (fun _ j => 0 < j) fun i j => .int (i % j)) rdMod := fun x y H Q d e M Qd rm rx ry q k => by
  unfold rdMod at q
  split at q
  · exact ⟨_, _, rx, ry, q.1, k _ H (.int _) M rfl rm .refl q.2⟩
  · exact q.elim
theorem u_div {K : PySem.W.Frag} : Up2 K (rI CDivW fun i j => .int (i / j)) rdDiv := fun x y H Q d e M Qd rm rx ry q k => by
  unfold rdDiv at q
  split at q
  · exact ⟨_, _, rx, ry, q.1, k _ H (.int _) M rfl rm .refl q.2⟩
  · exact q.elim
theorem u_pow {K : PySem.W.Frag} : Up2 K (rI CPowW fun i j => .int (i ^ j.toNat)) rdPow := fun x y H Q d e M Qd rm rx ry q k => by
  unfold rdPow at q
  split at q
  · exact ⟨_, _, rx, ry, q.1, k _ H (.int _) M rfl rm .refl q.2⟩
  · exact q.elim
theorem u_mul {K : PySem.W.Frag} : Up2 K (fun x y H Q => rI CMulW (fun i j => .int (i * j)) x y H Q ∨ ∃ z i, x = .str z ∧ y = .int i ∧ 0 ≤ i ∧ i ≤ 1048576 ∧ z.length ≤ 16 ∧ Q (.str (Txt.mul z i)) H) rdMul := fun x y H Q d e M Qd rm rx ry q k => by
  unfold rdMul at q
  split at q
  · exact .inl ⟨_, _, rx, ry, q.1, k _ H (.int _) M rfl rm .refl q.2⟩
  · exact .inr ⟨_, _, rx, ry, q.1.1, q.1.2.1, q.1.2.2, k _ H (.str _) M rfl rm .refl q.2⟩
  · exact q.elim
theorem de_sub (ha : DE X w a ta) (hb : DE X w b tb) : DE X w (.BinOp a .Sub b pos) (dOp rdSub ta tb) := de_op op_sub u_sub ha hb
theorem de_mod (ha : DE X w a ta) (hb : DE X w b tb) : DE X w (.BinOp a .Mod b pos) (dOp rdMod ta tb) := de_op op_mod u_mod ha hb
theorem de_div (ha : DE X w a ta) (hb : DE X w b tb) : DE X w (.BinOp a .FloorDiv b pos) (dOp rdDiv ta tb) := de_op op_fdivW u_div ha hb
theorem de_pow (ha : DE X w a ta) (hb : DE X w b tb) : DE X w (.BinOp a .Pow b pos) (dOp rdPow ta tb) := de_op op_powW u_pow ha hb
theorem de_mul (ha : DE X w a ta) (hb : DE X w b tb) : DE X w (.BinOp a .Mult b pos) (dOp rdMul ta tb) := de_op (OpR.or op_mulW op_strMul) u_mul ha hb
def rdNeg : D → DHp → QD → Prop := fun d M Q => match d with
  | .int i => Q (.int (-i)) M
  | _ => False
theorem u_neg {K : PySem.W.Frag} : Up1 K (rU fun i => .int (-i)) rdNeg := fun x H Q d M Qd rm rx q k => by
  unfold rdNeg at q
  split at q
  · exact ⟨_, rx, k _ H (.int _) M rfl rm .refl q⟩
  · exact q.elim
theorem de_neg (ha : DE X w a ta) : DE X w (.UnaryOp .USub a pos) (dUn rdNeg ta) := de_un un_neg u_neg ha

/-! ### subscripts, slices -/
def rdIx : R2D := fun d e M Q => match d, e with
  | .str z, .int i => z.length ≤ sizeLine ∧ ∃ c, atI z.cps.toList i = some c ∧ Q (.str ⟨#[c]⟩) M
  | d, .int i => ∃ l x, seqOf M d = some l ∧ atI l i = some x ∧ Q x M
  | _, _ => False
theorem RVs.atI {K : PySem.W.Frag} {H : Hp} {M : DHp} {l : List D} {xs : List V} {i : Int} {x : D} (r : RVs K H M l xs) (h : L2.atI l i = some x) : ∃ v, L2.atI xs i = some v ∧ RV K H M x v := by
  unfold L2.atI at h ⊢
  rw [r.length]
  cases e : ixN l.length i with
  | none => rw [e] at h; cases h
  | some j =>
    rw [e] at h
    exact r.get h
theorem u_ix {K : PySem.W.Frag} : Up2 K (fun x y H Q => rIxL K x y H Q ∨ rIxT K x y H Q ∨ rIxS x y H Q) rdIx := fun x y H Q d e M Qd rm rx ry q k => by
  unfold rdIx at q
  split at q
  · obtain ⟨hz, c, hc, q⟩ := q
    exact .inr (.inr ⟨_, _, c, rx, ry, hz, hc, k _ H (.str _) M rfl rm .refl q⟩)
  · obtain ⟨l, z, e1, e2, q⟩ := q
    obtain ⟨a, xs, rfl, h, r⟩ := rx.seqS rm e1
    obtain ⟨v, e3, rv⟩ := r.atI e2
    rcases h with h | h
    · exact .inl ⟨a, xs, _, v, rfl, ry, h, e3, k v H z M rv rm .refl q⟩
    · exact .inr (.inl ⟨a, xs, _, v, rfl, ry, h, e3, k v H z M rv rm .refl q⟩)
  · exact q.elim
theorem de_sub_ix (ha : DE X w a ta) (hb : DE X w b tb) (hs : PlainIx b := by exact fun _ _ => rfl) : DE X w (.Subscript a b pos) (dOp rdIx ta tb) := de_ix (IxR.or ix_list (IxR.or ix_tup ix_str)) u_ix ha hb hs
def cutD (xs : List D) (lo hi : Option Int) : List D := (xs.drop (HT.sIx xs.length 0 lo)).take (HT.sIx xs.length xs.length hi - HT.sIx xs.length 0 lo)
def rdSl : RSl := fun d lo hi M Q => match d with
  | .str z => z.length ≤ sizeLine ∧ Q (.str (cutS z lo hi)) M
  | .tup l => Q (.tup (cutD l lo hi)) M
  | d => ∃ l, lstOf M d = some l ∧ Q (.lst (cutD l lo hi)) M
theorem RVs.cut {K : PySem.W.Frag} {H : Hp} {M : DHp} {l : List D} {xs : List V} (r : RVs K H M l xs) (lo hi : Option Int) : RVs K H M (cutD l lo hi) (cutV xs lo hi) := by
  unfold cutD cutV
  rw [r.length]
  exact (r.drop _).take _
theorem u_sl {K : PySem.W.Frag} : UpSl K (fun x lo hi H Q => rSlS x lo hi H Q ∨ rSlA K x lo hi H Q ∨ rSlL K x lo hi H Q) rdSl := fun x lo hi H Q d M Qd rm rx q k => by
  unfold rdSl at q
  split at q
  · exact .inl ⟨_, rx, q.1, k _ H (.str _) M rfl rm .refl q.2⟩
  · rename_i l
    obtain ⟨a, xs, rfl, h, r⟩ := rx.sqT
    refine .inr (.inl ⟨a, xs, rfl, h, fun z => ?_, fun _ p hp => k _ _ _ M (RV.tupNew rm hp (r.cut lo hi)) (rm.new hp) (Kp.new hp) q⟩)
    have e : cutD l lo hi = l := by
      unfold cutD
      rw [r.length] at z
      rw [z.1, z.2]
      simp
    rw [e] at q
    exact k _ H _ M rx rm .refl q
  · obtain ⟨l, e1, q⟩ := q
    obtain ⟨a, xs, rfl, h, r⟩ := rx.lstS rm e1
    exact .inr (.inr ⟨a, xs, rfl, h, fun p hp => k _ _ _ M (RV.lstNew rm hp (r.cut lo hi)) (rm.new hp) (Kp.new hp) q⟩)
theorem de_sl {lo hi : Option Expr} {tl th : TDo} {p2 : Pos} (he : DE X w a ta) (hl : DPo X w lo tl) (hu : DPo X w hi th) : DE X w (.Subscript a (.Slice lo hi none p2) pos) (dSl rdSl ta tl th) := de_slice (SlR.or sl_str (SlR.or sl_tupA sl_list)) u_sl he hl hu
/-- [::-1] -/
def dRev (t : TD) : TD := fun δ M Q => t δ M fun d M1 => ∃ l, lstOf M1 d = some l ∧ Q (.lst l.reverse) M1
theorem de_rev {k : Nat} {p1 p2 p3 : Pos} (he : DE X w a ta) : DE X w (.Subscript a (.Slice none none (some (.UnaryOp .USub (.Constant (.int 1) k p1) p2)) p3) pos) (dRev ta) := weakE (pe_revL he) fun σ H Q h => by
  obtain ⟨δ, M, Qd, rp, q, k, x⟩ := h
  refine ⟨δ, M, _, rp, q, fun v H1 d M1 rv rm1 k1 q1 => ?_, x⟩
  obtain ⟨l, e1, q1⟩ := q1
  obtain ⟨a, xs, rfl, h, r⟩ := rv.lstS rm1 e1
  exact ⟨a, xs, rfl, h, fun p hp => k _ _ _ M1 (RV.lstNew rm1 hp r.reverse) (rm1.new hp) (k1.trans (Kp.new hp)) q1⟩
/-- o[i] = v -/
def rdSet : R3D := fun o i v M Q => match o, i with
  | .ref p, .int k => ∃ l j, M p = some (.lst l) ∧ ixN l.length k = some j ∧ Q (updD M p (.lst (l.set j v)))
  | _, _ => False
theorem u_set {K : PySem.W.Frag} : Up3 K rSetL rdSet := fun o i v H Q od id vd M Qd rm ro ri rv q k => by
  unfold rdSet at q
  split at q
  · rename_i p n
    obtain ⟨l, j, e1, e2, q⟩ := q
    obtain ⟨vs, e3, r⟩ := rm p _ e1
    cases (show o = V.ref p from ro)
    cases (show i = V.int n from ri)
    exact ⟨p, vs, n, j, rfl, rfl, e3, by rw [r.length]; exact e2, k _ _ (rm.wr e1 (r.set j rv)) (Kp.wr e1) q⟩
  · exact q.elim
theorem dg_ix {o i : Expr} {to ti : TD} (ho : DE X w o to) (hi : DE X w i ti)
    (ha : ∀ v, assign (.Subscript o i pos) X.env v = (do
      let ov ← holding [v] (eval o X.env)
      let iv ← holding [v, ov] (eval i X.env)
      standAt pos
      holding [v, ov, iv] (setItem ov iv v)
      release [v, ov, iv] []) := by intro _; rfl) : DG X w (.Subscript o i pos) [] (dgSub rdSet to ti) := dg_sub set_list u_set ho hi ha

/-! ### calls -/
theorem RVs.inv1 {K : PySem.W.Frag} {H : Hp} {M : DHp} {d : D} {xs : List V} (h : RVs K H M [d] xs) : ∃ v, xs = [v] ∧ RV K H M d v := by
  obtain ⟨v, r, e, h1, h2⟩ := h
  cases (show r = [] from h2)
  exact ⟨v, e, h1⟩
theorem RVs.inv2 {K : PySem.W.Frag} {H : Hp} {M : DHp} {d e : D} {xs : List V} (h : RVs K H M [d, e] xs) : ∃ v u, xs = [v, u] ∧ RV K H M d v ∧ RV K H M e u := by
  obtain ⟨v, r, e, h1, h2⟩ := h
  obtain ⟨u, rfl, h3⟩ := RVs.inv1 h2
  exact ⟨v, u, e, h1, h3⟩
def rdLen : R1D := fun ds M Q => match ds with
  | [.str z] => z.length ≤ sizeLine ∧ Q (.int z.length) M
  | [d] => ∃ l, seqOf M d = some l ∧ Q (.int l.length) M
  | _ => False
theorem u_len {K : PySem.W.Frag} : UpC K (fun xs H Q => ∃ x n, xs = [x] ∧ LenV K x H n ∧ Q (.int n) H) rdLen := fun xs H Q ds M Qd rm r q k => by
  unfold rdLen at q
  split at q
  · obtain ⟨v, rfl, rv⟩ := r.inv1
    cases (show v = V.str _ from rv)
    exact ⟨_, _, rfl, ⟨q.1, rfl⟩, k _ H (.int _) M rfl rm .refl q.2⟩
  · obtain ⟨v, rfl, rv⟩ := r.inv1
    obtain ⟨l, e1, q⟩ := q
    obtain ⟨a, xs, rfl, h, rs⟩ := rv.seqS rm e1
    refine ⟨.ref a, l.length, rfl, ?_, k _ H (.int _) M rfl rm .refl q⟩
    rcases h with h | h
    · exact .inl ⟨xs, h, rs.length.symm⟩
    · exact .inr ⟨xs, h, rs.length.symm⟩
  · exact q.elim
def rdAbs : R1D := fun ds M Q => match ds with
  | [.int i] => Q (.int (if i < 0 then -i else i)) M
  | _ => False
theorem u_abs {K : PySem.W.Frag} : UpC K (fun xs H Q => ∃ i, xs = [.int i] ∧ Q (.int (if i < 0 then -i else i)) H) rdAbs := fun xs H Q ds M Qd rm r q k => by
  unfold rdAbs at q
  split at q
  · obtain ⟨v, rfl, rv⟩ := r.inv1
    cases (show v = V.int _ from rv)
    exact ⟨_, rfl, k _ H (.int _) M rfl rm .refl q⟩
  · exact q.elim
def rdMax : R1D := fun ds M Q => match ds with
  | [.int i, .int j] => Q (.int (if j > i then j else i)) M
  | _ => False
def rdMin : R1D := fun ds M Q => match ds with
  | [.int i, .int j] => Q (.int (if j < i then j else i)) M
  | _ => False
theorem u_max {K : PySem.W.Frag} : UpC K (fun xs H Q => ∃ i j, xs = [.int i, .int j] ∧ Q (.int (if j > i then j else i)) H) rdMax := fun xs H Q ds M Qd rm r q k => by
  unfold rdMax at q
  split at q
  · obtain ⟨v, u, rfl, rv, ru⟩ := r.inv2
    cases (show v = V.int _ from rv)
    cases (show u = V.int _ from ru)
    exact ⟨_, _, rfl, k _ H (.int _) M rfl rm .refl q⟩
  · exact q.elim
theorem u_min {K : PySem.W.Frag} : UpC K (fun xs H Q => ∃ i j, xs = [.int i, .int j] ∧ Q (.int (if j < i then j else i)) H) rdMin := fun xs H Q ds M Qd rm r q k => by
  unfold rdMin at q
  split at q
  · obtain ⟨v, u, rfl, rv, ru⟩ := r.inv2
    cases (show v = V.int _ from rv)
    cases (show u = V.int _ from ru)
    exact ⟨_, _, rfl, k _ H (.int _) M rfl rm .refl q⟩
  · exact q.elim
def rdInt : R1D := fun ds M Q => match ds with
  | [.int i] => Q (.int i) M
  | [.bl k] => Q (.int (if k then 1 else 0)) M
  | [.str a] => ∃ n, PySem.intText? a = some n ∧ a.length ≤ 640 ∧ Q (.int n) M
  | _ => False
theorem u_int {K : PySem.W.Frag} : UpC K (fun xs H Q => ((∃ i, xs = [.int i] ∧ Q (.int i) H) ∨ ∃ k, xs = [.bl k] ∧ Q (.int (if k then 1 else 0)) H) ∨ ∃ a n, xs = [.str a] ∧ PySem.intText? a = some n ∧ a.length ≤ 640 ∧ Q (.int n) H) rdInt := fun xs H Q ds M Qd rm r q k => by
  unfold rdInt at q
  split at q
  · obtain ⟨v, rfl, rv⟩ := r.inv1
    cases (show v = V.int _ from rv)
    exact .inl (.inl ⟨_, rfl, k _ H (.int _) M rfl rm .refl q⟩)
  · obtain ⟨v, rfl, rv⟩ := r.inv1
    cases (show v = V.bl _ from rv)
    exact .inl (.inr ⟨_, rfl, k _ H (.int _) M rfl rm .refl q⟩)
  · obtain ⟨v, rfl, rv⟩ := r.inv1
    cases (show v = V.str _ from rv)
    obtain ⟨n, h1, h2, q⟩ := q
    exact .inr ⟨_, n, rfl, h1, h2, k _ H (.int _) M rfl rm .refl q⟩
  · exact q.elim
def rdStr : R1D := fun ds M Q => match ds with
  | [.int i] => i.natAbs.log2 < 1920 ∧ Q (.str (toString i)) M
  | _ => False
theorem u_str {K : PySem.W.Frag} : UpC K (fun xs H Q => ∃ i, xs = [.int i] ∧ i.natAbs.log2 < 1920 ∧ Q (.str (toString i)) H) rdStr := fun xs H Q ds M Qd rm r q k => by
  unfold rdStr at q
  split at q
  · obtain ⟨v, rfl, rv⟩ := r.inv1
    cases (show v = V.int _ from rv)
    exact ⟨_, rfl, q.1, k _ H (.str _) M rfl rm .refl q.2⟩
  · exact q.elim
def rdAll : R1D := fun ds M Q => match ds with
  | [d] => ∃ bs : List Bool, lstOf M d = some (bs.map D.bl) ∧ Q (.bl (bs.all id)) M
  | _ => False
theorem u_all {K : PySem.W.Frag} : UpC K (rAll K) rdAll := fun xs H Q ds M Qd rm r q k => by
  unfold rdAll at q
  split at q
  · obtain ⟨v, rfl, rv⟩ := r.inv1
    obtain ⟨bs, e1, q⟩ := q
    obtain ⟨a, xs, rfl, h, rs⟩ := rv.lstS rm e1
    cases rs.bls_inv
    exact ⟨a, bs, rfl, h, k _ H (.bl _) M rfl rm .refl q⟩
  · exact q.elim
def rdAny : R1D := fun ds M Q => match ds with
  | [d] => ∃ bs : List Bool, lstOf M d = some (bs.map D.bl) ∧ Q (.bl (bs.any id)) M
  | _ => False
theorem u_any {K : PySem.W.Frag} : UpC K (rAny K) rdAny := fun xs H Q ds M Qd rm r q k => by
  unfold rdAny at q
  split at q
  · obtain ⟨v, rfl, rv⟩ := r.inv1
    obtain ⟨bs, e1, q⟩ := q
    obtain ⟨a, xs, rfl, h, rs⟩ := rv.lstS rm e1
    cases rs.bls_inv
    exact ⟨a, bs, rfl, h, k _ H (.bl _) M rfl rm .refl q⟩
  · exact q.elim
/-- a new tuple of a list's items; a tuple itself -/
def rdTuple : R1D := fun ds M Q => match ds with
  | [.tup l] => Q (.tup l) M
  | [d] => ∃ l, lstOf M d = some l ∧ Q (.tup l) M
  | _ => False
theorem u_tuple {K : PySem.W.Frag} : UpC K (fun xs H Q => ∃ p ys, xs = [.ref p] ∧ ((SqL K H p ys ∧ ∀ l, H l = none → Q (.ref l) (upd H l (.tup ys))) ∨ (SqT K H p ys ∧ Q (.ref p) H))) rdTuple := fun xs H Q ds M Qd rm r q k => by
  unfold rdTuple at q
  split at q
  · obtain ⟨v, rfl, rv⟩ := r.inv1
    obtain ⟨a, xs, e, h, rs⟩ := rv.sqT
    subst e
    exact ⟨a, xs, rfl, .inr ⟨h, k _ H _ M rv rm .refl q⟩⟩
  · obtain ⟨v, rfl, rv⟩ := r.inv1
    obtain ⟨l, e1, q⟩ := q
    obtain ⟨a, xs, rfl, h, rs⟩ := rv.lstS rm e1
    exact ⟨a, xs, rfl, .inl ⟨h, fun p hp => k _ _ _ M (RV.tupNew rm hp rs) (rm.new hp) (Kp.new hp) q⟩⟩
  · exact q.elim
/-- list(x): tracked -/
def rdListT : R1D := fun ds M Q => match ds with
  | [.str z] => z.length ≤ sizeLine ∧ ∀ p, M p = none → Q (.ref p) (updD M p (.lst ((signs z).map D.str)))
  | [d] => ∃ l, seqOf M d = some l ∧ ∀ p, M p = none → Q (.ref p) (updD M p (.lst l))
  | _ => False
def rdList : R1D := fun ds M Q => match ds with
  | [.str z] => z.length ≤ sizeLine ∧ Q (.lst ((signs z).map D.str)) M
  | [d] => ∃ l, seqOf M d = some l ∧ Q (.lst l) M
  | _ => False
theorem u_listT {K : PySem.W.Frag} : UpC K (fun xs H Q => (∃ z, xs = [.str z] ∧ z.length ≤ sizeLine ∧ ∀ p, H p = none → Q (.ref p) (upd H p (.lst ((signs z).map V.str)))) ∨ ∃ p ys, xs = [.ref p] ∧ (SqL K H p ys ∨ SqT K H p ys) ∧ ∀ l, H l = none → Q (.ref l) (upd H l (.lst ys))) rdListT := fun xs H Q ds M Qd rm r q k => by
  unfold rdListT at q
  split at q
  · rename_i z
    obtain ⟨v, rfl, rv⟩ := r.inv1
    cases (show v = V.str _ from rv)
    refine .inl ⟨_, rfl, q.1, fun p hp => ?_⟩
    have rs : RVs K H M ((signs z).map D.str) ((signs z).map V.str) := RVs.strs _
    exact k _ _ (.ref p) _ rfl (rm.newD hp rs) (Kp.newD hp) (q.2 p (rm.free hp))
  · obtain ⟨v, rfl, rv⟩ := r.inv1
    obtain ⟨l, e1, q⟩ := q
    obtain ⟨a, xs, rfl, h, rs⟩ := rv.seqS rm e1
    exact .inr ⟨a, xs, rfl, h, fun p hp => k _ _ (.ref p) _ rfl (rm.newD hp rs) (Kp.newD hp) (q p (rm.free hp))⟩
  · exact q.elim
theorem u_list {K : PySem.W.Frag} : UpC K (fun xs H Q => (∃ z, xs = [.str z] ∧ z.length ≤ sizeLine ∧ ∀ p, H p = none → Q (.ref p) (upd H p (.lst ((signs z).map V.str)))) ∨ ∃ p ys, xs = [.ref p] ∧ (SqL K H p ys ∨ SqT K H p ys) ∧ ∀ l, H l = none → Q (.ref l) (upd H l (.lst ys))) rdList := fun xs H Q ds M Qd rm r q k => by
  unfold rdList at q
  split at q
  · rename_i z
    obtain ⟨v, rfl, rv⟩ := r.inv1
    cases (show v = V.str _ from rv)
    refine .inl ⟨_, rfl, q.1, fun p hp => ?_⟩
    exact k _ _ _ M (RV.lstNew rm hp (RVs.strs _)) (rm.new hp) (Kp.new hp) q.2
  · obtain ⟨v, rfl, rv⟩ := r.inv1
    obtain ⟨l, e1, q⟩ := q
    obtain ⟨a, xs, rfl, h, rs⟩ := rv.seqS rm e1
    exact .inr ⟨a, xs, rfl, h, fun p hp => k _ _ _ M (RV.lstNew rm hp rs) (rm.new hp) (Kp.new hp) q⟩
  · exact q.elim
/-- a value's built-in type -/
def tyD (M : DHp) : D → Option String
  | .non => some "NoneType"
  | .bl _ => some "bool"
  | .int _ => some "int"
  | .str _ => some "str"
  | .ty _ => none
  | .scr _ => none
  | .tup _ => some "tuple"
  | .lst _ => some "list"
  | .ref p => match M p with
    | some (.lst _) => some "list"
    | some (.raw (.dK _)) => some "dict"
    | _ => none
theorem RV.tyX {K : PySem.W.Frag} {H : Hp} {M : DHp} {d : D} {v : V} {T : String} (rm : RM K H M) (rv : RV K H M d v) (h : tyD M d = some T) : TyX K H v (.type T) := by
  cases d with
  | non => cases h; cases (show v = V.non from rv); exact .base .non
  | bl b => cases h; cases (show v = V.bl b from rv); exact .base (.bl b)
  | int b => cases h; cases (show v = V.int b from rv); exact .base (.int b)
  | str b => cases h; cases (show v = V.str b from rv); exact .base (.str b)
  | ty n => cases h
  | scr n => cases h
  | tup l =>
    cases h
    obtain ⟨a, xs, rfl, q, r⟩ := rv
    rcases q with ⟨q, _⟩ | ⟨o, its, n, q, c, _⟩
    · exact .base (.tup q)
    · exact .kTuple q c
  | lst l =>
    cases h
    obtain ⟨a, xs, rfl, q, _, r⟩ := rv
    exact .base (.lst q)
  | ref p =>
    cases (show v = V.ref p from rv)
    cases e : M p with
    | none => simp [tyD, e] at h
    | some o =>
      have ro := rm p _ e
      cases o with
      | lst l =>
        simp [tyD, e] at h
        subst h
        obtain ⟨vs, q, _⟩ := ro
        exact .base (.lst q)
      | xd u => simp [tyD, e] at h
      | raw u =>
        cases u with
        | dK kvs =>
          simp [tyD, e] at h
          subst h
          exact .base (.dK ro)
        | _ => simp [tyD, e] at h
def rdIsi : R1D := fun ds M Q => match ds with
  | [d, .ty c] => ∃ T b, tyD M d = some T ∧ kitB T c = some b ∧ Q (.bl b) M
  | _ => False
theorem u_isi {K : PySem.W.Frag} : UpC K (rIsi K) rdIsi := fun xs H Q ds M Qd rm r q k => by
  unfold rdIsi at q
  split at q
  · obtain ⟨v, u, rfl, rv, ru⟩ := r.inv2
    cases (show u = V.ty _ from ru)
    obtain ⟨T, b, h1, h2, q⟩ := q
    exact ⟨_, _, _, _, b, rfl, .ty _, rv.tyX rm h1, kit_ty h2, k _ H (.bl _) M rfl rm .refl q⟩
  · exact q.elim
end
end Dl
set_option Elab.async false
set_option linter.all false
set_option maxRecDepth 100000
set_option maxHeartbeats 1000000
/-! D6: built-in calls by name, methods of lists and texts, f-texts, starred items, try over data. -/
namespace Dl
open PySem PySem.Spec PyProof.Rows L2
section
variable {X : Cx} {w : Wsh} {a b c e : Expr} {es : List Expr} {ta tb tc to : TD} {te : TDs} {pos p apos : Pos}

/-! ### calls by name -/
theorem de_len (hm : X.mg "len" = none) (ha : DA X w (e :: es) te) (hg : Gl X "len" := by rfl) (he : starEach (e :: es) X.env = (false, eval e X.env) :: starEach es X.env := by rfl) (hpl : (backTo pos (starEach es X.env)).any (·.1) = false := by rfl) :
    DE X w (.Call (.Name "len" p) (e :: es) [] pos) (dCall rdLen te) := de_callB call_len u_len hg hm (by decide +kernel) ha (by decide) (by decide) he hpl
theorem de_abs (hm : X.mg "abs" = none) (ha : DA X w (e :: es) te) (hg : Gl X "abs" := by rfl) (he : starEach (e :: es) X.env = (false, eval e X.env) :: starEach es X.env := by rfl) (hpl : (backTo pos (starEach es X.env)).any (·.1) = false := by rfl) :
    DE X w (.Call (.Name "abs" p) (e :: es) [] pos) (dCall rdAbs te) := de_callB call_abs u_abs hg hm (by decide +kernel) ha (by decide) (by decide) he hpl
theorem de_max (hc : X.calm = true) (hm : X.mg "max" = none) (ha : DA X w (e :: es) te) (hg : Gl X "max" := by rfl) (he : starEach (e :: es) X.env = (false, eval e X.env) :: starEach es X.env := by rfl) (hpl : (backTo pos (starEach es X.env)).any (·.1) = false := by rfl) :
    DE X w (.Call (.Name "max" p) (e :: es) [] pos) (dCall rdMax te) := de_callB (call_max2 hc) u_max hg hm (by decide +kernel) ha (by decide) (by decide) he hpl
theorem de_min (hc : X.calm = true) (hm : X.mg "min" = none) (ha : DA X w (e :: es) te) (hg : Gl X "min" := by rfl) (he : starEach (e :: es) X.env = (false, eval e X.env) :: starEach es X.env := by rfl) (hpl : (backTo pos (starEach es X.env)).any (·.1) = false := by rfl) :
    DE X w (.Call (.Name "min" p) (e :: es) [] pos) (dCall rdMin te) := de_callB (call_min2 hc) u_min hg hm (by decide +kernel) ha (by decide) (by decide) he hpl
theorem de_all (hc : X.calm = true) (hm : X.mg "all" = none) (ha : DA X w (e :: es) te) (hg : Gl X "all" := by rfl) (he : starEach (e :: es) X.env = (false, eval e X.env) :: starEach es X.env := by rfl) (hpl : (backTo pos (starEach es X.env)).any (·.1) = false := by rfl) :
    DE X w (.Call (.Name "all" p) (e :: es) [] pos) (dCall rdAll te) := de_callB (cr_all hc) u_all hg hm (by decide +kernel) ha (by decide) (by decide) he hpl
theorem de_any (hc : X.calm = true) (hm : X.mg "any" = none) (ha : DA X w (e :: es) te) (hg : Gl X "any" := by rfl) (he : starEach (e :: es) X.env = (false, eval e X.env) :: starEach es X.env := by rfl) (hpl : (backTo pos (starEach es X.env)).any (·.1) = false := by rfl) :
    DE X w (.Call (.Name "any" p) (e :: es) [] pos) (dCall rdAny te) := de_callB (cr_any hc) u_any hg hm (by decide +kernel) ha (by decide) (by decide) he hpl
theorem de_isi (hm : X.mg "isinstance" = none) (ha : DA X w (e :: es) te) (hg : Gl X "isinstance" := by rfl) (he : starEach (e :: es) X.env = (false, eval e X.env) :: starEach es X.env := by rfl) (hpl : (backTo pos (starEach es X.env)).any (·.1) = false := by rfl) :
    DE X w (.Call (.Name "isinstance" p) (e :: es) [] pos) (dCall rdIsi te) := de_callB call_isi u_isi hg hm (by decide +kernel) ha (by decide) (by decide) he hpl
theorem de_intC (hm : X.mg "int" = none) (ha : DA X w (e :: es) te) (hg : Gl X "int" := by rfl) (he : starEach (e :: es) X.env = (false, eval e X.env) :: starEach es X.env := by rfl) (hpl : (backTo pos (starEach es X.env)).any (·.1) = false := by rfl) :
    DE X w (.Call (.Name "int" p) (e :: es) [] pos) (dCall rdInt te) := de_callTy (CallR.or call_int1 call_int_str) u_int hg hm (by decide +kernel) ha (by decide) (by decide) he hpl
theorem de_strC (hm : X.mg "str" = none) (ha : DA X w (e :: es) te) (hg : Gl X "str" := by rfl) (he : starEach (e :: es) X.env = (false, eval e X.env) :: starEach es X.env := by rfl) (hpl : (backTo pos (starEach es X.env)).any (·.1) = false := by rfl) :
    DE X w (.Call (.Name "str" p) (e :: es) [] pos) (dCall rdStr te) := de_callTy call_str_int u_str hg hm (by decide +kernel) ha (by decide) (by decide) he hpl
theorem de_tupleC (hm : X.mg "tuple" = none) (ha : DA X w (e :: es) te) (hg : Gl X "tuple" := by rfl) (he : starEach (e :: es) X.env = (false, eval e X.env) :: starEach es X.env := by rfl) (hpl : (backTo pos (starEach es X.env)).any (·.1) = false := by rfl) :
    DE X w (.Call (.Name "tuple" p) (e :: es) [] pos) (dCall rdTuple te) := de_callTy call_tuple_of u_tuple hg hm (by decide +kernel) ha (by decide) (by decide) he hpl
theorem de_listC (hc : X.calm = true) (hm : X.mg "list" = none) (ha : DA X w (e :: es) te) (hg : Gl X "list" := by rfl) (he : starEach (e :: es) X.env = (false, eval e X.env) :: starEach es X.env := by rfl) (hpl : (backTo pos (starEach es X.env)).any (·.1) = false := by rfl) :
    DE X w (.Call (.Name "list" p) (e :: es) [] pos) (dCall rdList te) := de_callTy (CallR.or (call_listStr hc) call_list_of) u_list hg hm (by decide +kernel) ha (by decide) (by decide) he hpl
theorem de_listCT (hc : X.calm = true) (hm : X.mg "list" = none) (ha : DA X w (e :: es) te) (hg : Gl X "list" := by rfl) (he : starEach (e :: es) X.env = (false, eval e X.env) :: starEach es X.env := by rfl) (hpl : (backTo pos (starEach es X.env)).any (·.1) = false := by rfl) :
    DE X w (.Call (.Name "list" p) (e :: es) [] pos) (dCall rdListT te) := de_callTy (CallR.or (call_listStr hc) call_list_of) u_listT hg hm (by decide +kernel) ha (by decide) (by decide) he hpl

/-! ### methods of lists -/
def isLst (d : D) (M : DHp) : Prop := ∃ l, lstOf M d = some l
theorem ut_lst {K : PySem.W.Frag} : UpTy K "list" isLst := fun x H d M rm rv h => by
  obtain ⟨l, h⟩ := h
  obtain ⟨a, xs, rfl, q, _⟩ := rv.lstS rm h
  exact .inl ⟨rfl, xs, q⟩
def isSt (d : D) (_ : DHp) : Prop := ∃ z, d = .str z
theorem ut_str {K : PySem.W.Frag} : UpTy K "str" isSt := fun x H d M rm rv h => by
  obtain ⟨z, rfl⟩ := h
  cases (show x = V.str z from rv)
  rfl
def rdAppend : RMd := fun o ds M Q => match o, ds with
  | .ref p, [d] => ∃ l, M p = some (.lst l) ∧ l.length < sizeLine ∧ Q .non (updD M p (.lst (l ++ [d])))
  | _, _ => False
theorem u_append {K : PySem.W.Frag} : UpM K rAppend rdAppend := fun x xs H Q d ds M Qd rm rx rs q k => by
  unfold rdAppend at q
  split at q
  · rename_i p d
    obtain ⟨v, rfl, rv⟩ := rs.inv1
    obtain ⟨l, e1, hl, q⟩ := q
    obtain ⟨vs, e2, r⟩ := rm p _ e1
    cases (show x = V.ref p from rx)
    exact ⟨p, vs, v, rfl, rfl, e2, by rw [r.length]; exact hl, k _ _ .non _ rfl (rm.wr e1 (r.append (.one rv))) (Kp.wr e1) q⟩
  · exact q.elim
def rdExtend : RMd := fun o ds M Q => match o, ds with
  | .ref p, [d] => ∃ l m, M p = some (.lst l) ∧ lstOf M d = some m ∧ l.length + m.length ≤ sizeLine ∧ Q .non (updD M p (.lst (l ++ m)))
  | _, _ => False
theorem u_extend {K : PySem.W.Frag} : UpM K rExtend rdExtend := fun x xs H Q d ds M Qd rm rx rs q k => by
  unfold rdExtend at q
  split at q
  · rename_i p d
    obtain ⟨v, rfl, rv⟩ := rs.inv1
    obtain ⟨l, m, e1, e3, hl, q⟩ := q
    obtain ⟨vs, e2, r⟩ := rm p _ e1
    cases (show x = V.ref p from rx)
    obtain ⟨a2, ys, rfl, e4, r2⟩ := rv.lstH rm e3
    exact ⟨p, a2, vs, ys, rfl, rfl, e2, e4, by rw [r.length, r2.length]; exact hl, k _ _ .non _ rfl (rm.wr e1 (r.append r2)) (Kp.wr e1) q⟩
  · exact q.elim
def rdPop : RMd := fun o ds M Q => match o, ds with
  | .ref p, [] => ∃ l d, M p = some (.lst l) ∧ l[l.length - 1]? = some d ∧ Q d (updD M p (.lst l.dropLast))
  | _, _ => False
theorem u_pop {K : PySem.W.Frag} : UpM K rPop rdPop := fun x xs H Q d ds M Qd rm rx rs q k => by
  unfold rdPop at q
  split at q
  · rename_i p
    cases (show xs = [] from rs)
    obtain ⟨l, d, e1, e3, q⟩ := q
    obtain ⟨vs, e2, r⟩ := rm p _ e1
    cases (show x = V.ref p from rx)
    obtain ⟨y, e4, ry⟩ := r.get e3
    exact ⟨p, vs, y, rfl, rfl, e2, by rw [r.length]; exact e4, k y _ d _ (ry.keep (Kp.wr e1) _ _) (rm.wr e1 r.dropLast) (Kp.wr e1) q⟩
  · exact q.elim
def rdPopAt : RMd := fun o ds M Q => match o, ds with
  | .ref p, [.int i] => ∃ l k d, M p = some (.lst l) ∧ 0 ≤ i ∧ i.toNat = k ∧ l.length ≤ sizeLine ∧ l[k]? = some d ∧ Q d (updD M p (.lst (l.eraseIdx k)))
  | _, _ => False
theorem seqIx {i : Int} {n k : Nat} (h0 : 0 ≤ i) (h1 : i.toNat = k) (h2 : k < n) : seqIndex? i n = some k := by
  have e : ixN n i = some k := by
    unfold ixN
    rw [if_pos h0, if_pos (by omega), h1]
  exact (ixN_seq e).1
theorem u_popAt {K : PySem.W.Frag} : UpM K rPopAt rdPopAt := fun x xs H Q d ds M Qd rm rx rs q k => by
  unfold rdPopAt at q
  split at q
  · rename_i p i
    obtain ⟨v, rfl, rv⟩ := rs.inv1
    cases (show v = V.int i from rv)
    obtain ⟨l, n, d, e1, h0, hn, hz, e3, q⟩ := q
    obtain ⟨vs, e2, r⟩ := rm p _ e1
    cases (show x = V.ref p from rx)
    obtain ⟨y, e4, ry⟩ := r.get e3
    have hlt : n < vs.length := (List.getElem?_eq_some_iff.mp e4).1
    have hz' : vs.length ≤ sizeLine := by rw [r.length]; exact hz
    refine ⟨p, vs, i, n, y, rfl, rfl, e2, by omega, ?_, seqIx h0 hn hlt, e4, k y _ d _ (ry.keep (Kp.wr e1) _ _) (rm.wr e1 (r.eraseIdx n)) (Kp.wr e1) q⟩
    have : sizeLine = 2 ^ 24 := rfl
    omega
  · exact q.elim
theorem de_append (ho : DE X w a to) (ha : DA X w (e :: es) te) (hbase : attributeBase a "append" X.env (eval a X.env) = eval a X.env := by rfl)
    (hfew : ((backTo pos (starEach (e :: es) X.env)).all (fun x => !x.1) && (backToKw pos (keywordEach [] X.env)).all (fun x => x.1.isSome)
      && decide ((e :: es).length + ([] : List Keyword).length + (if ([] : List Keyword).isEmpty then 0 else 1) < 30)) = true := by rfl)
    (hline : (apos.endLine == pos.line) = true := by rfl) (hs : starEach (e :: es) X.env = (false, eval e X.env) :: starEach es X.env := by rfl) (hpl : (backTo pos (starEach es X.env)).any (·.1) = false := by rfl) :
    DE X w (.Call (.Attribute a "append" apos) (e :: es) [] pos) (dMeth isLst rdAppend to te) := de_bm PySem.F.plainAttrs_list PySem.F.slot_list_append PySem.F.type_list_append mt_append ut_lst u_append ho ha hbase hfew hline hs hpl
theorem de_extend (ho : DE X w a to) (ha : DA X w (e :: es) te) (hbase : attributeBase a "extend" X.env (eval a X.env) = eval a X.env := by rfl)
    (hfew : ((backTo pos (starEach (e :: es) X.env)).all (fun x => !x.1) && (backToKw pos (keywordEach [] X.env)).all (fun x => x.1.isSome)
      && decide ((e :: es).length + ([] : List Keyword).length + (if ([] : List Keyword).isEmpty then 0 else 1) < 30)) = true := by rfl)
    (hline : (apos.endLine == pos.line) = true := by rfl) (hs : starEach (e :: es) X.env = (false, eval e X.env) :: starEach es X.env := by rfl) (hpl : (backTo pos (starEach es X.env)).any (·.1) = false := by rfl) :
    DE X w (.Call (.Attribute a "extend" apos) (e :: es) [] pos) (dMeth isLst rdExtend to te) := de_bm PySem.F.plainAttrs_list PySem.F.slot_list_extend PySem.F.type_list_extend mt_extend ut_lst u_extend ho ha hbase hfew hline hs hpl
theorem de_pop (ho : DE X w a to) (hbase : attributeBase a "pop" X.env (eval a X.env) = eval a X.env := by rfl) (hline : (apos.endLine == pos.line) = true := by rfl) :
    DE X w (.Call (.Attribute a "pop" apos) [] [] pos) (dMeth isLst rdPop to dNil) := de_bm0 PySem.F.plainAttrs_list PySem.F.slot_list_pop PySem.F.type_list_pop mt_pop ut_lst u_pop ho hbase hline
theorem de_popAt (ho : DE X w a to) (ha : DA X w (e :: es) te) (hbase : attributeBase a "pop" X.env (eval a X.env) = eval a X.env := by rfl)
    (hfew : ((backTo pos (starEach (e :: es) X.env)).all (fun x => !x.1) && (backToKw pos (keywordEach [] X.env)).all (fun x => x.1.isSome)
      && decide ((e :: es).length + ([] : List Keyword).length + (if ([] : List Keyword).isEmpty then 0 else 1) < 30)) = true := by rfl)
    (hline : (apos.endLine == pos.line) = true := by rfl) (hs : starEach (e :: es) X.env = (false, eval e X.env) :: starEach es X.env := by rfl) (hpl : (backTo pos (starEach es X.env)).any (·.1) = false := by rfl) :
    DE X w (.Call (.Attribute a "pop" apos) (e :: es) [] pos) (dMeth isLst rdPopAt to te) := de_bm PySem.F.plainAttrs_list PySem.F.slot_list_pop PySem.F.type_list_pop mt_popAt ut_lst u_popAt ho ha hbase hfew hline hs hpl

/-! ### split, join -/
def rdSplit : Str → D → DHp → QD → Prop := fun z d M Q => match d with
  | .str b => (b.length == 0) = false ∧ z.length + 2 ≤ sizeLine ∧ Q (.lst ((Txt.split z b).map D.str)) M
  | _ => False
def dSplit (to t : TD) : TD := fun δ M Q => to δ M fun o M1 => match o with
  | .str z => t δ M1 fun x M2 => rdSplit z x M2 Q
  | _ => False
theorem de_split (ho : DE X w a to) (he : DE X w e ta) (hs : starEach [e] X.env = [(false, eval e X.env)] := by rfl) (hbase : attributeBase a "split" X.env (eval a X.env) = eval a X.env := by rfl) (hline : (apos.endLine == pos.line) = true := by rfl) :
    DE X w (.Call (.Attribute a "split" apos) [e] [] pos) (dSplit to ta) := de_m1 PySem.F.slot_str_split PySem.F.type_str_split mt_split (rd := rdSplit) (fun z y H Q d M Qd rm ry q k => by
      unfold rdSplit at q
      split at q
      · cases (show y = V.str _ from ry)
        exact ⟨z, _, rfl, rfl, q.1, q.2.1, fun p hp => k _ _ _ M (RV.lstNew rm hp (RVs.strs _)) (rm.new hp) (Kp.new hp) q.2.2⟩
      · exact q.elim) ho he hs hbase hline
def rdJoin : Str → D → DHp → QD → Prop := fun z d M Q => ∃ ys : List Str, seqOf M d = some (ys.map D.str) ∧ (ys.map (·.length)).sum + ys.length * z.length ≤ 16777216 ∧ Q (.str (Txt.join z ys)) M
def dJoin (to t : TD) : TD := fun δ M Q => to δ M fun o M1 => match o with
  | .str z => t δ M1 fun x M2 => rdJoin z x M2 Q
  | _ => False
theorem de_join (ho : DE X w a to) (he : DE X w e ta) (hs : starEach [e] X.env = [(false, eval e X.env)] := by rfl) (hbase : attributeBase a "join" X.env (eval a X.env) = eval a X.env := by rfl) (hline : (apos.endLine == pos.line) = true := by rfl) :
    DE X w (.Call (.Attribute a "join" apos) [e] [] pos) (dJoin to ta) := de_m1 PySem.F.slot_str_join PySem.F.type_str_join mt_join (rd := rdJoin) (fun z y H Q d M Qd rm ry q k => by
      obtain ⟨ys, e1, hz, q⟩ := q
      obtain ⟨a, xs, rfl, h, r⟩ := ry.seqS rm e1
      cases r.strs_inv
      exact ⟨z, a, ys, rfl, rfl, h, hz, k _ H (.str _) M rfl rm .refl q⟩) ho he hs hbase hline

/-! ### f-texts -/
def rdFmt : D → DHp → QD → Prop := fun d M Q => match d with
  | .str y => y.length ≤ sizeLine ∧ Q (.str y) M
  | .int i => i.natAbs.log2 < 1920 ∧ Q (.str (toString i)) M
  | _ => False
theorem de_fmt (ha : DE X w a ta) : DE X w (.FormattedValue a (-1) none pos) (dUn rdFmt ta) := weakE (pe_fmt ha) fun σ H Q h => by
  obtain ⟨δ, M, Qd, rp, q, k, x⟩ := h
  refine ⟨δ, M, _, rp, q, fun v H1 d M1 rv rm1 k1 q1 => ?_, x⟩
  unfold rdFmt at q1
  split at q1
  · cases (show v = V.str _ from rv)
    exact .inl ⟨_, rfl, q1.1, k _ H1 (.str _) M1 rfl rm1 k1 q1.2⟩
  · cases (show v = V.int _ from rv)
    exact .inr ⟨_, rfl, q1.1, k _ H1 (.str _) M1 rfl rm1 k1 q1.2⟩
  · exact q1.elim
/-- two parts -/
def dJoined2 (t u : TD) : TD := fun δ M Q => t δ M fun x M1 => match x with
  | .str y => (Str.empty ++ y).length ≤ sizeLine ∧ u δ M1 fun z M2 => match z with
    | .str v => (Str.empty ++ y ++ v).length ≤ sizeLine ∧ Q (.str (Str.empty ++ y ++ v)) M2
    | _ => False
  | _ => False
theorem de_joined2 (ha : DE X w a ta) (hb : DE X w b tb) : DE X w (.JoinedStr [a, b] pos) (dJoined2 ta tb) := weakE (pe_joined (.cons ha (.cons hb .nil))) fun σ H Q h => by
  obtain ⟨δ, M, Qd, ⟨rm, rs⟩, q, k, x⟩ := h
  refine ⟨δ, M, _, ⟨rm, rs⟩, q, fun v H1 d M1 rv rm1 k1 q1 => ?_, x⟩
  split at q1
  · cases (show v = V.str _ from rv)
    refine ⟨_, rfl, q1.1, δ, M1, _, ⟨rm1, rs.keep k1⟩, q1.2, fun v2 H2 d2 M2 rv2 rm2 k2 q2 => ?_, x.go k1⟩
    split at q2
    · cases (show v2 = V.str _ from rv2)
      exact ⟨_, rfl, q2.1, k _ H2 (.str _) M2 rfl rm2 (k1.trans k2) q2.2⟩
    · exact q2.elim
  · exact q1.elim
theorem de_joined1 (ha : DE X w a ta) : DE X w (.JoinedStr [a] pos) ta := pe_joined1 ha

/-! ### *e in a display or a call -/
def dStar (t : TD) (u : TDs) : TDs := fun δ M Q => t δ M fun x M1 => ∃ l, seqOf M1 x = some l ∧ u δ M1 fun ys M2 => Q (l ++ ys) M2
theorem da_star (h1 : DE X w a ta) (h2 : DA X w es te) (hs : starEach (.Starred a p :: es) X.env = (true, eval a X.env) :: starEach es X.env := by rfl) : DA X w (.Starred a p :: es) (dStar ta te) := weakA (StX.pa_star h1 h2 hs) fun σ H Q h => by
  obtain ⟨δ, M, Qd, ⟨rm, rs⟩, q, k, x⟩ := h
  refine ⟨δ, M, _, ⟨rm, rs⟩, q, fun v H1 d M1 rv rm1 k1 q1 => ?_, x⟩
  obtain ⟨l, e1, q1⟩ := q1
  obtain ⟨a1, xs, rfl, h, r⟩ := rv.seqS rm1 e1
  refine ⟨a1, xs, rfl, h.symm, δ, M1, fun ys M2 => Qd (l ++ ys) M2, ⟨rm1, rs.keep k1⟩, q1, fun ws H2 ds M2 rws rm2 k2 q2 => ?_, x.go k1⟩
  exact k _ H2 _ M2 ((r.keep k2 _ _).append rws) rm2 (k1.trans k2) q2

/-! ### try .. except X: suite -/
def dTry (K : PySem.W.Frag) (wd : WXd) (c : Value) (tb : WXd → TDS) (ts : Option Addr → TDS) : TDS := fun D δ M =>
  tb (fun cl fs δ' M' => ∃ b, PySem.W.exmOne K cl c = some b ∧ (b = true → ts fs D δ' M') ∧ (b = false → wd cl fs δ' M')) D δ M
theorem ds_try_only {x : Str} {c : Value} {body suite : List Stmt} {b₀ : Stmt} {np pos' : Pos} {tb : WXd → TDS} {ts : TDS} (hs : X.stack = X.env :: X.outer) (hf : X.env.frame = some X.env.locals) (hc : Names X x c) (tk : Takes X w.h)
    (hb : ∀ (wd : WXd) (W : WX) (pn : List (Addr × Obj)) (xe : Value → Shared → Prop), Takes (X.tr pn xe) W → PassesOwn (model X.prog X.w) X.A X.env xe → DSs (X.tr pn xe) ⟨wd, W⟩ body (tb wd))
    (hsu : ∀ (a : Addr) (oe : Obj) (cls : Value) (d : Option Addr) (pn : List (Addr × Obj)), Zc cls d oe → (∃ vs, oe.data = .fields vs) → DSs (X.suite a ((a, oe) :: pn)) wN (b₀ :: suite) ts) :
    DS X w (.Try body [.ExceptHandler (some (.Name x np)) none (b₀ :: suite) pos'] [] [] pos) (dTry X.K w.d c tb fun _ => ts) := by
  refine weakS (ps_try_only (tb := fun W D σ H => ∃ wd, upS X.K ⟨wd, W⟩ (tb wd) D σ H) (ts := fun _ _ _ => upS X.K wN ts) hs hf hc tk (fun W pn xe tkW po => ?_) (fun a oe cls d pn hz hd => hsu a oe cls d pn hz hd)) fun D σ H h => ?_
  · exact ⟨fun pins s σ H D I q => by
      obtain ⟨wd, q⟩ := q
      exact (hb wd W pn xe tkW po).run pins s σ H D I q⟩
  · obtain ⟨δ, M, Dd, rp, q, k, x⟩ := h
    refine ⟨_, δ, M, Dd, rp, q, k, fun σ' δ' H' M' cl dd rp' kp hw => ?_⟩
    obtain ⟨b, h1, h2, h3⟩ := hw
    refine ⟨b, h1, fun hb a ha => ?_, fun hb => x σ' δ' H' M' cl dd rp' kp (h3 hb)⟩
    exact ⟨δ', M', Dd, rp', h2 hb, k.go kp, lxN⟩
end
end Dl
set_option Elab.async false
set_option linter.all false
set_option maxRecDepth 100000
set_option maxHeartbeats 1000000
/-! D7: a list comprehension of two clauses whose second source may raise. -/
namespace Dl
open PySem PySem.Spec PyProof.Rows L2

/-- the same context, another wish -/
abbrev setXe (X : Cx) (f : Value → Shared → Prop) : Cx := { X with xe := f }
theorem inv_set {X : Cx} {pins : List (Addr × Obj)} {σ : L2.St} {H : Hp} {s : Shared} {f : Value → Shared → Prop} (I : Inv X pins σ H s) : Inv (setXe X f) pins σ H s :=
  ⟨⟨I.ok.mod, I.ok.kind, I.ok.glob, I.ok.blt, I.ok.above, I.ok.inj, I.ok.has, I.ok.cab, I.ok.hd, I.ok.frames, I.ok.stk, I.ok.exf, I.ok.bs, I.ok.bsz, I.ok.noex, I.ok.exfs, I.ok.funs, I.ok.frf⟩, I.os, I.bare, I.base, I.loc, I.cell, I.free, I.freeC, I.pin, I.hok, I.len⟩
theorem inv_of {X : Cx} {pins : List (Addr × Obj)} {σ : L2.St} {H : Hp} {s : Shared} {f : Value → Shared → Prop} (I : Inv (setXe X f) pins σ H s) : Inv X pins σ H s :=
  ⟨⟨I.ok.mod, I.ok.kind, I.ok.glob, I.ok.blt, I.ok.above, I.ok.inj, I.ok.has, I.ok.cab, I.ok.hd, I.ok.frames, I.ok.stk, I.ok.exf, I.ok.bs, I.ok.bsz, I.ok.noex, I.ok.exfs, I.ok.funs, I.ok.frf⟩, I.os, I.bare, I.base, I.loc, I.cell, I.free, I.freeC, I.pin, I.hok, I.len⟩
/-- what a call may let out is taken -/
def TakesC (X : Cx) (W : WX) : Prop := ∀ σ, PassesAt (L2.CX X.prog X.w) X σ (WE W σ)
theorem Takes.c {X : Cx} {W : WX} (tk : Takes X W) : TakesC X W := fun σ => passAt tk σ
abbrev blkX (X : Cx) (s : Shared) (H : Hp) (scope : Scope) (ce : Env) (fp : List Addr) (f : Value → Shared → Prop) : Cx := setXe (X.blk s H scope ce fp) f

theorem restrictC {h : Heap} {C : Addr} : ∃ G : Heap, (∀ b, b ≠ C → G.get? b = h.get? b) ∧ G.get? C = none := by
  obtain ⟨G, g1, g2⟩ := restrict h fun b => decide (b ≠ C)
  exact ⟨G, fun b hb => g1 b (by simpa using hb), g2 C (by simp)⟩

section
variable {X : Cx} {pins : List (Addr × Obj)} {σ : L2.St} {H : Hp} {s : Shared}
/-- a call's exception leaves the block whose names stand at ce.locals: the def takes it -/
theorem out_of_block {W : WX} {ce : Env} {e : Value} {s' : Shared} (hs : X.stack = X.env :: X.outer) (hf : X.env.frame = some X.env.locals) (tk : Takes X W) (hce : ce.frame = X.env.frame) (I : Inv X pins σ H s)
    (hn : ∃ m, s.heap.Ns ce.locals m) (fC : ∀ H' : Hp, H' ce.locals = none → FpOk X pins H' ce.locals) (nC : H ce.locals = none) (c : CX X.prog X.w X.stack H s (fun cls d H' => W cls d σ H') e s') :
    notedBy (model X.prog X.w) X.A ce (CompFails (model X.prog X.w) X.A X.xe ce) e s' := by
  obtain ⟨a, B, H', cls, d, rfl, fl, hok, ub, na, os, ag, hE⟩ := c
  generalize hC : ce.locals = C at *
  obtain ⟨m, oC, esC, epC, hoC, hdC, hrC⟩ := hn
  have hCf : C ∉ frs X.stack := fun hm => by
    have q := (fC H nC).2.1
    have q2 := (fC H nC).2.2.1
    rcases List.mem_cons.mp (I.stkSub C hm) with z | z
    · exact q z
    · exact q2 z
  have hBC : B.get? C = some oC := ub.keep C oC hoC nC hCf
  have hC' : H' C = none := ub.free C oC hoC nC
  -- the state without the exception, without the block
  obtain ⟨G, g1, g2⟩ := restrict s'.heap fun b => (B.get? b).isSome || decide (b ∈ frs X.stack)
  have st : B.StaysIn s'.heap := fl.1
  have gB : ∀ b o, B.get? b = some o → G.get? b = some o := fun b o q => (g1 b (by simp [q])).trans (st b o q)
  have gF : ∀ b, b ∈ frs X.stack → G.get? b = s'.heap.get? b := fun b hb => g1 b (by simp [hb])
  have og : ∀ b o, G.get? b = some o → s'.heap.get? b = some o ∧ ((B.get? b).isSome = true ∨ b ∈ frs X.stack) := fun b o q => by
    cases k : ((B.get? b).isSome || decide (b ∈ frs X.stack)) with
    | false => rw [g2 b k] at q; cases q
    | true =>
      rw [g1 b k] at q
      exact ⟨q, by simpa [Bool.or_eq_true] using k⟩
  have IG : Inv X pins σ H' { s with heap := G, gens := s'.gens, drawn := s'.drawn, toks := s'.toks } :=
    I.call (ch := []) ⟨fun b o q n hb _ => gB b o (ub.keep b o q n hb), fun b o q n hb _ => (ub.slot b o q hb).imp fun sl k => (gF b hb).trans k, fun b o q n _ => ub.free b o q n, fun b o q _ => by
      by_cases hb : b ∈ frs X.stack
      · obtain ⟨sl, k⟩ := ub.slot b o q hb
        exact ⟨_, (gF b hb).trans k⟩
      · exact (ub.there b o q hb).imp fun o' k => gB b o' k, ub.tups, ub.frzs, ub.tbls⟩ (hok.kept gB) ag fun _ z => nomatch z
  obtain ⟨G2, k1, k2⟩ := restrictC (h := G) (C := C)
  obtain ⟨B2, b1, b2⟩ := restrictC (h := B) (C := C)
  have f := fC H' hC'
  have I2 : Inv X pins σ H' { s with heap := G2, gens := s'.gens, drawn := s'.drawn, toks := s'.toks } :=
    Inv.turned (t' := s'.toks) IG (fun b o hb q => (k1 b hb).trans q) f.1 f.2.1 f.2.2.2.1 f.2.2.2.2.1 f.2.2.2.2.2
  have nb : ∀ b o, G2.get? b = some o → b ∉ frs X.stack → B2.get? b = some o := fun b o q hb => by
    have hbC : b ≠ C := fun z => by rw [z, k2] at q; cases q
    rw [k1 b hbC] at q
    obtain ⟨q1, q2⟩ := og b o q
    rcases q2 with q2 | q2
    · obtain ⟨o', z⟩ := Option.isSome_iff_exists.mp q2
      have z2 := st b o' z
      rw [q1] at z2
      cases z2
      exact (b1 b hbC).trans z
    · exact absurd q2 hb
  have up0 : G2.UpToSlots s'.heap := Heap.UpToSlots.of_keeps fun b o q => by
    have hbC : b ≠ C := fun z => by rw [z, k2] at q; cases q
    rw [k1 b hbC] at q
    exact (og b o q).1
  -- noted
  have hfr : X.A.frames = some (X.env :: X.outer) := by rw [I.ok.frames, hs]
  show wpAny _ _ (noteFrame (.ref a) ce) _ _ s'
  rw [noteFrame_env _ hce]
  rw [hs] at fl
  refine HandSPX.looks_onZ Zc.steady hfr hf fl fun h1 hh1 up1 => ?_
  have hC1 : h1.get? C = some oC := hh1.1 C oC hBC
  refine ⟨m, by rw [hC]; exact ⟨oC, esC, epC, hC1, hdC, hrC⟩, fun h2 m2 hn2 sb => ?_⟩
  rw [hC] at sb hn2
  obtain ⟨q1, q0, ff, tr⟩ := hh1
  have ff2 : h2.FunFrames B2 (X.env :: X.outer) := by
    have z := Heap.FunFrames.sameBut sb hn2 ff
    exact funFrames_none z fun b hb => by
      obtain ⟨hk, _⟩ := ff.mem hb
      cases q : B2.get? b with
      | none => rfl
      | some o =>
        have hbC : b ≠ C := fun z => by rw [z, b2] at q; cases q
        rw [b1 b hbC, hk] at q
        cases q
  have st2 : B2.StaysIn h2 := fun b o q => by
    have hbC : b ≠ C := fun z => by rw [z, b2] at q; cases q
    rw [b1 b hbC] at q
    exact (sb.2 b hbC).trans (q1 b o q)
  have le2 : ∀ b, B.get? b = none → B2.get? b = none := fun b q => by
    by_cases hbC : b = C
    · rw [hbC]; exact b2
    · rw [b1 b hbC]; exact q
  obtain ⟨oe, vs, T, oT, ts, he, hz, hd, h1v, hnT, hTe, hT, hdT, h3⟩ := tr
  have haC : a ≠ C := fun z => by rw [z, hBC] at q0; cases q0
  have hTC : T ≠ C := fun z => by rw [z, hBC] at hnT; cases hnT
  have tr2 : HandSPX.TracedZ h2 B2 a (Zc cls d) (rawInt X.env.locals) := ⟨oe, vs, T, oT, ts, (sb.2 a haC).trans he, hz, hd, h1v, le2 T hnT, hTe, (sb.2 T hTC).trans hT, hdT, h3⟩
  unfold PySem.passOn
  refine wpAny_bind (wpAny_field ((sb.2 a haC).trans he) hd h1v ?_)
  rw [if_neg (show ¬ ((Value.ref T == Value.none) = true) from by simp), hce, hf]
  refine wpAny_bind (HandSPX.setFlight_onZ ⟨st2, le2 a q0, ff2, tr2⟩ fun h3' hh3 up3 => ?_)
  refine wpAny_throw (tk _ _ ⟨a, B2, { s with heap := G2, gens := s'.gens, drawn := s'.drawn, toks := s'.toks }, pins, σ, H', cls, d, rfl, I2, nb, ?_, .inr (.inr (by rw [hs]; exact hh3)), na, os, ag, hE⟩)
  intro b o q hdat
  have hbC : b ≠ C := fun z => by rw [z, k2] at q; cases q
  obtain ⟨sl, e1⟩ := up0 b o q hdat
  obtain ⟨sl2, e2⟩ := up1 b _ e1 hdat
  obtain ⟨sl3, e3⟩ := up3 b _ ((sb.2 b hbC).trans e2) hdat
  exact ⟨sl3, e3⟩
end

section
variable {X : Cx}
/-- as tLc2, the second source's reading told by the wish at the def's slots -/
def tLc2X (W : WX) (wi : TI) (g : TG) (tt : TT) (wi1 : WX → TI) (g1 : TG) (tt1 : TT) (te : TE) (vs vs1 : List Nat) : TE := fun σ H Q => tLc2 wi g tt (wi1 fun c d _ H' => W c d σ H') g1 tt1 te vs vs1 σ H Q
theorem pe_lc2X {W : WX} {elt tg iter tg1 iter1 : Expr} {ifs ifs1 : List Expr} {scope : Scope} {own : List (Str × Nat)} {vs1 : List Nat} {pos : Pos} {wi : TI} {wi1 : WX → TI} {g g1 : TG} {tt tt1 : TT} {te : TE}
    (hst : X.stack = X.env :: X.outer) (hfr : X.env.frame = some X.env.locals) (tk : Takes X W) (hc : X.calm = true) (hN : X.N.Nodup) (hi : PI X tg iter wi) (ok : BlkOk X.N X.env.scope scope own) (hv : ∀ i ∈ vs1, i ∈ own.map (·.2))
    (hg : ∀ (a : Shared) (b : Hp) (C : Addr) (cl : List (Str × Addr)) (q : List Addr), PG (X.blk a b scope (compEnvC scope cl C X.env) q) tg g) (ht : ∀ (a : Shared) (b : Hp) (C : Addr) (cl : List (Str × Addr)) (q : List Addr), PTs (X.blk a b scope (compEnvC scope cl C X.env) q) ifs tt)
    (hi1 : ∀ (a : Shared) (b : Hp) (C : Addr) (cl : List (Str × Addr)) (q : List Addr) (f : Value → Shared → Prop) (Wb : WX), TakesC (blkX X a b scope (compEnvC scope cl C X.env) q f) Wb → PI (blkX X a b scope (compEnvC scope cl C X.env) q f) tg1 iter1 (wi1 Wb))
    (hg1 : ∀ (a : Shared) (b : Hp) (C : Addr) (cl : List (Str × Addr)) (q : List Addr), PG (X.blk a b scope (compEnvC scope cl C X.env) q) tg1 g1) (ht1 : ∀ (a : Shared) (b : Hp) (C : Addr) (cl : List (Str × Addr)) (q : List Addr), PTs (X.blk a b scope (compEnvC scope cl C X.env) q) ifs1 tt1)
    (he : ∀ (a : Shared) (b : Hp) (C : Addr) (cl : List (Str × Addr)) (q : List Addr), PE (X.blk a b scope (compEnvC scope cl C X.env) q) elt te) (hs : ∀ x, foldedSetIterable iter X.env x = pure x := by intro _; rfl) (hs1 : ∀ env x, foldedSetIterable iter1 env x = pure x := by intro _ _; rfl) :
    PE X (.ListComp elt [⟨tg, iter, ifs, 0⟩, ⟨tg1, iter1, ifs1, 0⟩] scope pos) (tLc2X W wi g tt wi1 g1 tt1 te (own.map (·.2)) vs1) := by
  refine ⟨fun pins s σ H Q I h => ?_⟩
  have hfree : ∀ y ∈ scope.names, y.2 = .free → ∃ c, X.env.cells.lookup y.1 = some c := fun y hy e => I.ok.has _ (ok.free y hy e)
  rw [eval_ListComp]
  refine comprehension_at (use := none) rfl hs (closure_ok hfree) ok.kind (fun y hy e => by rw [ok.uniq y hy, e]) (thn (hi.run pins s σ H _ I h) fun xv s1 hx => thn hx fun itv s2 h2 => ?_)
  obtain ⟨it, fp, tn, J, H2, e, I2, T, st2, f2, q⟩ := h2
  subst e
  refine wpAny_newObj_type (newEnv_comp ?_) (by show 0 ≤ sizeLine; decide)
  generalize hD : s2.heap.objs.size = D
  obtain ⟨Wn, ⟨m0, w0⟩, turn⟩ := q D (I2.hok.fresh (Nat.le_of_eq hD))
  generalize hs3 : ({ s2 with heap := s2.heap.push { cls := .type "list", data := .seq ([] : List Value).toArray } } : Shared) = s3
  have h3 : s3.heap = s2.heap.push { cls := .type "list", data := .seq ([] : List Value).toArray } := by rw [← hs3]
  have I3 : Inv X pins σ (upd H2 D (.lst [])) s3 := by
    rw [← hs3]
    exact I2.laid (t' := s2.toks) (fun b o z => Heap.get?_push_of_some _ z) (Nat.le_of_eq hD) ⟨Nat.zero_le _, [], 0, .nil, by rw [← hD]; exact Heap.get?_push_size _ rfl⟩
  have f3 : ∀ b ∈ fp, FpOk X pins (upd H2 D (.lst [])) b ∧ b < s3.heap.objs.size := fun b hb => by
    obtain ⟨o, z, _⟩ := T.obj _ _ st2 b hb
    have hlt := Heap.lt_size z
    exact ⟨⟨by rw [upd_ne (by rw [← hD]; exact Nat.ne_of_lt hlt)]; exact (f2 b hb).1, (f2 b hb).2⟩, by rw [h3, Heap.size_push]; exact Nat.lt_succ_of_lt hlt⟩
  have st3 : tn 0 s3.heap := T.keep _ _ _ st2 fun b _ o z => by rw [h3]; exact Heap.get?_push_of_some _ z
  have I4 := block_start I3 ok hN f3
  have nfp : ∀ b ∈ fp, (upd H2 D (.lst [])) b = none := fun b hb => (f3 b hb).1.1
  generalize hcl : cellsFrom (s3.heap.objs.size + 1) scope.names (cloFrom X.env.cells scope.names []) = cl at I4 ⊢
  have pg := hg s3 (upd H2 D (.lst [])) s3.heap.objs.size cl fp
  have pt := ht s3 (upd H2 D (.lst [])) s3.heap.objs.size cl fp
  have pe := he s3 (upd H2 D (.lst [])) s3.heap.objs.size cl fp
  have pg1 := hg1 s3 (upd H2 D (.lst [])) s3.heap.objs.size cl fp
  have pt1 := ht1 s3 (upd H2 D (.lst [])) s3.heap.objs.size cl fp
  have pi1 := hi1 s3 (upd H2 D (.lst [])) s3.heap.objs.size cl fp
  show codeAny _ _ (.compStart _ 0 (.ref it) (.ref D) (compEnvC scope cl s3.heap.objs.size X.env)) (compEnds (model X.prog X.w) X.A X.xe none (EP X pins σ Q) (.ref D) (compEnvC scope cl s3.heap.objs.size X.env)) { s3 with heap := pushCells (s3.heap.push { cls := .type "dict", data := .dict #[] }) scope.names }
  generalize hce : compEnvC scope cl s3.heap.objs.size X.env = ce at I4 pg pt pe pi1 pg1 pt1 ⊢
  have cL : ce.locals = s3.heap.objs.size := by rw [← hce]; rfl
  have cF : ce.frame = X.env.frame := by rw [← hce]; rfl
  generalize hH3 : upd H2 D (.lst []) = H3 at I3 I4 pg pt pe pi1 pg1 pt1 w0 nfp f3
  generalize hs4 : ({ s3 with heap := pushCells (s3.heap.push { cls := .type "dict", data := .dict #[] }) scope.names } : Shared) = s4 at I4 ⊢
  have st4 : tn 0 s4.heap := T.keep _ _ _ st3 fun b _ o z => by rw [← hs4]; exact pushCells_keeps _ _ _ _ (Heap.get?_push_of_some _ z)
  -- the def's own state behind a state of the block
  have back : ∀ {P : List (Addr × Obj)} {τ : L2.St} {G : Hp} {u : Shared}, Inv (X.blk s3 H3 scope ce fp) P τ G u → Inv X pins σ G u := fun I6 =>
    I3.call' (ch := fp) I6.os I6.base I6.hok I6.bare fun b hb => ⟨(f3 b hb).1.2.2.2.1, (f3 b hb).1.2.1, (f3 b hb).1.2.2.2.2.1, (f3 b hb).1.2.2.2.2.2⟩
  have fC : ∀ G : Hp, G ce.locals = none → FpOk X pins G ce.locals := fun G z => by
    rw [cL] at z ⊢
    exact I3.fpOk (Nat.le_refl _) z
  have stat : ∀ {τ : L2.St} {G : Hp} {u : Shared}, Inv (X.blk s3 H3 scope ce fp) [] τ G u → (∀ b ∈ fp, G b = none) → ∀ b ∈ fp, FpOk (X.blk s3 H3 scope ce fp) [] G b := fun {τ G u} I' hn b hb =>
    ⟨hn b hb, (I'.ok.exf b hb).1, I'.ok.exfs b hb, .inl hb, fun x c z => (I'.ok.exf b hb).2 x c z, fun p hp => nomatch (show p ∈ ([] : List (Addr × Obj)) ++ [] from hp)⟩
  have tkB := pi1 (notedBy (model X.prog X.w) X.A ce (CompFails (model X.prog X.w) X.A X.xe ce)) (fun c d _ H' => W c d σ H') fun τ P G u z u' J c =>
    out_of_block hst hfr tk cF (back (inv_of J)) (let ⟨m, hn, _⟩ := J.loc; ⟨m, hn⟩) fC J.free c
  refine (fun loop => codeAny_compStart_list loop (T.self X.A 0 _ _ _ st4 loop)) ?_
  refine compLoop2_out (hs1 ce) (fun n u => ∃ i G, Inv (X.blk s3 H3 scope ce fp) [] (wipe σ (own.map (·.2))) G u ∧ tn i u.heap ∧ (∀ b ∈ fp, G b = none) ∧ Wn i n G) ?_ m0 ⟨0, H3, I4, st4, nfp, w0⟩
  rintro n s5 ⟨i, H5, I5, st5, n5, w5⟩
  rcases turn i n H5 w5 with ⟨stop, qq⟩ | ⟨go, Nx, hNx, step⟩
  · refine thnF (T.done (X.blk s3 H3 scope ce fp) rfl rfl rfl hc i [] s5 _ H5 (fun _ _ => False) I5 (stat I5 n5) st5 stop) fun r s6 ⟨hr, I6⟩ => ?_
    subst hr
    obtain ⟨m, hn, _⟩ := I6.loc
    have f := fC H5 I6.free
    exact ⟨m, hn, fun h'' sb => ⟨.ref D, H5, Inv.turned (t' := s6.toks) (back I6) (fun b o hb z => (sb.2 b hb).trans z) f.1 f.2.1 f.2.2.2.1 f.2.2.2.2.1 f.2.2.2.2.2, rfl, qq⟩⟩
  refine thnF (T.item (X.blk s3 H3 scope ce fp) rfl rfl rfl hc i [] s5 _ H5 (fun _ _ => False) I5 (stat I5 n5) st5 go) fun r s6 ⟨v, hr, h6⟩ => ?_
  subst hr
  refine thnF h6 fun _ s7 ⟨x, H7, I7, r7, y7, st7, n7⟩ => ?_
  have J7 := I7.pinned (stat I7 n7) (T.obj _ _ st7)
  refine thnF (pg.run _ s7 _ H7 x v _ J7 r7 (step x H7 y7)) fun _ s8 ⟨σ8, H8, I8, hw8, q8⟩ => ?_
  refine thnF (pt.run _ s8 σ8 H8 _ I8 q8) fun b s9 ⟨H9, I9, q9⟩ => ?_
  have fin : ∀ {τ : L2.St} {u : Shared} {G : Hp}, Inv (X.blk s3 H3 scope ce fp) ([] ++ pinsAt fp s7.heap) τ G u → (wipe σ (own.map (·.2))).length = τ.length → (∀ (j : Nat) z, (wipe σ (own.map (·.2)))[j]? = some (some z) → τ[j]? = some (some z)) → Nx G →
      ∃ m, m < n ∧ ∃ i G, Inv (X.blk s3 H3 scope ce fp) [] (wipe σ (own.map (·.2))) G u ∧ tn i u.heap ∧ (∀ b ∈ fp, G b = none) ∧ Wn i m G := fun {τ u G} I' hl hk nx => by
    obtain ⟨m', hm, w'⟩ := hNx G nx
    have pin' : ∀ b ∈ fp, ∀ o, s7.heap.get? b = some o → u.heap.get? b = some o ∧ G b = none := fun b hb o z =>
      have k := I'.pin (b, o) (List.mem_append_right _ (List.mem_append_right _ (mem_pinsAt hb z)))
      ⟨k.1, k.2.1⟩
    refine ⟨m', hm, i + 1, G, (I'.unpinned (pins := [])).weak hl hk, T.keep _ _ _ st7 fun b hb o z => (pin' b hb o z).1, fun b hb => ?_, w'⟩
    obtain ⟨o, z, _⟩ := T.obj _ _ st7 b hb
    exact (pin' b hb o z).2
  have hl8 : (wipe σ (own.map (·.2))).length = σ8.length := by rw [← hw8, wipe_length]
  have hk8 : ∀ (j : Nat) z, (wipe σ (own.map (·.2)))[j]? = some (some z) → σ8[j]? = some (some z) ∧ j ∉ own.map (·.2) := fun j z k => by
    rw [← hw8] at k
    exact wipe_some k
  cases b with
  | false =>
    simp only [Bool.false_eq_true, if_false] at q9 ⊢
    exact fin I9 hl8 (fun j z k => (hk8 j z k).1) q9
  | true =>
    simp only [if_true] at q9 ⊢
    refine thn (tkB.run _ s9 σ8 H9 _ (inv_set I9) q9) fun xv s10 hx => thn hx fun itv s11 h11 => ?_
    obtain ⟨it1, fp1, tn1, J1, H11, e1, I11, T1, st11, f11, W1, ⟨m1, w1⟩, turn1⟩ := h11
    subst e1
    have I11 := inv_of I11
    have stat1 : ∀ {G : Hp}, (∀ b ∈ fp1, G b = none) → ∀ b ∈ fp1, FpOk (X.blk s3 H3 scope ce fp) ([] ++ pinsAt fp s7.heap) G b := fun hn b hb => ⟨hn b hb, (f11 b hb).2⟩
    refine (fun loop => compStart1_ok loop (T1.self X.A 0 _ _ _ st11 loop)) ?_
    refine compLoop2_in (fun k u => ∃ j G, Inv (X.blk s3 H3 scope ce fp) ([] ++ pinsAt fp s7.heap) (wipe σ8 vs1) G u ∧ tn1 j u.heap ∧ (∀ b ∈ fp1, G b = none) ∧ W1 j k G) ?_ m1 ⟨0, H11, I11.weak (wipe_length _ _) (fun j z k => (wipe_some k).1), st11, fun b hb => (f11 b hb).1, w1⟩
    rintro k s12 ⟨j, H12, I12, st12, n12, w12⟩
    rcases turn1 j k H12 w12 with ⟨stop1, nx1⟩ | ⟨go1, Nx1, hNx1, step1⟩
    · refine thnF (T1.done (X.blk s3 H3 scope ce fp) rfl rfl rfl hc j _ s12 (wipe σ8 vs1) H12 (fun _ _ => False) I12 (stat1 n12) st12 stop1) fun r s13 ⟨hr, I13⟩ => ?_
      subst hr
      refine fin I13 (hl8.trans (wipe_length σ8 vs1).symm) (fun j z k => ?_) nx1
      obtain ⟨k1, k2⟩ := hk8 j z k
      rw [wipe_out fun z => k2 (hv j z)]
      exact k1
    · refine thnF (T1.item (X.blk s3 H3 scope ce fp) rfl rfl rfl hc j _ s12 (wipe σ8 vs1) H12 (fun _ _ => False) I12 (stat1 n12) st12 go1) fun r s13 ⟨v1, hr, h13⟩ => ?_
      subst hr
      refine thnF h13 fun _ s14 ⟨x1, H14, I14, r14, y14, st14, n14⟩ => ?_
      have J14 := I14.pinned (stat1 n14) (T1.obj _ _ st14)
      refine thnF (pg1.run _ s14 (wipe σ8 vs1) H14 x1 v1 _ J14 r14 (step1 x1 H14 y14)) fun _ s15 ⟨σ15, H15, I15, hw15, q15⟩ => ?_
      refine thnF (pt1.run _ s15 σ15 H15 _ I15 q15) fun b1 s16 ⟨H16, I16, q16⟩ => ?_
      have fin1 : ∀ {u : Shared} {G : Hp}, Inv (X.blk s3 H3 scope ce fp) (([] ++ pinsAt fp s7.heap) ++ pinsAt fp1 s14.heap) σ15 G u → Nx1 G → ∃ m, m < k ∧ ∃ j G, Inv (X.blk s3 H3 scope ce fp) ([] ++ pinsAt fp s7.heap) (wipe σ8 vs1) G u ∧ tn1 j u.heap ∧ (∀ b ∈ fp1, G b = none) ∧ W1 j m G := fun {u G} I' nx => by
        obtain ⟨m', hm, w'⟩ := hNx1 G nx
        have pin' : ∀ b ∈ fp1, ∀ o, s14.heap.get? b = some o → u.heap.get? b = some o ∧ G b = none := fun b hb o z =>
          have k := I'.pin (b, o) (List.mem_append_right _ (List.mem_append_right _ (mem_pinsAt hb z)))
          ⟨k.1, k.2.1⟩
        refine ⟨m', hm, j + 1, G, I'.unpinned.weak (by rw [← hw15, wipe_length]) (fun j z k => by rw [← hw15] at k; exact (wipe_some k).1), T1.keep _ _ _ st14 fun b hb o z => (pin' b hb o z).1, fun b hb => ?_, w'⟩
        obtain ⟨o, z, _⟩ := T1.obj _ _ st14 b hb
        exact (pin' b hb o z).2
      cases b1 with
      | false =>
        simp only [Bool.false_eq_true, if_false] at q16 ⊢
        exact fin1 I16 q16
      | true =>
        simp only [if_true] at q16 ⊢
        refine thnF (pe.run _ s16 σ15 H16 _ I16 q16) fun z s17 ⟨yv, H17, I17, r17, acc, hD17, hz17, nx⟩ => ?_
        exact app_ok (X := X.blk s3 H3 scope ce fp) I17 hD17 hz17 r17 fun s18 I18 => fin1 I18 nx
end
end Dl
set_option Elab.async false
set_option linter.all false
set_option maxRecDepth 100000
set_option maxHeartbeats 1000000
/-! D8: comprehensions of two clauses (the second source may raise), three targets, a list that from now on stands still, over data. -/
namespace Dl
open PySem PySem.Spec PyProof.Rows L2

/-- the turns of a comprehension of two clauses -/
def comp2Rec (g : TGd) (tt : TDt) (ti1 : TDi) (g1 : TGd) (tt1 : TDt) (te : TD) (δ0 : Sd) (vs1 : List Nat) (p : Addr) : List D → DHp → (DHp → Prop) → Prop
  | [], M, Q => Q M
  | x :: xs, M, Q => g x δ0 M fun δ2 M2 => tt δ2 M2 fun b M3 => if b = true then ti1 δ2 M3 fun ys M4 => compRec g1 tt1 te (wipeD δ2 vs1) p ys M4 fun M5 => comp2Rec g tt ti1 g1 tt1 te δ0 vs1 p xs M5 Q else comp2Rec g tt ti1 g1 tt1 te δ0 vs1 p xs M3 Q
def dLc2T (wd : WXd) (ti : TDi) (g : TGd) (tt : TDt) (ti1 : WXd → TDi) (g1 : TGd) (tt1 : TDt) (te : TD) (vs vs1 : List Nat) : TD := fun δ M Q => ti δ M fun items M1 => ∀ p, M1 p = none →
  comp2Rec g tt (ti1 fun c fs _ M' => wd c fs δ M') g1 tt1 te (wipeD δ vs) vs1 p items (updD M1 p (.lst [])) fun M2 => Q (.ref p) M2
abbrev dLc2 (wd : WXd) (ti : TDi) (g : TGd) (tt : TDt) (ti1 : WXd → TDi) (g1 : TGd) (tt1 : TDt) (te : TD) (vs vs1 : List Nat) : TD := dFrz (dLc2T wd ti g tt ti1 g1 tt1 te vs vs1)
section
variable {X : Cx} {w : Wsh} {pos : Pos}
theorem up_lc2 {K : PySem.W.Frag} {ti : TDi} {ti1 : WXd → TDi} {fp fp1 vs vs1 : List Nat} {g g1 : TGd} {tt tt1 : TDt} {te : TD} {σ : L2.St} {H : Hp} {Q : VK} (hv : ∀ i ∈ fp, i ∈ vs) (hv1 : ∀ i ∈ fp1, i ∈ vs1) (h : upE K w (dLc2T w.d ti g tt ti1 g1 tt1 te vs vs1) σ H Q) :
    tLc2X w.h (upI K w ti) (upG K wN fp g) (upT K wN tt) (fun Wb σ H R => ∃ wd, upI K ⟨wd, Wb⟩ (ti1 wd) σ H R) (upG K wN fp1 g1) (upT K wN tt1) (upE K wN te) vs vs1 σ H Q := by
  obtain ⟨δ, M, Qd, ⟨rm, rs⟩, q, k, x⟩ := h
  refine ⟨δ, M, _, ⟨rm, rs⟩, q, fun J H1 M1 items it rm1 k1 q1 => fun p hp => ?_, x⟩
  have kp : Kp H1 M1 (upd H1 p (.lst [])) (updD M1 p (.lst [])) := Kp.newD hp
  refine ⟨fun i m H2 => m + i = items.length ∧ ∃ M2, RM K H2 M2 ∧ Kp H1 M1 H2 M2 ∧ comp2Rec g tt (ti1 fun c fs _ M' => w.d c fs δ M') g1 tt1 te (wipeD δ vs) vs1 p (items.drop i) M2 fun M3 => Qd (.ref p) M3, ⟨items.length, rfl, _, rm1.newD hp (ds := []) rfl, kp, q1 p (rm1.free hp)⟩, fun i m H2 hw => ?_⟩
  obtain ⟨em, M2, rm2, k2, q2⟩ := hw
  by_cases hi : i < items.length
  · refine .inr ⟨it.go i H2 M2 k2 rm2 hi, fun H3 => ∃ M3, RM K H3 M3 ∧ Kp H1 M1 H3 M3 ∧ comp2Rec g tt (ti1 fun c fs _ M' => w.d c fs δ M') g1 tt1 te (wipeD δ vs) vs1 p (items.drop (i + 1)) M3 fun M3 => Qd (.ref p) M3, fun H3 hn => ⟨m - 1, by omega, by omega, hn⟩, fun v H3 hy => ?_⟩
    obtain ⟨d, hd, rv, rm3, k3⟩ := it.yld i H2 M2 v H3 k2 rm2 hi hy
    have ed : items.drop i = d :: items.drop (i + 1) := by
      rw [List.drop_eq_getElem_cons hi]
      congr 1
      rw [List.getElem?_eq_getElem hi] at hd
      exact Option.some.inj hd
    rw [ed] at q2
    refine ⟨d, wipeD δ vs, M2, _, rv, ⟨rm3, (rs.keep ((k1.trans k2).trans k3)).wipe vs⟩, q2, fun σ4 H4 δ4 M4 rp4 k4 f4 q4 => ?_, lxN⟩
    obtain ⟨rm4, rs4⟩ := rp4
    have ew : wipe σ4 vs = wipe σ vs := by
      rw [wipe_get f4.1 fun j hj => f4.2 j fun z => hj (hv j z)]
      exact wipe_wipe σ vs
    refine ⟨ew, δ4, M4, _, ⟨rm4, rs4⟩, q4, fun b H5 M5 rm5 k5 q5 => ?_, lxN⟩
    cases b with
    | false =>
      rw [if_neg Bool.false_ne_true] at q5 ⊢
      exact ⟨M5, rm5, ((k2.trans k3).trans k4).trans k5, q5⟩
    | true =>
      rw [if_pos rfl] at q5 ⊢
      have kall : Kp H M H5 M5 := (((k1.trans k2).trans k3).trans k4).trans k5
      refine ⟨_, δ4, M5, _, ⟨rm5, rs4.keep k5⟩, q5, fun J1 H6 M6 ys it1 rm6 k6 q6 => ?_, fun σ' δ' H' M' c dd rp kk hw => x σ δ H' M' c dd ⟨rp.1, rs.keep (kall.trans kk)⟩ (kall.trans kk) hw⟩
      refine ⟨fun j n H7 => n + j = ys.length ∧ ∃ M7, RM K H7 M7 ∧ Kp H6 M6 H7 M7 ∧ compRec g1 tt1 te (wipeD δ4 vs1) p (ys.drop j) M7 fun M8 => comp2Rec g tt (ti1 fun c fs _ M' => w.d c fs δ M') g1 tt1 te (wipeD δ vs) vs1 p (items.drop (i + 1)) M8 fun M3 => Qd (.ref p) M3, ⟨ys.length, rfl, M6, rm6, .refl, q6⟩, fun j n H7 hw => ?_⟩
      obtain ⟨en, M7, rm7, k7, q7⟩ := hw
      by_cases hj : j < ys.length
      · refine .inr ⟨it1.go j H7 M7 k7 rm7 hj, fun H8 => ∃ M8, RM K H8 M8 ∧ Kp H6 M6 H8 M8 ∧ compRec g1 tt1 te (wipeD δ4 vs1) p (ys.drop (j + 1)) M8 fun M8 => comp2Rec g tt (ti1 fun c fs _ M' => w.d c fs δ M') g1 tt1 te (wipeD δ vs) vs1 p (items.drop (i + 1)) M8 fun M3 => Qd (.ref p) M3, fun H8 hn => ⟨n - 1, by omega, by omega, hn⟩, fun v8 H8 hy8 => ?_⟩
        obtain ⟨d8, hd8, rv8, rm8, k8⟩ := it1.yld j H7 M7 v8 H8 k7 rm7 hj hy8
        have ed8 : ys.drop j = d8 :: ys.drop (j + 1) := by
          rw [List.drop_eq_getElem_cons hj]
          congr 1
          rw [List.getElem?_eq_getElem hj] at hd8
          exact Option.some.inj hd8
        rw [ed8] at q7
        refine ⟨d8, wipeD δ4 vs1, M7, _, rv8, ⟨rm8, (rs4.keep (((k5.trans k6).trans k7).trans k8)).wipe vs1⟩, q7, fun σ9 H9 δ9 M9 rp9 k9 f9 q9 => ?_, lxN⟩
        obtain ⟨rm9, rs9⟩ := rp9
        have ew9 : wipe σ9 vs1 = wipe σ4 vs1 := by
          rw [wipe_get f9.1 fun j hj => f9.2 j fun z => hj (hv1 j z)]
          exact wipe_wipe σ4 vs1
        refine ⟨ew9, δ9, M9, _, ⟨rm9, rs9⟩, q9, fun b1 Ha Ma rma ka qa => ?_, lxN⟩
        cases b1 with
        | true =>
          rw [if_pos rfl] at qa ⊢
          refine ⟨δ9, Ma, _, ⟨rma, rs9.keep ka⟩, qa, fun y Hb db Mb ry rmb kb qb => ?_, lxN⟩
          obtain ⟨acc, eb, hl, qb⟩ := qb
          obtain ⟨as, e7, ra⟩ := rmb p _ eb
          exact ⟨as, e7, by rw [ra.length]; exact hl, _, rmb.wr eb (ra.append (.one ry)), ((((k7.trans k8).trans k9).trans ka).trans kb).trans (Kp.wr eb), qb⟩
        | false =>
          rw [if_neg Bool.false_ne_true] at qa ⊢
          exact ⟨Ma, rma, ((k7.trans k8).trans k9).trans ka, qa⟩
      · refine .inl ⟨it1.stop j H7 M7 k7 rm7 (by omega), ?_⟩
        rw [List.drop_eq_nil_of_le (by omega)] at q7
        exact ⟨M7, rm7, ((((k2.trans k3).trans k4).trans k5).trans k6).trans k7, q7⟩
  · refine .inl ⟨it.stop i H2 M2 k2 rm2 (by omega), ?_⟩
    rw [List.drop_eq_nil_of_le (by omega)] at q2
    exact k (.ref p) H2 (.ref p) M2 rfl rm2 (k1.trans k2) q2

/-- [elt for tg in iter for tg1 in iter1]: the second source may raise -/
theorem de_lc2T {elt tg iter tg1 iter1 : Expr} {ifs ifs1 : List Expr} {scope : Scope} {own : List (Str × Nat)} {vs1 : List Nat} {ti : TDi} {ti1 : WXd → TDi} {fp fp1 : List Nat} {g g1 : TGd} {tt tt1 : TDt} {te : TD}
    (hst : X.stack = X.env :: X.outer) (hfr : X.env.frame = some X.env.locals) (tk : Takes X w.h) (hc : X.calm = true) (hN : X.N.Nodup) (hi : DI X w tg iter ti) (ok : BlkOk X.N X.env.scope scope own)
    (hg : ∀ (a : Shared) (b : Hp) (C : Addr) (cl : List (Str × Addr)) (q : List Addr), DG (X.blk a b scope (compEnvC scope cl C X.env) q) wN tg fp g) (ht : ∀ (a : Shared) (b : Hp) (C : Addr) (cl : List (Str × Addr)) (q : List Addr), DTs (X.blk a b scope (compEnvC scope cl C X.env) q) wN ifs tt)
    (hi1 : ∀ (a : Shared) (b : Hp) (C : Addr) (cl : List (Str × Addr)) (q : List Addr) (f : Value → Shared → Prop) (Wb : WX) (wd : WXd), TakesC (blkX X a b scope (compEnvC scope cl C X.env) q f) Wb → DI (blkX X a b scope (compEnvC scope cl C X.env) q f) ⟨wd, Wb⟩ tg1 iter1 (ti1 wd))
    (hg1 : ∀ (a : Shared) (b : Hp) (C : Addr) (cl : List (Str × Addr)) (q : List Addr), DG (X.blk a b scope (compEnvC scope cl C X.env) q) wN tg1 fp1 g1) (ht1 : ∀ (a : Shared) (b : Hp) (C : Addr) (cl : List (Str × Addr)) (q : List Addr), DTs (X.blk a b scope (compEnvC scope cl C X.env) q) wN ifs1 tt1)
    (he : ∀ (a : Shared) (b : Hp) (C : Addr) (cl : List (Str × Addr)) (q : List Addr), DE (X.blk a b scope (compEnvC scope cl C X.env) q) wN elt te) (hv1' : ∀ i ∈ vs1, i ∈ own.map (·.2) := by decide) (hv : ∀ i ∈ fp, i ∈ own.map (·.2) := by decide) (hv1 : ∀ i ∈ fp1, i ∈ vs1 := by decide)
    (hs : ∀ x, foldedSetIterable iter X.env x = pure x := by intro _; rfl) (hs1 : ∀ env x, foldedSetIterable iter1 env x = pure x := by intro _ _; rfl) :
    DE X w (.ListComp elt [⟨tg, iter, ifs, 0⟩, ⟨tg1, iter1, ifs1, 0⟩] scope pos) (dLc2T w.d ti g tt ti1 g1 tt1 te (own.map (·.2)) vs1) :=
  weakE (pe_lc2X hst hfr tk hc hN hi ok hv1' hg ht (wi1 := fun Wb σ H R => ∃ wd, upI X.K ⟨wd, Wb⟩ (ti1 wd) σ H R) (fun a b C cl q f Wb tkc => ⟨fun pins s σ H R I h => by
    obtain ⟨wd, h⟩ := h
    exact (hi1 a b C cl q f Wb wd tkc).run pins s σ H R I h⟩) hg1 ht1 he hs hs1) fun σ H Q h => up_lc2 hv hv1 h
/-- name = [..], no swap of names -/
theorem ds_setLcA {y : Str} {py spos : Pos} (i : Nat) {elt tg iter : Expr} {ifs : List Expr} {scope : Scope} {own : List (Str × Nat)} {ti : TDi} {fp : List Nat} {g : TGd} {tt : TDt} {te : TD} (hc : X.calm = true) (hN : X.N.Nodup) (hi : DI X w tg iter ti) (ok : BlkOk X.N X.env.scope scope own)
    (hg : ∀ (a : Shared) (b : Hp) (C : Addr) (cl : List (Str × Addr)) (q : List Addr), DG (X.blk a b scope (compEnvC scope cl C X.env) q) wN tg fp g) (ht : ∀ (a : Shared) (b : Hp) (C : Addr) (cl : List (Str × Addr)) (q : List Addr), DTs (X.blk a b scope (compEnvC scope cl C X.env) q) wN ifs tt)
    (he : ∀ (a : Shared) (b : Hp) (C : Addr) (cl : List (Str × Addr)) (q : List Addr), DE (X.blk a b scope (compEnvC scope cl C X.env) q) wN elt te) (hsw : swapsWith (.ListComp elt [⟨tg, iter, ifs, 0⟩] scope pos) (some (.Name y py)) spos.line X.env = pure true)
    (hv : ∀ i ∈ fp, i ∈ own.map (·.2) := by decide) (hy : X.N[i]? = some y := by rfl) (hyl : X.env.scope.names.lookup y = some .local := by rfl) (hs : ∀ x, foldedSetIterable iter X.env x = pure x := by intro _; rfl) :
    DS X w (.Assign [.Name y py] (.ListComp elt [⟨tg, iter, ifs, 0⟩] scope pos) spos) (dSet i (dLc ti g tt te (own.map (·.2)))) := ds_setLc i (ps_setLc hc hN hy hyl hsw hi ok hg ht he hs) hv
theorem ds_setLcTA {y : Str} {py spos : Pos} (i : Nat) {elt tg iter : Expr} {ifs : List Expr} {scope : Scope} {own : List (Str × Nat)} {ti : TDi} {fp : List Nat} {g : TGd} {tt : TDt} {te : TD} (hc : X.calm = true) (hN : X.N.Nodup) (hi : DI X w tg iter ti) (ok : BlkOk X.N X.env.scope scope own)
    (hg : ∀ (a : Shared) (b : Hp) (C : Addr) (cl : List (Str × Addr)) (q : List Addr), DG (X.blk a b scope (compEnvC scope cl C X.env) q) wN tg fp g) (ht : ∀ (a : Shared) (b : Hp) (C : Addr) (cl : List (Str × Addr)) (q : List Addr), DTs (X.blk a b scope (compEnvC scope cl C X.env) q) wN ifs tt)
    (he : ∀ (a : Shared) (b : Hp) (C : Addr) (cl : List (Str × Addr)) (q : List Addr), DE (X.blk a b scope (compEnvC scope cl C X.env) q) wN elt te) (hsw : swapsWith (.ListComp elt [⟨tg, iter, ifs, 0⟩] scope pos) (some (.Name y py)) spos.line X.env = pure true)
    (hv : ∀ i ∈ fp, i ∈ own.map (·.2) := by decide) (hy : X.N[i]? = some y := by rfl) (hyl : X.env.scope.names.lookup y = some .local := by rfl) (hs : ∀ x, foldedSetIterable iter X.env x = pure x := by intro _; rfl) :
    DS X w (.Assign [.Name y py] (.ListComp elt [⟨tg, iter, ifs, 0⟩] scope pos) spos) (dSet i (dLcT ti g tt te (own.map (·.2)))) := ds_setLcT i (ps_setLc hc hN hy hyl hsw hi ok hg ht he hs) hv
/-- a, b, c = x, y, z -/
def dPar3 (i j l : Nat) (t : TDs) : TDS := fun D δ M => t δ M fun ds M1 => match ds with
  | [d, e, f] => D.nx (((δ.set i (some d)).set j (some e)).set l (some f)) M1
  | _ => False
theorem ds_par3 (i j l : Nat) {x y z : Str} {a b c : Expr} {t : TDs} {px py pz pt : Pos} {kt k2 pt2} (hc : X.calm = true) (hN : X.N.Nodup) (ha : DA X w [a, b, c] t)
    (hi : X.N[i]? = some x := by rfl) (hj : X.N[j]? = some y := by rfl) (hl : X.N[l]? = some z := by rfl) (hij : i ≠ j := by decide) (hil : i ≠ l := by decide) (hjl : j ≠ l := by decide)
    (hx : X.env.scope.names.lookup x = some .local := by rfl) (hy : X.env.scope.names.lookup y = some .local := by rfl) (hz : X.env.scope.names.lookup z = some .local := by rfl)
    (hw : swappedStores [.Tuple [.Name x px, .Name y py, .Name z pz] kt pt] (.Tuple [a, b, c] k2 pt2) X.env = pure (some [x, y, z]) := by rfl)
    (hs : swapsWithSole [.Tuple [.Name x px, .Name y py, .Name z pz] kt pt] (.Tuple [a, b, c] k2 pt2) pos.line X.env = pure false := by rfl) :
    DS X w (.Assign [.Tuple [.Name x px, .Name y py, .Name z pz] kt pt] (.Tuple [a, b, c] k2 pt2) pos) (dPar3 i j l t) := weakS (ps_par3 hc hN hi hj hl hij hil hjl hx hy hz ha hw hs) fun D σ H h => by
  obtain ⟨δ, M, Dd, ⟨rm, rs⟩, q, k, x⟩ := h
  refine ⟨δ, M, _, ⟨rm, rs⟩, q, fun vs H1 ds M1 rv rm1 k1 q1 => ?_, x⟩
  split at q1
  · obtain ⟨v, r1, e1, rv1, h2⟩ := rv
    obtain ⟨v2, v3, e2, rv2, rv3⟩ := RVs.inv2 h2
    subst e2
    exact ⟨v, v2, v3, e1, k.nx _ H1 _ M1 ⟨rm1, (((rs.keep k1).set i rv1).set j rv2).set l rv3⟩ k1 q1⟩
  · exact q1.elim
/-- from here on the list that the slot i names stands still -/
def dFrzS (i : Nat) (t : TDS) : TDS := fun D δ M => ∃ p l, δ[i]? = some (some (.ref p)) ∧ M p = some (.lst l) ∧ t D (δ.set i (some (.lst l))) (ersD M p)
theorem dss_frz (i : Nat) {ss : List Stmt} {t : TDS} (h : DSs X w ss t) : DSs X w ss (dFrzS i t) := weakSs h fun D σ H h => by
  obtain ⟨δ, M, Dd, ⟨rm, rs⟩, ⟨p, l, e1, e2, q⟩, k, x⟩ := h
  obtain ⟨v, e3, rv⟩ := rs.2 i _ e1
  have rv : v = .ref p := rv
  subst rv
  have r1 := RS.set (rs.keep (Kp.ers (H := H) (p := p))) i (RV.frz rm e2)
  rw [show σ.set i (some (.ref p)) = σ from List.ext_getElem? fun j => by
    by_cases z : i = j
    · subst z
      rw [List.getElem?_set, if_pos rfl]
      have hlt : i < σ.length := (List.getElem?_eq_some_iff.mp e3).1
      rw [if_pos hlt, e3]
    · rw [List.getElem?_set_ne z]] at r1
  exact ⟨δ.set i (some (.lst l)), ersD M p, Dd, ⟨rm.ers, r1⟩, q, k.go Kp.ers, x.go Kp.ers⟩
/-- a def's call where the calls' exceptions alone are taken -/
theorem de_callC {x : Str} {f : Addr} {fd : FuncData} {ps : List Str} {S : SpD} {k : Nat} {e : Expr} {es : List Expr} {p pos : Pos} {te : TDs} (F : FnD X.prog X.w X.K X.mg X.base k f fd ps S) (hr : Room k X.A) (hm : X.mg x = some (.ref f)) (hk : PySem.W.keepIn X.K (.ref f) = true) (hb : Binds X.K fd ps []) (tk : TakesC X w.h)
    (hn : ∀ ds M Q E, S ds M Q E → ds.length = ps.length) (ha : DA X w (e :: es) te) (hg : Gl X x := by rfl) (hdb : (x == ("__debug__" : Str)) = false := by decide)
    (he : starEach (e :: es) X.env = (false, eval e X.env) :: starEach es X.env := by rfl) (hpl : (backTo pos (starEach es X.env)).any (·.1) = false := by rfl) :
    DE X w (.Call (.Name x p) (e :: es) [] pos) (dCallF w.d S te) := weakE (pe_callS F hr hg hm hk hb tk ha hdb he hpl) fun σ H Q h => up_callF hn h
end

end Dl
set_option Elab.async false
set_option linter.all false
set_option maxRecDepth 100000
set_option maxHeartbeats 1000000
/-! D9: starred targets over data. -/
namespace Dl
open PySem PySem.Spec PyProof.Rows L2

/-! ### a, *b = a list -/
section
variable {prog : Program} {w : World} {A : Around} {E : Value → Shared → Prop} {s : Shared}
theorem unpack_star {l : Addr} {items : Array Value} {n i : Nat} {Q : List Value → Shared → Prop} (hl : s.heap.IsList l items) (hh : A.handled = none) (hi : i < n) (hn : n ≤ items.size + 1) (hz : items.size ≤ 16384)
    (h : ∀ D h' tk, (∀ b o, s.heap.get? b = some o → h'.get? b = some o) → s.heap.get? D = none → h'.get? D = some { cls := .type "list", data := .seq ((items.toList.drop i).take (items.size + 1 - n)).toArray } →
      Q (items.toList.take i ++ [.ref D] ++ (items.toList.drop i).drop (items.size + 1 - n)) { s with heap := h', toks := tk }) : wpAny (model prog w) A (unpackItems (.ref l) n (some i)) Q E s := by
  obtain ⟨o, ho, _⟩ := id hl
  have hll := Heap.lt_size ho
  have hlt : l ≠ s.heap.objs.size := Nat.ne_of_lt hll
  unfold unpackItems notIterableAtAll
  refine wpAny_bind (wpAny_bind (wpAny_specialOf hl.typeIs slot_list_iter.lookup (wpAny_pure ?_)))
  simp only [Bool.false_eq_true, if_false]
  refine wpAny_bind (wpAny_holding (wpAny_pyIter_list hl (wpAny_bind (wpAny_holding (PySem.W.kun_draw hlt i 0 _ _ ⟨_, Heap.get?_push_size _ rfl, rfl, rfl⟩ (hl.push _) (by omega) fun h₁ it₁ sb => ?_)))))
  have l₁ : h₁.IsList l items := (hl.push _).extBut sb.extBut hlt
  rw [Nat.zero_add] at it₁
  obtain ⟨oi, hoi, _⟩ := id it₁
  obtain ⟨ol, hol, _⟩ := id l₁
  have len1 : (items.toList.take i).length = i := by rw [List.length_take, Array.length_toList]; omega
  have len2 : (items.toList.drop i).length = items.size - i := by rw [List.length_drop, Array.length_toList]
  rw [List.drop_zero, if_neg (show ¬ ((items.toList.take i).length < i) by rw [len1]; omega)]
  refine wpAny_bind (wpAny_holding (PySem.W.kun_collect (s := { s with heap := h₁ }) (T := "list_iterator") (.inr (.inr (.inl rfl))) (Walks.list (A := A.in1) hh s.heap.objs.size l hlt items) (fun j u st => st.1.typeIs) (k := i) (by omega) ⟨it₁, l₁⟩ (Heap.lt_size hoi) (Heap.lt_size hol) (fun h₂ tk hk => ?_) (by rw [sizeLine_eq]; omega)))
  show wpAny _ _ (if (items.toList.drop i).length < n - 1 - i then _ else _) _ _ _
  have mid : (items.toList.drop i).length - (n - 1 - i) = items.size + 1 - n := by rw [len2]; omega
  rw [if_neg (by rw [len2]; omega)]
  have stay : ∀ b o, s.heap.get? b = some o → h₂.get? b = some o := fun b o e => hk b o (Nat.ne_of_lt (Heap.lt_size e)) (sb.extBut b o (Nat.ne_of_lt (Heap.lt_size e)) (Heap.get?_push_of_some _ e))
  have big : s.heap.get? h₂.objs.size = none := by
    cases z : s.heap.get? h₂.objs.size with
    | none => rfl
    | some o => exact absurd (Heap.lt_size (stay _ o z)) (Nat.lt_irrefl _)
  show wpAny _ _ (newList ((items.toList.drop i).take ((items.toList.drop i).length - (n - 1 - i))) >>= fun d => pure (items.toList.take i ++ [d] ++ (items.toList.drop i).drop ((items.toList.drop i).length - (n - 1 - i)))) _ _ _
  rw [mid]
  exact wpAny_bind (wpAny_newList (wpAny_pure (h _ _ tk (fun b o e => Heap.get?_push_of_some _ (stay b o e)) big (Heap.get?_push_size _ rfl))) (by rw [List.length_take, len2, sizeLine_eq]; omega))
end

/-- a starred target: the list as the target gets it -/
theorem pgs_star {X : Cx} {e : Expr} {es : List Expr} {t : TG} {u : TGs} {p : Pos} (h1 : PG X e t) (h2 : PGs X es u)
    (hs : (assignEach (.Starred e p :: es) X.env).map (·.2) = assign e X.env :: (assignEach es X.env).map (·.2) := by rfl) : PGs X (.Starred e p :: es) (gCons t u) :=
  ⟨fun pins s σ H vs us Q I r h => by
    obtain ⟨v, vr, e1, h⟩ := h
    subst e1
    cases r with
    | cons r rr =>
      rw [hs]
      exact assignInOrder_cons (thn (h1.run pins s σ H _ _ _ I r h) fun _ s1 ⟨σ1, H1, I1, q1⟩ => h2.run pins s1 σ1 H1 _ _ Q I1 rr q1)⟩
/-- (a, *b, ..) = a list -/
def gStarL (K : PySem.W.Frag) (n i : Nat) (t : TGs) : TG := fun v σ H Q => ∃ a xs, v = .ref a ∧ SqL K H a xs ∧ n ≤ xs.length + 1 ∧ xs.length ≤ 16384 ∧
  ∀ p, H p = none → t (xs.take i ++ [.ref p] ++ (xs.drop i).drop (xs.length + 1 - n)) σ (upd H p (.lst ((xs.drop i).take (xs.length + 1 - n)))) Q
theorem vals_take : ∀ {xs : List V} {us : List Value} (n : Nat), Vals xs us → Vals (xs.take n) (us.take n)
  | _, _, 0, _ => .nil
  | _, _, n + 1, .nil => .nil
  | _, _, n + 1, .cons r rs => .cons r (vals_take n rs)
theorem vals_drop : ∀ {xs : List V} {us : List Value} (n : Nat), Vals xs us → Vals (xs.drop n) (us.drop n)
  | _, _, 0, r => r
  | _, _, n + 1, .nil => .nil
  | _, _, n + 1, .cons r rs => vals_drop n rs
theorem pg_starL {X : Cx} {es : List Expr} {k : Nat} {t : TGs} {n i : Nat} {pos : Pos} (hc : X.calm = true) (h : PGs X es t) (hi : i < n := by decide)
    (hn : (assignEach es X.env).length = n := by rfl) (hst : (assignEach es X.env).findIdx? (·.1) = some i := by rfl) : PG X (.Tuple es k pos) (gStarL X.K n i t) := by
  refine ⟨fun pins s σ H v u Q I r hw => ?_⟩
  obtain ⟨a, xs, e1, hq, h1, h2, hw⟩ := hw
  subst e1
  cases r
  obtain ⟨its, rv, hl, hz⟩ := I.list hq
  have len := rv.length
  rw [assign_Tuple]
  refine wpAny_bind (wpAny_standAt ?_)
  unfold unpack
  rw [hn, hst]
  refine wpAny_bind (wpAny_holding (unpack_star hl.isList (I.ok.hd hc) hi (by rw [List.size_toArray, ← len]; exact h1) (by rw [List.size_toArray, ← len]; exact h2) fun D h' tk kp hD hD' => ?_))
  simp only [List.size_toArray, ← len] at hD' ⊢
  have rm := vals_take (xs.length + 1 - n) (vals_drop i rv)
  have I1 : Inv X pins σ (upd H D (.lst ((xs.drop i).take (xs.length + 1 - n)))) { s with heap := h', toks := tk } :=
    I.laidN kp hD (I.hok.gone hD) ⟨by rw [List.length_take, List.length_drop]; omega, _, 0, rm, hD'⟩
  exact h.run pins _ σ _ _ _ Q I1 (((vals_take i rv).append (.cons (show RelV (.ref D) (.ref D) from rfl) .nil)).append (vals_drop (xs.length + 1 - n) (vals_drop i rv))) (hw D (I.hok.gone hD))
section
variable {X : Cx} {w : Wsh} {pos : Pos}
theorem dgs_star {e : Expr} {es : List Expr} {fp fp' : List Nat} {g : TGd} {gs : TGsd} {p : Pos} (h1 : DG X w e fp g) (h2 : DGs X w es fp' gs) (hs : (assignEach (.Starred e p :: es) X.env).map (·.2) = assign e X.env :: (assignEach es X.env).map (·.2) := by rfl) : DGs X w (.Starred e p :: es) (fp ++ fp') (dgCons g gs) :=
  weakGs (pgs_star h1 h2 hs) fun vs σ H Q h => by
    obtain ⟨ds, δ, M, Qd, rv, rp, q, k, x⟩ := h
    cases ds with
    | nil => exact q.elim
    | cons d r =>
      obtain ⟨y, ys, e, ry, rys⟩ := rv
      refine ⟨y, ys, e, d, δ, M, _, ry, rp, q, fun σ1 H1 δ1 M1 rp1 k1 f1 q1 => ?_, x⟩
      refine ⟨r, δ1, M1, _, rys.keep k1 _ _, rp1, q1, fun σ2 H2 δ2 M2 rp2 k2 f2 q2 => ?_, x.go k1⟩
      refine k σ2 H2 δ2 M2 rp2 (k1.trans k2) ⟨by rw [f2.1, f1.1], fun i hi => ?_⟩ q2
      rw [f2.2 i fun z => hi (List.mem_append_right _ z), f1.2 i fun z => hi (List.mem_append_left _ z)]
/-- n targets, the i-th starred; the starred one gets a list that stands still -/
def dgStar (n i : Nat) (gs : TGsd) : TGd := fun d δ M Q => ∃ l, lstOf M d = some l ∧ n ≤ l.length + 1 ∧ l.length ≤ 16384 ∧ gs (l.take i ++ [.lst ((l.drop i).take (l.length + 1 - n))] ++ (l.drop i).drop (l.length + 1 - n)) δ M Q
theorem dg_star {es : List Expr} {k : Nat} {fp : List Nat} {gs : TGsd} {n : Nat} (i : Nat) (hc : X.calm = true) (h : DGs X w es fp gs) (hi : i < n := by decide)
    (hn : (assignEach es X.env).length = n := by rfl) (hst : (assignEach es X.env).findIdx? (·.1) = some i := by rfl) : DG X w (.Tuple es k pos) fp (dgStar n i gs) :=
  weakG (pg_starL hc h hi hn hst) fun v σ H Q h => by
    obtain ⟨d, δ, M, Qd, rv, ⟨rm, rs⟩, ⟨l, e1, h1, h2, q⟩, k, x⟩ := h
    obtain ⟨a, xs, e, hq, r⟩ := rv.lstS rm e1
    have len := r.length
    refine ⟨a, xs, e, hq, by rw [len]; exact h1, by rw [len]; exact h2, fun p hp => ?_⟩
    rw [len]
    have mid := (r.drop i).take (l.length + 1 - n)
    have kp : Kp H M (upd H p (.lst ((xs.drop i).take (l.length + 1 - n)))) M := Kp.new hp
    refine ⟨_, δ, M, Qd, ((r.take i).keep kp _ _ |>.append (.one (RV.lstNew rm hp mid))).append (((r.drop i).drop (l.length + 1 - n)).keep kp _ _), ⟨rm.new hp, rs.keep kp⟩, q, fun σ1 H1 δ1 M1 rp1 k1 f1 q1 => k σ1 H1 δ1 M1 rp1 (kp.trans k1) f1 q1, x.go kp⟩
end
end Dl
set_option Elab.async false
set_option linter.all false
set_option maxRecDepth 100000
set_option maxHeartbeats 1000000
/-! D10: an own exception class whose __init__ says super().__init__(text), self.f = x. -/
namespace Dl
open PySem PySem.Spec PyProof.Rows L2 PySem.W

/-- the context of such an __init__'s body: its environment knows __class__ -/
def cxS (CX : CXT) (P : Program) (w : World) (K : PySem.W.Frag) (mg : Str → Option Value) (base : Heap) (N : List Str) (qual : Str) (scope : Scope) (f : Addr) (cd : Value) (cc : Addr) (A : Around) (outer : List Env) (s : Shared) (H : Hp) (E : XK) : Cx where
  prog := P
  w := w
  K := K
  mg := mg
  base := base
  A := A.deeper (ksEnv qual scope s.heap.objs.size f cd cc)
  N := N
  s_0 := s
  H_0 := H
  env := ksEnv qual scope s.heap.objs.size f cd cc
  outer := outer
  stack := ksEnv qual scope s.heap.objs.size f cd cc :: outer
  ex := []
  calm := true
  fn := fun _ => false
  pn := []
  xe := fun e s' => wpAny (model P w) (A.deeper (ksEnv qual scope s.heap.objs.size f cd cc)) (leaving (ksEnv qual scope s.heap.objs.size f cd cc) e) (fun _ s'' => CX outer H s E e s'') (fun e' s'' => CX outer H s E e' s'') s'
/-- what the written part tells of the class at C, its __init__ at f, the cell of __class__ at cc, the code at cda -/
structure InC (P : Program) (K : PySem.W.Frag) (C f cc cda : Addr) (B i newId : String) (bmB : List Value) : Prop where
  KF : KxsFacts B i
  FB : ExcBaseFacts B newId i bmB
  over : excInitIn K C bmB newId = true
  cell : ∃ cl cld csl, K.lookup cc = some ⟨cl, cld, .cell (some (.ref C)), csl⟩
  code : ∃ ccl cdd vs ccs file tf, K.lookup cda = some ⟨ccl, cdd, .fields vs, ccs⟩ ∧ vs[2]? = some (.str file tf) ∧ ((P.main.file : Str) == file) = true
  cls : ∃ cd, clsIn K C = some cd
  mro : mroIn K C (.ref C) = some true
  nosuper : nsIn K mainGlobals "super" = some none
  top : (P.main.scope.names.lookup ("super" : Str)).isSome = false
  opq : nsIn K cStatics "thirdparty.any" = some none
  sup : ks_superIn K C C "__init__" = some (some (.builtin i))
  sub : subIn K (.ref C) (.type B) = some true
/-- __init__'s promise: the field is set in the exception's new dict -/
def spI (K : PySem.W.Frag) (C : Addr) (fld : Str) (ok : V → Prop) : Sp := fun vs H Q _ => ∃ a y, vs = [.ref a, y] ∧ ok y ∧ H a = some (exo a C none) ∧ ∀ dx, H dx = none → dx ≠ a → Q .non (upd (upd H dx (exd dx [(fld, y)])) a (exo a C (some dx)))

theorem inv_startS {CX : CXT} {P : Program} {w : World} {K : PySem.W.Frag} {mg : Str → Option Value} {base : Heap} {qual : Str} {scope : Scope} {f cc : Addr} {cd : Value} {A : Around} {outer : List Env} {s : Shared} {H : Hp} {E : XK} {x1 x2 : Str} {u1 u2 : Value} {v1 v2 : V} {h1 : Heap} {tk : Nat}
    (kind : scope.kind = .function) (ne : x1 ≠ x2) (l1 : scope.names.lookup x1 = some .local) (l2 : scope.names.lookup x2 = some .local) (fr : ∀ y, scope.names.lookup y = some .cell ∨ scope.names.lookup y = some .free → y = "__class__")
    (hd : A.handled = none) (e0 : Env0 P w K mg base A outer s H) (hcc : ∃ cl cld csl v, K.lookup cc = some ⟨cl, cld, .cell v, csl⟩) (r1 : RelV v1 u1) (r2 : RelV v2 u2) (ns : h1.Ns s.heap.objs.size (fun x => [(x1, u1), (x2, u2)].reverse.lookup x)) (k : ∀ b o, s.heap.get? b = some o → h1.get? b = some o) :
    Inv (cxS CX P w K mg base [x1, x2] qual scope f cd cc A outer s H E) [] [some v1, some v2] H { s with heap := h1, toks := tk } := by
  have noA : ∀ b : Addr, b ∉ (cxS CX P w K mg base [x1, x2] qual scope f cd cc A outer s H E).ex := fun b z => nomatch (show b ∈ ([] : List Addr) from z)
  obtain ⟨cl, cld, csl, cv, hcc⟩ := hcc
  have hcb := e0.mod.kin _ _ hcc
  have hlook : ∀ {y c}, (List.lookup y [(("__class__" : Str), cc)]) = some c → y = "__class__" ∧ c = cc := fun {y c} h => by
    rw [List.lookup_cons] at h
    cases hb : y == ("__class__" : Str) with
    | true =>
      rw [hb] at h
      exact ⟨by simpa using hb, (Option.some.inj h).symm⟩
    | false =>
      rw [hb] at h
      cases h
  have lt : cc < s.heap.objs.size := Heap.lt_size (e0.bs _ _ hcb).1
  refine ⟨⟨e0.mod, kind, rfl, rfl, Nat.le_refl _, fun y z c h1 h2 => ?_, fun y hy => ?_, fun y c h _ => Bool.noConfusion h, fun _ => hd, Around.frames_deeper e0.frames, .inr ⟨rfl, rfl⟩, fun b z => absurd z (noA b), e0.bs, e0.bsz, fun b _ _ => noA b, fun b z => absurd z (noA b), e0.funs, e0.frf⟩,
    rfl, e0.bare, Un.kept k, ⟨_, ns, fun i y v h1 h2 h3 => ?_⟩, fun y c h => ?_, e0.hok.fresh (Nat.le_refl _), fun y c h => ?_, (fun p hp => nomatch (show p ∈ ([] : List (Addr × Obj)) from hp)), e0.hok.kept k, rfl⟩
  · rw [(hlook h1).1, (hlook h2).1]
  · exact ⟨cc, by rw [fr y hy]; rfl⟩
  · match i, h1, h2 with
    | 0, h1, h2 =>
      cases h1
      cases h2
      exact ⟨u1, r1, .inl ⟨l1, by simp [List.lookup, show (x1 == x2) = false by simpa using ne]⟩⟩
    | 1, h1, h2 =>
      cases h1
      cases h2
      exact ⟨u2, r2, .inl ⟨l2, by simp [List.lookup]⟩⟩
    | n + 2, h1, h2 =>
      cases h1
  · rw [(hlook h).2]
    exact ⟨cv, _, k _ _ (e0.bs _ _ hcb).1, rfl⟩
  · rw [(hlook h).2]
    exact (e0.bs _ _ hcb).2

theorem fn_super {CX : CXT} {P : Program} {w : World} {K : PySem.W.Frag} {mg : Str → Option Value} {base : Heap} {name qual : Str} {params : Arguments} {scope : Scope} {dV kV doc pm ct oc : Value} {an od : Option Addr} {osl : Array (Option Value)} {f cc cda C : Addr} {B i newId : String} {bmB : List Value}
    {x2 fld : Str} {e : Expr} {te : TE} {p0 p1 p2 p3 p4 q0 q1 q2 q3 : Pos} {ok : V → Prop}
    (lk : K.lookup f = some ⟨oc, od, .func (ksFn name qual params [.Expr (.Call (.Attribute (.Call (.Name "super" p0) [] [] p1) "__init__" p2) [e] [] p3) p4, .Assign [.Attribute (.Name "self" q0) fld q1] (.Name x2 q2) q3] scope dV kV doc pm an (.ref cda) ct cc), osl⟩)
    (hcd : codeIn K (.ref cda) qual = true) (T : OexC K C) (F : InC P K C f cc cda B i newId bmB) (hno : findIn K (.ref C) fld = some none)
    (hpar : (params.posonlyargs ++ params.args).head?.map (·.arg) = some ("self" : Str)) (kind : scope.kind = .function) (hco : scope.isCoroutine = false) (hgen : scope.isGenerator = false) (hcell : ∀ y ∈ scope.names, y.2 ≠ .cell) (ne : ("self" : Str) ≠ x2) (l1 : scope.names.lookup ("self" : Str) = some .local) (l2 : scope.names.lookup x2 = some .local)
    (lsu : scope.names.lookup ("super" : Str) = some .globalImplicit) (lcl : scope.names.lookup ("__class__" : Str) = some .free) (fr : ∀ y, scope.names.lookup y = some .cell ∨ scope.names.lookup y = some .free → y = "__class__")
    (hx2 : (x2 == ("__debug__" : Str)) = false) (hx2' : (x2 == ("__classdict__" : Str)) = false)
    (he : ∀ (A : Around) (outer : List Env) (s : Shared) (H : Hp) (E : XK), PE (cxS CX P w K mg base ["self", x2] qual scope f (.ref cda) cc A outer s H E) e te)
    (hmsg : ∀ v y H (Q : VK), ok y → (∀ z, Q (.str z) H) → te [some v, some y] H Q)
    (hcall : ∀ env : Env, ∃ pl : Sem Bool, eval (.Call (.Attribute (.Call (.Name "super" p0) [] [] p1) "__init__" p2) [e] [] p3) env = (do
      let ov ← attributeBase (.Call (.Name "super" p0) [] [] p1) "__init__" env (eval (.Call (.Name "super" p0) [] [] p1) env)
      standAt p2.atName
      let (f, first) ← holding [ov] (getMethod ov "__init__" pl)
      callWith p3 f first (backTo p3 (starEach [e] env)) []))
    (hstar : ∀ env : Env, starEach [e] env = (false, eval e env) :: starEach [] env)
    (hs1 : ∀ (A : Around) (outer : List Env) (s : Shared), swapsWith (.Call (.Attribute (.Call (.Name "super" p0) [] [] p1) "__init__" p2) [e] [] p3) none p4.line (ksEnv qual scope s.heap.objs.size f (.ref cda) cc) = pure false := by intro _ _ _; rfl)
    (hi1 : ∀ (s : Shared), interactive (ksEnv qual scope s.heap.objs.size f (.ref cda) cc) = false := by intro _; rfl)
    (hs2 : ∀ (s : Shared), swapsWith (.Name x2 q2) (some (.Attribute (.Name "self" q0) fld q1)) q3.line (ksEnv qual scope s.heap.objs.size f (.ref cda) cc) = pure false := by intro _; rfl) :
    FnOk P w K mg base CX 1 f (ksFn name qual params [.Expr (.Call (.Attribute (.Call (.Name "super" p0) [] [] p1) "__init__" p2) [e] [] p3) p4, .Assign [.Attribute (.Name "self" q0) fld q1] (.Name x2 q2) q3] scope dV kV doc pm an (.ref cda) ct cc) ["self", x2] (spI K C fld ok) := by
  refine ⟨fun vs H Q E h => by obtain ⟨_, _, rfl, _⟩ := h; rfl, fun A outer s H args us vs Q E hr e0 hb r hsp => ?_⟩
  obtain ⟨a, y, rfl, hy, ha, hq⟩ := hsp
  cases r with
  | @cons _ u1 _ us r1 r =>
  cases r with
  | @cons _ u2 _ us r2 r =>
  cases r
  obtain rfl : u1 = Value.ref a := r1
  have KX : K.In s.heap := e0.mod.kin.keeps fun b o e => (e0.bs b o e).1
  obtain ⟨cl, cld, csl, hcc⟩ := F.cell
  obtain ⟨ccl, cdd, cvs, ccs, file, tf, hcode, hv2, hfile⟩ := F.code
  obtain ⟨cdC, hcls⟩ := F.cls
  refine ks_codeAny_call_defAt (body := _) hr.depth (KX _ _ lk) rfl (e0.mod.nolimit.keeps fun b o e => (e0.bs b o e).1) (codeRec_of KX hcd) rfl hb hcell (fun z hz => ?_) (fun h1 hns hk => ?_) hco hgen kind
  · rcases List.mem_cons.mp hz with rfl | hz
    · exact l1
    · rcases List.mem_cons.mp hz with rfl | hz
      · exact l2
      · cases hz
  show _root_.PySem.wpAt (model P w) (A.deeper (ksEnv qual scope s.heap.objs.size f (.ref cda) cc)) (.func _ (ksEnv qual scope s.heap.objs.size f (.ref cda) cc)) (execs _ (ksEnv qual scope s.heap.objs.size f (.ref cda) cc)) _ _ _
  have I1 : Inv (cxS CX P w K mg base ["self", x2] qual scope f (.ref cda) cc A outer s H E) [] [some (.ref a), some y] H { s with heap := h1, toks := s.toks + 2 } :=
    inv_startS kind ne l1 l2 fr hr.hd e0 ⟨cl, cld, csl, _, hcc⟩ rfl r2 hns hk
  generalize hX : cxS CX P w K mg base ["self", x2] qual scope f (.ref cda) cc A outer s H E = X at I1
  have K1 : K.In h1 := KX.keeps hk
  obtain ⟨oC, hoC, hoCd⟩ : ∃ oC, h1.get? C = some oC ∧ oC.data = .cls cdC := by
    unfold clsIn at hcls
    split at hcls
    · rename_i c d cd' sl ho
      cases hcls
      exact ⟨_, K1 _ _ ho, rfl⟩
    · cases hcls
  obtain ⟨t1, hoa⟩ := exo_at I1.hok ha
  obtain ⟨ar, har, harg⟩ : ∃ ar, (params.posonlyargs ++ params.args).head? = some ar ∧ ar.arg = ("self" : Str) := by
    cases z : (params.posonlyargs ++ params.args).head? with
    | none => rw [z] at hpar; cases hpar
    | some ar =>
      rw [z] at hpar
      exact ⟨ar, rfl, by simpa using hpar⟩
  obtain ⟨pl, hpl⟩ := hcall (ksEnv qual scope s.heap.objs.size f (.ref cda) cc)
  refine ks_wpAt_execs_cons (ks_wpAt_Expr_any (ks_wpAt_MethodCall ?_ hpl) (hi1 s) (hs1 A outer s))
  refine ks_wpAt_super_base (env := ksEnv qual scope s.heap.objs.size f (.ref cda) cc) lsu lcl (by decide) rfl (K1 _ _ lk) rfl har rfl (K1 _ _ hcode) rfl hv2 hfile F.top ?_
  have bk : ∀ b o, base.get? b = some o → h1.get? b = some o := fun b o e => hk b o (e0.bs b o e).1
  obtain ⟨mb, hmb, hmb'⟩ := e0.mod.blt
  refine ks_loadName_global kind lsu (PySem.Calls.loadGlobal_builtin (env := ksEnv qual scope s.heap.objs.size f (.ref cda) cc) (e0.mod.glob.keeps bk) (mg_none_of e0.mod.kin e0.mod.glob F.nosuper) (hmb.keeps bk) ((hmb' _ (by decide +kernel)).trans (by decide +kernel : bootBuiltins "super" = some (.type "super"))) ⟨rfl, ?_⟩)
  refine wpAny_loadName_free kind lcl rfl ⟨_, K1 _ _ hcc, rfl⟩ ?_
  rw [harg]
  refine wpAny_loadName_local kind l1 hns (v := .ref a) (by simp [List.lookup, show (("self" : Str) == x2) = false by simpa using ne]) ?_
  refine ks_wpAny_isType_cls hoC hoCd ⟨rfl, ?_⟩
  refine ks_wpAny_call_super hoC hoCd hoa rfl (fun c z => by cases z) (looks_mroIn K1 F.mro) fun h2 eso k2 => ?_
  have K2 : K.In h2 := K1.keeps k2
  have ia : InstAt h2 a ({ cls := .ref C, dict := none, data := .fields #[.ref t1, .none, .none, .none, .bool false, .none] } : Obj) C none := ⟨k2 _ _ hoa, rfl, rfl, trivial⟩
  have hsupI : alongIn K "__init__" ((cdC.mro.dropWhile (· != .ref C)).drop 1) = some (some (.builtin i)) := by
    have z := F.sup
    unfold ks_superIn at z
    rw [hcls] at z
    exact z
  refine kxs_getMethod F.KF eso (looks_opaque K2 F.opq) (fun A Q E s k q => wpAny_bind ((looks_clsIn K2 hcls) A _ E s k (wpAny_pure q))) rfl K2 hsupI (ia.type.andThen (looks_subIn K2 F.sub)) (ks_ne K2 ia hcls) (by decide) ?_
  -- the argument, the wrapper pinned
  have I2 : Inv X [] [some (.ref a), some y] H ⟨h2.push (kxs_mw i a), s.gens, s.drawn, s.toks + 2 + 1, s.os⟩ := I1.kept (t' := s.toks + 2 + 1) fun b o z => Heap.get?_push_of_some _ (k2 b o z)
  have hu : (h2.push (kxs_mw i a)).get? h2.objs.size = some (kxs_mw i a) := Heap.get?_push_size _ rfl
  have gone1 : h1.get? h2.objs.size = none := by
    cases z : h1.get? h2.objs.size with
    | none => rfl
    | some o => exact absurd (Heap.lt_size (k2 _ _ z)) (Nat.lt_irrefl _)
  have nH : H h2.objs.size = none := I1.hok.gone gone1
  have sz12 : h1.objs.size ≤ h2.objs.size := by
    have z : h1.objs.size < h2.objs.size := Heap.lt_size eso
    omega
  have fu : FpOk X [] H h2.objs.size := I1.fpOk sz12 nH
  have J2 := I2.pinned (fp := [h2.objs.size]) (fun b hb => by cases List.mem_singleton.mp hb; exact fu) (fun b hb => by cases List.mem_singleton.mp hb; exact ⟨_, hu, fun v z => by cases z⟩)
  have pe : PE X e te := by rw [← hX]; exact he A outer s H E
  have hXe : X.env = ksEnv qual scope s.heap.objs.size f (.ref cda) cc := by rw [← hX]; rfl
  refine kxs_callWith (i := i) (x := a) (args := backTo p3 (starEach [e] (ksEnv qual scope s.heap.objs.size f (.ref cda) cc))) (by rw [hstar]; rfl) ?_
  have pa : PA X [e] (tCons te tNil) := pa_cons pe pa_nil (by rw [hstar])
  rw [hstar]
  refine PySem.Calls.evalArgs_plain ?_
  have run := pa.run p3 _ _ _ _ (fun vs H3 => ∃ z, vs = [.str z] ∧ H3 = H) J2 (hmsg (.ref a) y H _ hy fun z => ⟨z, rfl, rfl⟩)
  rw [hXe, hstar] at run
  subst hX
  refine thn run fun us s3 hh => ?_
  obtain ⟨vs3, H3, I3, r3, z, ez, eH⟩ := hh
  subst ez
  rw [eH] at I3
  cases r3 with
  | @cons _ uz _ uzs rz rzs =>
  cases rzs
  have hw : s3.heap.get? h2.objs.size = some (kxs_mw i a) := (I3.pin (h2.objs.size, kxs_mw i a) (List.mem_append_right _ (List.mem_append_right _ (mem_pinsAt (List.mem_singleton.mpr rfl) hu)))).1
  have I3 : Inv (cxS CX P w K mg base ["self", x2] qual scope f (.ref cda) cc A outer s H E) [] [some (.ref a), some y] H s3 := I3.unpinned (pins := [])
  refine ⟨hw, ?_⟩
  obtain ⟨h3, g3, d3, tk3, os3⟩ := s3
  obtain ⟨t3, ho3⟩ := exo_at I3.hok ha
  obtain ⟨nm, N', qn, bs, bm, hdct, sn, sub, ab, col, dd, k0, k1, k2', k3, k5, hC, hT⟩ := excInit_of I3.kIn F.over
  refine wpAny_call (codeAny_of_tree ?_)
  show wpAny _ _ (callAny (.ref h2.objs.size) ⟨[uz], []⟩) _ _ _
  simp only [callAny]
  refine wpAny_bind (wpAny_load hw ?_)
  simp only [kxs_mw, show (Value.type "method-wrapper" == Value.type "method" || Value.type "method-wrapper" == Value.type "builtin_function_or_method" || Value.type "method-wrapper" == Value.type "method-wrapper") = true by decide, if_true]
  refine KFB.if_so (by decide) (wpAny_bind (check_bound_init F.FB.toExcCallFacts hC ho3 rfl (wpAny_bind (wpAny_pure (wpAny_pure ⟨plainId_quiet F.FB.init.plain _, codeAny_builtin F.FB.initEntry ?_⟩)))))
  refine exc_init_tree (cls := .ref C) (t0 := t3) (dv := none) (c2 := .none) (c3 := .none) (b4 := .bool false) ho3 (by show 1 ≤ sizeLine; rw [sizeLine_eq]; omega) fun h4 k4 e4 _ => ?_
  have J4 := I3.write (t' := tk3) (x := a) (e := a) (o := exo a C none) (by rw [ha]; exact True.intro) (.inl rfl) k4 ⟨_, e4⟩ (exo_ok e4)
  have eu : upd H a (exo a C none) = H := by
    funext b
    by_cases hb : b = a
    · rw [hb, upd_same, ha]
    · rw [upd_ne hb]
  rw [eu] at J4
  refine wpAt_of_wpAny ?_
  have ps : PSs (cxS CX P w K mg base ["self", x2] qual scope f (.ref cda) cc A outer s H E) [.Assign [.Attribute (.Name "self" q0) fld q1] (.Name x2 q2) q3] (tOst K fld (tVar 0) (tVar 1)) :=
    pss_one (ps_ost (pe_var (i := 0) (hN := rfl) (hv := .inl l1)) (pe_var (i := 1) (hN := rfl) (hv := .inl l2) hx2 hx2') (hs2 s))
  refine wpAny_mono (ps.run [] _ _ _ { nx := fun _ H' => Q .non H', rt := fun _ _ => False } J4 ⟨y, rfl, .ref a, rfl, a, C, rfl, T, hno, .inl ⟨ha, hq⟩⟩) (fun fl s' hs => ?_) fun _ _ z => z
  cases fl with
  | next =>
    obtain ⟨σ', H', J, q⟩ := hs
    exact ⟨.non, H', J.os, J.bare, J.base, J.hok, rfl, q⟩
  | ret u =>
    obtain ⟨_, _, _, _, _, q⟩ := hs
    exact q.elim
  | brk =>
    obtain ⟨_, _, _, q⟩ := hs
    exact False.elim q
  | cont =>
    obtain ⟨_, _, _, q⟩ := hs
    exact False.elim q
end Dl
set_option Elab.async false
set_option linter.all false
set_option maxRecDepth 100000
set_option maxHeartbeats 1000000
/-! D11: raise with a field, except .. as, the field read, over data. -/
namespace Dl
open PySem PySem.Spec PyProof.Rows L2
section
variable {X : Cx} {w : Wsh} {a b e : Expr} {ta tb : TD} {pos p : Pos}
/-! ### raise C(e): C's __init__ keeps e as a field -/
def dRaiseX (wd : WXd) (C : Addr) (fld : Str) (ok : D → Prop) (te : TD) : TDS := fun _ δ M => te δ M fun d M1 => ok d ∧ ∀ dd, M1 dd = none → wd (.ref C) (some dd) δ (updD M1 dd (.xd [(fld, d)]))
theorem ds_raiseX {CX : CXT} {pos2 : Pos} {x : Str} {C fI : Addr} {k : Nat} {fd : FuncData} {ps : List Str} {fld : Str} {okV : V → Prop} {ok : D → Prop} (hc : X.calm = true) (tk : Takes X w.h) (T : OexC X.K C) (iC : PySem.W.findIn X.K (.ref C) "__init__" = some (some (.ref fI))) (tI : PySem.W.typeIn X.K (.ref fI) = some (.type "function"))
    (F1 : FnOk X.prog X.w X.K X.mg X.base CX k fI fd ps (spI X.K C fld okV)) (hr : Room (k + 1) X.A) (hb : Binds X.K fd ps []) (hx : Passes CX X (fun _ _ _ => False)) (hok : ∀ d v H M, ok d → RV X.K H M d v → okV v) (hm : X.mg x = some (.ref C)) (he : DE X w e ta) (hg : Gl X x := by rfl)
    (hdb : (x == ("__debug__" : Str)) = false := by decide) (hse : starEach [e] X.env = [(false, eval e X.env)] := by rfl) :
    DS X w (.Raise (some (.Call (.Name x p) [e] [] pos)) none pos2) (dRaiseX w.d C fld ok ta) :=
  weakS (ps_raise hc tk (pmk_oex T iC tI F1 hr hb .nil hx hg hm (pa_cons he pa_nil hse) hdb hse rfl)) fun D σ H h => by
    obtain ⟨δ, M, Dd, ⟨rm, rs⟩, q, k, x⟩ := h
    refine ⟨δ, M, _, ⟨rm, rs⟩, q, fun v H1 d M1 rv rm1 k1 q1 => ?_, x⟩
    refine ⟨by show 1 ≤ 1000; decide, fun a ha => ⟨a, v, rfl, hok d v H1 M1 q1.1 rv, upd_same, fun dx hdx ne => ?_⟩⟩
    have hd1 : H1 dx = none := by rw [upd_ne ne] at hdx; exact hdx
    have nda : a ≠ dx := fun z => ne z.symm
    refine ⟨rfl, dx, [(fld, v)], upd_same, ?_, hd1, ?_⟩
    · rw [upd_ne ne]; exact upd_same
    · have eH : upd (del (upd (upd (upd H1 a (exo a C none)) dx (exd dx [(fld, v)])) a (exo a C (some dx))) a) dx (.xd [(fld, v)]) = upd H1 dx (.xd [(fld, v)]) := by
        funext b
        by_cases hb : b = dx
        · rw [hb, upd_same, upd_same]
        · rw [upd_ne hb, upd_ne hb]
          by_cases hba : b = a
          · rw [hba, del_same, ha]
          · rw [del_ne hba, upd_ne hba, upd_ne hb, upd_ne hba]
      rw [eH]
      have kp : Kp H1 M1 (upd H1 dx (.xd [(fld, v)])) (updD M1 dx (.xd [(fld, d)])) := Kp.newD hd1
      refine x σ δ _ _ _ _ ⟨fun c u z => ?_, rs.keep (k1.trans kp)⟩ (k1.trans kp) (q1.2 dx (rm1.free hd1))
      by_cases hcd : c = dx
      · subst hcd
        rw [updD_same] at z
        cases z
        exact ⟨[(fld, v)], upd_same, v, [], rfl, rv.keep kp _ _, rfl⟩
      · rw [updD_ne hcd] at z
        exact (rm1 c u z).keep kp (upd_ne hcd)

/-! ### except X as n -/
def endsAs (i : Nat) (D : DEnds) : DEnds := { nx := fun δ M => D.nx (δ.set i none) M, rt := D.rt, bk := fun δ M => D.bk (δ.set i none) M, ct := fun δ M => D.ct (δ.set i none) M }
/-- ts: the suite, by the exception's address and its dict's -/
def dTryAs (K : PySem.W.Frag) (wd : WXd) (c : Value) (C : Addr) (i : Nat) (tb : WXd → TDS) (ts : Addr → Addr → TDS) : TDS := fun D δ M =>
  tb (fun cl o δ' M' => ∃ b, PySem.W.exmOne K cl c = some b ∧ (b = true → cl = .ref C ∧ ∃ dd, o = some dd ∧ ∀ a, ts a dd (endsAs i D) (δ'.set i (some (.ref a))) M') ∧ (b = false → wd cl o δ' M')) D δ M
theorem ds_try_as {x n : Str} {c : Value} {C : Addr} (i : Nat) {body suite : List Stmt} {b₀ : Stmt} {np pos' : Pos} {tb : WXd → TDS} {ts : Addr → Addr → TDS} (hs : X.stack = X.env :: X.outer) (hf : X.env.frame = some X.env.locals) (hN : X.N.Nodup) (hc : Names X x c) (tk : Takes X w.h)
    (hb : ∀ (wd : WXd) (W : WX) (pn : List (Addr × Obj)) (xe : Value → Shared → Prop), Takes (X.tr pn xe) W → PassesOwn (model X.prog X.w) X.A X.env xe → DSs (X.tr pn xe) ⟨wd, W⟩ body (tb wd))
    (hsu : ∀ (a dd : Addr) (oe : Obj) (pn : List (Addr × Obj)), Zc (.ref C) (some dd) oe → (∃ vs, oe.data = .fields vs) → DSs (X.suite a ((a, oe) :: pn)) wN (b₀ :: suite) (ts a dd)) (hi : X.N[i]? = some n := by rfl) (hln : X.env.kindOf n = some .local := by rfl) :
    DS X w (.Try body [.ExceptHandler (some (.Name x np)) (some n) (b₀ :: suite) pos'] [] [] pos) (dTryAs X.K w.d c C i tb ts) := by
  refine weakS (ps_try_as (tb := fun W D σ H => ∃ wd, upS X.K ⟨wd, W⟩ (tb wd) D σ H) (ts := fun a cls d D σ H => ∃ dd, cls = .ref C ∧ d = some dd ∧ upS X.K wN (ts a dd) D σ H) hs hf hN hi hln hc tk (fun W pn xe tkW po => ?_) (fun a oe cls d pn hz hd => ?_)) fun D σ H h => ?_
  · exact ⟨fun pins s σ H D I q => by
      obtain ⟨wd, q⟩ := q
      exact (hb wd W pn xe tkW po).run pins s σ H D I q⟩
  · exact ⟨fun pins s σ H D I q => by
      obtain ⟨dd, rfl, rfl, q⟩ := q
      exact (hsu a dd oe pn hz hd).run pins s σ H D I q⟩
  · obtain ⟨δ, M, Dd, rp, q, k, x⟩ := h
    refine ⟨_, δ, M, Dd, rp, q, k, fun σ' δ' H' M' cl o rp' kp hw => ?_⟩
    obtain ⟨b, h1, h2, h3⟩ := hw
    refine ⟨b, h1, fun hb a ha => ?_, fun hb => x σ' δ' H' M' cl o rp' kp (h3 hb)⟩
    obtain ⟨e1, dd, e2, hts⟩ := h2 hb
    refine ⟨dd, e1, e2, δ'.set i (some (.ref a)), M', endsAs i Dd, ⟨rp'.1, rp'.2.set i (d := .ref a) (v := .ref a) rfl⟩, hts a, ?_, lxN⟩
    have kk := k.go kp
    exact ⟨fun σ2 H2 δ2 M2 rp2 k2 q2 => kk.nx _ _ _ _ ⟨rp2.1, rp2.2.wipe1 i⟩ k2 q2, kk.rt, fun σ2 H2 δ2 M2 rp2 k2 q2 => kk.bk _ _ _ _ ⟨rp2.1, rp2.2.wipe1 i⟩ k2 q2, fun σ2 H2 δ2 M2 rp2 k2 q2 => kk.ct _ _ _ _ ⟨rp2.1, rp2.2.wipe1 i⟩ k2 q2⟩
/-- n.f in the suite -/
def dXf (a dd : Addr) (fld : Str) (te : TD) : TD := fun δ M Q => te δ M fun x M1 => x = .ref a ∧ ∃ fs d, M1 dd = some (.xd fs) ∧ fs.lookup fld = some d ∧ Q d M1
theorem FRp.look {K : PySem.W.Frag} {H : Hp} {M : DHp} {f : Str} {d : D} : ∀ {fs : List (Str × D)} {vs : List (Str × V)}, FRp K H M fs vs → fs.lookup f = some d → ∃ v, vs.lookup f = some v ∧ RV K H M d v
  | [], _, _, h => by cases h
  | (g, d') :: fs, vs, r, h => by
    obtain ⟨v, rest, rfl, h1, h2⟩ := r
    rw [List.lookup_cons] at h ⊢
    cases e : f == g with
    | true =>
      rw [e] at h
      cases h
      exact ⟨v, rfl, h1⟩
    | false =>
      rw [e] at h
      exact FRp.look h2 h
theorem de_xf {ex dd C : Addr} {oe : Obj} {pn : List (Addr × Obj)} {n : Str} (T : XfC X.K C) (hno : PySem.W.findIn X.K (.ref C) n = some none) (hz : Zc (.ref C) (some dd) oe) (hf : ∃ vs, oe.data = .fields vs)
    (he : DE (X.suite ex ((ex, oe) :: pn)) w e ta) (hb : attributeBase e n X.env (eval e X.env) = eval e X.env := by rfl) : DE (X.suite ex ((ex, oe) :: pn)) w (.Attribute e n pos) (dXf ex dd n ta) :=
  weakE (pe_xf T hno hz hf he hb) fun σ H Q h => by
    obtain ⟨δ, M, Qd, rp, q, k, x⟩ := h
    refine ⟨δ, M, _, rp, q, fun v H1 d M1 rv rm1 k1 q1 => ?_, x⟩
    obtain ⟨rfl, fs, d, e1, e2, q1⟩ := q1
    cases (show v = V.ref ex from rv)
    obtain ⟨vs, e3, r⟩ := rm1 dd _ e1
    obtain ⟨u, e4, ru⟩ := r.look e2
    exact ⟨rfl, rfl, dd, vs, u, rfl, e3, e4, k u H1 d M1 ru rm1 k1 q1⟩
end
end Dl
set_option Elab.async false
set_option linter.all false
set_option maxRecDepth 100000
set_option maxHeartbeats 1000000
/-! D12: defs that call repr (they ask that no repr is under way), the law's own call. -/
namespace Dl
open PySem PySem.Spec PyProof.Rows L2

/-- as FnOk, where no repr is under way -/
structure FnG (P : Program) (w : World) (K : PySem.W.Frag) (mg : Str → Option Value) (base : Heap) (CX : CXT) (k : Nat) (f : Addr) (fd : FuncData) (ps : List Str) (sp : Sp) : Prop where
  size : ∀ vs H Q E, sp vs H Q E → vs.length = ps.length
  goes : ∀ (A : Around) (outer : List Env) (s : Shared) (H : Hp) (args : Args) (us : List Value) (vs : List V) (Q : VK) (E : XK), Room k A → A.guards = some [] → Env0 P w K mg base A outer s H → BindsTo s fd args (ps.zip us) → Vals vs us → sp vs H Q E → codeAny (model P w) A (.call (.ref f) args) (CR CX outer P w H s Q E) s
theorem FnG.up {P : Program} {w : World} {K : PySem.W.Frag} {mg : Str → Option Value} {base : Heap} {CX : CXT} {j k : Nat} {f : Addr} {fd : FuncData} {ps : List Str} {sp : Sp} (F : FnG P w K mg base CX j f fd ps sp) (h : j ≤ k) : FnG P w K mg base CX k f fd ps sp :=
  ⟨F.size, fun A outer s H args us vs Q E hr => F.goes A outer s H args us vs Q E (hr.mono h)⟩
/-- a def by its body -/
theorem fnG_of {CX : CXT} {P : Program} {w : World} {K : PySem.W.Frag} {mg : Str → Option Value} {base : Heap} {k : Nat} {x qual : Str} {st : Stmt} {f : Addr} {fd : FuncData} {N ps : List Str} {sp : Sp} (F : Fun K x qual st f fd) (S : FnScope N ps (defScope st)) (len : ∀ vs H Q E, sp vs H Q E → vs.length = ps.length)
    (hbody : ∀ (cdv : Value) (A : Around) (outer : List Env) (s : Shared) (H : Hp) (vs : List V) (Q : VK) (E : XK), Room k (A.deeper (envOfC qual (defScope st) s.heap.objs.size f cdv)) → A.guards = some [] → sp vs H Q E →
      ∃ t, PSs (cxOf CX P w K mg base N qual (defScope st) f cdv A outer s H E) (defBody st) t ∧ t { nx := fun _ H' => Q .non H', rt := Q } (L2.start N vs) H) : FnG P w K mg base CX (k + 1) f fd ps sp := by
  obtain ⟨oc, od, kV, doc, pm, an, cdv, ct, osl, rfl, lk, hcd⟩ := F.ex
  refine ⟨len, fun A outer s H args us vs Q E room gd e0 bnd rel prom => ?_⟩
  have inK : K.In s.heap := e0.mod.kin.keeps fun b o z => (e0.bs b o z).1
  have kinds : ∀ y ∈ ps.zip us, (defScope st).names.lookup y.1 = some .local ∨ ((defScope st).names.lookup y.1 = some .cell ∧ ((cellsFrom (s.heap.objs.size + 1) (defScope st).names []).lookup y.1).isSome = true) := fun ⟨n, v⟩ hy =>
    (S.par n (List.of_mem_zip hy).1).imp (fun q => q) fun q => ⟨q, PySem.W.cellsFrom_some _ _ _ (.inl q)⟩
  refine codeAny_call_function room.depth (inK _ _ lk) rfl S.co S.gen rfl (PySem.W.codeRec_of inK hcd) (bnd _ _ _ _ (wpAny_newFunctionEnv_cells S.kind kinds fun env he s1 x => ?_))
  subst he
  refine ⟨(e0.mod.nolimit.keeps fun b o z => (e0.bs b o z).1).keeps x.toInCall.keep, codeAny_func ?_⟩
  obtain ⟨t, ht, hq⟩ := hbody cdv A outer s H vs Q E (room.deeper _) gd prom
  have I := inv_start (CX := CX) (E := E) S room.hd e0 (len _ _ _ _ prom) rel x
  refine wpAny_mono (ht.run [] s1 (L2.start N vs) H _ I hq) (fun fl s' hs => ?_) fun e s' z => z
  match fl, hs with
  | .ret u, ⟨v, σ', H', J, rv, q⟩ => exact ⟨v, H', J.os, J.bare, J.base, J.hok, rv, q⟩
  | .next, ⟨σ', H', J, q⟩ => exact ⟨.non, H', J.os, J.bare, J.base, J.hok, rfl, q⟩
  | .brk, ⟨_, _, _, q⟩ => exact False.elim q
  | .cont, ⟨_, _, _, q⟩ => exact False.elim q
/-- its call -/
theorem pe_callG {X : Cx} {CX : CXT} {k : Nat} {f : Addr} {fd : FuncData} {ps : List Str} {sp : Sp} {E : L2.St → XK} {x : Str} {p pos : Pos} {e : Expr} {es : List Expr} {t : TA} (F : FnG X.prog X.w X.K X.mg X.base CX k f fd ps sp) (hr : Room k X.A) (gd : X.A.guards = some []) (hg : Gl X x) (hm : X.mg x = some (.ref f)) (hk : PySem.W.keepIn X.K (.ref f) = true)
    (hb : Binds X.K fd ps []) (hx : ∀ σ, PassesAt CX X σ (E σ)) (ha : PA X (e :: es) t) (hdb : (x == ("__debug__" : Str)) = false) (he : starEach (e :: es) X.env = (false, eval e X.env) :: starEach es X.env) (hpl : (backTo pos (starEach es X.env)).any (·.1) = false) :
    PE X (.Call (.Name x p) (e :: es) [] pos) (tCallS sp E t) :=
  ⟨fun pins s σ H Q I h => wpAny_Call_Name_kw (ld_glob I hg hm (PySem.W.callWith_K (h₀ := X.base) I.ok.mod.kin hk (thn (ha.run pos pins s σ H _ I h) fun us s1 ⟨vs, H1, I1, r, q⟩ => ⟨I1.kIn, by
    have hl : us.length = ps.length := by rw [← r.length]; exact F.size _ _ _ _ q
    have b := hb s1 us I1.kIn (by rw [List.append_nil]; exact hl)
    rw [List.append_nil] at b
    refine wpAny_call (codeAny_mono (F.goes X.A X.stack s1 H1 ⟨us, []⟩ us vs Q (E σ) hr gd I1.env0 b r q) fun r s' hq => ?_)
    match r, hq with
    | .error e, hq => exact hx σ pins H1 s1 e s' I1 hq
    | .ok (.ret u), hq => exact I1.after hq
    | .ok .next, hq => exact False.elim hq
    | .ok .brk, hq => exact False.elim hq
    | .ok .cont, hq => exact False.elim hq⟩) he hpl) hdb)⟩
section
variable {P : Program} {wd : World} {K : PySem.W.Frag} {mg : Str → Option Value} {base : Heap}
abbrev FnDG (P : Program) (wd : World) (K : PySem.W.Frag) (mg : Str → Option Value) (base : Heap) (k : Nat) (f : Addr) (fd : FuncData) (ps : List Str) (S : SpD) : Prop := FnG P wd K mg base (L2.CX P wd) k f fd ps (dSp K ps.length S)
theorem fnDG {x qual : Str} {st : Stmt} {f : Addr} {fd : FuncData} {N ps : List Str} {k : Nat} {S : SpD} (F : Fun K x qual st f fd) (Sc : FnScope N ps (defScope st))
    (hbody : ∀ (cdv : Value) (A : Around) (outer : List Env) (s : Shared) (H : Hp) (E : XK) (Ed : XD), Room k (A.deeper (envOfC qual (defScope st) s.heap.objs.size f cdv)) → A.guards = some [] →
      ∃ t, DSs (cxOf (L2.CX P wd) P wd K mg base N qual (defScope st) f cdv A outer s H E) (wD Ed E) (defBody st) t ∧ ∀ ds M Qd, ds.length = ps.length → S ds M Qd Ed → t { nx := fun _ M' => Qd .non M', rt := Qd } (startD N ds) M) : FnDG P wd K mg base (k + 1) f fd ps S := by
  refine fnG_of F Sc (fun vs H Q E h => h.1) fun cdv A outer s H vs Q E room gd h => ?_
  obtain ⟨hl, ds, M, Qd, Ed, rv, rm, hs, kq, kx⟩ := h
  obtain ⟨t, ht, hr⟩ := hbody cdv A outer s H E Ed room gd
  refine ⟨_, ht, startD N ds, M, _, ⟨rm, rs_start rv⟩, hr ds M Qd (by rw [← rv.length]; exact hl) hs, ⟨fun σ' H' δ' M' rp k q => kq .non H' .non M' rfl rp.1 k q, fun v H' d M' rv rm k q => kq v H' d M' rv rm k q, fun σ' H' δ' M' rp k q => q, fun σ' H' δ' M' rp k q => q⟩, fun σ' δ' H' M' c dd rp kp q => kx c dd H' M' rp.1 kp q⟩
end
theorem de_callG {X : Cx} {w : Wsh} {x : Str} {f : Addr} {fd : FuncData} {ps : List Str} {S : SpD} {k : Nat} {e : Expr} {es : List Expr} {p pos : Pos} {te : TDs} (F : FnDG X.prog X.w X.K X.mg X.base k f fd ps S) (hr : Room k X.A) (gd : X.A.guards = some []) (hm : X.mg x = some (.ref f)) (hk : PySem.W.keepIn X.K (.ref f) = true) (hb : Binds X.K fd ps []) (tk : Takes X w.h)
    (hn : ∀ ds M Q E, S ds M Q E → ds.length = ps.length) (ha : DA X w (e :: es) te) (hg : Gl X x := by rfl) (hdb : (x == ("__debug__" : Str)) = false := by decide)
    (he : starEach (e :: es) X.env = (false, eval e X.env) :: starEach es X.env := by rfl) (hpl : (backTo pos (starEach es X.env)).any (·.1) = false := by rfl) :
    DE X w (.Call (.Name x p) (e :: es) [] pos) (dCallF w.d S te) := weakE (pe_callG F hr gd hg hm hk hb (fun σ => passAt tk σ) ha hdb he hpl) fun σ H Q h => up_callF hn h

/-! ### repr of a list -/
theorem call_reprL {X : Cx} (gd : X.A.guards = some []) (hu : X.A.units + 160 < cLine) : CallR X (.builtin "repr") (fun xs H Q => ∃ a d, xs = [.ref a] ∧ Dp X.K H (.ref a) d ∧ d.showable = true ∧ d.hasDict = false ∧ d.shown.length ≤ sizeLine ∧ d.depth ≤ 150 ∧ Q (.str d.shown) H) := by
  intro pins s σ H xs us Q I r h
  obtain ⟨a, d, rfl, hd, h1, h2, h3, h4, q⟩ := h
  obtain ⟨u, rfl, rx⟩ := vals1 r
  obtain ⟨as, rd⟩ := Dp.reads I d _ u hd rx
  cases rx
  exact repr_of_reads' rd h1 (fun z => by rw [h2] at z; cases z) gd (by omega) (fun _ _ z => z) (fun h' u tk k => ⟨.str _, H, I.kept (t' := tk) k, ⟨u, rfl⟩, q⟩) h3
mutual
theorem toP_noDict : ∀ d : D, (toP d).hasDict = false
  | .non => rfl
  | .bl _ => rfl
  | .int _ => rfl
  | .str _ => rfl
  | .ty _ => rfl
  | .ref _ => rfl
  | .scr _ => rfl
  | .tup l => by simp only [toP, PyData.hasDict]; exact toPs_noDict l
  | .lst l => by simp only [toP, PyData.hasDict]; exact toPs_noDict l
theorem toPs_noDict : ∀ l : List D, PyData.hasDictAll (toPs l) = false
  | [] => rfl
  | d :: l => by simp only [toPs, PyData.hasDictAll, toP_noDict d, toPs_noDict l, Bool.or_self]
end
def rdRepr : R1D := fun ds M Q => match ds with
  | [.lst l] => dats l = true ∧ (toP (.lst l)).showable = true ∧ (toP (.lst l)).shown.length ≤ sizeLine ∧ dep (.lst l) ≤ 150 ∧ Q (.str (toP (.lst l)).shown) M
  | _ => False
theorem u_repr {K : PySem.W.Frag} : UpC K (fun xs H Q => ∃ a d, xs = [.ref a] ∧ Dp K H (.ref a) d ∧ d.showable = true ∧ d.hasDict = false ∧ d.shown.length ≤ sizeLine ∧ d.depth ≤ 150 ∧ Q (.str d.shown) H) rdRepr := fun xs H Q ds M Qd rm r q k => by
  unfold rdRepr at q
  split at q
  · rename_i l
    obtain ⟨v, rfl, rv⟩ := r.inv1
    have dp := rv.dp _ _ (show dat (.lst l) = true from q.1)
    obtain ⟨a, xs, e, _⟩ := rv
    subst e
    exact ⟨a, _, rfl, dp, q.2.1, toP_noDict _, q.2.2.1, q.2.2.2.1, k _ H (.str _) M rfl rm .refl q.2.2.2.2⟩
  · exact q.elim
theorem de_repr {X : Cx} {w : Wsh} {e : Expr} {es : List Expr} {te : TDs} {p pos : Pos} (gd : X.A.guards = some []) (hu : X.A.units + 160 < cLine) (hm : X.mg "repr" = none) (ha : DA X w (e :: es) te) (hg : Gl X "repr" := by rfl) (he : starEach (e :: es) X.env = (false, eval e X.env) :: starEach es X.env := by rfl) (hpl : (backTo pos (starEach es X.env)).any (·.1) = false := by rfl) :
    DE X w (.Call (.Name "repr" p) (e :: es) [] pos) (dCall rdRepr te) := de_callB (call_reprL gd hu) u_repr hg hm (by decide +kernel) ha (by decide) (by decide) he hpl
end Dl
set_option Elab.async false
set_option linter.all false
set_option maxRecDepth 100000
set_option maxHeartbeats 1000000
/-! D13: the law's end over data. -/
namespace Dl
open PySem PySem.Spec PyProof.Rows L2

/-- the law called on the script, by a promise of a def that may call repr -/
theorem law_callG {P : Program} {w : World} {K : PySem.W.Frag} {mg mb : Str → Option Value} {CX : CXT} {k : Nat} {fa a : Addr} {fd : FuncData} {x : Str} {sp : Sp} {s₁ : Shared} {vs : List Value} {ns : List Int}
    (KX : K.In s₁.heap) (hns : s₁.heap.Ns mainGlobals mg) (hb : s₁.heap.Ns builtinsNs mb) (hbb : ∀ x : Str, x ≠ "__name__" → mb x = bootBuiltins x) (hlim : s₁.heap.NoLimit) (hg : s₁.gens = #[])
    (ha : s₁.heap.get? a = some { cls := .type "list", data := .seq vs.toArray }) (hi : IntsAre vs ns) (hl : ns.length ≤ sizeLine) (hr : Room k callerA)
    (F : ∀ base : Heap, K.In base → base.Ns mainGlobals mg → FnG P w K mg base CX k fa fd [x] sp) (hbind : ∀ (s : Shared) (u : Value), BindsTo s fd ⟨[u], []⟩ [(x, u)])
    (hsp : ∀ H : Hp, Only H → SqL K H a (ns.map V.int) → sp [.ref a] H (fun v _ => v = .bl true) fun _ _ _ => False) (hCX : ∀ H e s', CX [] H s₁ (fun _ _ _ => False) e s' → False) :
    codeAny (model P w) callerA (.call (.ref fa) ⟨[.ref a], []⟩) (fun r s' => r = .ok (.ret (.bool true)) ∧ OldK s₁.heap s'.heap ∧ s'.os = s₁.os ∧ AllBare s'.gens) s₁ := by
  have vrel := vals_ints hi
  -- at any reading of the heap in which the script alone may be told
  have main : ∀ H : Hp, Only H → SqL K H a (ns.map V.int) → HOk P w H s₁.heap → (∀ b, H b ≠ none → b = a) → (H a ≠ none → K.lookup a = none) →
      codeAny (model P w) callerA (.call (.ref fa) ⟨[.ref a], []⟩) (fun r s' => r = .ok (.ret (.bool true)) ∧ OldK s₁.heap s'.heap ∧ s'.os = s₁.os ∧ AllBare s'.gens) s₁ := by
    intro H only sq hokH one noK
    have notA : ∀ {b : Addr} {o : Obj} {es : Array DictEntry} {ep : Nat}, s₁.heap.get? b = some o → o.data = .dict es ep → H b = none := fun {b o es ep} g d => by
      by_cases z : H b = none
      · exact z
      · rw [one b z, ha] at g
        cases g
        cases (show Data.seq vs.toArray _ = Data.dict es ep from d)
    have nsB : ∀ {b : Addr} {m : Str → Option Value}, s₁.heap.Ns b m → (hidT s₁.heap H).Ns b m := fun ⟨o, es, ep, g, d, r⟩ => ⟨o, es, ep, hidT_get g (notA g d), d, r⟩
    have kinB : K.In (hidT s₁.heap H) := fun b o g => hidT_get (KX b o g) (by
      by_cases z : H b = none
      · exact z
      · have e := one b z
        subst e
        rw [noK z] at g
        cases g)
    obtain ⟨mc, lim1, lim2⟩ := hlim
    have env : Env0 P w K mg (hidT s₁.heap H) callerA [] s₁ H := ⟨rfl, ⟨kinB, nsB hns, ⟨mb, nsB hb, hbb⟩, mc, nsB lim1, lim2⟩, fun b o g => of_hidT g, Nat.le_of_eq (hidT_size _ _), trivial, (fun b z => nomatch (show b ∈ ([] : List Addr) from z)), hokH, .of_eq hg⟩
    refine codeAny_mono ((F _ kinB (nsB hns)).goes callerA [] s₁ H ⟨[.ref a], []⟩ [.ref a] [.ref a] _ _ hr rfl env (hbind s₁ (.ref a)) (.cons rfl .nil) (hsp H only sq)) fun r s' res => ?_
    match r, res with
    | .error e, res => exact (hCX H e s' res).elim
    | .ok .next, res => exact False.elim res
    | .ok .brk, res => exact False.elim res
    | .ok .cont, res => exact False.elim res
    | .ok (.ret u), ⟨v, H', os, bare, un, hok', rv, q⟩ =>
      cases (show v = V.bl true from q)
      obtain rfl : u = Value.bool true := rv
      refine ⟨rfl, OldK.of_keep fun b o g => ?_, os, bare⟩
      rcases only b with z | ⟨ob, xs, z⟩
      · exact un.keep b o g z (fun y => nomatch (show b ∈ ([] : List Addr) from y)) (by simp)
      · obtain ⟨e1, _⟩ := hokH b _ z
        obtain ⟨e2, _⟩ := hok' b _ (un.frzs b ob _ z)
        rw [g] at e1
        cases e1
        exact e2
  cases hk : K.lookup a with
  | some o =>
    have g := KX a o hk
    rw [ha] at g
    cases g
    exact main (fun _ => none) (fun _ => .inl rfl) (.inr ⟨_, vs.toArray, _, hk, rfl, rfl, rfl, by rw [List.size_toArray, hi.length]; exact hl, by simpa using vrel⟩) (fun b u z => by cases (show (none : Option HO) = some u from z)) (fun b z => absurd rfl z) fun z => absurd rfl z
  | none =>
    have at_ : ∀ b, b ≠ a → (if b = a then some (HO.frz { cls := .type "list", data := .seq vs.toArray } (.lst (ns.map V.int))) else none) = none := fun b z => if_neg z
    refine main (fun b => if b = a then some (.frz { cls := .type "list", data := .seq vs.toArray } (.lst (ns.map V.int))) else none) (fun b => ?_) (.inl (.inr ⟨{ cls := .type "list", data := .seq vs.toArray }, if_pos rfl⟩)) (fun b u z => ?_) (fun b z => ?_) fun _ => hk
    · by_cases e : b = a
      · exact .inr ⟨_, _, if_pos e⟩
      · exact .inl (at_ b e)
    · by_cases e : b = a
      · cases (if_pos e).symm.trans z
        subst e
        exact ⟨ha, by rw [List.length_map]; exact hl, vs, _, vrel, ha⟩
      · cases (at_ b e).symm.trans z
    · by_cases e : b = a
      · exact e
      · exact absurd (at_ b e) z
theorem walk_ofG {l : PySem.W.OpenLaw} {n k : Nat} {q : Program} {loose : List Str} {XP : (Str → Option Value) → Heap → Prop} {YP : World → Heap → Prop} {d : DefRec} {K : Params → PySem.W.Frag} {x : Str}
    (hn : l.most = some n) (hn2 : n ≤ sizeLine) (hdf : d.params.defaults = []) (hr : Room k callerA) (hY : ∀ (w : World) (h : Heap), YP w h → (K w.params).In h)
    (F : ∀ (w : World) (mg : Str → Option Value) (fa : Addr) (h : Heap), (K w.params).In h → h.Ns mainGlobals mg → mg d.name = some (.ref fa) →
      ∃ fd : FuncData, (∀ (s : Shared) (u : Value), BindsTo s fd ⟨[u], []⟩ [(x, u)]) ∧ ∀ base : Heap, (K w.params).In base → base.Ns mainGlobals mg → FnDG l.prog w (K w.params) mg base k fa fd [x] (fun ds M Q E => ∃ ns : List Int, ns.length ≤ n ∧ ds = [.scr ns] ∧ ∀ M', Q (.bl true) M')) :
    PySem.W.WalkO q loose XP YP l.row.toRowW d [] (fun f vs => PySem.call f vs) := by
  refine Att.attach_call hn hdf fun w s₀ s₁ mg mb fa o pm cd doc a vs ns G Y ho hd hcd hmg hobj hints hlen hg => ?_
  have KX := hY w _ Y
  obtain ⟨fd, hb, hF⟩ := F w mg fa _ KX G.T.g hmg
  refine law_callG KX G.T.g G.T.b G.T.builtins G.T.nolimit hg hobj hints (Nat.le_trans hlen hn2) hr hF hb (fun H hO hS => ?_) fun H e s' z => ?_
  · refine ⟨rfl, [.scr ns], fun _ => none, fun d _ => d = .bl true, fun _ _ _ => False, ⟨.ref a, [], rfl, ⟨a, rfl, ?_⟩, rfl⟩, (fun _ _ z => nomatch z), ⟨ns, hlen, rfl, fun _ => rfl⟩, fun v H' d M' rv _ _ q => ?_, fun _ _ _ _ _ _ z => z⟩
    · rcases hS with (hS | ⟨o, hS⟩) | hS
      · rcases hO a with z | ⟨ob, xs, z⟩ <;> (rw [hS] at z; cases z)
      · exact .inl ⟨o, hS, rfl⟩
      · exact .inr hS
    · subst q
      exact rv
  · obtain ⟨_, _, _, _, _, _, _, _, _, _, _, _, z⟩ := z
    exact z
end Dl
set_option Elab.async false
set_option linter.all false
set_option maxRecDepth 100000
set_option maxHeartbeats 1000000
/-! D14: dicts made in passing; what printed derivations lean on. -/
namespace Dl
open PySem PySem.Spec PyProof.Rows L2
section
variable {X : Cx} {w : Wsh} {pos : Pos}
theorem RM.raw {K : PySem.W.Frag} {H : Hp} {M : DHp} {p : Addr} {o : HO} (x : RM K H M) (hp : H p = none) : RM K (upd H p o) (updD M p (.raw o)) := fun a u e => by
  by_cases z : a = p
  · subst z
    rw [updD_same] at e; cases e
    exact upd_same
  · rw [updD_ne z] at e
    exact (x a u e).keep (Kp.newD hp) (upd_ne z)
def dDict0 : TD := fun _ M Q => ∀ p, M p = none → Q (.ref p) (updD M p (.raw (.dK [])))
theorem de_dict0 : DE X w (.Dict [] [] pos) dDict0 := weakE pe_dnewK fun σ H Q h => by
  obtain ⟨δ, M, Qd, ⟨rm, rs⟩, q, k, x⟩ := h
  exact fun p hp => k _ _ (.ref p) _ rfl (rm.raw hp) (Kp.newD hp) (q p (rm.free hp))
def dDict1 (s : Str) (i : Int) : TD := fun _ M Q => ∀ p, M p = none → Q (.ref p) (updD M p (.raw (.dK [(Sum.inr s, V.int i)])))
theorem de_dict1 {s : Str} {i : Int} {j j2 : Nat} {p1 p2 : Pos} : DE X w (.Dict [some (.Constant (.str s) j p1)] [.Constant (.int i) j2 p2] pos) (dDict1 s i) :=
  weakE (pe_disp (pps_cons pe_str pe_int pps_nil) rfl rfl (fun z => nomatch z) (by show 1 ≤ 15; decide)) fun σ H Q h => by
    obtain ⟨δ, M, Qd, ⟨rm, rs⟩, q, k, x⟩ := h
    refine fun p hp => ⟨upd_same, [(Sum.inr s, V.int i)], rfl, (by show 1 ≤ 15; decide), ?_⟩
    have e : upd (upd H p (.dK [])) p (.dK (mergeK [] [(Sum.inr s, V.int i)])) = upd H p (.dK [(Sum.inr s, V.int i)]) := by
      funext b
      by_cases hb : b = p
      · rw [hb, upd_same, upd_same]; rfl
      · rw [upd_ne hb, upd_ne hb, upd_ne hb]
    rw [e]
    exact k _ _ (.ref p) _ rfl (rm.raw hp) (Kp.newD hp) (q p (rm.free hp))
end
theorem hu160 {k : Nat} {A : Around} (hr : Room k A) : A.units + 160 < cLine := by have := hr.un; omega
/-- the wish of a def, as its reading sees it -/
abbrev wF (Ed : XD) : WXd := fun c dd _ M => Ed c dd M
/-- an error of the class at S is what «except S» names -/
theorem exm_self {K : PySem.W.Frag} {S : Addr} (h1 : PySem.W.subIn K (.ref S) (.type "BaseException") = some true) (h2 : PySem.W.isClsIn K S = true) (h3 : PySem.W.typeIn K (.ref S) = some (.type "type")) (h4 : PySem.W.subIn K (.ref S) (.ref S) = some true) :
    PySem.W.exmOne K (.ref S) (.ref S) = some true := by
  have e1 : (PySem.W.subIn K (.ref S) (.type "BaseException") == some true) = true := by rw [h1] <;> rfl
  have e2 : ((PySem.W.clsIn K S).isSome && PySem.W.typeIn K (.ref S) == some (.type "type")) = true := by
    have h2' : (PySem.W.clsIn K S).isSome = true := h2
    rw [h2', h3] <;> rfl
  show (if (PySem.W.subIn K (.ref S) (.type "BaseException") == some true) = true then (if ((PySem.W.clsIn K S).isSome && PySem.W.typeIn K (.ref S) == some (.type "type")) = true then PySem.W.subIn K (.ref S) (.ref S) else none) else none) = some true
  rw [if_pos e1, if_pos e2]
  exact h4
end Dl
set_option Elab.async false
set_option linter.all false
set_option maxRecDepth 100000
set_option maxHeartbeats 1000000
/-! D15: equations of readings, for simp. -/
namespace Dl
open PySem PySem.Spec PyProof.Rows L2
theorem eqD_str {a b : Str} : eqD (.str a) (.str b) = decide (a = b) := by
  show (a == b) = decide (a = b)
  by_cases h : a = b <;> simp [h]
theorem eqD_int {a b : Int} : eqD (.int a) (.int b) = decide (a = b) := by
  show (a == b) = decide (a = b)
  by_cases h : a = b <;> simp [h]
theorem rdEq_str {a b : Str} {M : DHp} {Q : QD} : rdEq (.str a) (.str b) M Q = Q (.bl (decide (a = b))) M := by
  refine propext ⟨fun h => ?_, fun h => ⟨rfl, rfl, by show 0 ≤ 160; decide, ?_⟩⟩
  · have := h.2.2.2
    rwa [show thw M (.str a) = .str a from rfl, show thw M (.str b) = .str b from rfl, eqD_str] at this
  · rw [show thw M (.str a) = .str a from rfl, show thw M (.str b) = .str b from rfl, eqD_str]
    exact h
theorem rdEq_int {a b : Int} {M : DHp} {Q : QD} : rdEq (.int a) (.int b) M Q = Q (.bl (decide (a = b))) M := by
  refine propext ⟨fun h => ?_, fun h => ⟨rfl, rfl, by show 0 ≤ 160; decide, ?_⟩⟩
  · have := h.2.2.2
    rwa [show thw M (.int a) = .int a from rfl, show thw M (.int b) = .int b from rfl, eqD_int] at this
  · rw [show thw M (.int a) = .int a from rfl, show thw M (.int b) = .int b from rfl, eqD_int]
    exact h
theorem rdNe_str {a b : Str} {M : DHp} {Q : QD} : rdNe (.str a) (.str b) M Q = Q (.bl (!decide (a = b))) M := by
  refine propext ⟨fun h => ?_, fun h => ⟨rfl, rfl, by show 0 ≤ 160; decide, ?_⟩⟩
  · have := h.2.2.2
    rwa [show thw M (.str a) = .str a from rfl, show thw M (.str b) = .str b from rfl, eqD_str] at this
  · rw [show thw M (.str a) = .str a from rfl, show thw M (.str b) = .str b from rfl, eqD_str]
    exact h
theorem rdNe_int {a b : Int} {M : DHp} {Q : QD} : rdNe (.int a) (.int b) M Q = Q (.bl (!decide (a = b))) M := by
  refine propext ⟨fun h => ?_, fun h => ⟨rfl, rfl, by show 0 ≤ 160; decide, ?_⟩⟩
  · have := h.2.2.2
    rwa [show thw M (.int a) = .int a from rfl, show thw M (.int b) = .int b from rfl, eqD_int] at this
  · rw [show thw M (.int a) = .int a from rfl, show thw M (.int b) = .int b from rfl, eqD_int]
    exact h
theorem eqD_nil {l : List D} : eqD (.lst l) (.lst []) = l.isEmpty := by
  cases l with
  | nil => rfl
  | cons d l => rfl
theorem dep_nil : dep (.lst []) ≤ 160 := by decide
theorem rdEq_nil {l : List D} {M : DHp} {Q : QD} (hd : dats l = true) : rdEq (.lst l) (.lst []) M Q = Q (.bl l.isEmpty) M := by
  refine propext ⟨fun h => ?_, fun h => ⟨by simpa [thw, dat] using hd, rfl, Nat.le_trans (Nat.min_le_right _ _) dep_nil, ?_⟩⟩
  · have := h.2.2.2
    rwa [show thw M (.lst l) = .lst l from rfl, show thw M (.lst []) = .lst [] from rfl, eqD_nil] at this
  · rw [show thw M (.lst l) = .lst l from rfl, show thw M (.lst []) = .lst [] from rfl, eqD_nil]
    exact h
theorem rdNe_nil {l : List D} {M : DHp} {Q : QD} (hd : dats l = true) : rdNe (.lst l) (.lst []) M Q = Q (.bl (!l.isEmpty)) M := by
  refine propext ⟨fun h => ?_, fun h => ⟨by simpa [thw, dat] using hd, rfl, Nat.le_trans (Nat.min_le_right _ _) dep_nil, ?_⟩⟩
  · have := h.2.2.2
    rwa [show thw M (.lst l) = .lst l from rfl, show thw M (.lst []) = .lst [] from rfl, eqD_nil] at this
  · rw [show thw M (.lst l) = .lst l from rfl, show thw M (.lst []) = .lst [] from rfl, eqD_nil]
    exact h
theorem dats_strs : ∀ l : List Str, dats (l.map D.str) = true
  | [] => rfl
  | s :: l => by simp only [List.map_cons, dats, dat, dats_strs l, Bool.and_self]
theorem rdAll_lst {bs : List Bool} {M : DHp} {Q : QD} (h : Q (.bl (bs.all id)) M) : rdAll [.lst (bs.map D.bl)] M Q := ⟨bs, rfl, h⟩
/-- a comprehension whose turns change nothing -/
theorem lc_go {ti : TDi} {g : TGd} {tt : TDt} {te : TD} {vs : List Nat} {δ : Sd} {M : DHp} {Q : QD} (o : D → Option D) (h : ti δ M fun items M1 => items.length ≤ sizeLine ∧ (∀ x ∈ items, ∀ M R, R (o x) M → Body g tt te (wipeD δ vs) x M R) ∧ Q (.lst (items.filterMap o)) M1)
    (mono : ∀ R R' : List D → DHp → Prop, (∀ l M, R l M → R' l M) → ti δ M R → ti δ M R') : dLc ti g tt te vs δ M Q :=
  mono _ _ (fun items M1 h => lc_pure o h.1 h.2.1 h.2.2) h
/-! ### what need not be tracked any more -/
def SubM (M2 M1 : DHp) : Prop := ∀ a o, M2 a = some o → M1 a = some o
theorem Kp.subM {H : Hp} {M1 M2 : DHp} (h : SubM M2 M1) : Kp H M1 H M2 := fun a o e m => ⟨e, by
  cases z : M2 a with
  | none => rfl
  | some u => rw [h a u z] at m; cases m⟩
theorem RM.subM {K : PySem.W.Frag} {H : Hp} {M1 M2 : DHp} (x : RM K H M1) (h : SubM M2 M1) : RM K H M2 := fun a u e => (x a u (h a u e)).keep (Kp.subM h) rfl
def dShr (t : TD) : TD := fun δ M Q => t δ M fun d M1 => ∃ M2, SubM M2 M1 ∧ Q d M2
theorem de_shr {X : Cx} {w : Wsh} {a : Expr} {t : TD} (h : DE X w a t) : DE X w a (dShr t) := weakE h fun σ H Q h => by
  obtain ⟨δ, M, Qd, rp, q, k, x⟩ := h
  refine ⟨δ, M, _, rp, q, fun v H1 d M1 rv rm1 k1 q1 => ?_, x⟩
  obtain ⟨M2, s, q1⟩ := q1
  exact k _ H1 d M2 (rv.keep (Kp.subM s) _ _) (rm1.subM s) (k1.trans (Kp.subM s)) q1
end Dl
set_option Elab.async false
set_option linter.all false
set_option maxRecDepth 100000
set_option maxHeartbeats 4000000
namespace Dl
open PySem PySem.Spec PyProof.Rows L2

/-! the defs of the law by their places, their names, the facts of the top -/
def topS (i : Nat) : Stmt := PySem.Challenge.pw_whichwalks_k83_texts_of_values.main.body.getD i (.Pass ⟨0, 0, 0, 0⟩)
abbrev s3 : Stmt := topS 3
abbrev N3 : List Str := ["value"]
theorem sc3 : FnScope N3 ["value"] (defScope s3) := ⟨rfl, rfl, rfl, by decide +kernel, rfl, by decide +kernel, by decide +kernel⟩
abbrev s4 : Stmt := topS 4
abbrev N4 : List Str := ["value"]
theorem sc4 : FnScope N4 ["value"] (defScope s4) := ⟨rfl, rfl, rfl, by decide +kernel, rfl, by decide +kernel, by decide +kernel⟩
abbrev s5 : Stmt := topS 5
abbrev N5 : List Str := ["value", "letter"]
theorem sc5 : FnScope N5 ["value"] (defScope s5) := ⟨rfl, rfl, rfl, by decide +kernel, rfl, by decide +kernel, by decide +kernel⟩
abbrev s13 : Stmt := topS 13
abbrev N13 : List Str := ["value"]
theorem sc13 : FnScope N13 ["value"] (defScope s13) := ⟨rfl, rfl, rfl, by decide +kernel, rfl, by decide +kernel, by decide +kernel⟩
abbrev s14 : Stmt := topS 14
abbrev N14 : List Str := ["word", "sign"]
theorem sc14 : FnScope N14 ["word"] (defScope s14) := ⟨rfl, rfl, rfl, by decide +kernel, rfl, by decide +kernel, by decide +kernel⟩
abbrev s15 : Stmt := topS 15
abbrev N15 : List Str := ["value", "depth", "part", "word"]
theorem sc15 : FnScope N15 ["value", "depth"] (defScope s15) := ⟨rfl, rfl, rfl, by decide +kernel, rfl, by decide +kernel, by decide +kernel⟩
abbrev s16 : Stmt := topS 16
abbrev N16 : List Str := ["value"]
theorem sc16 : FnScope N16 ["value"] (defScope s16) := ⟨rfl, rfl, rfl, by decide +kernel, rfl, by decide +kernel, by decide +kernel⟩
abbrev s17 : Stmt := topS 17
abbrev N17 : List Str := ["word", "number"]
theorem sc17 : FnScope N17 ["word"] (defScope s17) := ⟨rfl, rfl, rfl, by decide +kernel, rfl, by decide +kernel, by decide +kernel⟩
abbrev s18 : Stmt := topS 18
abbrev N18 : List Str := ["words", "rows", "word", "parts", "found"]
theorem sc18 : FnScope N18 ["words"] (defScope s18) := ⟨rfl, rfl, rfl, by decide +kernel, rfl, by decide +kernel, by decide +kernel⟩
abbrev s19 : Stmt := topS 19
abbrev N19 : List Str := ["text", "found", "first", "rest"]
theorem sc19 : FnScope N19 ["text"] (defScope s19) := ⟨rfl, rfl, rfl, by decide +kernel, rfl, by decide +kernel, by decide +kernel⟩
abbrev s21 : Stmt := topS 21
abbrev N21 : List Str := ["_law_script", "_law_at", "_law_cell", "_law_great", "_law_mixed"]
theorem sc21 : FnScope N21 ["_law_script", "_law_at"] (defScope s21) := ⟨rfl, rfl, rfl, by decide +kernel, rfl, by decide +kernel, by decide +kernel⟩
abbrev s22 : Stmt := topS 22
abbrev N22 : List Str := ["_law_mill_here", "_law_total", "_law_one", "_law_two", "_law_found"]
theorem sc22 : FnScope N22 ["_law_mill_here", "_law_total"] (defScope s22) := ⟨rfl, rfl, rfl, by decide +kernel, rfl, by decide +kernel, by decide +kernel⟩
abbrev s23 : Stmt := topS 23
abbrev N23 : List Str := ["_law_mill_here", "_law_items"]
theorem sc23 : FnScope N23 ["_law_mill_here", "_law_items"] (defScope s23) := ⟨rfl, rfl, rfl, by decide +kernel, rfl, by decide +kernel, by decide +kernel⟩
abbrev s24 : Stmt := topS 24
abbrev N24 : List Str := ["_law_mill_here", "_law_items", "_law_waits", "_law_turn"]
theorem sc24 : FnScope N24 ["_law_mill_here", "_law_items"] (defScope s24) := ⟨rfl, rfl, rfl, by decide +kernel, rfl, by decide +kernel, by decide +kernel⟩
abbrev s25 : Stmt := topS 25
abbrev N25 : List Str := ["_law_mill_here"]
theorem sc25 : FnScope N25 ["_law_mill_here"] (defScope s25) := ⟨rfl, rfl, rfl, by decide +kernel, rfl, by decide +kernel, by decide +kernel⟩
abbrev s26 : Stmt := topS 26
abbrev N26 : List Str := ["_law_mill_here", "_law_much", "_law_spot", "_law_sign", "_law_body", "_law_lot", "_law_found", "_law_at"]
theorem sc26 : FnScope N26 ["_law_mill_here", "_law_much"] (defScope s26) := ⟨rfl, rfl, rfl, by decide +kernel, rfl, by decide +kernel, by decide +kernel⟩
abbrev s27 : Stmt := topS 27
abbrev N27 : List Str := ["_law_value", "_law_sign"]
theorem sc27 : FnScope N27 ["_law_value"] (defScope s27) := ⟨rfl, rfl, rfl, by decide +kernel, rfl, by decide +kernel, by decide +kernel⟩
abbrev s28 : Stmt := topS 28
abbrev N28 : List Str := ["_law_value"]
theorem sc28 : FnScope N28 ["_law_value"] (defScope s28) := ⟨rfl, rfl, rfl, by decide +kernel, rfl, by decide +kernel, by decide +kernel⟩
abbrev s29 : Stmt := topS 29
abbrev N29 : List Str := ["_law_mill_here", "_law_deep", "_law_lot", "_law_at"]
theorem sc29 : FnScope N29 ["_law_mill_here", "_law_deep"] (defScope s29) := ⟨rfl, rfl, rfl, by decide +kernel, rfl, by decide +kernel, by decide +kernel⟩
abbrev s30 : Stmt := topS 30
abbrev N30 : List Str := ["_law_value", "_law_found", "_law_one"]
theorem sc30 : FnScope N30 ["_law_value"] (defScope s30) := ⟨rfl, rfl, rfl, by decide +kernel, rfl, by decide +kernel, by decide +kernel⟩
abbrev s31 : Stmt := topS 31
abbrev N31 : List Str := ["_law_word", "_law_sign"]
theorem sc31 : FnScope N31 ["_law_word"] (defScope s31) := ⟨rfl, rfl, rfl, by decide +kernel, rfl, by decide +kernel, by decide +kernel⟩
abbrev s32 : Stmt := topS 32
abbrev N32 : List Str := ["_law_words_here", "_law_rows", "_law_word", "_law_inner", "_law_found"]
theorem sc32 : FnScope N32 ["_law_words_here"] (defScope s32) := ⟨rfl, rfl, rfl, by decide +kernel, rfl, by decide +kernel, by decide +kernel⟩
abbrev s33 : Stmt := topS 33
abbrev N33 : List Str := ["_law_text", "_law_word", "_law_found", "_law_most"]
theorem sc33 : FnScope N33 ["_law_text"] (defScope s33) := ⟨rfl, rfl, rfl, by decide +kernel, rfl, by decide +kernel, by decide +kernel⟩
abbrev s34 : Stmt := topS 34
abbrev N34 : List Str := ["_law_text", "error"]
theorem sc34 : FnScope N34 ["_law_text"] (defScope s34) := ⟨rfl, rfl, rfl, by decide +kernel, rfl, by decide +kernel, by decide +kernel⟩
abbrev s35 : Stmt := topS 35
abbrev N35 : List Str := ["_law_text", "_law_lines", "_law_found"]
theorem sc35 : FnScope N35 ["_law_text"] (defScope s35) := ⟨rfl, rfl, rfl, by decide +kernel, rfl, by decide +kernel, by decide +kernel⟩
abbrev s36 : Stmt := topS 36
abbrev N36 : List Str := ["_law_mill_here", "_law_words_here", "_law_odd", "_law_at", "_law_lot", "_law_two"]
theorem sc36 : FnScope N36 ["_law_mill_here", "_law_words_here"] (defScope s36) := ⟨rfl, rfl, rfl, by decide +kernel, rfl, by decide +kernel, by decide +kernel⟩
abbrev s37 : Stmt := topS 37
abbrev N37 : List Str := ["_law_value"]
theorem sc37 : FnScope N37 ["_law_value"] (defScope s37) := ⟨rfl, rfl, rfl, by decide +kernel, rfl, by decide +kernel, by decide +kernel⟩
abbrev s38 : Stmt := topS 38
abbrev N38 : List Str := ["_law_mill_here", "_law_value", "_law_turn"]
theorem sc38 : FnScope N38 ["_law_mill_here", "_law_value"] (defScope s38) := ⟨rfl, rfl, rfl, by decide +kernel, rfl, by decide +kernel, by decide +kernel⟩
abbrev s39 : Stmt := topS 39
abbrev N39 : List Str := ["_law_mill_here", "_law_turn", "_law_value", "_law_words_here", "_law_near", "_law_texts", "_law_odd", "_law_row", "_law_text"]
theorem sc39 : FnScope N39 ["_law_mill_here"] (defScope s39) := ⟨rfl, rfl, rfl, by decide +kernel, rfl, by decide +kernel, by decide +kernel⟩
abbrev s40 : Stmt := topS 40
abbrev N40 : List Str := ["_law_script", "_law_at", "_law_deep", "_law_turn", "_law_text"]
theorem sc40 : FnScope N40 ["_law_script"] (defScope s40) := ⟨rfl, rfl, rfl, by decide +kernel, rfl, by decide +kernel, by decide +kernel⟩
/-- the class ParseError's __init__ -/
def clsBody (s : Stmt) : List Stmt := match s with
  | .ClassDef _ _ _ b _ _ _ _ _ _ _ => b
  | _ => []
abbrev sIn : Stmt := (clsBody (topS 9)).getD 0 (.Pass ⟨0, 0, 0, 0⟩)
structure Tx (P : Program) (K : PySem.W.Frag) (mg : Str → Option Value) where
  a3 : Addr
  d3 : FuncData
  f3 : Fun K "is_integer" "is_integer" s3 a3 d3
  b3 : Binds K d3 ["value"] []
  m3 : mg "is_integer" = some (.ref a3)
  a4 : Addr
  d4 : FuncData
  f4 : Fun K "is_count" "is_count" s4 a4 d4
  b4 : Binds K d4 ["value"] []
  m4 : mg "is_count" = some (.ref a4)
  a5 : Addr
  d5 : FuncData
  f5 : Fun K "is_name" "is_name" s5 a5 d5
  b5 : Binds K d5 ["value"] []
  m5 : mg "is_name" = some (.ref a5)
  a13 : Addr
  d13 : FuncData
  f13 : Fun K "require_text" "require_text" s13 a13 d13
  b13 : Binds K d13 ["value"] []
  m13 : mg "require_text" = some (.ref a13)
  a14 : Addr
  d14 : FuncData
  f14 : Fun K "number_of" "number_of" s14 a14 d14
  b14 : Binds K d14 ["word"] []
  m14 : mg "number_of" = some (.ref a14)
  a15 : Addr
  d15 : FuncData
  f15 : Fun K "words_of" "words_of" s15 a15 d15
  b15 : Binds K d15 ["value", "depth"] []
  m15 : mg "words_of" = some (.ref a15)
  a16 : Addr
  d16 : FuncData
  f16 : Fun K "write_value" "write_value" s16 a16 d16
  b16 : Binds K d16 ["value"] []
  m16 : mg "write_value" = some (.ref a16)
  a17 : Addr
  d17 : FuncData
  f17 : Fun K "single_of" "single_of" s17 a17 d17
  b17 : Binds K d17 ["word"] []
  m17 : mg "single_of" = some (.ref a17)
  a18 : Addr
  d18 : FuncData
  f18 : Fun K "value_of" "value_of" s18 a18 d18
  b18 : Binds K d18 ["words"] []
  m18 : mg "value_of" = some (.ref a18)
  a19 : Addr
  d19 : FuncData
  f19 : Fun K "read_value" "read_value" s19 a19 d19
  b19 : Binds K d19 ["text"] []
  m19 : mg "read_value" = some (.ref a19)
  a21 : Addr
  d21 : FuncData
  f21 : Fun K "_law_mill" "_law_mill" s21 a21 d21
  b21 : Binds K d21 ["_law_script", "_law_at"] []
  m21 : mg "_law_mill" = some (.ref a21)
  a22 : Addr
  d22 : FuncData
  f22 : Fun K "_law_grain" "_law_grain" s22 a22 d22
  b22 : Binds K d22 ["_law_mill_here", "_law_total"] []
  m22 : mg "_law_grain" = some (.ref a22)
  a23 : Addr
  d23 : FuncData
  f23 : Fun K "_law_one_of" "_law_one_of" s23 a23 d23
  b23 : Binds K d23 ["_law_mill_here", "_law_items"] []
  m23 : mg "_law_one_of" = some (.ref a23)
  a24 : Addr
  d24 : FuncData
  f24 : Fun K "_law_order" "_law_order" s24 a24 d24
  b24 : Binds K d24 ["_law_mill_here", "_law_items"] []
  m24 : mg "_law_order" = some (.ref a24)
  a25 : Addr
  d25 : FuncData
  f25 : Fun K "_law_letter" "_law_letter" s25 a25 d25
  b25 : Binds K d25 ["_law_mill_here"] []
  m25 : mg "_law_letter" = some (.ref a25)
  a26 : Addr
  d26 : FuncData
  f26 : Fun K "_law_many_names" "_law_many_names" s26 a26 d26
  b26 : Binds K d26 ["_law_mill_here", "_law_much"] []
  m26 : mg "_law_many_names" = some (.ref a26)
  a27 : Addr
  d27 : FuncData
  f27 : Fun K "_law_spelled" "_law_spelled" s27 a27 d27
  b27 : Binds K d27 ["_law_value"] []
  m27 : mg "_law_spelled" = some (.ref a27)
  a28 : Addr
  d28 : FuncData
  f28 : Fun K "_law_is_count" "_law_is_count" s28 a28 d28
  b28 : Binds K d28 ["_law_value"] []
  m28 : mg "_law_is_count" = some (.ref a28)
  a29 : Addr
  d29 : FuncData
  f29 : Fun K "_law_worth" "_law_worth" s29 a29 d29
  b29 : Binds K d29 ["_law_mill_here", "_law_deep"] []
  m29 : mg "_law_worth" = some (.ref a29)
  a30 : Addr
  d30 : FuncData
  f30 : Fun K "_law_words" "_law_words" s30 a30 d30
  b30 : Binds K d30 ["_law_value"] []
  m30 : mg "_law_words" = some (.ref a30)
  a31 : Addr
  d31 : FuncData
  f31 : Fun K "_law_single" "_law_single" s31 a31 d31
  b31 : Binds K d31 ["_law_word"] []
  m31 : mg "_law_single" = some (.ref a31)
  a32 : Addr
  d32 : FuncData
  f32 : Fun K "_law_meant" "_law_meant" s32 a32 d32
  b32 : Binds K d32 ["_law_words_here"] []
  m32 : mg "_law_meant" = some (.ref a32)
  a33 : Addr
  d33 : FuncData
  f33 : Fun K "_law_depth" "_law_depth" s33 a33 d33
  b33 : Binds K d33 ["_law_text"] []
  m33 : mg "_law_depth" = some (.ref a33)
  a34 : Addr
  d34 : FuncData
  f34 : Fun K "_law_told_by" "_law_told_by" s34 a34 d34
  b34 : Binds K d34 ["_law_text"] []
  m34 : mg "_law_told_by" = some (.ref a34)
  a35 : Addr
  d35 : FuncData
  f35 : Fun K "_law_due" "_law_due" s35 a35 d35
  b35 : Binds K d35 ["_law_text"] []
  m35 : mg "_law_due" = some (.ref a35)
  a36 : Addr
  d36 : FuncData
  f36 : Fun K "_law_bent" "_law_bent" s36 a36 d36
  b36 : Binds K d36 ["_law_mill_here", "_law_words_here"] []
  m36 : mg "_law_bent" = some (.ref a36)
  a37 : Addr
  d37 : FuncData
  f37 : Fun K "_law_is_refused" "_law_is_refused" s37 a37 d37
  b37 : Binds K d37 ["_law_value"] []
  m37 : mg "_law_is_refused" = some (.ref a37)
  a38 : Addr
  d38 : FuncData
  f38 : Fun K "_law_hidden" "_law_hidden" s38 a38 d38
  b38 : Binds K d38 ["_law_mill_here", "_law_value"] []
  m38 : mg "_law_hidden" = some (.ref a38)
  a39 : Addr
  d39 : FuncData
  f39 : Fun K "_law_cell_right" "_law_cell_right" s39 a39 d39
  b39 : Binds K d39 ["_law_mill_here"] []
  m39 : mg "_law_cell_right" = some (.ref a39)
  a40 : Addr
  d40 : FuncData
  f40 : Fun K "law" "law" s40 a40 d40
  b40 : Binds K d40 ["_law_script"] []
  m40 : mg "law" = some (.ref a40)
  u_GREATEST : Value
  m_GREATEST : mg "GREATEST" = some u_GREATEST
  r_GREATEST : RelV (.int (10 ^ 60 - 1)) u_GREATEST
  u_MAX_DEPTH : Value
  m_MAX_DEPTH : mg "MAX_DEPTH" = some u_MAX_DEPTH
  r_MAX_DEPTH : RelV (.int 8) u_MAX_DEPTH
  u_MAX_DIGITS : Value
  m_MAX_DIGITS : mg "MAX_DIGITS" = some u_MAX_DIGITS
  r_MAX_DIGITS : RelV (.int 60) u_MAX_DIGITS
  u_MAX_LETTERS : Value
  m_MAX_LETTERS : mg "MAX_LETTERS" = some u_MAX_LETTERS
  r_MAX_LETTERS : RelV (.int 8) u_MAX_LETTERS
  n_abs : mg "abs" = none
  n_all : mg "all" = none
  n_bool : mg "bool" = none
  n_int : mg "int" = none
  n_isinstance : mg "isinstance" = none
  n_len : mg "len" = none
  n_list : mg "list" = none
  n_max : mg "max" = none
  n_min : mg "min" = none
  n_range : mg "range" = none
  n_repr : mg "repr" = none
  n_str : mg "str" = none
  n_tuple : mg "tuple" = none
  aIO : Addr
  gIO : mg "InvalidOperation" = some (.ref aIO)
  xIO : PySem.W.excIn K aIO [.type "ValueError", .type "Exception", .type "BaseException", .type "object"] "ValueError.__new__" = true
  kIO : PySem.W.keepIn K (.ref aIO) = true
  bIO : PySem.W.subIn K (.ref aIO) (.type "BaseException") = some true
  tIO : PySem.W.typeIn K (.ref aIO) = some (.type "type")
  eIO : PySem.W.exmOne K (.ref aIO) (.ref aIO) = some true
  aPE : Addr
  gPE : mg "ParseError" = some (.ref aPE)
  oPE : OexC K aPE
  xfPE : XfC K aPE
  noPE : PySem.W.findIn K (.ref aPE) "index" = some none
  ePE : PySem.W.exmOne K (.ref aPE) (.ref aPE) = some true
  aIn : Addr
  dIn : FuncData
  iPE : PySem.W.findIn K (.ref aPE) "__init__" = some (some (.ref aIn))
  iPEt : PySem.W.typeIn K (.ref aIn) = some (.type "function")
  bPE : Binds K dIn ["self", "index"] []
  cIn : Addr
  ccIn : Addr
  okIn : ∃ oc od osl dV kV doc pm an ct, K.lookup aIn = some ⟨oc, od, .func dIn, osl⟩ ∧ dIn = PySem.W.ksFn "__init__" "ParseError.__init__" (defArgs sIn) (defBody sIn) (defScope sIn) dV kV doc pm an (.ref cIn) ct ccIn
  cdIn : PySem.W.codeIn K (.ref cIn) "ParseError.__init__" = true
  inPE : InC P K aPE aIn ccIn cIn "ValueError" "ValueError.__init__" "ValueError.__new__" [.type "ValueError", .type "Exception", .type "BaseException", .type "object"]
end Dl
set_option Elab.async false
set_option linter.all false
set_option maxRecDepth 100000
set_option maxHeartbeats 4000000
/-! K83S: what the defs of k83 compute, in plain Lean; their promises. -/
namespace Dl
open PySem PySem.Spec PyProof.Rows L2

/-! ### values, words -/
def GR : Int := 10 ^ 60 - 1
def isInt : D → Bool
  | .int i => decide (-GR ≤ i ∧ i ≤ GR)
  | _ => false
def isCnt : D → Bool
  | .int i => decide (0 ≤ i ∧ i ≤ GR)
  | _ => false
def isNat : D → Bool
  | .int i => decide (0 ≤ i)
  | _ => false
def isNm (s : Str) : Bool := decide (1 ≤ s.length ∧ s.length ≤ 8) && s.cps.toList.all fun c => decide (97 ≤ c ∧ c ≤ 122)
def nmD : D → Bool
  | .str s => isNm s
  | _ => false
/-- a word for a value that is no tuple -/
def word1 : D → Option Str
  | .non => some "-"
  | .int i => if 0 ≤ i ∧ i ≤ GR then some (toString i) else none
  | .str s => if isNm s = true then some ("=" ++ s) else none
  | _ => none
def wordsAll (f : D → Option (List Str)) : List D → Option (List Str)
  | [] => some []
  | d :: l => match f d with
    | some ws => (wordsAll f l).map (ws ++ ·)
    | none => none
/-- the words of a value's text, nested at most so deep -/
def wordsOf : Nat → D → Option (List Str)
  | 0, d => (word1 d).map fun w => [w]
  | k + 1, d => match d with
    | .tup l => (wordsAll (wordsOf k) l).map fun ws => ("(" : Str) :: (ws ++ [(")" : Str)])
    | d => (word1 d).map fun w => [w]
def isDig (w : Str) : Bool := w.cps.toList.all fun c => decide (48 ≤ c ∧ c ≤ 57)
def numOf (w : Str) : Option Int := if 1 ≤ w.length ∧ w.length ≤ 60 ∧ isDig w = true then (if w.cps.toList.head? = some 48 ∧ w ≠ "0" then none else some ((PySem.intText? w).getD 0)) else none
def singleOf (w : Str) : List D := if w = "-" then [.non] else if cutS w none (some 1) = "=" then (if isNm (cutS w (some 1) none) = true then [.str (cutS w (some 1) none)] else []) else match numOf w with
  | some n => [.int n]
  | none => []
/-- one word more: the open rows, the innermost first -/
def valStep (rows : List (List D)) (w : Str) : Option (List (List D)) :=
  if w = "(" ∧ rows.length ≤ 8 then some ([] :: rows)
  else if w = ")" ∧ 1 < rows.length then (match rows with
    | r :: q :: l => some ((q ++ [.tup r]) :: l)
    | _ => none)
  else match singleOf w, rows with
    | [], _ => none
    | ds, r :: l => some ((r ++ ds) :: l)
    | _, [] => none
def meanStep (rows : List (List D)) (w : Str) : Option (List (List D)) :=
  if w = "(" then some ([] :: rows)
  else if w = ")" then (match rows with
    | r :: q :: l => some ((q ++ [.tup r]) :: l)
    | _ => none)
  else match singleOf w, rows with
    | [], _ => none
    | ds, r :: l => some ((r ++ ds) :: l)
    | _, [] => none
def runW (f : List (List D) → Str → Option (List (List D))) : List (List D) → List Str → Option (List (List D))
  | rows, [] => some rows
  | rows, w :: ws => match f rows w with
    | some rows' => runW f rows' ws
    | none => none
def endW : Option (List (List D)) → List D
  | some [[d]] => [d]
  | _ => []
def valueOf (ws : List Str) : List D := endW (runW valStep [[]] ws)
def meantOf (ws : List Str) : List D := endW (runW meanStep [[]] ws)
def firstLine (t : Str) : List Str := match Txt.split t "\n" with
  | l :: _ => Txt.split l " "
  | [] => []
/-- what reading a text gives: a value or the index of its refusal -/
def readOf (t : Str) : D ⊕ Int := match valueOf (firstLine t) with
  | d :: _ => if (Txt.split t "\n").length = 1 then .inl d else .inr 1
  | [] => .inr 0
def dueOf (t : Str) : D ⊕ Int := match meantOf (firstLine t) with
  | d :: _ => if (Txt.split t "\n").length = 1 then .inl d else .inr 1
  | [] => .inr 0
def toldD : D ⊕ Int → D
  | .inl d => .lst [.str "value", d]
  | .inr i => .lst [.str "index", .int i]
def depStep (p : Int × Int) (w : Str) : Int × Int :=
  let f := p.1 + (if w = "(" then 1 else 0) - (if w = ")" then 1 else 0)
  (f, if f > p.2 then f else p.2)
def depOf (t : Str) : Int := ((Txt.split t " ").foldl depStep (0, 0)).2

/-! ### promises -/
/-- all that is tracked in M is tracked in M', the same -/
def Ext (M M' : DHp) : Prop := ∀ a o, M a = some o → M' a = some o
theorem Ext.refl {M : DHp} : Ext M M := fun _ _ h => h
theorem Ext.new {M : DHp} {p : Addr} {o : DO} (h : M p = none) : Ext M (updD M p o) := fun a u e => by
  have : a ≠ p := fun z => by subst z; rw [h] at e; cases e
  rw [updD_ne this]; exact e
theorem Ext.trans {M M' M'' : DHp} (h : Ext M M') (h' : Ext M' M'') : Ext M M'' := fun a o e => h' a o (h a o e)
def okV (M : DHp) (d : D) : Prop := (∃ T, tyD M d = some T) ∧ ∀ s, d = .str s → s.length ≤ 1000000
def okW : Nat → DHp → D → Prop
  | 0, _, _ => False
  | n + 1, M, d => okV M d ∧ ∀ l, d = .tup l → ∀ x ∈ l, okW n M x
mutual
def wlen : D → Nat
  | .tup l => 2 + wlens l
  | _ => 1
def wlens : List D → Nat
  | [] => 0
  | d :: l => wlen d + wlens l
end
def okIx (d : D) : Prop := d = .int 0 ∨ d = .int 1
def okIxV (v : V) : Prop := v = .int 0 ∨ v = .int 1
theorem okIx_ok {K : PySem.W.Frag} : ∀ d v H M, okIx d → RV K H M d v → okIxV v := fun d v H M h r => by
  rcases h with rfl | rfl
  · exact .inl r
  · exact .inr r
variable {P : Program} {K : PySem.W.Frag} {mg : Str → Option Value}
def S3 : SpD := fun ds M Q _ => ∃ d, ds = [d] ∧ okV M d ∧ Q (.bl (isInt d)) M
def S4 : SpD := fun ds M Q _ => ∃ d, ds = [d] ∧ okV M d ∧ Q (.bl (isCnt d)) M
def S5 : SpD := fun ds M Q _ => ∃ d, ds = [d] ∧ okV M d ∧ Q (.bl (nmD d)) M
def S13 : SpD := fun ds M Q _ => ∃ s, ds = [.str s] ∧ Q .non M
def S14 : SpD := fun ds M Q _ => ∃ w : Str, ds = [.str w] ∧ w.length ≤ 1000000 ∧ Q (match numOf w with | some n => .int n | none => .non) M
def S15 (T : Tx P K mg) (n : Nat) : SpD := fun ds M Q E => ∃ (d : D) (k : Nat), ds = [d, .int k] ∧ okW n M d ∧ wlen d ≤ 1000000 ∧ match wordsOf k d with
  | some ws => Q (.lst (ws.map D.str)) M
  | none => ∀ M', Ext M M' → E (.ref T.aIO) none M'
def S16 (T : Tx P K mg) : SpD := fun ds M Q E => ∃ d, ds = [d] ∧ okW 10 M d ∧ wlen d ≤ 270000 ∧ match wordsOf 8 d with
  | some ws => Q (.str (Txt.join " " ws)) M
  | none => ∀ M', Ext M M' → E (.ref T.aIO) none M'
def S17 : SpD := fun ds M Q _ => ∃ w : Str, ds = [.str w] ∧ w.length ≤ 1000000 ∧ Q (.lst (singleOf w)) M
def S18 : SpD := fun ds M Q _ => ∃ ws : List Str, ds = [.lst (ws.map D.str)] ∧ (∀ w ∈ ws, w.length ≤ 1000000) ∧ ws.length ≤ 1000000 ∧ Q (.lst (valueOf ws)) M
def S19 (T : Tx P K mg) : SpD := fun ds M Q E => ∃ t : Str, ds = [.str t] ∧ t.length ≤ 900000 ∧ (Txt.split t "\n").length ≤ 1000 ∧ match readOf t with
  | .inl d => Q d M
  | .inr i => ∀ dd, M dd = none → E (.ref T.aPE) (some dd) (updD M dd (.xd [("index", .int i)]))
/-- the mill: its digits, its number, its count (at most c) -/
def Mil (c : Nat) (x y z : Int) : Prop := 0 ≤ x ∧ 0 ≤ y ∧ y < 2 ^ 62 ∧ 0 ≤ z ∧ z ≤ c
def millD (x y z : Int) : DO := .lst [.int x, .int y, .int z]
def S21 : SpD := fun ds M Q _ => ∃ (ns : List Int) (k : Nat), ds = [.scr ns, .int k] ∧ k ≤ 1000 ∧ ns.length ≤ 63 ∧ ∀ p x y z, M p = none → Mil 0 x y z → Q (.ref p) (updD M p (millD x y z))
/-- ask a mill at p: what is said of each answer -/
def atMill (M : DHp) (p : Addr) (c more : Nat) (R : D → Prop) (Q : QD) : Prop := ∃ x y z, M p = some (millD x y z) ∧ Mil c x y z ∧ ∀ d x y z, R d → Mil (c + more) x y z → Q d (updD M p (millD x y z))
def S22 : SpD := fun ds M Q _ => ∃ (p : Addr) (t : Int) (c : Nat), ds = [.ref p, .int t] ∧ 0 < t ∧ t < 2 ^ 240 ∧ c < 2 ^ 240 ∧ atMill M p c 1 (fun d => ∃ r, d = .int r ∧ 0 ≤ r ∧ r < t) Q
def S23 : SpD := fun ds M Q _ => ∃ p l c, ds = [.ref p, .lst l] ∧ l ≠ [] ∧ l.length ≤ 1000 ∧ c < 2 ^ 240 ∧ atMill M p c 1 (fun d => d ∈ l) Q
def ltr (s : Str) : Prop := ∃ c, 97 ≤ c ∧ c ≤ 122 ∧ s = ⟨#[c]⟩
def alphaS : Str := "abcdefghijklmnopqrstuvwxyz"
def S24 : SpD := fun ds M Q _ => ∃ p c, ds = [.ref p, .str "abcdefghijklmnopqrstuvwxyz"] ∧ c < 2 ^ 200 ∧ atMill M p c 26 (fun d => ∃ l : List Str, d = .lst (l.map D.str) ∧ l.length = 26 ∧ ∀ s ∈ l, ltr s) Q
def S25 : SpD := fun ds M Q _ => ∃ p c, ds = [.ref p] ∧ c < 2 ^ 240 ∧ atMill M p c 1 (fun d => ∃ s, d = .str s ∧ ltr s) Q
def S26 : SpD := fun ds M Q _ => ∃ p c, ds = [.ref p, .int 1] ∧ c < 2 ^ 150 ∧ atMill M p c 100 (fun d => ∃ s, d = .lst [.str s] ∧ isNm s = true) Q
def S27 : SpD := fun ds M Q _ => ∃ d, ds = [d] ∧ okV M d ∧ Q (.bl (nmD d)) M
def S28 : SpD := fun ds M Q _ => ∃ d, ds = [d] ∧ okV M d ∧ Q (.bl (isNat d)) M
/-- drawn values, nested at most so deep -/
inductive Wv : Nat → D → Prop
  | non {k} : Wv k .non
  | int {k} (i : Int) : 0 ≤ i → i ≤ GR → Wv k (.int i)
  | str {k} (s : Str) : isNm s = true → Wv k (.str s)
  | tup {k} (l : List D) : l.length ≤ 3 → (∀ x ∈ l, Wv k x) → Wv (k + 1) (.tup l)
/-- how often worth asks its mill at most -/
def asks : Nat → Nat
  | 0 => 200
  | k + 1 => 200 + 3 * asks k
def S29 (n : Nat) : SpD := fun ds M Q _ => ∃ (p : Addr) (k c : Nat), ds = [.ref p, .int k] ∧ k < n ∧ k ≤ 8 ∧ c + asks k < 2 ^ 60 ∧ atMill M p c (asks k) (fun d => Wv k d) Q
def S30 (n : Nat) : SpD := fun ds M Q _ => ∃ (d : D) (k : Nat), ds = [d] ∧ k < n ∧ k ≤ 8 ∧ Wv k d ∧ ∀ ws, wordsOf k d = some ws → Q (.lst (ws.map D.str)) M
def S31 : SpD := fun ds M Q _ => ∃ w : Str, ds = [.str w] ∧ w.length ≤ 60 ∧ Q (.lst (singleOf w)) M
def S32 : SpD := fun ds M Q _ => ∃ ws : List Str, ds = [.lst (ws.map D.str)] ∧ (∀ w ∈ ws, w.length ≤ 60) ∧ ws.length ≤ 1000000 ∧ Q (.lst (meantOf ws)) M
def S33 : SpD := fun ds M Q _ => ∃ t : Str, ds = [.str t] ∧ t.length ≤ 1000000 ∧ Q (.int (depOf t)) M
def S34 : SpD := fun ds M Q _ => ∃ t : Str, ds = [.str t] ∧ t.length ≤ 900000 ∧ (Txt.split t "\n").length ≤ 1000 ∧ Q (toldD (readOf t)) M
def S35 : SpD := fun ds M Q _ => ∃ t : Str, ds = [.str t] ∧ t.length ≤ 900000 ∧ (∀ w ∈ firstLine t, w.length ≤ 60) ∧ (Txt.split t "\n").length ≤ 1000 ∧ Q (toldD (dueOf t)) M
/-- a word of a text -/
def okWord (w : Str) : Prop := w.length ≤ 60 ∧ ∀ c ∈ w.cps.toList, c ≠ 32 ∧ c ≠ 10
def S36 : SpD := fun ds M Q _ => ∃ (p : Addr) (c : Nat) (ws : List Str), ds = [.ref p, .lst (ws.map D.str)] ∧ ws.length ≤ 10000 ∧ (∀ w ∈ ws, okWord w) ∧ c < 2 ^ 200 ∧ atMill M p c 3 (fun d => ∃ l : List Str, d = .lst (l.map D.str) ∧ l.length ≤ ws.length + 2 ∧ ∀ w ∈ l, okWord w) Q
def S37 (T : Tx P K mg) : SpD := fun ds M Q _ => ∃ d, ds = [d] ∧ okW 10 M d ∧ wlen d ≤ 270000 ∧ Q (.bl (wordsOf 8 d).isNone) M
/-- what stands beside a hidden value -/
def beside (d : D) : Prop := d = .int 0 ∨ d = .str "a" ∨ d = .tup [] ∨ d = .non
/-- o within some tuples -/
inductive Hid (o : D) : Nat → D → Prop
  | here {n} : Hid o n o
  | tup {n} (l r : List D) (x : D) : l.length ≤ 1 → r.length ≤ 1 → (∀ y ∈ l, beside y) → (∀ y ∈ r, beside y) → Hid o n x → Hid o (n + 1) (.tup (l ++ x :: r))
def S38 : SpD := fun ds M Q _ => ∃ p c d, ds = [.ref p, d] ∧ c < 2 ^ 200 ∧ atMill M p c 10 (fun r => Hid d 3 r) Q
def S39 : SpD := fun ds M Q _ => ∃ p x y z, ds = [.ref p] ∧ M p = some (millD x y z) ∧ Mil 0 x y z ∧ ∀ M', Q (.bl true) M'
def S40 : SpD := fun ds M Q _ => ∃ ns : List Int, ns.length ≤ 63 ∧ ds = [.scr ns] ∧ ∀ M', Q (.bl true) M'
end Dl
set_option Elab.async false
set_option linter.all false
set_option maxRecDepth 100000
set_option maxHeartbeats 4000000
namespace Dl
open PySem PySem.Spec PyProof.Rows L2
/-! the readings of the defs, printed by pr83.py -/
variable {P : Program} {K : PySem.W.Frag} {mg : Str → Option Value}
/-- is_integer -/
def t3 (T : Tx P K mg) (wd : WXd) : TDS :=
  (dRet (dAndV (dCall rdIsi (dCons (dVar 0) (dCons (dC (.ty "int")) dNil))) (dAndV (dNotV (dCall rdIsi (dCons (dVar 0) (dCons (dC (.ty "bool")) dNil)))) (dChain rdLe rdLe (dUn rdNeg (dC (.int (10 ^ 60 - 1)))) (dVar 0) (dC (.int (10 ^ 60 - 1)))))))
/-- is_count -/
def t4 (T : Tx P K mg) (wd : WXd) : TDS :=
  (dRet (dAndV (dCallF wd S3 (dCons (dVar 0) dNil)) (dOp rdGe (dVar 0) (dC (.int 0)))))
/-- is_name -/
def t5 (T : Tx P K mg) (wd : WXd) : TDS :=
  (dSeq (dIf (dOr (dNot (dB (dCall rdIsi (dCons (dVar 0) (dCons (dC (.ty "str")) dNil))))) (dNot (dB (dChain rdLe rdLe (dC (.int 1)) (dCall rdLen (dCons (dVar 0) dNil)) (dC (.int 8)))))) (dRet (dC (.bl false))) dNext) (dRet (dCall rdAll (dCons (dLc (diStr (dVar 0)) (dgName 1) dYes (dChain rdLe rdLe (dC (.str "a")) (dVar 1) (dC (.str "z"))) [1]) dNil))))
/-- require_text -/
def t13 (T : Tx P K mg) (wd : WXd) : TDS :=
  (dIf (dNot (dB (dCall rdIsi (dCons (dVar 0) (dCons (dC (.ty "str")) dNil))))) (dRaise wd (.ref T.aIO)) dNext)
/-- number_of -/
def t14 (T : Tx P K mg) (wd : WXd) : TDS :=
  (dSeq (dIf (dOr (dNot (dB (dChain rdLe rdLe (dC (.int 1)) (dCall rdLen (dCons (dVar 0) dNil)) (dC (.int 60))))) (dNot (dB (dCall rdAll (dCons (dLc (diStr (dVar 0)) (dgName 1) dYes (dChain rdLe rdLe (dC (.str "0")) (dVar 1) (dC (.str "9"))) [1]) dNil))))) (dRet (dC .non)) dNext) (dRet (dIfE (dAnd (dB (dOp rdEq (dOp rdIx (dVar 0) (dC (.int 0))) (dC (.str "0")))) (dB (dOp rdNe (dVar 0) (dC (.str "0"))))) (dC .non) (dCall rdInt (dCons (dVar 0) dNil)))))
/-- words_of -/
def t15 (T : Tx P K mg) (n : Nat) (wd : WXd) : TDS :=
  (dSeq (dIf (dB (dOp rdIsN (dVar 0) (dC .non))) (dRet (dLst (dCons (dC (.str "-")) dNil))) dNext) (dSeq (dIf (dB (dCallF wd S4 (dCons (dVar 0) dNil))) (dRet (dLst (dCons (dCall rdStr (dCons (dVar 0) dNil)) dNil))) dNext) (dSeq (dIf (dB (dCallF wd S5 (dCons (dVar 0) dNil))) (dRet (dLst (dCons (dJoined2 (dC (.str "=")) (dUn rdFmt (dVar 0))) dNil))) dNext) (dSeq (dIf (dOr (dNot (dB (dCall rdIsi (dCons (dVar 0) (dCons (dC (.ty "tuple")) dNil))))) (dB (dOp rdEq (dVar 1) (dC (.int 0))))) (dRaise wd (.ref T.aIO)) dNext) (dRet (dLst (dCons (dC (.str "(")) (dStar (dFrz (dLc2T wd (diTup (dVar 0)) (dgName 2) dYes (fun wb => (diLst (dCallF wb (S15 T n) (dCons (dVar 2) (dCons (dOp rdSub (dVar 1) (dC (.int 1))) dNil))))) (dgName 3) dYes (dVar 3) [2, 3] [3])) (dCons (dC (.str ")")) dNil)))))))))
/-- write_value -/
def t16 (T : Tx P K mg) (wd : WXd) : TDS :=
  (dRet (dJoin (dC (.str " ")) (dCallF wd (S15 T 10) (dCons (dVar 0) (dCons (dC (.int 8)) dNil)))))
/-- single_of -/
def t17 (T : Tx P K mg) (wd : WXd) : TDS :=
  (dSeq (dIf (dB (dOp rdEq (dVar 0) (dC (.str "-")))) (dRet (dLst (dCons (dC .non) dNil))) dNext) (dSeq (dIf (dB (dOp rdEq (dSl rdSl (dVar 0) dNo (dPart (dC (.int 1)))) (dC (.str "=")))) (dRet (dIfE (dB (dCallF wd S5 (dCons (dSl rdSl (dVar 0) (dPart (dC (.int 1))) dNo) dNil))) (dLst (dCons (dSl rdSl (dVar 0) (dPart (dC (.int 1))) dNo) dNil)) (dLst dNil))) dNext) (dSeq (dSet 1 (dCallF wd S14 (dCons (dVar 0) dNil))) (dRet (dIfE (dB (dOp rdIsN (dVar 1) (dC .non))) (dLst dNil) (dLst (dCons (dVar 1) dNil)))))))
/-- value_of -/
def t18 (T : Tx P K mg) (wd : WXd) : TDS :=
  (dSeq (dSet 1 (dLstT (dCons (dLstT dNil) dNil))) (dSeq (dFor (diLst (dVar 0)) (dgName 2) (dIf (dAnd (dB (dOp rdEq (dVar 2) (dC (.str "(")))) (dB (dOp rdLe (dCall rdLen (dCons (dVar 1) dNil)) (dC (.int 8))))) (dDrop (dMeth isLst rdAppend (dVar 1) (dCons (dLstT dNil) dNil))) (dIf (dAnd (dB (dOp rdEq (dVar 2) (dC (.str ")")))) (dB (dOp rdGt (dCall rdLen (dCons (dVar 1) dNil)) (dC (.int 1))))) (dSeq (dSet 3 (dCall rdTuple (dCons (dMeth isLst rdPop (dVar 1) dNil) dNil))) (dDrop (dMeth isLst rdAppend (dOp rdIx (dVar 1) (dUn rdNeg (dC (.int 1)))) (dCons (dVar 3) dNil)))) (dSeq (dSet 4 (dCallF wd S17 (dCons (dVar 2) dNil))) (dSeq (dIf (dB (dOp rdEq (dVar 4) (dLst dNil))) (dRet (dShr (dLst dNil))) dNext) (dDrop (dMeth isLst rdExtend (dOp rdIx (dVar 1) (dUn rdNeg (dC (.int 1)))) (dCons (dVar 4) dNil)))))))) (dRet (dShr (dFrz (dIfE (dAnd (dB (dOp rdEq (dCall rdLen (dCons (dVar 1) dNil)) (dC (.int 1)))) (dB (dOp rdEq (dCall rdLen (dCons (dOp rdIx (dVar 1) (dC (.int 0))) dNil)) (dC (.int 1))))) (dOp rdIx (dVar 1) (dC (.int 0))) (dLstT dNil)))))))
/-- read_value -/
def t19 (T : Tx P K mg) (wd : WXd) : TDS :=
  (dSeq (dDrop (dCallF wd S13 (dCons (dVar 0) dNil))) (dSeq (dAsg (dSplit (dVar 0) (dC (.str "\n"))) (dgStar 2 1 (dgCons (dgName 2) (dgCons (dgName 3) dgNil)))) (dSeq (dSet 1 (dCallF wd S18 (dCons (dSplit (dVar 2) (dC (.str " "))) dNil))) (dSeq (dIf (dB (dOp rdEq (dVar 1) (dLst dNil))) (dRaiseX wd T.aPE "index" okIx (dC (.int 0))) dNext) (dSeq (dIf (dB (dOp rdNe (dVar 3) (dLst dNil))) (dRaiseX wd T.aPE "index" okIx (dC (.int 1))) dNext) (dRet (dOp rdIx (dVar 1) (dC (.int 0)))))))))
/-- _law_mill -/
def t21 (T : Tx P K mg) (wd : WXd) : TDS :=
  (dSeq (dSet 2 (dIfE (dB (dOp rdLt (dVar 1) (dCall rdLen (dCons (dVar 0) dNil)))) (dOp rdIx (dVar 0) (dVar 1)) (dOp rdAdd (dOp rdMul (dC (.int 47)) (dVar 1)) (dC (.int 19))))) (dSeq (dSet 3 (dOp rdMod (dCall rdInt (dCons (dCall rdAbs (dCons (dVar 2) dNil)) dNil)) (dOp rdPow (dOp rdPow (dC (.int 10)) (dC (.int 58))) (dC (.int 11))))) (dSeq (dSet 4 (dOp rdAdd (dOp rdAdd (dOp rdAdd (dOp rdMul (dOp rdMod (dCall rdInt (dCons (dVar 3) dNil)) (dC (.int 2147483399))) (dC (.int 86453))) (dOp rdMul (dC (.int 7013)) (dVar 1))) (dOp rdMul (dC (.int 31)) (dCall rdInt (dCons (dOp rdLt (dVar 2) (dC (.int 0))) dNil)))) (dC (.int 57)))) (dRet (dLstT (dCons (dCall rdMax (dCons (dC (.int 0)) (dCons (dOp rdSub (dVar 3) (dOp rdPow (dC (.int 10)) (dC (.int 18)))) dNil))) (dCons (dOp rdMod (dCall rdInt (dCons (dVar 4) dNil)) (dC (.int 2305843009213693907))) (dCons (dC (.int 0)) dNil))))))))
/-- _law_grain -/
def t22 (T : Tx P K mg) (wd : WXd) : TDS :=
  (dSeq (dIf (dB (dOp rdGt (dOp rdIx (dVar 0) (dC (.int 0))) (dC (.int 0)))) (dSeq (dSet 4 (dOp rdMod (dCall rdInt (dCons (dOp rdIx (dVar 0) (dC (.int 0))) dNil)) (dVar 1))) (dSeq (dAsg (dOp rdDiv (dOp rdIx (dVar 0) (dC (.int 0))) (dVar 1)) (dgSub rdSet (dVar 0) (dC (.int 0)))) (dRet (dVar 4)))) dNext) (dSeq (dAsg (dOp rdAdd (dOp rdIx (dVar 0) (dC (.int 2))) (dC (.int 1))) (dgSub rdSet (dVar 0) (dC (.int 2)))) (dSeq (dSet 2 (dOp rdMod (dCall rdInt (dCons (dOp rdAdd (dOp rdIx (dVar 0) (dC (.int 1))) (dOp rdMul (dC (.int 1000381)) (dOp rdIx (dVar 0) (dC (.int 2))))) dNil)) (dC (.int 2305843009213693951)))) (dSeq (dSet 3 (dOp rdAdd (dOp rdMul (dOp rdMod (dCall rdInt (dCons (dOp rdMul (dVar 2) (dVar 2)) dNil)) (dC (.int 2305843009213693921))) (dVar 2)) (dOp rdMul (dC (.int 9043)) (dOp rdIx (dVar 0) (dC (.int 2)))))) (dRet (dOp rdMod (dCall rdInt (dCons (dOp rdDiv (dOp rdMod (dCall rdInt (dCons (dVar 3) dNil)) (dC (.int 2305843009213693907))) (dC (.int 16384))) dNil)) (dVar 1)))))))
/-- _law_one_of -/
def t23 (T : Tx P K mg) (wd : WXd) : TDS :=
  (dRet (dOp rdIx (dVar 1) (dCallF wd S22 (dCons (dVar 0) (dCons (dCall rdLen (dCons (dVar 1) dNil)) dNil)))))
/-- _law_order -/
def t24 (T : Tx P K mg) (wd : WXd) : TDS :=
  (dSeq (dSet 2 (dCall rdListT (dCons (dVar 1) dNil))) (dRet (dShr (dLc (diRng (dCons (dCall rdLen (dCons (dVar 1) dNil)) dNil)) (dgName 3) dYes (dMeth isLst rdPopAt (dVar 2) (dCons (dCallF wN.d S22 (dCons (dVar 0) (dCons (dCall rdLen (dCons (dVar 2) dNil)) dNil))) dNil)) [3]))))
/-- _law_letter -/
def t25 (T : Tx P K mg) (wd : WXd) : TDS :=
  (dRet (dOp rdIx (dC (.str "abcdefghijklmnopqrstuvwxyz")) (dCallF wd S22 (dCons (dVar 0) (dCons (dC (.int 26)) dNil)))))
/-- _law_many_names -/
def t26 (T : Tx P K mg) (wd : WXd) : TDS :=
  (dSeq (dPar3 4 5 6 (dCons (dJoin (dC (.str "")) (dLc (diRng (dCons (dCallF wd S22 (dCons (dVar 0) (dCons (dC (.int 8)) dNil))) dNil)) (dgName 7) dYes (dCallF wN.d S25 (dCons (dVar 0) dNil)) [7])) (dCons (dCallF wd S22 (dCons (dVar 0) (dCons (dC (.int 3)) dNil))) (dCons (dLstT dNil) dNil)))) (dSeq (dSet 2 (dCallF wd S22 (dCons (dVar 0) (dCons (dOp rdAdd (dCall rdLen (dCons (dVar 4) dNil)) (dC (.int 1))) dNil)))) (dSeq (dFor (diLst (dSl rdSl (dCallF wd S24 (dCons (dVar 0) (dCons (dC (.str "abcdefghijklmnopqrstuvwxyz")) dNil))) dNo (dPart (dVar 1)))) (dgName 3) (dIf (dB (dOp rdEq (dVar 5) (dC (.int 0)))) (dDrop (dMeth isLst rdAppend (dVar 6) (dCons (dOp rdAdd (dOp rdAdd (dSl rdSl (dVar 4) dNo (dPart (dVar 2))) (dVar 3)) (dSl rdSl (dVar 4) (dPart (dVar 2)) dNo)) dNil))) (dIf (dB (dOp rdEq (dVar 5) (dC (.int 1)))) (dDrop (dMeth isLst rdAppend (dVar 6) (dCons (dOp rdAdd (dVar 3) (dSl rdSl (dVar 4) dNo (dPart (dCallF wd S22 (dCons (dVar 0) (dCons (dOp rdAdd (dCall rdLen (dCons (dVar 4) dNil)) (dC (.int 1))) dNil)))))) dNil))) (dDrop (dMeth isLst rdAppend (dVar 6) (dCons (dSl rdSl (dOp rdMul (dVar 3) (dC (.int 8))) dNo (dPart (dOp rdAdd (dC (.int 1)) (dCallF wd S22 (dCons (dVar 0) (dCons (dC (.int 8)) dNil)))))) dNil)))))) (dRet (dShr (dFrz (dVar 6)))))))
/-- _law_spelled -/
def t27 (T : Tx P K mg) (wd : WXd) : TDS :=
  (dSeq (dIf (dOr (dNot (dB (dCall rdIsi (dCons (dVar 0) (dCons (dC (.ty "str")) dNil))))) (dOr (dB (dOp rdEq (dCall rdLen (dCons (dVar 0) dNil)) (dC (.int 0)))) (dB (dOp rdGt (dCall rdLen (dCons (dVar 0) dNil)) (dC (.int 8)))))) (dRet (dC (.bl false))) dNext) (dRet (dOp rdEq (dLc (diStr (dVar 0)) (dgName 1) (dB (dOp (rdInN true) (dVar 1) (dC (.str "abcdefghijklmnopqrstuvwxyz")))) (dVar 1) [1]) (dLst dNil))))
/-- _law_is_count -/
def t28 (T : Tx P K mg) (wd : WXd) : TDS :=
  (dRet (dAndV (dCall rdIsi (dCons (dVar 0) (dCons (dC (.ty "int")) dNil))) (dAndV (dNotV (dCall rdIsi (dCons (dVar 0) (dCons (dC (.ty "bool")) dNil)))) (dOp rdLe (dC (.int 0)) (dVar 0)))))
/-- _law_worth -/
def t29 (T : Tx P K mg) (n : Nat) (wd : WXd) : TDS :=
  (dSeq (dSet 2 (dIfE (dB (dOp rdGt (dVar 1) (dC (.int 0)))) (dCallF wd S22 (dCons (dVar 0) (dCons (dC (.int 7)) dNil))) (dCallF wd S22 (dCons (dVar 0) (dCons (dC (.int 4)) dNil))))) (dSeq (dIf (dB (dOp rdEq (dVar 2) (dC (.int 0)))) (dRet (dOp rdIx (dCallF wd S26 (dCons (dVar 0) (dCons (dC (.int 1)) dNil))) (dC (.int 0)))) dNext) (dSeq (dIf (dB (dOp rdLt (dVar 2) (dC (.int 3)))) (dRet (dCallF wd S23 (dCons (dVar 0) (dCons (dLst (dCons (dC (.int 0)) (dCons (dC (.int 7)) (dCons (dC (.int 10)) (dCons (dCallF wd S22 (dCons (dVar 0) (dCons (dOp rdPow (dC (.int 10)) (dC (.int 20))) dNil))) (dCons (dOp rdSub (dOp rdPow (dC (.int 10)) (dC (.int 60))) (dC (.int 1))) dNil)))))) dNil)))) dNext) (dSeq (dIf (dB (dOp rdEq (dVar 2) (dC (.int 3)))) (dRet (dC .non)) dNext) (dRet (dCall rdTuple (dCons (dLc (diRng (dCons (dCallF wd S22 (dCons (dVar 0) (dCons (dC (.int 4)) dNil))) dNil)) (dgName 3) dYes (dCallF wN.d (S29 n) (dCons (dVar 0) (dCons (dOp rdSub (dVar 1) (dC (.int 1))) dNil))) [3]) dNil)))))))
/-- _law_words -/
def t30 (T : Tx P K mg) (n : Nat) (wd : WXd) : TDS :=
  (dSeq (dIf (dB (dOp rdIsN (dVar 0) (dC .non))) (dRet (dLst (dCons (dC (.str "-")) dNil))) dNext) (dSeq (dIf (dB (dCallF wd S28 (dCons (dVar 0) dNil))) (dRet (dLst (dCons (dCall rdStr (dCons (dVar 0) dNil)) dNil))) dNext) (dSeq (dIf (dB (dCallF wd S27 (dCons (dVar 0) dNil))) (dRet (dLst (dCons (dOp rdAdd (dC (.str "=")) (dVar 0)) dNil))) dNext) (dSeq (dSet 1 (dLst (dCons (dC (.str "(")) dNil))) (dSeq (dFor (diTup (dVar 0)) (dgName 2) (dSet 1 (dOp rdAdd (dVar 1) (dCallF wd (S30 n) (dCons (dVar 2) dNil))))) (dRet (dOp rdAdd (dVar 1) (dLst (dCons (dC (.str ")")) dNil)))))))))
/-- _law_single -/
def t31 (T : Tx P K mg) (wd : WXd) : TDS :=
  (dSeq (dIf (dB (dOp rdEq (dVar 0) (dC (.str "-")))) (dRet (dLst (dCons (dC .non) dNil))) dNext) (dSeq (dIf (dAnd (dB (dOp rdEq (dSl rdSl (dVar 0) dNo (dPart (dC (.int 1)))) (dC (.str "=")))) (dB (dCallF wd S27 (dCons (dSl rdSl (dVar 0) (dPart (dC (.int 1))) dNo) dNil)))) (dRet (dLst (dCons (dSl rdSl (dVar 0) (dPart (dC (.int 1))) dNo) dNil))) dNext) (dSeq (dIf (dOr (dB (dOp rdEq (dVar 0) (dC (.str "")))) (dB (dOp rdNe (dLc (diStr (dVar 0)) (dgName 1) (dB (dOp (rdInN true) (dVar 1) (dC (.str "0123456789")))) (dVar 1) [1]) (dLst dNil)))) (dRet (dLst dNil)) dNext) (dRet (dIfE (dAnd (dB (dOp rdEq (dOp rdIx (dVar 0) (dC (.int 0))) (dC (.str "0")))) (dB (dOp rdNe (dVar 0) (dC (.str "0"))))) (dLst dNil) (dLst (dCons (dCall rdInt (dCons (dVar 0) dNil)) dNil)))))))
/-- _law_meant -/
def t32 (T : Tx P K mg) (wd : WXd) : TDS :=
  (dSeq (dSet 1 (dLstT (dCons (dLstT dNil) dNil))) (dSeq (dFor (diLst (dVar 0)) (dgName 2) (dIf (dB (dOp rdEq (dVar 2) (dC (.str "(")))) (dDrop (dMeth isLst rdAppend (dVar 1) (dCons (dLstT dNil) dNil))) (dIf (dB (dOp rdEq (dVar 2) (dC (.str ")")))) (dSeq (dIf (dB (dOp rdEq (dCall rdLen (dCons (dVar 1) dNil)) (dC (.int 1)))) (dRet (dShr (dLst dNil))) dNext) (dSeq (dSet 3 (dMeth isLst rdPop (dVar 1) dNil)) (dDrop (dMeth isLst rdAppend (dOp rdIx (dVar 1) (dUn rdNeg (dC (.int 1)))) (dCons (dCall rdTuple (dCons (dVar 3) dNil)) dNil))))) (dSeq (dSet 4 (dCallF wd S31 (dCons (dVar 2) dNil))) (dSeq (dIf (dB (dOp rdEq (dVar 4) (dLst dNil))) (dRet (dShr (dLst dNil))) dNext) (dDrop (dMeth isLst rdExtend (dOp rdIx (dVar 1) (dUn rdNeg (dC (.int 1)))) (dCons (dVar 4) dNil)))))))) (dRet (dShr (dFrz (dIfE (dAnd (dB (dOp rdEq (dCall rdLen (dCons (dVar 1) dNil)) (dC (.int 1)))) (dB (dOp rdEq (dCall rdLen (dCons (dOp rdIx (dVar 1) (dC (.int 0))) dNil)) (dC (.int 1))))) (dOp rdIx (dVar 1) (dC (.int 0))) (dLstT dNil)))))))
/-- _law_depth -/
def t33 (T : Tx P K mg) (wd : WXd) : TDS :=
  (dSeq (dAsg (dTup (dCons (dC (.int 0)) (dCons (dC (.int 0)) dNil))) (dgTup 2 (dgCons (dgName 2) (dgCons (dgName 3) dgNil)))) (dSeq (dFor (diLst (dSplit (dVar 0) (dC (.str " ")))) (dgName 1) (dSeq (dSet 2 (dOp rdSub (dOp rdAdd (dVar 2) (dCall rdInt (dCons (dOp rdEq (dVar 1) (dC (.str "("))) dNil))) (dCall rdInt (dCons (dOp rdEq (dVar 1) (dC (.str ")"))) dNil)))) (dSet 3 (dCall rdMax (dCons (dVar 3) (dCons (dVar 2) dNil)))))) (dRet (dVar 3))))
/-- _law_told_by -/
def t34 (T : Tx P K mg) (wd : WXd) : TDS :=
  (dTryAs K wd (.ref T.aPE) T.aPE 1 (fun wb => (dRet (dShr (dLst (dCons (dC (.str "value")) (dCons (dCallF wb (S19 T) (dCons (dVar 0) dNil)) dNil)))))) fun a dd => (dRet (dShr (dLst (dCons (dC (.str "index")) (dCons (dXf a dd "index" (dVar 1)) dNil))))))
/-- _law_due -/
def t35 (T : Tx P K mg) (wd : WXd) : TDS :=
  (dSeq (dSet 1 (dSplit (dVar 0) (dC (.str "\n")))) (dSeq (dSet 2 (dCallF wd S32 (dCons (dSplit (dOp rdIx (dVar 1) (dC (.int 0))) (dC (.str " "))) dNil))) (dSeq (dIf (dB (dOp rdEq (dVar 2) (dLst dNil))) (dRet (dLst (dCons (dC (.str "index")) (dCons (dC (.int 0)) dNil)))) dNext) (dRet (dIfE (dB (dOp rdEq (dCall rdLen (dCons (dVar 1) dNil)) (dC (.int 1)))) (dLst (dCons (dC (.str "value")) (dCons (dOp rdIx (dVar 2) (dC (.int 0))) dNil))) (dLst (dCons (dC (.str "index")) (dCons (dC (.int 1)) dNil))))))))
/-- _law_bent -/
def t36 (T : Tx P K mg) (wd : WXd) : TDS :=
  (dSeq (dPar 3 4 (dCons (dCallF wd S22 (dCons (dVar 0) (dCons (dOp rdAdd (dCall rdLen (dCons (dVar 1) dNil)) (dC (.int 1))) dNil))) (dCons (dCallF wd S22 (dCons (dVar 0) (dCons (dC (.int 5)) dNil))) dNil))) (dSeq (dSet 2 (dLst (dCons (dC (.str "")) (dCons (dC (.str "(")) (dCons (dC (.str ")")) (dCons (dC (.str "-")) (dCons (dC (.str "=")) (dCons (dC (.str "=a")) (dCons (dC (.str "==a")) (dCons (dC (.str "a")) (dCons (dC (.str "=A")) (dCons (dC (.str "0")) (dCons (dC (.str "00")) (dCons (dC (.str "01")) (dCons (dC (.str "-1")) (dCons (dC (.str "+1")) (dCons (dC (.str "1.0")) (dCons (dC (.str "()")) (dCons (dC (.str "{")) dNil))))))))))))))))))) (dSeq (dSet 2 (dCallF wd S23 (dCons (dVar 0) (dCons (dOp rdAdd (dVar 2) (dLst (dCons (dOp rdMul (dC (.str "9")) (dC (.int 60))) dNil))) dNil)))) (dSeq (dIf (dB (dOp rdEq (dVar 4) (dC (.int 0)))) (dRet (dOp rdAdd (dSl rdSl (dVar 1) dNo (dPart (dVar 3))) (dSl rdSl (dVar 1) (dPart (dOp rdAdd (dVar 3) (dC (.int 1)))) dNo))) dNext) (dSeq (dIf (dB (dOp rdEq (dVar 4) (dC (.int 1)))) (dRet (dOp rdAdd (dOp rdAdd (dSl rdSl (dVar 1) dNo (dPart (dVar 3))) (dSl rdSl (dVar 1) (dPart (dVar 3)) (dPart (dOp rdAdd (dVar 3) (dC (.int 1)))))) (dSl rdSl (dVar 1) (dPart (dVar 3)) dNo))) dNext) (dSeq (dIf (dB (dOp rdEq (dVar 4) (dC (.int 2)))) (dSeq (dSet 5 (dSl rdSl (dVar 1) (dPart (dVar 3)) (dPart (dOp rdAdd (dVar 3) (dC (.int 2)))))) (dRet (dOp rdAdd (dOp rdAdd (dSl rdSl (dVar 1) dNo (dPart (dVar 3))) (dRev (dVar 5))) (dSl rdSl (dVar 1) (dPart (dOp rdAdd (dVar 3) (dC (.int 2)))) dNo)))) dNext) (dRet (dOp rdAdd (dOp rdAdd (dSl rdSl (dVar 1) dNo (dPart (dVar 3))) (dLst (dCons (dVar 2) dNil))) (dIfE (dB (dOp rdEq (dVar 4) (dC (.int 3)))) (dSl rdSl (dVar 1) (dPart (dVar 3)) dNo) (dSl rdSl (dVar 1) (dPart (dOp rdAdd (dVar 3) (dC (.int 1)))) dNo))))))))))
/-- _law_is_refused -/
def t37 (T : Tx P K mg) (wd : WXd) : TDS :=
  (dSeq (dTry K wd (.ref T.aIO) (fun wb => (dDrop (dCallF wb (S16 T) (dCons (dVar 0) dNil)))) fun _ => (dRet (dShr (dC (.bl true))))) (dRet (dShr (dC (.bl false)))))
/-- _law_hidden -/
def t38 (T : Tx P K mg) (wd : WXd) : TDS :=
  (dSeq (dFor (diRng (dCons (dCallF wd S22 (dCons (dVar 0) (dCons (dC (.int 4)) dNil))) dNil)) (dgName 2) (dSet 1 (dCallF wd S23 (dCons (dVar 0) (dCons (dLst (dCons (dTup (dCons (dVar 1) dNil)) (dCons (dTup (dCons (dC (.int 0)) (dCons (dVar 1) dNil))) (dCons (dTup (dCons (dVar 1) (dCons (dC (.str "a")) dNil))) (dCons (dTup (dCons (dTup dNil) (dCons (dVar 1) (dCons (dC .non) dNil)))) dNil))))) dNil))))) (dRet (dVar 1)))
/-- _law_cell_right -/
def t39 (T : Tx P K mg) (wd : WXd) : TDS :=
  (dSeq (dFor (diRng (dCons (dC (.int 8)) dNil)) (dgName 1) (dSeq (dSet 2 (dCallF wd (S29 9) (dCons (dVar 0) (dCons (dC (.int 8)) dNil)))) (dSeq (dSet 3 (dCallF wd (S30 10) (dCons (dVar 2) dNil))) (dSeq (dIf (dB (dOp rdNe (dCallF wd (S16 T) (dCons (dVar 2) dNil)) (dJoin (dC (.str " ")) (dVar 3)))) (dRet (dC (.bl false))) dNext) (dSeq (dSet 3 (dIfE (dB (dOp rdLt (dCall rdLen (dCons (dJoin (dC (.str " ")) (dVar 3)) dNil)) (dC (.int 3500)))) (dVar 3) (dLst (dCons (dC (.str "(")) (dCons (dC (.str ")")) dNil))))) (dSeq (dSet 4 (dLst (dCons (dVar 3) (dCons (dCallF wd S36 (dCons (dVar 0) (dCons (dVar 3) dNil))) (dCons (dCallF wd S36 (dCons (dVar 0) (dCons (dCallF wd S36 (dCons (dVar 0) (dCons (dVar 3) dNil))) dNil))) dNil))))) (dSeq (dSet 5 (dLcT (diLst (dVar 4)) (dgName 7) dYes (dJoin (dC (.str " ")) (dVar 7)) [7])) (dSeq (dDrop (dMeth isLst rdAppend (dVar 5) (dCons (dOp rdAdd (dOp rdIx (dVar 5) (dCallF wd S22 (dCons (dVar 0) (dCons (dC (.int 3)) dNil)))) (dCallF wd S23 (dCons (dVar 0) (dCons (dLst (dCons (dC (.str "\n")) (dCons (dC (.str "\n0")) (dCons (dC (.str " ")) (dCons (dC (.str "\n\n")) dNil))))) dNil)))) dNil))) (dSeq (dSet 5 (dLc (diLst (dFrz (dVar 5))) (dgName 8) (dB (dOp rdLt (dCallF wN.d S33 (dCons (dVar 8) dNil)) (dC (.int 9)))) (dVar 8) [8])) (dSeq (dIf (dB (dOp rdNe (dLc (diLst (dVar 5)) (dgName 8) (dB (dOp rdNe (dCall rdRepr (dCons (dCallF wN.d S34 (dCons (dVar 8) dNil)) dNil)) (dCall rdRepr (dCons (dCallF wN.d S35 (dCons (dVar 8) dNil)) dNil)))) (dVar 8) [8]) (dLst dNil))) (dRet (dC (.bl false))) dNext) (dSeq (dSet 6 (dCallF wd S23 (dCons (dVar 0) (dCons (dLst (dCons (dC (.bl true)) (dCons (dC (.bl false)) (dCons (dOp rdSub (dC (.int 0)) (dC (.int 1))) (dCons (dLst dNil) (dCons dDict0 (dCons (dC (.str "A")) (dCons (dC (.str "")) (dCons (dC (.str "a b")) (dCons (dOp rdPow (dC (.int 10)) (dC (.int 60))) (dCons (dC (.str "aaaaaaaaa")) (dCons (dLst (dCons (dC (.int 0)) dNil)) (dCons (dDict1 "a" 0) dNil))))))))))))) dNil)))) (dIf (dNot (dB (dCallF wd (S37 T) (dCons (dCallF wd S38 (dCons (dVar 0) (dCons (dVar 6) dNil))) dNil)))) (dRet (dC (.bl false))) dNext)))))))))))) (dRet (dC (.bl true))))
/-- law -/
def t40 (T : Tx P K mg) (wd : WXd) : TDS :=
  (dSeq (dFor (diRng (dCons (dCall rdMax (dCons (dC (.int 1)) (dCons (dCall rdMin (dCons (dC (.int 6)) (dCons (dCall rdLen (dCons (dVar 0) dNil)) dNil))) dNil))) dNil)) (dgName 1) (dIf (dNot (dB (dCallF wd S39 (dCons (dCallF wd S21 (dCons (dVar 0) (dCons (dVar 1) dNil))) dNil)))) (dRet (dC (.bl false))) dNext)) (dSeq (dSet 2 (dTup dNil)) (dSeq (dFor (diRng (dCons (dC (.int 7)) dNil)) (dgName 3) (dSet 2 (dTup (dCons (dVar 2) dNil)))) (dSeq (dSet 4 (dOp rdAdd (dOp rdAdd (dOp rdMul (dC (.str "( ")) (dC (.int 8))) (dOp rdMul (dC (.str ") ")) (dC (.int 7)))) (dC (.str ")")))) (dRet (dAndV (dOp rdEq (dCallF wd (S16 T) (dCons (dVar 2) dNil)) (dVar 4)) (dOp rdEq (dCallF wd (S19 T) (dCons (dVar 4) dNil)) (dVar 2))))))))
end Dl
set_option Elab.async false
set_option linter.all false
set_option maxRecDepth 100000
set_option maxHeartbeats 4000000
/-! SP: splitting a text at one sign; joining again. -/
namespace Dl
open PySem PySem.Spec PyProof.Rows L2
open PySem.Builtin PySem.Builtin.Str
theorem split_le (x y : Str) : (Txt.split x y).length ≤ x.length + 2 := by
  unfold Txt.split
  split
  · simp
  · split
    · simp
    · have := StrLaws.occ_length_le_len x y 0 x.length (x.length + 1)
      rw [length_partsBetween]
      omega
theorem str_app_len (a b : Str) : (a ++ b).length = a.length + b.length := Array.size_append
theorem join_mem (sep : Str) : ∀ {l : List Str} {w : Str}, w ∈ l → w.length ≤ (Str.join sep l).length
  | [x], w, h => by
    rw [List.mem_singleton.mp h]
    exact Nat.le_refl _
  | x :: y :: r, w, h => by
    show _ ≤ (x ++ sep ++ Str.join sep (y :: r)).length
    rw [str_app_len, str_app_len]
    rcases List.mem_cons.mp h with rfl | h
    · omega
    · have := join_mem sep h
      omega
theorem split_mem {x y w : Str} (h : w ∈ Txt.split x y) : w.length ≤ x.length := by
  have := join_mem y h
  rwa [StrLaws.join_split] at this
theorem split_ne (x y : Str) : Txt.split x y ≠ [] := by
  unfold Txt.split
  split
  · simp
  · split
    · simp
    · intro h
      have := congrArg List.length h
      rw [length_partsBetween] at this
      simp at this
theorem cnt_nonneg (c : Nat) : ∀ l : List Nat, 0 ≤ cnt c l
  | [] => by rw [cnt_nil]; omega
  | n :: r => by
    have := cnt_nonneg c r
    rw [cnt_cons]
    split <;> omega
theorem cnt_zero {c : Nat} : ∀ {l : List Nat}, cnt c l = 0 ↔ c ∉ l
  | [] => by simp [cnt_nil]
  | n :: r => by
    have h0 := cnt_nonneg c r
    have ih := @cnt_zero c r
    rw [cnt_cons, List.mem_cons]
    by_cases e : n = c
    · subst e
      simp
      try omega
    · simp [e, Ne.symm e, ih]
/-- how many parts -/
theorem split_count {x : Str} {c : Nat} (hc : c < 256) : ((Txt.split x ⟨#[c]⟩).length : Int) = cnt c x.cps.toList + 1 := by
  have hcount := count_is x c
  have hco : ((occurrences x ⟨#[c]⟩ 0 x.length (x.length + 1)).length : Int) = cnt c x.cps.toList := hcount
  have hl : (⟨#[c]⟩ : Str).length = 1 := rfl
  unfold Txt.split
  split
  · rename_i h
    have hk : Str.strKind (⟨#[c]⟩ : Str) = 1 := by
      unfold Str.strKind
      rw [if_pos (by simp [hc])]
    have hk2 : 1 ≤ Str.strKind x := by
      unfold Str.strKind
      split
      · exact Nat.le_refl _
      · split <;> decide
    rw [hk, hl] at h
    have h0 : x.length = 0 := by
      rcases Bool.or_eq_true _ _ ▸ h with h | h
      · have := of_decide_eq_true h; omega
      · have := of_decide_eq_true h; omega
    have : x.cps.toList = [] := by
      have e : x.cps.toList.length = x.length := Array.length_toList
      rw [h0] at e
      exact List.length_eq_zero_iff.mp e
    rw [this, cnt_nil]
    rfl
  · split
    · rename_i h
      rw [List.isEmpty_iff] at h
      rw [h] at hco
      rw [← hco]
      rfl
    · rw [length_partsBetween, ← hco]
      omega
/-- no part has the sign -/
theorem split_free {x : Str} {c : Nat} (hc : c < 256) : ∀ w ∈ Txt.split x ⟨#[c]⟩, c ∉ w.cps.toList := by
  have h1 := split_count (x := x) hc
  have h2 := cnt_join_sum ⟨#[c]⟩ c (Txt.split x ⟨#[c]⟩)
  rw [StrLaws.join_split] at h2
  have h3 : cnt c (⟨#[c]⟩ : Str).cps.toList = 1 := by
    show cnt c [c] = 1
    rw [cnt_cons, cnt_nil]
    simp
  have hn : 1 ≤ (Txt.split x ⟨#[c]⟩).length := List.length_pos_iff.mpr (split_ne _ _)
  rw [h3] at h2
  have hs : ((Txt.split x ⟨#[c]⟩).map fun t => cnt c t.cps.toList).sum = 0 := by omega
  have key : ∀ l : List Str, (l.map fun t => cnt c t.cps.toList).sum = 0 → ∀ w ∈ l, c ∉ w.cps.toList := by
    intro l
    induction l with
    | nil => intro _ w h; cases h
    | cons a l ih =>
      intro h w hw
      have g1 := cnt_nonneg c a.cps.toList
      have g2 : ∀ l : List Str, 0 ≤ (l.map fun t => cnt c t.cps.toList).sum := by
        intro l
        induction l with
        | nil => exact Int.le_refl _
        | cons b l ih => have := cnt_nonneg c b.cps.toList; simp only [List.map_cons, List.sum_cons]; omega
      have g2 := g2 l
      simp only [List.map_cons, List.sum_cons] at h
      rcases List.mem_cons.mp hw with rfl | hw
      · exact cnt_zero.mp (by omega)
      · exact ih (by omega) w hw
  exact key _ hs
/-- lists of signs, joined by one sign -/
def jn (c : Nat) : List (List Nat) → List Nat
  | [] => []
  | [a] => a
  | a :: b :: r => a ++ c :: jn c (b :: r)
theorem free_cut {c : Nat} : ∀ {a b s t : List Nat}, c ∉ a → c ∉ b → a ++ c :: s = b ++ c :: t → a = b ∧ s = t
  | [], [], s, t, _, _, h => ⟨rfl, by simpa using h⟩
  | [], x :: b, s, t, _, hb, h => by
    simp at h
    exact absurd (by rw [h.1]; exact List.mem_cons_self) hb
  | x :: a, [], s, t, ha, _, h => by
    simp at h
    exact absurd (by rw [← h.1]; exact List.mem_cons_self) ha
  | x :: a, y :: b, s, t, ha, hb, h => by
    simp at h
    obtain ⟨e, e2⟩ := free_cut (fun z => ha (List.mem_cons_of_mem _ z)) (fun z => hb (List.mem_cons_of_mem _ z)) h.2
    exact ⟨by rw [h.1, e], e2⟩
theorem jn_inj {c : Nat} : ∀ {l m : List (List Nat)}, l ≠ [] → m ≠ [] → (∀ a ∈ l, c ∉ a) → (∀ a ∈ m, c ∉ a) → jn c l = jn c m → l = m
  | [a], [b], _, _, _, _, h => by rw [show a = b from h]
  | [a], b :: b2 :: r, _, _, hl, _, h => by
    have h : a = b ++ c :: jn c (b2 :: r) := h
    exact absurd (by rw [h]; simp) (hl a List.mem_cons_self)
  | a :: a2 :: r, [b], _, _, _, hm, h => by
    have h : a ++ c :: jn c (a2 :: r) = b := h
    exact absurd (by rw [← h]; simp) (hm b List.mem_cons_self)
  | a :: a2 :: r, b :: b2 :: r', _, _, hl, hm, h => by
    obtain ⟨e, e2⟩ := free_cut (hl a List.mem_cons_self) (hm b List.mem_cons_self) (show a ++ c :: jn c (a2 :: r) = b ++ c :: jn c (b2 :: r') from h)
    rw [e, jn_inj (by simp) (by simp) (fun x hx => hl x (List.mem_cons_of_mem _ hx)) (fun x hx => hm x (List.mem_cons_of_mem _ hx)) e2]
theorem jn_join (c : Nat) : ∀ l : List Str, (Str.join ⟨#[c]⟩ l).cps.toList = jn c (l.map fun w => w.cps.toList)
  | [] => rfl
  | [x] => rfl
  | x :: y :: r => by
    show (x ++ ⟨#[c]⟩ ++ Str.join ⟨#[c]⟩ (y :: r)).cps.toList = x.cps.toList ++ c :: jn c ((y :: r).map fun w => w.cps.toList)
    rw [← jn_join c (y :: r)]
    show ((x.cps ++ #[c]) ++ (Str.join ⟨#[c]⟩ (y :: r)).cps).toList = _
    simp
theorem str_ext {a b : Str} (h : a.cps.toList = b.cps.toList) : a = b := by
  cases a; cases b
  congr
  exact Array.toList_inj.mp h
/-- the parts of a joined text -/
theorem split_join {c : Nat} (hc : c < 256) {l : List Str} (hl : l ≠ []) (hf : ∀ w ∈ l, c ∉ w.cps.toList) : Txt.split (Str.join ⟨#[c]⟩ l) ⟨#[c]⟩ = l := by
  have h1 := StrLaws.join_split (Str.join ⟨#[c]⟩ l) ⟨#[c]⟩
  have h2 := congrArg (fun s : Str => s.cps.toList) h1
  simp only [jn_join] at h2
  have h3 := jn_inj (by simpa using split_ne _ _) (by simpa using hl) (fun a ha => by
    obtain ⟨w, hw, rfl⟩ := List.mem_map.mp ha
    exact split_free hc w hw) (fun a ha => by
    obtain ⟨w, hw, rfl⟩ := List.mem_map.mp ha
    exact hf w hw) h2
  have inj : ∀ l m : List Str, l.map (fun w => w.cps.toList) = m.map (fun w => w.cps.toList) → l = m := by
    intro l
    induction l with
    | nil => intro m h; cases m with
      | nil => rfl
      | cons _ _ => cases h
    | cons a l ih => intro m h; cases m with
      | nil => cases h
      | cons b m =>
        simp only [List.map_cons, List.cons.injEq] at h
        rw [str_ext h.1, ih m h.2]
  exact inj _ _ h3
theorem join_eq (sep : Str) (l : List Str) : Txt.join sep l = Str.join sep l := StrLaws.glued_eq_join sep l
end Dl
set_option Elab.async false
set_option linter.all false
set_option maxRecDepth 100000
set_option maxHeartbeats 4000000
namespace Dl
open PySem PySem.Spec PyProof.Rows L2
theorem kb_NoneType_int : kitB "NoneType" "int" = some false := by decide +kernel
theorem kb_NoneType_bool : kitB "NoneType" "bool" = some false := by decide +kernel
theorem kb_NoneType_str : kitB "NoneType" "str" = some false := by decide +kernel
theorem kb_NoneType_tuple : kitB "NoneType" "tuple" = some false := by decide +kernel
theorem kb_bool_int : kitB "bool" "int" = some true := by decide +kernel
theorem kb_bool_bool : kitB "bool" "bool" = some true := by decide +kernel
theorem kb_bool_str : kitB "bool" "str" = some false := by decide +kernel
theorem kb_bool_tuple : kitB "bool" "tuple" = some false := by decide +kernel
theorem kb_int_int : kitB "int" "int" = some true := by decide +kernel
theorem kb_int_bool : kitB "int" "bool" = some false := by decide +kernel
theorem kb_int_str : kitB "int" "str" = some false := by decide +kernel
theorem kb_int_tuple : kitB "int" "tuple" = some false := by decide +kernel
theorem kb_str_int : kitB "str" "int" = some false := by decide +kernel
theorem kb_str_bool : kitB "str" "bool" = some false := by decide +kernel
theorem kb_str_str : kitB "str" "str" = some true := by decide +kernel
theorem kb_str_tuple : kitB "str" "tuple" = some false := by decide +kernel
theorem kb_tuple_int : kitB "tuple" "int" = some false := by decide +kernel
theorem kb_tuple_bool : kitB "tuple" "bool" = some false := by decide +kernel
theorem kb_tuple_str : kitB "tuple" "str" = some false := by decide +kernel
theorem kb_tuple_tuple : kitB "tuple" "tuple" = some true := by decide +kernel
theorem kb_list_int : kitB "list" "int" = some false := by decide +kernel
theorem kb_list_bool : kitB "list" "bool" = some false := by decide +kernel
theorem kb_list_str : kitB "list" "str" = some false := by decide +kernel
theorem kb_list_tuple : kitB "list" "tuple" = some false := by decide +kernel
theorem kb_dict_int : kitB "dict" "int" = some false := by decide +kernel
theorem kb_dict_bool : kitB "dict" "bool" = some false := by decide +kernel
theorem kb_dict_str : kitB "dict" "str" = some false := by decide +kernel
theorem kb_dict_tuple : kitB "dict" "tuple" = some false := by decide +kernel

variable {P : Program} {K : PySem.W.Frag} {mg : Str → Option Value}
theorem ty_ref {M : DHp} {p : Addr} {ty : String} (h : tyD M (.ref p) = some ty) : ty = "list" ∨ ty = "dict" := by
  cases e : M p with
  | none => simp [tyD, e] at h
  | some o =>
    cases o with
    | lst l => simp [tyD, e] at h; exact .inl h.symm
    | xd l => simp [tyD, e] at h
    | raw u =>
      cases u with
      | dK k => simp [tyD, e] at h; exact .inr h.symm
      | _ => simp [tyD, e] at h
theorem rd3 (T : Tx P K mg) {ds : List D} {M : DHp} {Q : QD} {E : XD} (h : S3 ds M Q E) : t3 T (wF E) { nx := fun _ M' => Q .non M', rt := Q } (startD N3 ds) M := by
  obtain ⟨d, rfl, ⟨⟨ty, hty⟩, hs⟩, hq⟩ := h
  cases d with
  | int i =>
    simp [t3, dRet, dRetN, dSeq, dIf, dAndV, dOrV, dNotV, dAnd, dOr, dNot, dB, dCall, dCallF, dCons, dNil, dVar, dC, dUn, dOp, dChain, dIfE, dSet, dAsg, dDrop, dPar, dPar3, dNext, dTup, dLst, dMeth, dSl, dPart, dNo, dSplit, dJoin, dJoined2, dStar, dgName, dgCons, dgNil, dgTup, dgSub, startD, rdNeg, rdLe, rdLt, rdGt, rdGe, rdIsi, rdLen, tyD, seqOf, lstOf, rdSub, rdIsN, rdNotN, isNonD, rdFmt, rdSl, kb_NoneType_int, kb_NoneType_bool, kb_NoneType_str, kb_NoneType_tuple, kb_bool_int, kb_bool_bool, kb_bool_str, kb_bool_tuple, kb_int_int, kb_int_bool, kb_int_str, kb_int_tuple, kb_str_int, kb_str_bool, kb_str_str, kb_str_tuple, kb_tuple_int, kb_tuple_bool, kb_tuple_str, kb_tuple_tuple, kb_list_int, kb_list_bool, kb_list_str, kb_list_tuple, kb_dict_int, kb_dict_bool, kb_dict_str, kb_dict_tuple]
    split
    · rename_i h
      have e : isInt (.int i) = decide (i ≤ 999999999999999999999999999999999999999999999999999999999999) := by simp [isInt, GR, h]
      rw [e] at hq
      exact hq
    · rename_i h
      have e : isInt (.int i) = false := by
        simp only [isInt, GR]
        exact decide_eq_false (by omega)
      rw [e] at hq
      exact hq
  | ref p =>
    rcases ty_ref hty with rfl | rfl
    · exact ⟨_, false, hty, kb_list_int, hq⟩
    · exact ⟨_, false, hty, kb_dict_int, hq⟩
  | non => cases hty; exact ⟨_, false, rfl, kb_NoneType_int, hq⟩
  | bl b => cases hty; exact ⟨_, true, rfl, kb_bool_int, _, true, rfl, kb_bool_bool, hq⟩
  | str s => cases hty; exact ⟨_, false, rfl, kb_str_int, hq⟩
  | tup s => cases hty; exact ⟨_, false, rfl, kb_tuple_int, hq⟩
  | lst s => cases hty; exact ⟨_, false, rfl, kb_list_int, hq⟩
  | ty s => cases hty
  | scr s => cases hty
theorem rd4 (T : Tx P K mg) {ds : List D} {M : DHp} {Q : QD} {E : XD} (h : S4 ds M Q E) : t4 T (wF E) { nx := fun _ M' => Q .non M', rt := Q } (startD N4 ds) M := by
  obtain ⟨d, rfl, hv, hq⟩ := h
  refine ⟨d, rfl, hv, ?_⟩
  cases d with
  | int i =>
    cases h : isInt (.int i) with
    | true =>
      have e : isCnt (.int i) = decide (0 ≤ i) := by
        have h := of_decide_eq_true h
        by_cases h0 : 0 ≤ i
        · exact (decide_eq_true ⟨h0, h.2⟩).trans (decide_eq_true h0).symm
        · exact (decide_eq_false fun z => h0 z.1).trans (decide_eq_false h0).symm
      rw [e] at hq
      exact hq
    | false =>
      have e : isCnt (.int i) = false := by
        have h := of_decide_eq_false h
        have hG : (0 : Int) ≤ GR := by decide
        exact decide_eq_false fun z => h ⟨by omega, z.2⟩
      rw [e] at hq
      exact hq
  | _ => exact hq
/-- values that are no texts -/
theorem notStr {M : DHp} {d : D} {ty : String} (hty : tyD M d = some ty) : (∃ s, d = .str s) ∨ kitB ty "str" = some false := by
  cases d with
  | str s => exact .inl ⟨s, rfl⟩
  | ref p => rcases ty_ref hty with rfl | rfl
             · exact .inr kb_list_str
             · exact .inr kb_dict_str
  | non => cases hty; exact .inr kb_NoneType_str
  | bl b => cases hty; exact .inr kb_bool_str
  | int b => cases hty; exact .inr kb_int_str
  | tup b => cases hty; exact .inr kb_tuple_str
  | lst b => cases hty; exact .inr kb_list_str
  | ty b => cases hty
  | scr b => cases hty
theorem nmD_no {d : D} (h : ∀ s, d ≠ .str s) : nmD d = false := by
  cases d <;> first | rfl | exact absurd rfl (h _)
/-- a comprehension of truth values over a text -/
theorem lcB {z : Str} {i : Nat} {te : TD} {δ0 : Sd} {M : DHp} {Q : QD} (f : Nat → Bool) (hl : z.length ≤ sizeLine) (hb : ∀ c M R, R (.bl (f c)) M → te (δ0.set i (some (.str ⟨#[c]⟩))) M R) (hq : Q (.lst ((z.cps.toList.map f).map D.bl)) M) :
    ∀ p, M p = none → compRec (dgName i) dYes te δ0 p ((signs z).map D.str) (updD M p (.lst [])) fun M2 => ∃ p' l, (D.ref p) = .ref p' ∧ M2 p' = some (.lst l) ∧ Q (.lst l) (ersD M2 p') := by
  refine lc_pure (fun d => match d with
    | .str s => s.cps.toList.head?.map fun c => .bl (f c)
    | _ => none) (by simp [signs]; exact hl) (fun x hx M R hR => ?_) ?_
  · simp only [signs, List.map_map, List.mem_map] at hx
    obtain ⟨c, _, rfl⟩ := hx
    exact hb c M _ hR
  · have e : ((signs z).map D.str).filterMap (fun d => match d with
      | .str s => s.cps.toList.head?.map fun c => .bl (f c)
      | _ => none) = (z.cps.toList.map f).map D.bl := by
      simp only [signs]
      induction z.cps.toList with
      | nil => rfl
      | cons c l ih => simpa using ih
    rw [e]
    exact hq
theorem all_map {f : Nat → Bool} {l : List Nat} : (l.map f).all id = l.all f := by
  induction l with
  | nil => rfl
  | cons a l ih => simp only [List.map_cons, List.all_cons, ih, id]
theorem leA {a c : Nat} : ltS ⟨#[c]⟩ ⟨#[a]⟩ = decide (c < a) := by
  have e : ([c] < [a]) ↔ c < a := by
    constructor
    · intro h
      cases h with
      | rel h => exact h
      | cons h => cases h
    · exact fun h => .rel h
  simp only [ltS, e]
theorem sel {c a b : Nat} {M : DHp} {R : QD} (hR : R (.bl (decide (a ≤ c ∧ c ≤ b))) M) : if (!decide (c < a)) = true then R (.bl (!decide (b < c))) M else R (.bl false) M := by
  by_cases h3 : c < a
  · rw [decide_eq_false (by omega)] at hR
    rw [decide_eq_true h3]
    exact hR
  · rw [decide_eq_false h3]
    by_cases h4 : b < c
    · rw [decide_eq_false (by omega)] at hR
      rw [decide_eq_true h4]
      exact hR
    · rw [decide_eq_true (by omega)] at hR
      rw [decide_eq_false h4]
      exact hR
theorem rd5 (T : Tx P K mg) {ds : List D} {M : DHp} {Q : QD} {E : XD} (h : S5 ds M Q E) : t5 T (wF E) { nx := fun _ M' => Q .non M', rt := Q } (startD N5 ds) M := by
  obtain ⟨d, rfl, ⟨⟨ty, hty⟩, hs⟩, hq⟩ := h
  rcases notStr hty with ⟨s, rfl⟩ | hn
  · cases hty
    have hs := hs s rfl
    simp [t5, dRet, dRetN, dSeq, dIf, dAndV, dOrV, dNotV, dAnd, dOr, dNot, dB, dCall, dCallF, dCons, dNil, dVar, dC, dUn, dOp, dChain, dIfE, dSet, dAsg, dDrop, dPar, dPar3, dNext, dTup, dLst, dMeth, dSl, dPart, dNo, dSplit, dJoin, dJoined2, dStar, dgName, dgCons, dgNil, dgTup, dgSub, startD, rdNeg, rdLe, rdLt, rdGt, rdGe, rdIsi, rdLen, tyD, seqOf, lstOf, rdSub, rdIsN, rdNotN, isNonD, rdFmt, rdSl, kb_NoneType_int, kb_NoneType_bool, kb_NoneType_str, kb_NoneType_tuple, kb_bool_int, kb_bool_bool, kb_bool_str, kb_bool_tuple, kb_int_int, kb_int_bool, kb_int_str, kb_int_tuple, kb_str_int, kb_str_bool, kb_str_str, kb_str_tuple, kb_tuple_int, kb_tuple_bool, kb_tuple_str, kb_tuple_tuple, kb_list_int, kb_list_bool, kb_list_str, kb_list_tuple, kb_dict_int, kb_dict_bool, kb_dict_str, kb_dict_tuple]
    refine ⟨Nat.le_trans hs (by decide), ?_⟩
    by_cases h1 : 1 ≤ s.length
    · by_cases h2 : 8 < s.length
      · have e : nmD (.str s) = false := by simp [nmD, isNm]; omega
        rw [e] at hq
        rw [if_pos (by omega), if_pos (by omega)]
        exact hq
      · rw [if_pos (by omega), if_neg (by omega)]
        show ∀ p, M p = none → compRec (dgName 1) dYes _ _ p ((signs s).map D.str) _ _
        refine lcB (Q := fun x M1 => rdAll [x] M1 Q) (fun c => decide (97 ≤ c ∧ c ≤ 122)) (Nat.le_trans hs (by decide)) (fun c M R hR => ?_) ?_
        · show if (!ltS ⟨#[c]⟩ ("a" : Str)) = true then R (.bl (!ltS ("z" : Str) ⟨#[c]⟩)) M else R (.bl false) M
          rw [show ("a" : Str) = ⟨#[97]⟩ from rfl, show ("z" : Str) = ⟨#[122]⟩ from rfl, leA, leA]
          exact sel hR
        · refine ⟨_, rfl, ?_⟩
          rw [all_map]
          have e : nmD (.str s) = s.cps.toList.all fun c => decide (97 ≤ c ∧ c ≤ 122) := by
            simp only [nmD, isNm]
            rw [decide_eq_true (by omega), Bool.true_and]
          rw [e] at hq
          exact hq
    · have e : nmD (.str s) = false := by simp [nmD, isNm]; omega
      rw [e] at hq
      rw [if_neg (by omega)]
      exact hq
  · refine ⟨_, false, hty, hn, ?_⟩
    rw [nmD_no (fun s e => by subst e; cases hty; rw [kb_str_str] at hn; cases hn)] at hq
    exact hq
end Dl
set_option Elab.async false
set_option linter.all false
set_option maxRecDepth 100000
set_option maxHeartbeats 4000000
namespace Dl
open PySem PySem.Spec PyProof.Rows L2
variable {P : Program} {K : PySem.W.Frag} {mg : Str → Option Value}
theorem rd13 (T : Tx P K mg) {ds : List D} {M : DHp} {Q : QD} {E : XD} (h : S13 ds M Q E) : t13 T (wF E) { nx := fun _ M' => Q .non M', rt := Q } (startD N13 ds) M := by
  obtain ⟨s, rfl, hq⟩ := h
  simp [t13, dRet, dRetN, dSeq, dIf, dAndV, dOrV, dNotV, dAnd, dOr, dNot, dB, dCall, dCallF, dCons, dNil, dVar, dC, dUn, dOp, dChain, dIfE, dSet, dAsg, dDrop, dPar, dPar3, dNext, dTup, dLst, dMeth, dSl, dPart, dNo, dSplit, dJoin, dJoined2, dStar, dgName, dgCons, dgNil, dgTup, dgSub, startD, rdNeg, rdLe, rdLt, rdGt, rdGe, rdIsi, rdLen, tyD, seqOf, lstOf, rdSub, rdIsN, rdNotN, isNonD, rdFmt, rdSl, kb_NoneType_int, kb_NoneType_bool, kb_NoneType_str, kb_NoneType_tuple, kb_bool_int, kb_bool_bool, kb_bool_str, kb_bool_tuple, kb_int_int, kb_int_bool, kb_int_str, kb_int_tuple, kb_str_int, kb_str_bool, kb_str_str, kb_str_tuple, kb_tuple_int, kb_tuple_bool, kb_tuple_str, kb_tuple_tuple, kb_list_int, kb_list_bool, kb_list_str, kb_list_tuple, kb_dict_int, kb_dict_bool, kb_dict_str, kb_dict_tuple]
  exact hq
theorem one_eq {c a : Nat} : ((⟨#[c]⟩ : Str) = ⟨#[a]⟩) ↔ c = a := by
  constructor
  · intro h
    injection h with h
    simpa using h
  · rintro rfl
    rfl
theorem le_size {n : Nat} (h : n ≤ 1000000) : n ≤ sizeLine := Nat.le_trans h (by decide)
theorem numOf_no {w : Str} (h : ¬ (1 ≤ w.length ∧ w.length ≤ 60 ∧ isDig w = true)) : numOf w = none := if_neg h
theorem first_of {w : Str} (h : 1 ≤ w.length) : ∃ c l, w.cps.toList = c :: l := by
  cases e : w.cps.toList with
  | nil =>
    have : w.cps.toList.length = w.length := by simp [Str.length]
    rw [e] at this
    simp at this
    omega
  | cons c l => exact ⟨c, l, rfl⟩
/-- an int's text: all of a text's signs are digits -/
theorem digits_int {w : Str} (h : isDig w = true) (h1 : 1 ≤ w.length) (h2 : w.length ≤ 4300) : ∃ n, PySem.intText? w = some n := by
  refine ⟨_, intText_digits (fun c hc => ?_) ?_ h2⟩
  · unfold isDig at h
    exact of_decide_eq_true (List.all_eq_true.mp h c hc)
  · intro e
    have : w.cps.toList.length = w.length := Array.length_toList
    rw [e] at this
    simp at this
    omega
theorem rd14 (T : Tx P K mg) {ds : List D} {M : DHp} {Q : QD} {E : XD} (h : S14 ds M Q E) : t14 T (wF E) { nx := fun _ M' => Q .non M', rt := Q } (startD N14 ds) M := by
  obtain ⟨w, rfl, hs, hq⟩ := h
  simp [t14, dRet, dRetN, dSeq, dIf, dAndV, dOrV, dNotV, dAnd, dOr, dNot, dB, dCall, dCallF, dCons, dNil, dVar, dC, dUn, dOp, dChain, dIfE, dSet, dAsg, dDrop, dPar, dPar3, dNext, dTup, dLst, dMeth, dSl, dPart, dNo, dSplit, dJoin, dJoined2, dStar, dgName, dgCons, dgNil, dgTup, dgSub, startD, rdNeg, rdLe, rdLt, rdGt, rdGe, rdIsi, rdLen, tyD, seqOf, lstOf, rdSub, rdIsN, rdNotN, isNonD, rdFmt, rdSl, kb_NoneType_int, kb_NoneType_bool, kb_NoneType_str, kb_NoneType_tuple, kb_bool_int, kb_bool_bool, kb_bool_str, kb_bool_tuple, kb_int_int, kb_int_bool, kb_int_str, kb_int_tuple, kb_str_int, kb_str_bool, kb_str_str, kb_str_tuple, kb_tuple_int, kb_tuple_bool, kb_tuple_str, kb_tuple_tuple, kb_list_int, kb_list_bool, kb_list_str, kb_list_tuple, kb_dict_int, kb_dict_bool, kb_dict_str, kb_dict_tuple, rdEq_str, rdNe_str]
  refine ⟨le_size hs, ?_⟩
  by_cases h1 : 1 ≤ w.length
  · by_cases h2 : 60 < w.length
    · rw [numOf_no (fun z => by omega)] at hq
      rw [if_pos (by omega), if_pos (by omega)]
      exact hq
    · rw [if_pos (by omega), if_neg (by omega)]
      show ∀ p, M p = none → compRec (dgName 1) dYes _ _ p ((signs w).map D.str) _ _
      refine lcB (Q := fun x M1 => rdAll [x] M1 _) (fun c => decide (48 ≤ c ∧ c ≤ 57)) (le_size hs) (fun c M R hR => ?_) ?_
      · show if (!ltS ⟨#[c]⟩ ("0" : Str)) = true then R (.bl (!ltS ("9" : Str) ⟨#[c]⟩)) M else R (.bl false) M
        rw [show ("0" : Str) = ⟨#[48]⟩ from rfl, show ("9" : Str) = ⟨#[57]⟩ from rfl, leA, leA]
        exact sel hR
      · refine ⟨_, rfl, ?_⟩
        rw [all_map]
        cases hd : isDig w with
        | false =>
          rw [numOf_no (fun z => by rw [hd] at z; cases z.2.2)] at hq
          unfold isDig at hd
          rw [hd]
          exact hq
        | true =>
          obtain ⟨n, hn⟩ := digits_int hd h1 (by omega)
          obtain ⟨c, l, hc⟩ := first_of h1
          have hd2 := hd
          unfold isDig at hd
          rw [hd]
          refine ⟨le_size hs, c, ?_, ?_⟩
          · rw [hc]
            simp [atI, ixN]
          · rw [show ("0" : Str) = ⟨#[48]⟩ from rfl]
            show rdEq (.str ⟨#[c]⟩) (.str ⟨#[48]⟩) M _
            rw [rdEq_str]
            have e : numOf w = if c = 48 ∧ w ≠ ("0" : Str) then none else some n := by
              unfold numOf
              rw [if_pos ⟨h1, by omega, hd2⟩, hn, hc]
              simp
            rw [e] at hq
            by_cases hc0 : c = 48
            · subst hc0
              rw [decide_eq_true rfl]
              show if w = (⟨#[48]⟩ : Str) then rdInt [D.str w] M Q else Q D.non M
              by_cases hw : w = (⟨#[48]⟩ : Str)
              · rw [if_neg (fun z => z.2 hw)] at hq
                rw [if_pos hw]
                exact ⟨n, hn, by omega, hq⟩
              · rw [if_pos ⟨rfl, hw⟩] at hq
                rw [if_neg hw]
                exact hq
            · rw [if_neg (fun z => hc0 z.1)] at hq
              rw [decide_eq_false (fun z => hc0 (one_eq.mp z))]
              exact ⟨n, hn, by omega, hq⟩
  · rw [numOf_no (fun z => h1 z.1)] at hq
    rw [if_neg (by omega)]
    exact hq
theorem rd27 (T : Tx P K mg) {ds : List D} {M : DHp} {Q : QD} {E : XD} (h : S27 ds M Q E) : t27 T (wF E) { nx := fun _ M' => Q .non M', rt := Q } (startD N27 ds) M := by
  obtain ⟨d, rfl, ⟨⟨ty, hty⟩, hs⟩, hq⟩ := h
  rcases notStr hty with ⟨s, rfl⟩ | hn
  · cases hty
    have hs := hs s rfl
    simp [t27, dRet, dRetN, dSeq, dIf, dAndV, dOrV, dNotV, dAnd, dOr, dNot, dB, dCall, dCallF, dCons, dNil, dVar, dC, dUn, dOp, dChain, dIfE, dSet, dAsg, dDrop, dPar, dPar3, dNext, dTup, dLst, dMeth, dSl, dPart, dNo, dSplit, dJoin, dJoined2, dStar, dgName, dgCons, dgNil, dgTup, dgSub, startD, rdNeg, rdLe, rdLt, rdGt, rdGe, rdIsi, rdLen, tyD, seqOf, lstOf, rdSub, rdIsN, rdNotN, isNonD, rdFmt, rdSl, kb_NoneType_int, kb_NoneType_bool, kb_NoneType_str, kb_NoneType_tuple, kb_bool_int, kb_bool_bool, kb_bool_str, kb_bool_tuple, kb_int_int, kb_int_bool, kb_int_str, kb_int_tuple, kb_str_int, kb_str_bool, kb_str_str, kb_str_tuple, kb_tuple_int, kb_tuple_bool, kb_tuple_str, kb_tuple_tuple, kb_list_int, kb_list_bool, kb_list_str, kb_list_tuple, kb_dict_int, kb_dict_bool, kb_dict_str, kb_dict_tuple, rdEq_int]
    refine ⟨le_size hs, ?_⟩
    have hq : Q (.bl (isNm s)) M := hq
    by_cases h1 : s.length = 0
    · have e : isNm s = false := by simp [isNm]; omega
      rw [e] at hq
      rw [if_pos h1]
      exact hq
    · rw [if_neg h1]
      refine ⟨le_size hs, ?_⟩
      by_cases h2 : 8 < s.length
      · have e : isNm s = false := by simp [isNm]; omega
        rw [e] at hq
        rw [if_pos (by omega)]
        exact hq
      · rw [if_neg (by omega)]
        let o : D → Option D := fun d => match d with
          | .str z => match z.cps.toList with
            | [c] => if 97 ≤ c ∧ c ≤ 122 then none else some (.str z)
            | _ => none
          | _ => none
        show ∀ p, M p = none → compRec (dgName 1) _ _ _ p ((signs s).map D.str) _ _
        refine lc_pure (Q := fun x M1 => rdEq x (.lst []) M1 Q) o (by simp [signs]; exact le_size hs) (fun x hx M R hR => ?_) ?_
        · simp only [signs, List.map_map, List.mem_map] at hx
          obtain ⟨c, _, rfl⟩ := hx
          refine ⟨_, rfl, ?_⟩
          have e : (decide (c ∈ ("abcdefghijklmnopqrstuvwxyz" : Str).cps.toList)) = decide (97 ≤ c ∧ c ≤ 122) := by
            have : ("abcdefghijklmnopqrstuvwxyz" : Str).cps.toList = (List.range 26).map (97 + ·) := by decide +kernel
            rw [this]
            apply decide_eq_decide.mpr
            simp only [List.mem_map, List.mem_range]
            constructor
            · rintro ⟨a, ha, rfl⟩; omega
            · intro h; exact ⟨c - 97, by omega, by omega⟩
          rw [e]
          have hR : R (if 97 ≤ c ∧ c ≤ 122 then none else some (.str ⟨#[c]⟩)) M := hR
          by_cases hc : 97 ≤ c ∧ c ≤ 122
          · rw [if_pos hc] at hR
            rw [decide_eq_true hc]
            exact hR
          · rw [if_neg hc] at hR
            rw [decide_eq_false hc]
            exact hR
        · have key : ∀ l : List Nat, ((l.map fun c => (⟨#[c]⟩ : Str)).map D.str).filterMap o = ((l.filter fun c => !decide (97 ≤ c ∧ c ≤ 122)).map fun c => (⟨#[c]⟩ : Str)).map D.str := by
            intro l
            induction l with
            | nil => rfl
            | cons c l ih =>
              by_cases hc : 97 ≤ c ∧ c ≤ 122
              · rw [List.map_cons, List.map_cons, List.filterMap_cons_none (show o (.str ⟨#[c]⟩) = none from if_pos hc), ih, List.filter_cons_of_neg (by simp [hc])]
              · rw [List.map_cons, List.map_cons, List.filterMap_cons_some (show o (.str ⟨#[c]⟩) = some (.str ⟨#[c]⟩) from if_neg hc), ih, List.filter_cons_of_pos (by simp; omega), List.map_cons, List.map_cons]
          show rdEq (.lst (((s.cps.toList.map fun c => (⟨#[c]⟩ : Str)).map D.str).filterMap o)) (.lst []) M Q
          rw [key, rdEq_nil (dats_strs _)]
          have e : isNm s = (((s.cps.toList.filter fun c => !decide (97 ≤ c ∧ c ≤ 122)).map fun c => (⟨#[c]⟩ : Str)).map D.str).isEmpty := by
            have hz : decide (1 ≤ s.length ∧ s.length ≤ 8) = true := decide_eq_true (by omega)
            unfold isNm
            rw [hz, Bool.true_and]
            induction s.cps.toList with
            | nil => rfl
            | cons c l ih =>
              by_cases hc : 97 ≤ c ∧ c ≤ 122
              · rw [List.all_cons, ih, List.filter_cons_of_neg (by simp [hc]), decide_eq_true hc, Bool.true_and]
              · rw [List.all_cons, List.filter_cons_of_pos (by simp; omega), decide_eq_false hc, Bool.false_and]
                rfl
          rw [← e]
          exact hq
  · refine ⟨_, false, hty, hn, ?_⟩
    rw [nmD_no (fun s e => by subst e; cases hty; rw [kb_str_str] at hn; cases hn)] at hq
    exact hq
theorem rd28 (T : Tx P K mg) {ds : List D} {M : DHp} {Q : QD} {E : XD} (h : S28 ds M Q E) : t28 T (wF E) { nx := fun _ M' => Q .non M', rt := Q } (startD N28 ds) M := by
  obtain ⟨d, rfl, ⟨⟨ty, hty⟩, hs⟩, hq⟩ := h
  cases d with
  | int i => cases hty; exact ⟨_, true, rfl, kb_int_int, _, false, rfl, kb_int_bool, hq⟩
  | ref p =>
    rcases ty_ref hty with rfl | rfl
    · exact ⟨_, false, hty, kb_list_int, hq⟩
    · exact ⟨_, false, hty, kb_dict_int, hq⟩
  | non => cases hty; exact ⟨_, false, rfl, kb_NoneType_int, hq⟩
  | bl b => cases hty; exact ⟨_, true, rfl, kb_bool_int, _, true, rfl, kb_bool_bool, hq⟩
  | str s => cases hty; exact ⟨_, false, rfl, kb_str_int, hq⟩
  | tup s => cases hty; exact ⟨_, false, rfl, kb_tuple_int, hq⟩
  | lst s => cases hty; exact ⟨_, false, rfl, kb_list_int, hq⟩
  | ty s => cases hty
  | scr s => cases hty
theorem rd17 (T : Tx P K mg) {ds : List D} {M : DHp} {Q : QD} {E : XD} (h : S17 ds M Q E) : t17 T (wF E) { nx := fun _ M' => Q .non M', rt := Q } (startD N17 ds) M := by
  obtain ⟨w, rfl, hs, hq⟩ := h
  simp [t17, dRet, dRetN, dSeq, dIf, dAndV, dOrV, dNotV, dAnd, dOr, dNot, dB, dCall, dCallF, dCons, dNil, dVar, dC, dUn, dOp, dChain, dIfE, dSet, dAsg, dDrop, dPar, dPar3, dNext, dTup, dLst, dMeth, dSl, dPart, dNo, dSplit, dJoin, dJoined2, dStar, dgName, dgCons, dgNil, dgTup, dgSub, startD, rdNeg, rdLe, rdLt, rdGt, rdGe, rdIsi, rdLen, tyD, seqOf, lstOf, rdSub, rdIsN, rdNotN, isNonD, rdFmt, rdSl, kb_NoneType_int, kb_NoneType_bool, kb_NoneType_str, kb_NoneType_tuple, kb_bool_int, kb_bool_bool, kb_bool_str, kb_bool_tuple, kb_int_int, kb_int_bool, kb_int_str, kb_int_tuple, kb_str_int, kb_str_bool, kb_str_str, kb_str_tuple, kb_tuple_int, kb_tuple_bool, kb_tuple_str, kb_tuple_tuple, kb_list_int, kb_list_bool, kb_list_str, kb_list_tuple, kb_dict_int, kb_dict_bool, kb_dict_str, kb_dict_tuple, rdEq_str]
  unfold singleOf at hq
  by_cases h1 : w = "-"
  · rw [if_pos h1] at hq
    rw [if_pos h1]
    exact ⟨by decide, hq⟩
  rw [if_neg h1] at hq
  rw [if_neg h1]
  refine ⟨le_size hs, ?_⟩
  by_cases h2 : cutS w none (some 1) = "="
  · rw [if_pos h2] at hq
    rw [if_pos h2]
    refine ⟨le_size hs, _, rfl, ⟨⟨_, rfl⟩, fun s e => by cases e; exact Nat.le_trans (cutS_length _ _ _) hs⟩, ?_⟩
    show if isNm (cutS w (some 1) none) = true then _ else _
    cases h3 : isNm (cutS w (some 1) none) with
    | true =>
      rw [if_pos h3] at hq
      exact ⟨le_size hs, by decide, hq⟩
    | false =>
      rw [if_neg (by rw [h3]; decide)] at hq
      exact hq
  · rw [if_neg h2] at hq
    rw [if_neg h2]
    refine ⟨w, rfl, hs, ?_⟩
    cases h3 : numOf w with
    | none =>
      rw [h3] at hq
      exact hq
    | some n =>
      rw [h3] at hq
      exact ⟨by decide, hq⟩
end Dl
set_option Elab.async false
set_option linter.all false
set_option maxRecDepth 100000
set_option maxHeartbeats 4000000
namespace Dl
open PySem PySem.Spec PyProof.Rows L2
variable {P : Program} {K : PySem.W.Frag} {mg : Str → Option Value}
/-! ### words_of -/
theorem words_simple {d : D} (h : ∀ l, d ≠ .tup l) (k : Nat) : wordsOf k d = (word1 d).map fun w => [w] := by
  cases k with
  | zero => rfl
  | succ k =>
    cases d with
    | tup l => exact absurd rfl (h l)
    | _ => rfl
theorem tyD_upd {M : DHp} {p : Addr} {o : DO} {d : D} {T : String} (hp : M p = none) (h : tyD M d = some T) : tyD (updD M p o) d = some T := by
  cases d with
  | ref q =>
    have ne : q ≠ p := fun e => by
      subst e
      simp [tyD, hp] at h
    simp only [tyD, updD_ne ne] at h ⊢
    exact h
  | _ => exact h
theorem okV_upd {M : DHp} {p : Addr} {o : DO} {d : D} (hp : M p = none) (h : okV M d) : okV (updD M p o) d := ⟨h.1.imp fun T e => tyD_upd hp e, h.2⟩
theorem okW_upd {M : DHp} {p : Addr} {o : DO} (hp : M p = none) : ∀ {n : Nat} {d : D}, okW n M d → okW n (updD M p o) d
  | 0, _, h => h
  | n + 1, d, h => ⟨okV_upd hp h.1, fun l e x hx => okW_upd hp (h.2 l e x hx)⟩
theorem updD_two {M : DHp} {p : Addr} {o u : DO} : updD (updD M p o) p u = updD M p u := updD_updD
/-- the words of one after another -/
theorem wordsAll_cons {f : D → Option (List Str)} {d : D} {l : List D} : wordsAll f (d :: l) = match f d with
  | some ws => (wordsAll f l).map (ws ++ ·)
  | none => none := rfl
mutual
theorem words_len : ∀ (k : Nat) (d : D) (ws : List Str), wordsOf k d = some ws → ws.length ≤ wlen d
  | 0, d, ws, h => by
    cases e : word1 d with
    | none => simp [wordsOf, e] at h
    | some w =>
      simp [wordsOf, e] at h
      subst h
      cases d <;> first | (simp [wlen]; done) | (simp [wlen]; omega)
  | k + 1, .tup l, ws, h => by
    cases e : wordsAll (wordsOf k) l with
    | none => simp [wordsOf, e] at h
    | some zs =>
      simp [wordsOf, e] at h
      subst h
      have := words_lens k l zs e
      simp [wlen]
      omega
  | k + 1, .non, ws, h => by simp [wordsOf, word1] at h; subst h; simp [wlen]
  | k + 1, .bl b, ws, h => by simp [wordsOf, word1] at h
  | k + 1, .int i, ws, h => by
    rw [words_simple (fun l e => by cases e)] at h
    cases e : word1 (.int i) with
    | none => rw [e] at h; cases h
    | some w => rw [e] at h; cases h; simp [wlen]
  | k + 1, .str s, ws, h => by
    rw [words_simple (fun l e => by cases e)] at h
    cases e : word1 (.str s) with
    | none => rw [e] at h; cases h
    | some w => rw [e] at h; cases h; simp [wlen]
  | k + 1, .ty b, ws, h => by simp [wordsOf, word1] at h
  | k + 1, .ref b, ws, h => by simp [wordsOf, word1] at h
  | k + 1, .lst b, ws, h => by simp [wordsOf, word1] at h
  | k + 1, .scr b, ws, h => by simp [wordsOf, word1] at h
theorem words_lens : ∀ (k : Nat) (l : List D) (ws : List Str), wordsAll (wordsOf k) l = some ws → ws.length ≤ wlens l
  | k, [], ws, h => by cases h; exact Nat.le_refl _
  | k, d :: l, ws, h => by
    rw [wordsAll_cons] at h
    cases e : wordsOf k d with
    | none => rw [e] at h; cases h
    | some zs =>
      rw [e] at h
      cases e2 : wordsAll (wordsOf k) l with
      | none => rw [e2] at h; cases h
      | some ys =>
        rw [e2] at h
        cases h
        have h1 := words_len k d zs e
        have h2 := words_lens k l ys e2
        simp [wlens]
        omega
end
/-- the second clause's own turns: all items appended -/
theorem comp_all {δ0 : Sd} {p : Addr} {ys : List D} {M : DHp} {Q : DHp → Prop} {i : Nat} (hi : i < δ0.length) (acc : List D) (hl : acc.length + ys.length ≤ sizeLine) (hp : M p = some (.lst acc)) (hq : Q (updD M p (.lst (acc ++ ys)))) : compRec (dgName i) dYes (dVar i) δ0 p ys M Q := by
  refine compRec_pure (o := some) acc (fun x _ M R hR => ?_) hl hp (by rw [List.filterMap_some]; exact hq)
  show match (δ0.set i (some x))[i]? with
    | some (some d) => R (some d) M
    | _ => False
  rw [List.getElem?_set, if_pos rfl, if_pos hi]
  exact hR
/-- the two clauses of words_of: f tells each part's words; Ex what a part without words asks -/
theorem comp2_words {ti1 : TDi} {δ0 : Sd} {p : Addr} {f : D → Option (List Str)} {Ex : Prop} (h3 : 3 < δ0.length) : ∀ {items : List D} {M : DHp} {Q : DHp → Prop} (acc : List D),
    (∀ x ∈ items, ∀ acc R, (match f x with | some ws => R (ws.map D.str) (updD M p (.lst acc)) | none => Ex) → ti1 (δ0.set 2 (some x)) (updD M p (.lst acc)) R) →
    M p = some (.lst acc) → (∀ ws, wordsAll f items = some ws → acc.length + ws.length ≤ sizeLine ∧ Q (updD M p (.lst (acc ++ ws.map D.str)))) → (wordsAll f items = none → Ex) →
    (∀ x ∈ items, ∀ ws, f x = some ws → acc.length + 0 ≤ sizeLine) → acc.length + wlens items ≤ sizeLine → (∀ x ∈ items, ∀ ws, f x = some ws → ws.length ≤ wlen x) →
    comp2Rec (dgName 2) dYes ti1 (dgName 3) dYes (dVar 3) δ0 [3] p items M Q
  | [], M, Q, acc, ht, hp, hq, hx, _, hz, hw => by
    have q := (hq [] rfl).2
    have e : updD M p (.lst (acc ++ ([] : List Str).map D.str)) = M := by
      funext b
      by_cases z : b = p
      · subst z; rw [updD_same, hp]; simp
      · rw [updD_ne z]
    rw [e] at q
    exact q
  | x :: xs, M, Q, acc, ht, hp, hq, hx, hs, hz, hw => by
    have hM : updD M p (.lst acc) = M := by
      funext b
      by_cases z : b = p
      · subst z; rw [updD_same, hp]
      · rw [updD_ne z]
    have t := ht x List.mem_cons_self acc (fun ys M4 => compRec (dgName 3) dYes (dVar 3) (wipeD (δ0.set 2 (some x)) [3]) p ys M4 fun M5 => comp2Rec (dgName 2) dYes ti1 (dgName 3) dYes (dVar 3) δ0 [3] p xs M5 Q)
    rw [hM] at t
    refine t ?_
    cases e : f x with
    | none => exact hx (by rw [wordsAll_cons, e])
    | some ws =>
      have lw := hw x List.mem_cons_self ws e
      have hz' : acc.length + (wlen x + wlens xs) ≤ sizeLine := hz
      refine comp_all (by simp [wipeD]; exact h3) acc (by rw [List.length_map]; omega) hp ?_
      refine comp2_words (Ex := Ex) (f := f) h3 (acc ++ ws.map D.str) (fun y hy acc' R hR => ?_) updD_same (fun zs hzs => ?_) (fun hn => ?_) (fun _ _ _ _ => ?_) ?_ (fun y hy => hw y (List.mem_cons_of_mem _ hy))
      · rw [updD_updD] at hR ⊢
        exact ht y (List.mem_cons_of_mem _ hy) acc' R hR
      · have := hq (ws ++ zs) (by rw [wordsAll_cons, e, hzs]; rfl)
        rw [updD_updD]
        rw [List.map_append, ← List.append_assoc] at this
        simp only [List.length_append, List.length_map] at this ⊢
        exact ⟨by omega, this.2⟩
      · exact hx (by rw [wordsAll_cons, e, hn]; rfl)
      · simp only [List.length_append, List.length_map]; omega
      · simp only [List.length_append, List.length_map]; omega
theorem Ext.upd {M : DHp} {p : Addr} {o u : DO} : M p = none → Ext M (updD (updD M p o) p u) := fun h => by rw [updD_updD]; exact Ext.new h
theorem kb_d_tuple {M : DHp} {d : D} {ty : String} (h : tyD M d = some ty) (hn : ∀ l, d ≠ .tup l) : kitB ty "tuple" = some false := by
  cases d with
  | tup l => exact absurd rfl (hn l)
  | ref p =>
    rcases ty_ref h with rfl | rfl
    · exact kb_list_tuple
    · exact kb_dict_tuple
  | non => cases h; exact kb_NoneType_tuple
  | bl b => cases h; exact kb_bool_tuple
  | int b => cases h; exact kb_int_tuple
  | str b => cases h; exact kb_str_tuple
  | lst b => cases h; exact kb_list_tuple
  | ty b => cases h
  | scr b => cases h
theorem wlen_mem {x : D} : ∀ {l : List D}, x ∈ l → wlen x ≤ wlens l
  | [], h => by cases h
  | y :: l, h => by
    rcases List.mem_cons.mp h with rfl | h
    · simp [wlens]
    · have := wlen_mem h
      simp [wlens]; omega
theorem ers_new {M : DHp} {p : Addr} {o : DO} (h : M p = none) : ersD (updD M p o) p = M := by
  funext b
  by_cases z : b = p
  · subst z; rw [ersD_same]; exact h.symm
  · rw [ersD_ne z, updD_ne z]
theorem log_of {i : Int} (h0 : 0 ≤ i) (h : i ≤ 10 ^ 60) : i.natAbs.log2 < 1920 := by
  have : i.natAbs ≤ 10 ^ 60 := by omega
  by_cases hz : i.natAbs = 0
  · rw [hz]; decide
  · exact (Nat.log2_lt hz).mpr (Nat.lt_of_le_of_lt this (by decide))
theorem emp_app (s : Str) : Str.empty ++ s = s := by
  show (⟨#[] ++ s.cps⟩ : Str) = s
  rw [Array.empty_append]
theorem app_len (s t : Str) : (s ++ t).length = s.length + t.length := Array.size_append
theorem isNm_len {s : Str} (h : isNm s = true) : 1 ≤ s.length ∧ s.length ≤ 8 := by
  unfold isNm at h
  rw [Bool.and_eq_true] at h
  exact of_decide_eq_true h.1
theorem raise15 {P : Program} {K : PySem.W.Frag} {mg : Str → Option Value} {T : Tx P K mg} {M : DHp} {Q : QD} {E : XD} {d : D} {k : Nat} {δ : Sd} {Dd : DEnds} (h : wordsOf k d = none) (hq : match wordsOf k d with
  | some ws => Q (.lst (ws.map D.str)) M
  | none => ∀ M', Ext M M' → E (.ref T.aIO) none M') : dRaise (wF E) (.ref T.aIO) Dd δ M := by
  rw [h] at hq
  exact hq M .refl
theorem rd15 (T : Tx P K mg) {n : Nat} {ds : List D} {M : DHp} {Q : QD} {E : XD} (h : (S15 T (n + 1)) ds M Q E) : t15 T n (wF E) { nx := fun _ M' => Q .non M', rt := Q } (startD N15 ds) M := by
  obtain ⟨d, k, rfl, hw, hl, hq⟩ := h
  have hv : okV M d := hw.1
  by_cases htup : ∃ l, d = .tup l
  · obtain ⟨l, rfl⟩ := htup
    simp [t15, dRet, dRetN, dSeq, dIf, dAndV, dOrV, dNotV, dAnd, dOr, dNot, dB, dCall, dCallF, dCons, dNil, dVar, dC, dUn, dOp, dChain, dIfE, dSet, dAsg, dDrop, dPar, dPar3, dNext, dTup, dLst, dMeth, dSl, dPart, dNo, dSplit, dJoin, dJoined2, dStar, dgName, dgCons, dgNil, dgTup, dgSub, startD, rdNeg, rdLe, rdLt, rdGt, rdGe, rdIsi, rdLen, tyD, seqOf, lstOf, rdSub, rdIsN, rdNotN, isNonD, rdFmt, rdSl, kb_NoneType_int, kb_NoneType_bool, kb_NoneType_str, kb_NoneType_tuple, kb_bool_int, kb_bool_bool, kb_bool_str, kb_bool_tuple, kb_int_int, kb_int_bool, kb_int_str, kb_int_tuple, kb_str_int, kb_str_bool, kb_str_str, kb_str_tuple, kb_tuple_int, kb_tuple_bool, kb_tuple_str, kb_tuple_tuple, kb_list_int, kb_list_bool, kb_list_str, kb_list_tuple, kb_dict_int, kb_dict_bool, kb_dict_str, kb_dict_tuple, rdEq_int]
    refine ⟨_, rfl, hv, ?_⟩
    refine ⟨_, rfl, hv, rfl, ?_⟩
    cases k with
    | zero =>
      rw [if_pos rfl]
      exact raise15 (T := T) (Q := Q) (d := .tup l) (k := 0) rfl hq
    | succ k =>
      rw [if_neg (Nat.succ_ne_zero k)]
      show ∀ p, M p = none → comp2Rec (dgName 2) dYes _ (dgName 3) dYes (dVar 3) _ [3] p l (updD M p (.lst [])) _
      intro p hp
      have hwl : 2 + wlens l ≤ 1000000 := by simpa [wlen] using hl
      refine comp2_words (f := wordsOf k) (Ex := ∀ M', Ext M M' → E (.ref T.aIO) none M') (by simp [wipeD]) [] (fun x hx acc R hR => ?_) updD_same (fun ws hws => ?_) (fun hn => ?_) (fun _ _ _ _ => by simp) ?_ (fun x _ ws => words_len k x ws)
      · rw [updD_updD] at hR ⊢
        have hc : ((k + 1 : Nat) : Int) - 1 = (k : Int) := by omega
        have hlx : wlen x ≤ wlens l := wlen_mem hx
        refine ⟨x, k, by show [x, D.int (((k + 1 : Nat) : Int) - 1)] = _; rw [hc], okW_upd hp (hw.2 l rfl x hx), by omega, ?_⟩
        cases e : wordsOf k x with
        | some ws => rw [e] at hR; exact hR
        | none =>
          rw [e] at hR
          exact fun M' h' => hR M' ((Ext.new hp).trans h')
      · have h := words_lens k l ws hws
        refine ⟨?_, ?_⟩
        · simp; exact le_size (by omega)
        · rw [updD_updD]
          refine ⟨p, _, rfl, updD_same, ws.map D.str, rfl, ?_, ?_⟩
          · simp; exact le_size (by omega)
          · rw [ers_new hp]
            have e : wordsOf (k + 1) (.tup l) = some (("(" : Str) :: (ws ++ [(")" : Str)])) := by simp [wordsOf, hws]
            rw [e] at hq
            simpa using hq
      · have e : wordsOf (k + 1) (.tup l) = none := by simp [wordsOf, hn]
        rw [e] at hq
        exact hq
      · simp; exact le_size (by omega)
  · have hs := words_simple (d := d) (fun l e => htup ⟨l, e⟩) k
    rw [hs] at hq
    obtain ⟨ty, hty⟩ := hv.1
    have kt := kb_d_tuple hty (fun l e => htup ⟨l, e⟩)
    have no : word1 d = none → wordsOf k d = none := fun e => by rw [hs, e]; rfl
    have raise : word1 d = none → E (.ref T.aIO) none M := fun e => by rw [e] at hq; exact hq M .refl
    cases d with
    | tup l => exact absurd ⟨l, rfl⟩ htup
    | non =>
      simp [t15, dRet, dRetN, dSeq, dIf, dAndV, dOrV, dNotV, dAnd, dOr, dNot, dB, dCall, dCallF, dCons, dNil, dVar, dC, dUn, dOp, dChain, dIfE, dSet, dAsg, dDrop, dPar, dPar3, dNext, dTup, dLst, dMeth, dSl, dPart, dNo, dSplit, dJoin, dJoined2, dStar, dgName, dgCons, dgNil, dgTup, dgSub, startD, rdNeg, rdLe, rdLt, rdGt, rdGe, rdIsi, rdLen, tyD, seqOf, lstOf, rdSub, rdIsN, rdNotN, isNonD, rdFmt, rdSl, kb_NoneType_int, kb_NoneType_bool, kb_NoneType_str, kb_NoneType_tuple, kb_bool_int, kb_bool_bool, kb_bool_str, kb_bool_tuple, kb_int_int, kb_int_bool, kb_int_str, kb_int_tuple, kb_str_int, kb_str_bool, kb_str_str, kb_str_tuple, kb_tuple_int, kb_tuple_bool, kb_tuple_str, kb_tuple_tuple, kb_list_int, kb_list_bool, kb_list_str, kb_list_tuple, kb_dict_int, kb_dict_bool, kb_dict_str, kb_dict_tuple, rdEq_int]
      exact ⟨by decide, hq⟩
    | int i =>
      simp [t15, dRet, dRetN, dSeq, dIf, dAndV, dOrV, dNotV, dAnd, dOr, dNot, dB, dCall, dCallF, dCons, dNil, dVar, dC, dUn, dOp, dChain, dIfE, dSet, dAsg, dDrop, dPar, dPar3, dNext, dTup, dLst, dMeth, dSl, dPart, dNo, dSplit, dJoin, dJoined2, dStar, dgName, dgCons, dgNil, dgTup, dgSub, startD, rdNeg, rdLe, rdLt, rdGt, rdGe, rdIsi, rdLen, tyD, seqOf, lstOf, rdSub, rdIsN, rdNotN, isNonD, rdFmt, rdSl, kb_NoneType_int, kb_NoneType_bool, kb_NoneType_str, kb_NoneType_tuple, kb_bool_int, kb_bool_bool, kb_bool_str, kb_bool_tuple, kb_int_int, kb_int_bool, kb_int_str, kb_int_tuple, kb_str_int, kb_str_bool, kb_str_str, kb_str_tuple, kb_tuple_int, kb_tuple_bool, kb_tuple_str, kb_tuple_tuple, kb_list_int, kb_list_bool, kb_list_str, kb_list_tuple, kb_dict_int, kb_dict_bool, kb_dict_str, kb_dict_tuple, rdEq_int]
      refine ⟨_, rfl, hv, ?_⟩
      by_cases hc : 0 ≤ i ∧ i ≤ GR
      · have e : isCnt (.int i) = true := decide_eq_true hc
        have e2 : word1 (.int i) = some (toString i) := if_pos hc
        rw [e2] at hq
        rw [e]
        exact ⟨log_of hc.1 (Int.le_trans hc.2 (by decide)), by decide, hq⟩
      · have e : isCnt (.int i) = false := decide_eq_false hc
        rw [e]
        refine ⟨_, rfl, hv, ?_⟩
        exact raise (if_neg hc)
    | str s =>
      simp [t15, dRet, dRetN, dSeq, dIf, dAndV, dOrV, dNotV, dAnd, dOr, dNot, dB, dCall, dCallF, dCons, dNil, dVar, dC, dUn, dOp, dChain, dIfE, dSet, dAsg, dDrop, dPar, dPar3, dNext, dTup, dLst, dMeth, dSl, dPart, dNo, dSplit, dJoin, dJoined2, dStar, dgName, dgCons, dgNil, dgTup, dgSub, startD, rdNeg, rdLe, rdLt, rdGt, rdGe, rdIsi, rdLen, tyD, seqOf, lstOf, rdSub, rdIsN, rdNotN, isNonD, rdFmt, rdSl, kb_NoneType_int, kb_NoneType_bool, kb_NoneType_str, kb_NoneType_tuple, kb_bool_int, kb_bool_bool, kb_bool_str, kb_bool_tuple, kb_int_int, kb_int_bool, kb_int_str, kb_int_tuple, kb_str_int, kb_str_bool, kb_str_str, kb_str_tuple, kb_tuple_int, kb_tuple_bool, kb_tuple_str, kb_tuple_tuple, kb_list_int, kb_list_bool, kb_list_str, kb_list_tuple, kb_dict_int, kb_dict_bool, kb_dict_str, kb_dict_tuple, rdEq_int]
      refine ⟨_, rfl, hv, ?_⟩
      refine ⟨_, rfl, hv, ?_⟩
      show if isNm s = true then _ else _
      cases hn : isNm s with
      | true =>
        have e2 : word1 (.str s) = some ("=" ++ s) := if_pos hn
        rw [e2] at hq
        have hl := hv.2 s rfl
        rw [if_pos rfl, emp_app]
        exact ⟨by decide, le_size hl, le_size (by rw [app_len]; show 1 + s.length ≤ _; have := isNm_len hn; omega), by decide, hq⟩
      | false =>
        rw [if_neg (by decide)]
        exact raise (if_neg (by rw [hn]; decide))
    | ref p =>
      simp [t15, dRet, dRetN, dSeq, dIf, dAndV, dOrV, dNotV, dAnd, dOr, dNot, dB, dCall, dCallF, dCons, dNil, dVar, dC, dUn, dOp, dChain, dIfE, dSet, dAsg, dDrop, dPar, dPar3, dNext, dTup, dLst, dMeth, dSl, dPart, dNo, dSplit, dJoin, dJoined2, dStar, dgName, dgCons, dgNil, dgTup, dgSub, startD, rdNeg, rdLe, rdLt, rdGt, rdGe, rdIsi, rdLen, tyD, seqOf, lstOf, rdSub, rdIsN, rdNotN, isNonD, rdFmt, rdSl, kb_NoneType_int, kb_NoneType_bool, kb_NoneType_str, kb_NoneType_tuple, kb_bool_int, kb_bool_bool, kb_bool_str, kb_bool_tuple, kb_int_int, kb_int_bool, kb_int_str, kb_int_tuple, kb_str_int, kb_str_bool, kb_str_str, kb_str_tuple, kb_tuple_int, kb_tuple_bool, kb_tuple_str, kb_tuple_tuple, kb_list_int, kb_list_bool, kb_list_str, kb_list_tuple, kb_dict_int, kb_dict_bool, kb_dict_str, kb_dict_tuple, rdEq_int]
      refine ⟨_, rfl, hv, ?_⟩
      refine ⟨_, rfl, hv, rfl, _, hty, .inl ⟨kt, raise rfl⟩⟩
    | bl b =>
      simp [t15, dRet, dRetN, dSeq, dIf, dAndV, dOrV, dNotV, dAnd, dOr, dNot, dB, dCall, dCallF, dCons, dNil, dVar, dC, dUn, dOp, dChain, dIfE, dSet, dAsg, dDrop, dPar, dPar3, dNext, dTup, dLst, dMeth, dSl, dPart, dNo, dSplit, dJoin, dJoined2, dStar, dgName, dgCons, dgNil, dgTup, dgSub, startD, rdNeg, rdLe, rdLt, rdGt, rdGe, rdIsi, rdLen, tyD, seqOf, lstOf, rdSub, rdIsN, rdNotN, isNonD, rdFmt, rdSl, kb_NoneType_int, kb_NoneType_bool, kb_NoneType_str, kb_NoneType_tuple, kb_bool_int, kb_bool_bool, kb_bool_str, kb_bool_tuple, kb_int_int, kb_int_bool, kb_int_str, kb_int_tuple, kb_str_int, kb_str_bool, kb_str_str, kb_str_tuple, kb_tuple_int, kb_tuple_bool, kb_tuple_str, kb_tuple_tuple, kb_list_int, kb_list_bool, kb_list_str, kb_list_tuple, kb_dict_int, kb_dict_bool, kb_dict_str, kb_dict_tuple, rdEq_int]
      refine ⟨_, rfl, hv, ?_⟩
      refine ⟨_, rfl, hv, rfl, raise rfl⟩
    | lst b =>
      simp [t15, dRet, dRetN, dSeq, dIf, dAndV, dOrV, dNotV, dAnd, dOr, dNot, dB, dCall, dCallF, dCons, dNil, dVar, dC, dUn, dOp, dChain, dIfE, dSet, dAsg, dDrop, dPar, dPar3, dNext, dTup, dLst, dMeth, dSl, dPart, dNo, dSplit, dJoin, dJoined2, dStar, dgName, dgCons, dgNil, dgTup, dgSub, startD, rdNeg, rdLe, rdLt, rdGt, rdGe, rdIsi, rdLen, tyD, seqOf, lstOf, rdSub, rdIsN, rdNotN, isNonD, rdFmt, rdSl, kb_NoneType_int, kb_NoneType_bool, kb_NoneType_str, kb_NoneType_tuple, kb_bool_int, kb_bool_bool, kb_bool_str, kb_bool_tuple, kb_int_int, kb_int_bool, kb_int_str, kb_int_tuple, kb_str_int, kb_str_bool, kb_str_str, kb_str_tuple, kb_tuple_int, kb_tuple_bool, kb_tuple_str, kb_tuple_tuple, kb_list_int, kb_list_bool, kb_list_str, kb_list_tuple, kb_dict_int, kb_dict_bool, kb_dict_str, kb_dict_tuple, rdEq_int]
      refine ⟨_, rfl, hv, ?_⟩
      refine ⟨_, rfl, hv, rfl, raise rfl⟩
    | ty b => cases hty
    | scr b => cases hty
theorem join_size {z : Str} {n m : Nat} : ∀ {ws : List Str}, (∀ w ∈ ws, w.length ≤ n) → (ws.map (·.length)).sum + ws.length * z.length ≤ ws.length * (n + z.length)
  | [], _ => by simp
  | w :: ws, h => by
    have h1 := h w List.mem_cons_self
    have h2 := join_size (z := z) (n := n) (m := m) (ws := ws) (fun x hx => h x (List.mem_cons_of_mem _ hx))
    simp only [List.map_cons, List.sum_cons, List.length_cons, Nat.add_mul, Nat.one_mul] at h2 ⊢
    omega
theorem word1_len {d : D} {w : Str} (h : word1 d = some w) : w.length ≤ 60 := by
  cases d with
  | non => cases h; decide
  | int i =>
    have h : (if 0 ≤ i ∧ i ≤ GR then some (toString i : Str) else none) = some w := h
    split at h
    · rename_i c
      cases h
      exact toString_length_le c.1 (by decide) (Int.lt_of_le_of_lt c.2 (by decide))
    · cases h
  | str s =>
    have h : (if isNm s = true then some ("=" ++ s) else none : Option Str) = some w := h
    split at h
    · rename_i c
      cases h
      have := isNm_len c
      rw [app_len]
      show 1 + s.length ≤ 60
      omega
    · cases h
  | _ => cases h
theorem wordsAll_mem {f : D → Option (List Str)} : ∀ {l : List D} {ws : List Str}, wordsAll f l = some ws → ∀ w ∈ ws, ∃ x ∈ l, ∃ zs, f x = some zs ∧ w ∈ zs
  | [], ws, h, w, hw => by cases h; cases hw
  | d :: l, ws, h, w, hw => by
    rw [wordsAll_cons] at h
    cases e : f d with
    | none => rw [e] at h; cases h
    | some zs =>
      rw [e] at h
      cases e2 : wordsAll f l with
      | none => rw [e2] at h; cases h
      | some ys =>
        rw [e2] at h
        cases h
        rcases List.mem_append.mp hw with h | h
        · exact ⟨d, List.mem_cons_self, zs, e, h⟩
        · obtain ⟨x, hx, zs, e3, h3⟩ := wordsAll_mem e2 w h
          exact ⟨x, List.mem_cons_of_mem _ hx, zs, e3, h3⟩
/-- what each word of a value's text is -/
theorem words_word : ∀ {k : Nat} {d : D} {ws : List Str}, wordsOf k d = some ws → ∀ w ∈ ws, w = "(" ∨ w = ")" ∨ ∃ x, word1 x = some w
  | 0, d, ws, h, w, hw => by
    cases e : word1 d with
    | none => simp [wordsOf, e] at h
    | some z =>
      simp [wordsOf, e] at h
      subst h
      simp at hw
      exact .inr (.inr ⟨d, by rw [hw]; exact e⟩)
  | k + 1, d, ws, h, w, hw => by
    by_cases ht : ∃ l, d = .tup l
    · obtain ⟨l, rfl⟩ := ht
      cases e : wordsAll (wordsOf k) l with
      | none => simp [wordsOf, e] at h
      | some zs =>
        simp [wordsOf, e] at h
        subst h
        rcases List.mem_cons.mp hw with h | h
        · exact .inl h
        · rcases List.mem_append.mp h with h | h
          · obtain ⟨x, hx, ys, e3, h3⟩ := wordsAll_mem e w h
            exact words_word e3 w h3
          · exact .inr (.inl (List.mem_singleton.mp h))
    · rw [words_simple (fun l e => ht ⟨l, e⟩)] at h
      cases e : word1 d with
      | none => rw [e] at h; cases h
      | some z =>
        rw [e] at h
        cases h
        exact .inr (.inr ⟨d, by rw [List.mem_singleton.mp hw]; exact e⟩)
theorem words_le {k : Nat} {d : D} {ws : List Str} (h : wordsOf k d = some ws) : ∀ w ∈ ws, w.length ≤ 60 := fun w hw => by
  rcases words_word h w hw with rfl | rfl | ⟨x, e⟩
  · decide
  · decide
  · exact word1_len e
theorem rd16 (T : Tx P K mg) {ds : List D} {M : DHp} {Q : QD} {E : XD} (h : (S16 T) ds M Q E) : t16 T (wF E) { nx := fun _ M' => Q .non M', rt := Q } (startD N16 ds) M := by
  obtain ⟨d, rfl, hw, hl, hq⟩ := h
  simp [t16, dRet, dRetN, dSeq, dIf, dAndV, dOrV, dNotV, dAnd, dOr, dNot, dB, dCall, dCallF, dCons, dNil, dVar, dC, dUn, dOp, dChain, dIfE, dSet, dAsg, dDrop, dPar, dPar3, dNext, dTup, dLst, dMeth, dSl, dPart, dNo, dSplit, dJoin, dJoined2, dStar, dgName, dgCons, dgNil, dgTup, dgSub, startD, rdNeg, rdLe, rdLt, rdGt, rdGe, rdIsi, rdLen, tyD, seqOf, lstOf, rdSub, rdIsN, rdNotN, isNonD, rdFmt, rdSl, kb_NoneType_int, kb_NoneType_bool, kb_NoneType_str, kb_NoneType_tuple, kb_bool_int, kb_bool_bool, kb_bool_str, kb_bool_tuple, kb_int_int, kb_int_bool, kb_int_str, kb_int_tuple, kb_str_int, kb_str_bool, kb_str_str, kb_str_tuple, kb_tuple_int, kb_tuple_bool, kb_tuple_str, kb_tuple_tuple, kb_list_int, kb_list_bool, kb_list_str, kb_list_tuple, kb_dict_int, kb_dict_bool, kb_dict_str, kb_dict_tuple]
  refine ⟨d, 8, rfl, hw, by omega, ?_⟩
  cases e : wordsOf 8 d with
  | none => rw [e] at hq; exact hq
  | some ws =>
    rw [e] at hq
    refine ⟨ws, rfl, ?_, hq⟩
    have h1 := words_len 8 d ws e
    have h2 := join_size (z := (" " : Str)) (m := 0) (words_le e)
    have h3 : ws.length * (60 + (" " : Str).length) = ws.length * 61 := rfl
    have : (Str.ofString " ").length = 1 := rfl
    show (ws.map (·.length)).sum + ws.length * (" " : Str).length ≤ 16777216
    omega
theorem rd37 (T : Tx P K mg) {ds : List D} {M : DHp} {Q : QD} {E : XD} (h : (S37 T) ds M Q E) : t37 T (wF E) { nx := fun _ M' => Q .non M', rt := Q } (startD N37 ds) M := by
  obtain ⟨d, rfl, hw, hl, hq⟩ := h
  simp [t37, dRet, dRetN, dSeq, dIf, dAndV, dOrV, dNotV, dAnd, dOr, dNot, dB, dCall, dCallF, dCons, dNil, dVar, dC, dUn, dOp, dChain, dIfE, dSet, dAsg, dDrop, dPar, dPar3, dNext, dTup, dLst, dMeth, dSl, dPart, dNo, dSplit, dJoin, dJoined2, dStar, dgName, dgCons, dgNil, dgTup, dgSub, startD, rdNeg, rdLe, rdLt, rdGt, rdGe, rdIsi, rdLen, tyD, seqOf, lstOf, rdSub, rdIsN, rdNotN, isNonD, rdFmt, rdSl, kb_NoneType_int, kb_NoneType_bool, kb_NoneType_str, kb_NoneType_tuple, kb_bool_int, kb_bool_bool, kb_bool_str, kb_bool_tuple, kb_int_int, kb_int_bool, kb_int_str, kb_int_tuple, kb_str_int, kb_str_bool, kb_str_str, kb_str_tuple, kb_tuple_int, kb_tuple_bool, kb_tuple_str, kb_tuple_tuple, kb_list_int, kb_list_bool, kb_list_str, kb_list_tuple, kb_dict_int, kb_dict_bool, kb_dict_str, kb_dict_tuple]
  refine ⟨d, rfl, hw, hl, ?_⟩
  cases e : wordsOf 8 d with
  | some ws => rw [e] at hq; exact ⟨M, fun _ _ h => h, hq⟩
  | none =>
    rw [e] at hq
    intro M' h
    refine ⟨true, ?_, fun _ => ?_, fun h => by cases h⟩
    · exact T.eIO
    · exact ⟨M, h, hq⟩
end Dl
set_option Elab.async false
set_option linter.all false
set_option maxRecDepth 100000
set_option maxHeartbeats 4000000
namespace Dl
open PySem PySem.Spec PyProof.Rows L2
variable {P : Program} {K : PySem.W.Frag} {mg : Str → Option Value}
/-! ### value_of, _law_meant: the open rows are tracked lists -/
/-- the rows, the innermost first, each a tracked list -/
def RowsAt (M0 M : DHp) (p : Addr) : List Addr → List (List D) → Prop
  | [], [] => True
  | q :: qs, r :: rows => q ≠ p ∧ q ∉ qs ∧ M0 q = none ∧ M q = some (.lst r) ∧ RowsAt M0 M p qs rows
  | _, _ => False
theorem RowsAt.upd {M0 M : DHp} {p a : Addr} {o : DO} : ∀ {qs : List Addr} {rows : List (List D)}, RowsAt M0 M p qs rows → a ∉ qs → RowsAt M0 (updD M a o) p qs rows
  | [], [], _, _ => trivial
  | q :: qs, r :: rows, ⟨h1, h2, h3, h4, h5⟩, ha => ⟨h1, h2, h3, by
      rw [updD_ne (fun e => ha (by rw [e]; exact List.mem_cons_self))]
      exact h4, RowsAt.upd h5 (fun e => ha (List.mem_cons_of_mem _ e))⟩
  | [], _ :: _, h, _ => h.elim
  | _ :: _, [], h, _ => h.elim
theorem RowsAt.len {M0 M : DHp} {p : Addr} : ∀ {qs : List Addr} {rows : List (List D)}, RowsAt M0 M p qs rows → qs.length = rows.length
  | [], [], _ => rfl
  | q :: qs, r :: rows, h => by simp [RowsAt.len h.2.2.2.2]
  | [], _ :: _, h => h.elim
  | _ :: _, [], h => h.elim
theorem RowsAt.has {M0 M : DHp} {p a : Addr} : ∀ {qs : List Addr} {rows : List (List D)}, RowsAt M0 M p qs rows → a ∈ qs → M a ≠ none ∧ a ≠ p ∧ M0 a = none
  | [], [], _, h => by cases h
  | q :: qs, r :: rows, h, ha => by
    rcases List.mem_cons.mp ha with rfl | ha
    · exact ⟨(by rw [h.2.2.2.1]; exact fun z => nomatch z), h.1, h.2.2.1⟩
    · exact RowsAt.has h.2.2.2.2 ha
  | [], _ :: _, h, _ => h.elim
  | _ :: _, [], h, _ => h.elim
/-- the rows at p -/
def Inv (M0 M : DHp) (p : Addr) (rows : List (List D)) : Prop := ∃ qs, M p = some (.lst (qs.reverse.map D.ref)) ∧ RowsAt M0 M p qs rows ∧ M0 p = none ∧ SubM M0 M
def mu (rows : List (List D)) : Nat := (rows.map fun r => r.length + 1).sum
def dat5 (d : D) : Prop := d = .non ∨ (∃ i, d = .int i) ∨ (∃ s, d = .str s) ∨ ∃ l, d = .tup l
theorem SubM.updNew {M0 M : DHp} {a : Addr} {o : DO} (h : SubM M0 M) (ha : M0 a = none) : SubM M0 (updD M a o) := fun b u e => by
  have : b ≠ a := fun z => by subst z; rw [ha] at e; cases e
  rw [updD_ne this]
  exact h b u e
/-- one row more -/
theorem Inv.push {M0 M : DHp} {p q : Addr} {rows : List (List D)} (h : Inv M0 M p rows) (hq : M q = none) : ∃ l, (updD M q (.lst [])) p = some (.lst l) ∧ l.length = rows.length ∧ Inv M0 (updD (updD M q (.lst [])) p (.lst (l ++ [.ref q]))) p ([] :: rows) := by
  obtain ⟨qs, h1, h2, h3, h4⟩ := h
  have hqp : p ≠ q := fun z => by subst z; rw [h1] at hq; cases hq
  have hqs : q ∉ qs := fun z => (h2.has z).1 hq
  have hq0 : M0 q = none := by
    cases e : M0 q with
    | none => rfl
    | some u => have := h4 q u e; rw [hq] at this; cases this
  have hps : p ∉ qs := fun z => (h2.has z).2.1 rfl
  refine ⟨_, by rw [updD_ne hqp]; exact h1, by simp [h2.len], q :: qs, by rw [updD_same]; simp, ⟨Ne.symm hqp, hqs, hq0, ?_, ?_⟩, h3, (h4.updNew hq0).updNew h3⟩
  · rw [updD_ne (Ne.symm hqp), updD_same]
  · exact (h2.upd hqs).upd hps
/-- the innermost row -/
theorem Inv.top {M0 M : DHp} {p : Addr} {r : List D} {rows : List (List D)} (h : Inv M0 M p (r :: rows)) : ∃ q l, M p = some (.lst (l ++ [.ref q])) ∧ l.length = rows.length ∧ M q = some (.lst r) ∧ q ≠ p ∧ M0 q = none ∧
    (∀ r', Inv M0 (updD M q (.lst r')) p (r' :: rows)) ∧ (∀ r2 rows2, rows = r2 :: rows2 → Inv M0 (updD M p (.lst l)) p rows) := by
  obtain ⟨qs, h1, h2, h3, h4⟩ := h
  cases qs with
  | nil => exact h2.elim
  | cons q qs =>
    obtain ⟨k1, k2, k3, k4, k5⟩ := h2
    have hps : p ∉ qs := fun z => (k5.has z).2.1 rfl
    refine ⟨q, qs.reverse.map D.ref, by rw [h1]; simp, by simp [k5.len], k4, k1, k3, fun r' => ⟨q :: qs, by rw [updD_ne (Ne.symm k1)]; exact h1, ⟨k1, k2, k3, updD_same, k5.upd k2⟩, h3, h4.updNew k3⟩, fun r2 rows2 _ => ⟨qs, updD_same, k5.upd hps, h3, h4.updNew h3⟩⟩
/-- the loop over the words -/
theorem rows_loop {tb : TDS} {Dd : DEnds} {f : List (List D) → Str → Option (List (List D))} {M0 : DHp} {p : Addr} {a0 : Option D} {N : Nat}
    (hf : ∀ w rows rows', f rows w = some rows' → rows ≠ [] → rows' ≠ [] ∧ mu rows' ≤ mu rows + 1)
    (hb : ∀ w rows M a3 a4 (Dd : DEnds), w.length ≤ N → Inv M0 M p rows → rows ≠ [] → mu rows ≤ 2000001 → (match f rows w with
      | some rows' => ∀ a3' a4' M', Inv M0 M' p rows' → Dd.nx [a0, some (.ref p), some (.str w), a3', a4'] M'
      | none => Dd.rt (.lst []) M0) → tb Dd [a0, some (.ref p), some (.str w), a3, a4] M) :
    ∀ (ws : List Str) (rows : List (List D)) (M : DHp) (a2 a3 a4 : Option D), (∀ w ∈ ws, w.length ≤ N) → Inv M0 M p rows → rows ≠ [] → mu rows + ws.length ≤ 2000001 → (match runW f rows ws with
      | some rows' => ∀ a2' a3' a4' M', rows' ≠ [] → Inv M0 M' p rows' → Dd.nx [a0, some (.ref p), a2', a3', a4'] M'
      | none => Dd.rt (.lst []) M0) → forRec (dgName 2) tb (ws.map D.str) Dd [a0, some (.ref p), a2, a3, a4] M
  | [], rows, M, a2, a3, a4, _, hi, hn, hm, hq => hq a2 a3 a4 M hn hi
  | w :: ws, rows, M, a2, a3, a4, hw, hi, hn, hm, hq => by
    refine hb w rows M a3 a4 _ (hw w List.mem_cons_self) hi hn (by omega) ?_
    simp only [runW] at hq
    cases e : f rows w with
    | none => rw [e] at hq; exact hq
    | some rows' =>
      rw [e] at hq
      obtain ⟨g1, g2⟩ := hf w rows rows' e hn
      exact fun a3' a4' M' hi' => rows_loop hf hb ws rows' M' _ a3' a4' (fun x hx => hw x (List.mem_cons_of_mem _ hx)) hi' g1 (by simp at hm; omega) hq
theorem lst_ref {M : DHp} {p : Addr} {l : List D} (h : M p = some (.lst l)) : lstOf M (.ref p) = some l := by
  show (match M p with
    | some (.lst l) => some l
    | _ => none) = _
  rw [h]
theorem seq_ref {M : DHp} {p : Addr} {l : List D} (h : M p = some (.lst l)) : seqOf M (.ref p) = some l := lst_ref h
theorem mu_le : ∀ rows : List (List D), rows.length ≤ mu rows
  | [] => Nat.le_refl _
  | r :: rows => by
    have := mu_le rows
    simp [mu] at this ⊢
    omega
theorem atI_last {l : List D} {x : D} : L2.atI (l ++ [x]) (-1) = some x := by
  have e : ixN (l ++ [x]).length (-1) = some l.length := by
    unfold ixN
    rw [if_neg (by omega), if_pos (by simp; omega)]
    simp
    omega
  unfold L2.atI
  rw [e]
  simp
theorem push_step {M0 M : DHp} {p : Addr} {rows : List (List D)} {δ : Sd} {R : DHp → Prop} (h : Inv M0 M p rows) (hm : rows.length < sizeLine) (hR : ∀ M', Inv M0 M' p ([] :: rows) → R M') :
    isLst (.ref p) M ∧ dLstT dNil δ M fun x M1 => rdAppend (.ref p) [x] M1 fun _ M1 => R M1 := by
  refine ⟨?_, by decide, fun q hq => ?_⟩
  · obtain ⟨qs, h1, _⟩ := h
    exact ⟨_, lst_ref h1⟩
  · obtain ⟨l, e, el, hi⟩ := Inv.push h hq
    exact ⟨l, e, by omega, hR _ hi⟩
theorem Inv.pop {M0 M : DHp} {p : Addr} {r r2 : List D} {rows : List (List D)} (h : Inv M0 M p (r :: r2 :: rows)) : ∃ q l, M p = some (.lst (l ++ [.ref q])) ∧ M q = some (.lst r) ∧ q ≠ p ∧ Inv M0 (updD M p (.lst l)) p (r2 :: rows) := by
  obtain ⟨q, l, h1, h2, h3, h4, h5, h6, h7⟩ := h.top
  exact ⟨q, l, h1, h3, h4, h7 _ _ rfl⟩
theorem Inv.isl {M0 M : DHp} {p : Addr} {rows : List (List D)} (h : Inv M0 M p rows) : isLst (.ref p) M := by
  obtain ⟨qs, h1, _⟩ := h
  exact ⟨_, lst_ref h1⟩
theorem last_ix {M0 M : DHp} {p : Addr} {r : List D} {rows : List (List D)} {Q : QD} (h : Inv M0 M p (r :: rows)) (hQ : ∀ q, M q = some (.lst r) → (∀ r', Inv M0 (updD M q (.lst r')) p (r' :: rows)) → Q (.ref q) M) : rdIx (.ref p) (.int (-1)) M Q := by
  obtain ⟨q, l, h1, h2, h3, h4, h5, h6, h7⟩ := h.top
  exact ⟨_, _, seq_ref h1, atI_last, hQ q h3 h6⟩
theorem single_step {M0 M : DHp} {p : Addr} {r ds : List D} {rows : List (List D)} {δ : Sd} {R : DHp → Prop} {rt : QD} (h : Inv M0 M p (r :: rows)) (hd : dats ds = true) (hl : r.length + ds.length ≤ sizeLine) (h0 : ds = [] → rt (.lst []) M0) (hR : ds ≠ [] → ∀ M', Inv M0 M' p ((r ++ ds) :: rows) → R M') :
    rdEq (.lst ds) (.lst []) M fun d_1 M' => match d_1 with
      | .bl b => if b = true then dShr (dLst dNil) δ M' rt else rdIx (.ref p) (.int (-1)) M' fun o M1 => isLst o M1 ∧ rdExtend o [.lst ds] M1 fun _ M1 => R M1
      | _ => False := by
  rw [rdEq_nil hd]
  cases ds with
  | nil => exact ⟨by decide, M0, (by obtain ⟨_, _, _, _, h⟩ := h; exact h), h0 rfl⟩
  | cons d ds =>
    show rdIx (.ref p) (.int (-1)) M fun o M1 => isLst o M1 ∧ rdExtend o [.lst (d :: ds)] M1 fun _ M1 => R M1
    exact last_ix h fun q h1 h2 => ⟨⟨_, lst_ref h1⟩, _, _, h1, rfl, hl, hR (fun z => by cases z) _ (h2 _)⟩
theorem single_dats (w : Str) : dats (singleOf w) = true := by
  unfold singleOf
  split
  · rfl
  · split
    · split <;> rfl
    · split <;> rfl
theorem single_le (w : Str) : (singleOf w).length ≤ 1 := by
  unfold singleOf
  split
  · simp
  · split
    · split <;> simp
    · split <;> simp
/-- the end: the one value, or none -/
theorem end_step {M0 M : DHp} {p : Addr} {rows : List (List D)} {Q : QD} {a0 a2 a3 a4 : Option D} (h : Inv M0 M p rows) (hQ : Q (.lst (endW (some rows))) M0) :
    dShr (dFrz (dIfE (dAnd (dB (dOp rdEq (dCall rdLen (dCons (dVar 1) dNil)) (dC (D.int 1)))) (dB (dOp rdEq (dCall rdLen (dCons (dOp rdIx (dVar 1) (dC (D.int 0))) dNil)) (dC (D.int 1))))) (dOp rdIx (dVar 1) (dC (D.int 0))) (dLstT dNil))) [a0, some (.ref p), a2, a3, a4] M Q := by
  have hs : SubM M0 M := by obtain ⟨_, _, _, _, h⟩ := h; exact h
  have none : endW (some rows) = [] → ∀ δ, dLstT dNil δ M fun d M1 => ∃ p, d = .ref p ∧ ∃ l, M1 p = some (.lst l) ∧ ∃ M2, SubM M2 (ersD M1 p) ∧ Q (.lst l) M2 := fun e δ => by
    rw [e] at hQ
    exact ⟨by decide, fun p2 h2 => ⟨p2, rfl, [], updD_same, M0, by rw [ersD_updD h2]; exact hs, hQ⟩⟩
  obtain ⟨qs, h1, h2, h3, h4⟩ := h
  simp [dRet, dRetN, dSeq, dIf, dAndV, dOrV, dNotV, dAnd, dOr, dNot, dB, dCall, dCallF, dCons, dNil, dVar, dC, dUn, dOp, dChain, dIfE, dSet, dAsg, dDrop, dPar, dPar3, dNext, dTup, dLst, dMeth, dSl, dPart, dNo, dSplit, dJoin, dJoined2, dStar, dgName, dgCons, dgNil, dgTup, dgSub, startD, rdNeg, rdLe, rdLt, rdGt, rdGe, rdIsi, rdLen, tyD, seqOf, lstOf, rdSub, rdIsN, rdNotN, isNonD, rdFmt, rdSl, rdEq_int, h1, dShr, dFrz]
  by_cases c : qs.length = 1
  · rw [if_pos (by omega)]
    obtain ⟨q, rfl⟩ : ∃ q, qs = [q] := by
      match qs, c with
      | [q], _ => exact ⟨q, rfl⟩
    obtain ⟨r, rfl⟩ : ∃ r, rows = [r] := by
      have := h2.len
      match rows, this with
      | [r], _ => exact ⟨r, rfl⟩
    obtain ⟨k1, k2, k3, k4, k5⟩ := h2
    refine ⟨_, _, seq_ref h1, (rfl : L2.atI [D.ref q] 0 = some (.ref q)), r, ?_, ?_⟩
    · simp [k4]
    by_cases c2 : r.length = 1
    · rw [if_pos (by omega)]
      obtain ⟨d, rfl⟩ : ∃ d, r = [d] := by
        match r, c2 with
        | [d], _ => exact ⟨d, rfl⟩
      refine ⟨_, _, seq_ref h1, (rfl : L2.atI [D.ref q] 0 = some (.ref q)), q, rfl, _, k4, M0, fun a o e => ?_, hQ⟩
      have : a ≠ q := fun z => by subst z; rw [k3] at e; cases e
      rw [ersD_ne this]
      exact hs a o e
    · rw [if_neg (by omega)]
      have e : endW (some [r]) = [] := by
        match r, c2 with
        | [], _ => rfl
        | _ :: _ :: _, _ => simp [endW]
      exact none e _
  · rw [if_neg (by omega)]
    have e : endW (some rows) = [] := by
      have := h2.len
      match rows, this with
      | [], _ => rfl
      | [_], h => exact absurd h c
      | _ :: _ :: _, _ => simp [endW]
    exact none e _
theorem val_grow {w : Str} {rows rows' : List (List D)} (e : valStep rows w = some rows') (hn : rows ≠ []) : rows' ≠ [] ∧ mu rows' ≤ mu rows + 1 := by
  unfold valStep at e
  split at e
  · cases e
    exact ⟨by simp, by simp [mu]; omega⟩
  · split at e
    · split at e
      · cases e
        exact ⟨by simp, by simp [mu]; omega⟩
      · cases e
    · have := single_le w
      split at e
      · cases e
      · rename_i hs
        cases e
        exact ⟨by simp, by simp [mu]; omega⟩
      · cases e
theorem val_open {w : Str} {rows : List (List D)} (c1 : w = "(" ∧ rows.length ≤ 8) : valStep rows w = some ([] :: rows) := if_pos c1
theorem val_close {w : Str} {r q : List D} {l : List (List D)} (c1 : w = ")") : valStep (r :: q :: l) w = some ((q ++ [.tup r]) :: l) := by
  unfold valStep
  rw [if_neg (fun z => by rw [c1] at z; exact absurd z.1 (by decide)), if_pos ⟨c1, by simp⟩]
theorem val_single {w : Str} {r : List D} {l : List (List D)} (c1 : ¬ (w = "(" ∧ (r :: l).length ≤ 8)) (c2 : ¬ (w = ")" ∧ 1 < (r :: l).length)) : valStep (r :: l) w = if singleOf w = [] then none else some ((r ++ singleOf w) :: l) := by
  unfold valStep
  rw [if_neg c1, if_neg c2]
  cases singleOf w <;> rfl
theorem rd18 (T : Tx P K mg) {ds : List D} {M : DHp} {Q : QD} {E : XD} (h : S18 ds M Q E) : t18 T (wF E) { nx := fun _ M' => Q .non M', rt := Q } (startD N18 ds) M := by
  obtain ⟨ws, rfl, hw, hl, hq⟩ := h
  refine ⟨by decide, fun p1 hp1 => ⟨(by decide : 1 ≤ sizeLine), fun p hp => ?_⟩⟩
  have hpp : p1 ≠ p := fun z => by subst z; rw [updD_same] at hp; cases hp
  have hp0 : M p = none := by rw [updD_ne (Ne.symm hpp)] at hp; exact hp
  refine rows_loop (f := valStep) (M0 := M) (N := 1000000) ?_ ?_ ws [[]] _ none none none hw ⟨[p1], by rw [updD_same]; rfl, ⟨hpp, by simp, hp1, by rw [updD_ne hpp, updD_same], trivial⟩, hp0, ?_⟩ (by simp) ?_ ?_
  · exact fun w rows rows' e hn => val_grow e hn
  · intro w rows M' a3 a4 Dd hwl hi hn hm hq
    obtain ⟨r, rows, rfl⟩ : ∃ r l, rows = r :: l := by
      cases rows with
      | nil => exact absurd rfl hn
      | cons r l => exact ⟨r, l, rfl⟩
    obtain ⟨q, l, h1, h2, h3, h4, h5, h6, h7⟩ := hi.top
    have hmu : r.length + rows.length + 1 ≤ 2000002 := by
      have := mu_le rows
      simp [mu] at hm this
      omega
    have sl : 2000003 < sizeLine := by decide
    simp [dRet, dRetN, dSeq, dIf, dAndV, dOrV, dNotV, dAnd, dOr, dNot, dB, dCall, dCallF, dCons, dNil, dVar, dC, dUn, dOp, dChain, dIfE, dSet, dAsg, dDrop, dPar, dPar3, dNext, dTup, dLst, dMeth, dSl, dPart, dNo, dSplit, dJoin, dJoined2, dStar, dgName, dgCons, dgNil, dgTup, dgSub, startD, rdNeg, rdLe, rdLt, rdGt, rdGe, rdIsi, rdLen, tyD, seqOf, lstOf, rdSub, rdIsN, rdNotN, isNonD, rdFmt, rdSl, rdEq_str, h1, h2]
    have e8 : ((rows.length : Int) + 1 ≤ 8) ↔ (r :: rows).length ≤ 8 := by simp; omega
    have e1 : (1 < (rows.length : Int) + 1) ↔ 1 < (r :: rows).length := by simp; omega
    simp only [e8, e1]
    by_cases c1 : w = "(" ∧ (r :: rows).length ≤ 8
    · rw [val_open c1] at hq
      rw [if_pos c1.1, if_pos c1.2]
      exact push_step hi (by simp; omega) (fun M'' hi' => hq _ _ M'' hi')
    · have key : ∀ (X Y Z : Prop), (¬ (w = "(" ∧ (r :: rows).length ≤ 8) → Z) → (if w = Str.ofString "(" then if (r :: rows).length ≤ 8 then X else Z else Z) := fun X Y Z hz => by
        split
        · split
          · rename_i g1 g2; exact absurd ⟨g1, g2⟩ c1
          · exact hz c1
        · exact hz c1
      refine key _ True _ fun _ => ?_
      by_cases c2 : w = ")" ∧ 1 < (r :: rows).length
      · rw [if_pos c2.1, if_pos c2.2]
        cases rows with
        | nil => exact absurd c2.2 (by simp)
        | cons r2 rows =>
          rw [val_close c2.1] at hq
          obtain ⟨q, l, k1, k2, k3, k4⟩ := hi.pop
          refine ⟨hi.isl, _, .ref q, k1, by simp, ?_⟩
          rw [List.dropLast_concat]
          refine ⟨r, lst_ref (by rw [updD_ne k3]; exact k2), ?_⟩
          exact last_ix k4 fun q2 g1 g2 => ⟨⟨_, lst_ref g1⟩, _, g1, by simp [mu] at hm; omega, hq _ _ _ (g2 _)⟩
      · rw [val_single c1 c2] at hq
        have key : ∀ (X Z : Prop), Z → (if w = Str.ofString ")" then if 1 < (r :: rows).length then X else Z else Z) := fun X Z hz => by
          split
          · split
            · rename_i g1 g2; exact absurd ⟨g1, g2⟩ c2
            · exact hz
          · exact hz
        refine key _ _ ⟨w, rfl, hwl, ?_⟩
        have hl1 := single_le w
        exact single_step hi (single_dats w) (by omega) (fun e => by rw [if_pos e] at hq; exact hq) (fun e => by rw [if_neg e] at hq; exact hq _ _)
  · exact (fun a o e => by
      have : a ≠ p1 := fun z => by subst z; rw [hp1] at e; cases e
      have h2 : a ≠ p := fun z => by subst z; rw [hp0] at e; cases e
      rw [updD_ne h2, updD_ne this]; exact e)
  · simp [mu]; omega
  · show match runW valStep [[]] ws with
      | some rows' => _
      | none => Q (.lst []) M
    unfold valueOf at hq
    cases e : runW valStep [[]] ws with
    | none => rw [e] at hq; exact hq
    | some rows' =>
      rw [e] at hq
      exact fun a2 a3 a4 M' hn hi => end_step hi hq
end Dl
set_option Elab.async false
set_option linter.all false
set_option maxRecDepth 100000
set_option maxHeartbeats 4000000
namespace Dl
open PySem PySem.Spec PyProof.Rows L2
variable {P : Program} {K : PySem.W.Frag} {mg : Str → Option Value}
/-! ### _law_meant -/
theorem mean_grow {w : Str} {rows rows' : List (List D)} (e : meanStep rows w = some rows') (hn : rows ≠ []) : rows' ≠ [] ∧ mu rows' ≤ mu rows + 1 := by
  unfold meanStep at e
  split at e
  · cases e
    exact ⟨by simp, by simp [mu]; omega⟩
  · split at e
    · split at e
      · cases e
        exact ⟨by simp, by simp [mu]; omega⟩
      · cases e
    · have := single_le w
      split at e
      · cases e
      · rename_i hs
        cases e
        exact ⟨by simp, by simp [mu]; omega⟩
      · cases e
theorem mean_open {w : Str} {rows : List (List D)} (c1 : w = "(") : meanStep rows w = some ([] :: rows) := if_pos c1
theorem mean_close {w : Str} {r q : List D} {l : List (List D)} (c1 : w = ")") : meanStep (r :: q :: l) w = some ((q ++ [.tup r]) :: l) := by
  unfold meanStep
  rw [if_neg (fun z => by rw [c1] at z; exact absurd z (by decide)), if_pos c1]
theorem mean_none {w : Str} {r : List D} (c1 : w = ")") : meanStep [r] w = none := by
  unfold meanStep
  rw [if_neg (fun z => by rw [c1] at z; exact absurd z (by decide)), if_pos c1]
theorem mean_single {w : Str} {r : List D} {l : List (List D)} (c1 : ¬ w = "(") (c2 : ¬ w = ")") : meanStep (r :: l) w = if singleOf w = [] then none else some ((r ++ singleOf w) :: l) := by
  unfold meanStep
  rw [if_neg c1, if_neg c2]
  cases singleOf w <;> rfl
theorem rd32 (T : Tx P K mg) {ds : List D} {M : DHp} {Q : QD} {E : XD} (h : S32 ds M Q E) : t32 T (wF E) { nx := fun _ M' => Q .non M', rt := Q } (startD N32 ds) M := by
  obtain ⟨ws, rfl, hw, hl, hq⟩ := h
  refine ⟨by decide, fun p1 hp1 => ⟨(by decide : 1 ≤ sizeLine), fun p hp => ?_⟩⟩
  have hpp : p1 ≠ p := fun z => by subst z; rw [updD_same] at hp; cases hp
  have hp0 : M p = none := by rw [updD_ne (Ne.symm hpp)] at hp; exact hp
  refine rows_loop (f := meanStep) (M0 := M) (N := 60) ?_ ?_ ws [[]] _ none none none hw ⟨[p1], by rw [updD_same]; rfl, ⟨hpp, by simp, hp1, by rw [updD_ne hpp, updD_same], trivial⟩, hp0, ?_⟩ (by simp) ?_ ?_
  · exact fun w rows rows' e hn => mean_grow e hn
  · intro w rows M' a3 a4 Dd hwl hi hn hm hq
    obtain ⟨r, rows, rfl⟩ : ∃ r l, rows = r :: l := by
      cases rows with
      | nil => exact absurd rfl hn
      | cons r l => exact ⟨r, l, rfl⟩
    obtain ⟨q, l, h1, h2, h3, h4, h5, h6, h7⟩ := hi.top
    have hmu : r.length + rows.length + 1 ≤ 2000002 := by
      have := mu_le rows
      simp [mu] at hm this
      omega
    have sl : 2000003 < sizeLine := by decide
    simp [dRet, dRetN, dSeq, dIf, dAndV, dOrV, dNotV, dAnd, dOr, dNot, dB, dCall, dCallF, dCons, dNil, dVar, dC, dUn, dOp, dChain, dIfE, dSet, dAsg, dDrop, dPar, dPar3, dNext, dTup, dLst, dMeth, dSl, dPart, dNo, dSplit, dJoin, dJoined2, dStar, dgName, dgCons, dgNil, dgTup, dgSub, startD, rdNeg, rdLe, rdLt, rdGt, rdGe, rdIsi, rdLen, tyD, seqOf, lstOf, rdSub, rdIsN, rdNotN, isNonD, rdFmt, rdSl, rdEq_str, rdEq_int, h1, h2]
    by_cases c1 : w = "("
    · rw [mean_open c1] at hq
      rw [if_pos c1]
      exact push_step hi (by simp; omega) (fun M'' hi' => hq _ _ M'' hi')
    · rw [if_neg c1]
      by_cases c2 : w = ")"
      · rw [if_pos c2]
        cases rows with
        | nil =>
          rw [mean_none c2] at hq
          simp
          exact ⟨by decide, M, (by obtain ⟨_, _, _, _, h⟩ := hi; exact h), hq⟩
        | cons r2 rows =>
          rw [mean_close c2] at hq
          simp
          obtain ⟨q, l, k1, k2, k3, k4⟩ := hi.pop
          refine ⟨hi.isl, _, .ref q, k1, by simp, ?_⟩
          rw [List.dropLast_concat]
          exact last_ix k4 fun q2 g1 g2 => ⟨⟨_, lst_ref g1⟩, r, lst_ref (by rw [updD_ne k3]; exact k2), _, g1, by simp [mu] at hm; omega, hq _ _ _ (g2 _)⟩
      · rw [if_neg c2]
        rw [mean_single c1 c2] at hq
        refine ⟨w, rfl, hwl, ?_⟩
        have hl1 := single_le w
        exact single_step hi (single_dats w) (by omega) (fun e => by rw [if_pos e] at hq; exact hq) (fun e => by rw [if_neg e] at hq; exact hq _ _)
  · exact (fun a o e => by
      have : a ≠ p1 := fun z => by subst z; rw [hp1] at e; cases e
      have h2 : a ≠ p := fun z => by subst z; rw [hp0] at e; cases e
      rw [updD_ne h2, updD_ne this]; exact e)
  · simp [mu]; omega
  · show match runW meanStep [[]] ws with
      | some rows' => _
      | none => Q (.lst []) M
    unfold meantOf at hq
    cases e : runW meanStep [[]] ws with
    | none => rw [e] at hq; exact hq
    | some rows' =>
      rw [e] at hq
      exact fun a2 a3 a4 M' hn hi => end_step hi hq
/-! ### reading a text -/
theorem dats_app : ∀ {l m : List D}, dats l = true → dats m = true → dats (l ++ m) = true
  | [], m, _, h => h
  | x :: l, m, h, h' => by
    simp only [dats, Bool.and_eq_true] at h
    simp only [List.cons_append, dats, Bool.and_eq_true]
    exact ⟨h.1, dats_app h.2 h'⟩
theorem run_dats {f : List (List D) → Str → Option (List (List D))} (hf : ∀ rows w rows', f rows w = some rows' → (∀ r ∈ rows, dats r = true) → ∀ r ∈ rows', dats r = true) :
    ∀ (ws : List Str) (rows : List (List D)), (∀ r ∈ rows, dats r = true) → ∀ rows', runW f rows ws = some rows' → ∀ r ∈ rows', dats r = true
  | [], rows, h, rows', e => by cases e; exact h
  | w :: ws, rows, h, rows', e => by
    simp only [runW] at e
    cases e2 : f rows w with
    | none => rw [e2] at e; cases e
    | some r2 => rw [e2] at e; exact run_dats hf ws r2 (hf rows w r2 e2 h) rows' e
theorem end_dats {f : List (List D) → Str → Option (List (List D))} (hf : ∀ rows w rows', f rows w = some rows' → (∀ r ∈ rows, dats r = true) → ∀ r ∈ rows', dats r = true) (ws : List Str) : dats (endW (runW f [[]] ws)) = true := by
  unfold endW
  split
  · rename_i d h
    exact run_dats hf ws [[]] (fun r hr => by rw [List.mem_singleton.mp hr]; rfl) _ h [d] List.mem_cons_self
  · rfl
theorem push_dats {rows : List (List D)} (h : ∀ r ∈ rows, dats r = true) : ∀ r ∈ ([] :: rows), dats r = true := fun r hr => by
  rcases List.mem_cons.mp hr with rfl | hr
  · rfl
  · exact h r hr
theorem pop_dats {r q : List D} {l : List (List D)} (h : ∀ x ∈ (r :: q :: l), dats x = true) : ∀ x ∈ ((q ++ [.tup r]) :: l), dats x = true := fun x hx => by
  rcases List.mem_cons.mp hx with rfl | hx
  · exact dats_app (h q (by simp)) (by simp only [dats, dat, h r List.mem_cons_self, Bool.and_self])
  · exact h x (by simp [hx])
theorem ext_dats {r ds : List D} {l : List (List D)} (hd : dats ds = true) (h : ∀ x ∈ (r :: l), dats x = true) : ∀ x ∈ ((r ++ ds) :: l), dats x = true := fun x hx => by
  rcases List.mem_cons.mp hx with rfl | hx
  · exact dats_app (h r (by simp)) hd
  · exact h x (by simp [hx])
theorem vals_dats {ws : List Str} : dats (valueOf ws) = true := end_dats (fun rows w rows' e h => by
  unfold valStep at e
  split at e
  · cases e; exact push_dats h
  · split at e
    · split at e
      · cases e; exact pop_dats h
      · cases e
    · split at e
      · cases e
      · cases e; exact ext_dats (single_dats w) h
      · cases e) ws
theorem mean_dats {ws : List Str} : dats (meantOf ws) = true := end_dats (fun rows w rows' e h => by
  unfold meanStep at e
  split at e
  · cases e; exact push_dats h
  · split at e
    · split at e
      · cases e; exact pop_dats h
      · cases e
    · split at e
      · cases e
      · cases e; exact ext_dats (single_dats w) h
      · cases e) ws
theorem atI_zero {α : Type} {x : α} {l : List α} : L2.atI (x :: l) 0 = some x := by
  have e : ixN (x :: l).length 0 = some 0 := by
    unfold ixN
    rw [if_pos (by omega), if_pos (by simp)]
    rfl
  unfold L2.atI
  rw [e]
  rfl
theorem endW_le (r : Option (List (List D))) : (endW r).length ≤ 1 := by
  unfold endW
  split <;> simp
theorem rd19 (T : Tx P K mg) {ds : List D} {M : DHp} {Q : QD} {E : XD} (h : (S19 T) ds M Q E) : t19 T (wF E) { nx := fun _ M' => Q .non M', rt := Q } (startD N19 ds) M := by
  obtain ⟨t, rfl, hl, hn, hq⟩ := h
  obtain ⟨l0, ls, hs⟩ : ∃ l0 ls, Txt.split t "\n" = l0 :: ls := by
    cases e : Txt.split t "\n" with
    | nil => exact absurd e (split_ne _ _)
    | cons a l => exact ⟨a, l, rfl⟩
  have hl0 : l0.length ≤ t.length := split_mem (x := t) (y := "\n") (by rw [hs]; exact List.mem_cons_self)
  have hz : 1000000 ≤ sizeLine := by decide
  simp [t19, dRet, dRetN, dSeq, dIf, dAndV, dOrV, dNotV, dAnd, dOr, dNot, dB, dCall, dCallF, dCons, dNil, dVar, dC, dUn, dOp, dChain, dIfE, dSet, dAsg, dDrop, dPar, dPar3, dNext, dTup, dLst, dMeth, dSl, dPart, dNo, dSplit, dJoin, dJoined2, dStar, dgName, dgCons, dgNil, dgTup, dgSub, startD, rdNeg, rdLe, rdLt, rdGt, rdGe, rdIsi, rdLen, tyD, seqOf, lstOf, rdSub, rdIsN, rdNotN, isNonD, rdFmt, rdSl, kb_NoneType_int, kb_NoneType_bool, kb_NoneType_str, kb_NoneType_tuple, kb_bool_int, kb_bool_bool, kb_bool_str, kb_bool_tuple, kb_int_int, kb_int_bool, kb_int_str, kb_int_tuple, kb_str_int, kb_str_bool, kb_str_str, kb_str_tuple, kb_tuple_int, kb_tuple_bool, kb_tuple_str, kb_tuple_tuple, kb_list_int, kb_list_bool, kb_list_str, kb_list_tuple, kb_dict_int, kb_dict_bool, kb_dict_str, kb_dict_tuple, rdEq_int]
  refine ⟨t, rfl, by decide, by omega, (Txt.split t "\n").map D.str, rfl, by rw [hs]; simp, by rw [List.length_map]; omega, ?_⟩
  rw [hs]
  have e1 : List.drop ls.length (ls.map D.str) = [] := by simp
  have e2 : List.take ls.length (ls.map D.str) = ls.map D.str := List.take_of_length_le (by simp)
  have hsl := split_le l0 " "
  simp [dRet, dRetN, dSeq, dIf, dAndV, dOrV, dNotV, dAnd, dOr, dNot, dB, dCall, dCallF, dCons, dNil, dVar, dC, dUn, dOp, dChain, dIfE, dSet, dAsg, dDrop, dPar, dPar3, dNext, dTup, dLst, dMeth, dSl, dPart, dNo, dSplit, dJoin, dJoined2, dStar, dgName, dgCons, dgNil, dgTup, dgSub, startD, rdNeg, rdLe, rdLt, rdGt, rdGe, rdIsi, rdLen, tyD, seqOf, lstOf, rdSub, rdIsN, rdNotN, isNonD, rdFmt, rdSl, kb_NoneType_int, kb_NoneType_bool, kb_NoneType_str, kb_NoneType_tuple, kb_bool_int, kb_bool_bool, kb_bool_str, kb_bool_tuple, kb_int_int, kb_int_bool, kb_int_str, kb_int_tuple, kb_str_int, kb_str_bool, kb_str_str, kb_str_tuple, kb_tuple_int, kb_tuple_bool, kb_tuple_str, kb_tuple_tuple, kb_list_int, kb_list_bool, kb_list_str, kb_list_tuple, kb_dict_int, kb_dict_bool, kb_dict_str, kb_dict_tuple, rdEq_int, e1, e2]
  have ev : readOf t = match valueOf (Txt.split l0 " ") with
    | d :: _ => if (Txt.split t "\n").length = 1 then .inl d else .inr 1
    | [] => .inr 0 := by
    unfold readOf firstLine
    rw [hs]
    all_goals (cases valueOf (Txt.split l0 " ") <;> rfl)
  rw [ev] at hq
  refine ⟨by decide, by omega, _, rfl, fun w hw => ?_, by omega, ?_⟩
  · have := split_mem hw
    omega
  show rdEq (.lst (valueOf (Txt.split l0 " "))) (.lst []) M _
  rw [rdEq_nil vals_dats]
  cases e : valueOf (Txt.split l0 " ") with
  | nil =>
    rw [e] at hq
    exact ⟨.inl rfl, hq⟩
  | cons d l =>
    rw [e] at hq
    simp only [List.isEmpty_cons, Bool.false_eq_true, if_false]
    rw [rdNe_nil (dats_strs _)]
    cases ls with
    | nil =>
      rw [hs] at hq
      exact ⟨_, d, rfl, atI_zero, hq⟩
    | cons a ls =>
      have hne : ¬ (Txt.split t "\n").length = 1 := by rw [hs]; simp
      simp only [hne, if_false] at hq
      exact ⟨.inr rfl, hq⟩
theorem rd34 (T : Tx P K mg) {ds : List D} {M : DHp} {Q : QD} {E : XD} (h : S34 ds M Q E) : t34 T (wF E) { nx := fun _ M' => Q .non M', rt := Q } (startD N34 ds) M := by
  obtain ⟨t, rfl, hl, hn, hq⟩ := h
  simp [t34, dRet, dRetN, dSeq, dIf, dAndV, dOrV, dNotV, dAnd, dOr, dNot, dB, dCall, dCallF, dCons, dNil, dVar, dC, dUn, dOp, dChain, dIfE, dSet, dAsg, dDrop, dPar, dPar3, dNext, dTup, dLst, dMeth, dSl, dPart, dNo, dSplit, dJoin, dJoined2, dStar, dgName, dgCons, dgNil, dgTup, dgSub, startD, rdNeg, rdLe, rdLt, rdGt, rdGe, rdIsi, rdLen, tyD, seqOf, lstOf, rdSub, rdIsN, rdNotN, isNonD, rdFmt, rdSl, kb_NoneType_int, kb_NoneType_bool, kb_NoneType_str, kb_NoneType_tuple, kb_bool_int, kb_bool_bool, kb_bool_str, kb_bool_tuple, kb_int_int, kb_int_bool, kb_int_str, kb_int_tuple, kb_str_int, kb_str_bool, kb_str_str, kb_str_tuple, kb_tuple_int, kb_tuple_bool, kb_tuple_str, kb_tuple_tuple, kb_list_int, kb_list_bool, kb_list_str, kb_list_tuple, kb_dict_int, kb_dict_bool, kb_dict_str, kb_dict_tuple, rdEq_int, dTryAs]
  refine ⟨t, rfl, hl, hn, ?_⟩
  cases e : readOf t with
  | inl d =>
    rw [e] at hq
    exact ⟨(by decide : 2 ≤ sizeLine), M, fun _ _ h => h, hq⟩
  | inr i =>
    rw [e] at hq
    exact fun dd hd => .inr ⟨T.ePE, rfl, dd, rfl, fun a => ⟨rfl, _, .int i, updD_same, rfl, (by decide : 2 ≤ sizeLine), M, Ext.new hd, hq⟩⟩
theorem rd35 (T : Tx P K mg) {ds : List D} {M : DHp} {Q : QD} {E : XD} (h : S35 ds M Q E) : t35 T (wF E) { nx := fun _ M' => Q .non M', rt := Q } (startD N35 ds) M := by
  obtain ⟨t, rfl, hl, hw, hn, hq⟩ := h
  obtain ⟨l0, ls, hs⟩ : ∃ l0 ls, Txt.split t "\n" = l0 :: ls := by
    cases e : Txt.split t "\n" with
    | nil => exact absurd e (split_ne _ _)
    | cons a l => exact ⟨a, l, rfl⟩
  have hl0 : l0.length ≤ t.length := split_mem (x := t) (y := "\n") (by rw [hs]; exact List.mem_cons_self)
  have hf : firstLine t = Txt.split l0 " " := by unfold firstLine; rw [hs]
  have hz : 1000000 ≤ sizeLine := by decide
  have hsl := split_le l0 " "
  unfold dueOf at hq
  rw [hf] at hw hq
  simp [t35, dRet, dRetN, dSeq, dIf, dAndV, dOrV, dNotV, dAnd, dOr, dNot, dB, dCall, dCallF, dCons, dNil, dVar, dC, dUn, dOp, dChain, dIfE, dSet, dAsg, dDrop, dPar, dPar3, dNext, dTup, dLst, dMeth, dSl, dPart, dNo, dSplit, dJoin, dJoined2, dStar, dgName, dgCons, dgNil, dgTup, dgSub, startD, rdNeg, rdLe, rdLt, rdGt, rdGe, rdIsi, rdLen, tyD, seqOf, lstOf, rdSub, rdIsN, rdNotN, isNonD, rdFmt, rdSl, kb_NoneType_int, kb_NoneType_bool, kb_NoneType_str, kb_NoneType_tuple, kb_bool_int, kb_bool_bool, kb_bool_str, kb_bool_tuple, kb_int_int, kb_int_bool, kb_int_str, kb_int_tuple, kb_str_int, kb_str_bool, kb_str_str, kb_str_tuple, kb_tuple_int, kb_tuple_bool, kb_tuple_str, kb_tuple_tuple, kb_list_int, kb_list_bool, kb_list_str, kb_list_tuple, kb_dict_int, kb_dict_bool, kb_dict_str, kb_dict_tuple, rdEq_int]
  refine ⟨by decide, by omega, _, .str l0, rfl, by rw [hs]; exact atI_zero, by decide, by omega, _, rfl, hw, by omega, ?_⟩
  show rdEq (.lst (meantOf (Txt.split l0 " "))) (.lst []) M _
  rw [rdEq_nil mean_dats]
  cases e : meantOf (Txt.split l0 " ") with
  | nil =>
    rw [e] at hq
    exact ⟨by decide, hq⟩
  | cons d l =>
    rw [e] at hq
    refine ⟨_, rfl, ?_⟩
    rw [List.length_map]
    have hq : Q (toldD (if (Txt.split t "\n").length = 1 then .inl d else .inr 1)) M := hq
    by_cases c : (Txt.split t "\n").length = 1
    · rw [if_pos c] at hq
      rw [if_pos (by omega)]
      exact ⟨_, d, rfl, atI_zero, (by decide : 2 ≤ sizeLine), hq⟩
    · rw [if_neg c] at hq
      rw [if_neg (by omega)]
      exact ⟨by decide, hq⟩
theorem dep_go (T : Tx P K mg) {t0 : Option D} {R : Int → Prop} {Dd : DEnds} {tb : TDS} {M : DHp}
    (hb : ∀ (w : Str) (f m : Int) (a1 : Option D) (Dd : DEnds), (Dd.nx [t0, some (.str w), some (.int (depStep (f, m) w).1), some (.int (depStep (f, m) w).2)] M) → tb Dd [t0, some (.str w), some (.int f), some (.int m)] M) :
    ∀ (ws : List Str) (f m : Int) (a1 : Option D), (∀ a1, Dd.nx [t0, a1, some (.int (ws.foldl depStep (f, m)).1), some (.int (ws.foldl depStep (f, m)).2)] M) → forRec (dgName 1) tb (ws.map D.str) Dd [t0, a1, some (.int f), some (.int m)] M
  | [], f, m, a1, h => h a1
  | w :: ws, f, m, a1, h => by
    refine hb w f m a1 _ ?_
    exact dep_go T (R := R) hb ws _ _ _ h
theorem rd33 (T : Tx P K mg) {ds : List D} {M : DHp} {Q : QD} {E : XD} (h : S33 ds M Q E) : t33 T (wF E) { nx := fun _ M' => Q .non M', rt := Q } (startD N33 ds) M := by
  obtain ⟨t, rfl, hl, hq⟩ := h
  have hz : 1000003 ≤ sizeLine := by decide
  simp [t33, dRet, dRetN, dSeq, dIf, dAndV, dOrV, dNotV, dAnd, dOr, dNot, dB, dCall, dCallF, dCons, dNil, dVar, dC, dUn, dOp, dChain, dIfE, dSet, dAsg, dDrop, dPar, dPar3, dNext, dTup, dLst, dMeth, dSl, dPart, dNo, dSplit, dJoin, dJoined2, dStar, dgName, dgCons, dgNil, dgTup, dgSub, startD, rdNeg, rdLe, rdLt, rdGt, rdGe, rdIsi, rdLen, tyD, seqOf, lstOf, rdSub, rdIsN, rdNotN, isNonD, rdFmt, rdSl, kb_NoneType_int, kb_NoneType_bool, kb_NoneType_str, kb_NoneType_tuple, kb_bool_int, kb_bool_bool, kb_bool_str, kb_bool_tuple, kb_int_int, kb_int_bool, kb_int_str, kb_int_tuple, kb_str_int, kb_str_bool, kb_str_str, kb_str_tuple, kb_tuple_int, kb_tuple_bool, kb_tuple_str, kb_tuple_tuple, kb_list_int, kb_list_bool, kb_list_str, kb_list_tuple, kb_dict_int, kb_dict_bool, kb_dict_str, kb_dict_tuple]
  refine ⟨by decide, by decide, by omega, ?_⟩
  refine dep_go T (R := fun _ => True) (t0 := some (.str t)) ?_ (Txt.split t " ") 0 0 none (fun a1 => hq)
  intro w f m a1 Dd h
  simp [dRet, dRetN, dSeq, dIf, dAndV, dOrV, dNotV, dAnd, dOr, dNot, dB, dCall, dCallF, dCons, dNil, dVar, dC, dUn, dOp, dChain, dIfE, dSet, dAsg, dDrop, dPar, dPar3, dNext, dTup, dLst, dMeth, dSl, dPart, dNo, dSplit, dJoin, dJoined2, dStar, dgName, dgCons, dgNil, dgTup, dgSub, startD, rdNeg, rdLe, rdLt, rdGt, rdGe, rdIsi, rdLen, tyD, seqOf, lstOf, rdSub, rdIsN, rdNotN, isNonD, rdFmt, rdSl, kb_NoneType_int, kb_NoneType_bool, kb_NoneType_str, kb_NoneType_tuple, kb_bool_int, kb_bool_bool, kb_bool_str, kb_bool_tuple, kb_int_int, kb_int_bool, kb_int_str, kb_int_tuple, kb_str_int, kb_str_bool, kb_str_str, kb_str_tuple, kb_tuple_int, kb_tuple_bool, kb_tuple_str, kb_tuple_tuple, kb_list_int, kb_list_bool, kb_list_str, kb_list_tuple, kb_dict_int, kb_dict_bool, kb_dict_str, kb_dict_tuple, rdEq_str, rdInt, rdAdd, rdMax]
  exact h
end Dl
set_option Elab.async false
set_option linter.all false
set_option maxRecDepth 100000
set_option maxHeartbeats 4000000
namespace Dl
open PySem PySem.Spec PyProof.Rows L2
variable {P : Program} {K : PySem.W.Frag} {mg : Str → Option Value}
theorem mill_is {M : DHp} {p : Addr} {x y z : Int} (h : M p = some (millD x y z)) : M = updD M p (millD x y z) := by
  funext a
  by_cases e : a = p
  · subst e; rw [updD_same, h]
  · rw [updD_ne e]
theorem ix_eq {M : DHp} {p : Addr} {l : List D} {k : Int} {v : D} {Q : QD} (hp : M p = some (.lst l)) (h : L2.atI l k = some v) : rdIx (.ref p) (.int k) M Q = Q v M := by
  refine propext ⟨fun ⟨l', x, e1, e2, q⟩ => ?_, fun q => ⟨l, v, lst_ref hp, h, q⟩⟩
  have : l' = l := by
    have := (lst_ref hp).symm.trans e1
    exact (Option.some.inj this).symm
  subst this
  rw [h] at e2
  cases e2
  exact q
theorem ix_scr {M : DHp} {ns : List Int} {k : Nat} {Q : QD} (h : k < ns.length) : rdIx (.scr ns) (.int k) M Q = Q (.int (ns[k]'h)) M := by
  have e : L2.atI (ns.map D.int) (k : Int) = some (.int (ns[k]'h)) := by
    unfold L2.atI
    have : ixN (ns.map D.int).length (k : Int) = some k := by
      unfold ixN
      rw [if_pos (by omega), if_pos (by simp; omega)]
      simp
    rw [this]
    simp [h]
  refine propext ⟨fun ⟨l', x, e1, e2, q⟩ => ?_, fun q => ⟨_, _, rfl, e, q⟩⟩
  cases e1
  rw [e] at e2
  cases e2
  exact q
theorem ix0u {M : DHp} {p : Addr} {x y z : Int} {Q : QD} : rdIx (.ref p) (.int 0) (updD M p (millD x y z)) Q = Q (.int x) (updD M p (millD x y z)) := ix_eq updD_same rfl
theorem ix1u {M : DHp} {p : Addr} {x y z : Int} {Q : QD} : rdIx (.ref p) (.int 1) (updD M p (millD x y z)) Q = Q (.int y) (updD M p (millD x y z)) := ix_eq updD_same rfl
theorem ix2u {M : DHp} {p : Addr} {x y z : Int} {Q : QD} : rdIx (.ref p) (.int 2) (updD M p (millD x y z)) Q = Q (.int z) (updD M p (millD x y z)) := ix_eq updD_same rfl
theorem set_eq {M : DHp} {p : Addr} {l : List D} {k : Int} {v : D} {j : Nat} {Q : DHp → Prop} (hp : M p = some (.lst l)) (h : ixN l.length k = some j) : rdSet (.ref p) (.int k) v M Q = Q (updD M p (.lst (l.set j v))) := by
  refine propext ⟨fun ⟨l', x, e1, e2, q⟩ => ?_, fun q => ⟨l, j, hp, h, q⟩⟩
  rw [hp] at e1
  cases e1
  rw [h] at e2
  cases e2
  exact q
theorem set0u {M : DHp} {p : Addr} {x y z v : Int} {Q : DHp → Prop} : rdSet (.ref p) (.int 0) (.int v) (updD M p (millD x y z)) Q = Q (updD M p (millD v y z)) := by
  refine (set_eq (l := [.int x, .int y, .int z]) (j := 0) updD_same rfl).trans ?_
  rw [updD_updD]
  rfl
theorem set2u {M : DHp} {p : Addr} {x y z v : Int} {Q : DHp → Prop} : rdSet (.ref p) (.int 2) (.int v) (updD M p (millD x y z)) Q = Q (updD M p (millD x y v)) := by
  refine (set_eq (l := [.int x, .int y, .int z]) (j := 2) updD_same rfl).trans ?_
  rw [updD_updD]
  rfl
theorem rd22 (T : Tx P K mg) {ds : List D} {M : DHp} {Q : QD} {E : XD} (h : (S22) ds M Q E) : t22 T (wF E) { nx := fun _ M' => Q .non M', rt := Q } (startD N22 ds) M := by
  obtain ⟨p, t, c, rfl, h0, ht, hc, x, y, z, hp, hm, hq⟩ := h
  rw [mill_is hp]
  simp [t22, dRet, dRetN, dSeq, dIf, dAndV, dOrV, dNotV, dAnd, dOr, dNot, dB, dCall, dCallF, dCons, dNil, dVar, dC, dUn, dOp, dChain, dIfE, dSet, dAsg, dDrop, dPar, dPar3, dNext, dTup, dLst, dMeth, dSl, dPart, dNo, dSplit, dJoin, dJoined2, dStar, dgName, dgCons, dgNil, dgTup, dgSub, startD, rdNeg, rdLe, rdLt, rdGt, rdGe, rdIsi, rdLen, tyD, seqOf, lstOf, rdSub, rdIsN, rdNotN, isNonD, rdFmt, rdSl, kb_NoneType_int, kb_NoneType_bool, kb_NoneType_str, kb_NoneType_tuple, kb_bool_int, kb_bool_bool, kb_bool_str, kb_bool_tuple, kb_int_int, kb_int_bool, kb_int_str, kb_int_tuple, kb_str_int, kb_str_bool, kb_str_str, kb_str_tuple, kb_tuple_int, kb_tuple_bool, kb_tuple_str, kb_tuple_tuple, kb_list_int, kb_list_bool, kb_list_str, kb_list_tuple, kb_dict_int, kb_dict_bool, kb_dict_str, kb_dict_tuple, rdEq_int, rdInt, rdAdd, rdMul, rdMod, rdDiv, ix0u, ix1u, ix2u, set0u, set2u]
  obtain ⟨hx, hy0, hy, hz0, hz⟩ := hm
  split
  · refine ⟨h0, L2.wide_div (b := 240) h0 (by omega) (by decide) (by decide), ?_⟩
    exact hq _ _ _ _ ⟨_, rfl, Int.emod_nonneg _ (by omega), Int.emod_lt_of_pos _ h0⟩ ⟨Int.ediv_nonneg hx (by omega), hy0, hy, hz0, by omega⟩
  · have e1 := Int.emod_nonneg (y + 1000381 * (z + 1)) (show (2305843009213693951 : Int) ≠ 0 by decide)
    have e2 := Int.emod_lt_of_pos (y + 1000381 * (z + 1)) (show (0 : Int) < 2305843009213693951 by decide)
    generalize (y + 1000381 * (z + 1)) % 2305843009213693951 = u at *
    have e3 := Int.emod_nonneg (u * u) (show (2305843009213693921 : Int) ≠ 0 by decide)
    have e4 := Int.emod_lt_of_pos (u * u) (show (0 : Int) < 2305843009213693921 by decide)
    generalize u * u % 2305843009213693921 = v at *
    refine ⟨L2.wide_mul (a := 20) (b := 241) (by decide) (by omega) (by decide) (by decide) (by decide), L2.wide_mul (a := 62) (b := 62) (by omega) (by omega) (by decide) (by decide) (by decide), L2.wide_mul (a := 62) (b := 62) (by omega) (by omega) (by decide) (by decide) (by decide), L2.wide_mul (a := 14) (b := 241) (by decide) (by omega) (by decide) (by decide) (by decide), L2.wide_div (b := 15) (by decide) (by decide) (by decide) (by decide), h0, ?_⟩
    exact hq _ _ _ _ ⟨_, rfl, Int.emod_nonneg _ (by omega), Int.emod_lt_of_pos _ h0⟩ ⟨hx, hy0, hy, by omega, by omega⟩
theorem mill_mul {d : Int} : CMulW (d % 2147483399) 86453 := by
  have e1 := Int.emod_nonneg d (show (2147483399 : Int) ≠ 0 by decide)
  have e2 := Int.emod_lt_of_pos d (show (0 : Int) < 2147483399 by decide)
  exact L2.wide_mul (a := 32) (b := 17) (by omega) (by decide) (by decide) (by decide) (by decide)
theorem mill_fin {d k e : Int} {M : DHp} {Q : QD} (hq : ∀ (p : Addr) (x y z : Int), M p = none → Mil 0 x y z → Q (D.ref p) (updD M p (millD x y z))) : CPowW 10 18 ∧ 3 ≤ sizeLine ∧ ∀ p, M p = none → Q (.ref p) (updD M p (.lst [.int (if 1000000000000000000 < d then d - 1000000000000000000 else 0), .int ((d % 2147483399 * 86453 + 7013 * k + 31 * e + 57) % 2305843009213693907), .int 0])) := by
  refine ⟨⟨by decide, by decide, by decide⟩, by decide, fun p hp => hq p _ _ _ hp ⟨by split <;> omega, Int.emod_nonneg _ (by decide), ?_, by decide, by decide⟩⟩
  have := Int.emod_lt_of_pos (d % 2147483399 * 86453 + 7013 * k + 31 * e + 57) (show (0 : Int) < 2305843009213693907 by decide)
  omega
theorem rd21 (T : Tx P K mg) {ds : List D} {M : DHp} {Q : QD} {E : XD} (h : (S21) ds M Q E) : t21 T (wF E) { nx := fun _ M' => Q .non M', rt := Q } (startD N21 ds) M := by
  obtain ⟨ns, k, rfl, hk, hn, hq⟩ := h
  by_cases hlt : k < ns.length
  · have e := fun Q => ix_scr (M := M) (Q := Q) hlt
    simp [t21, dRet, dRetN, dSeq, dIf, dAndV, dOrV, dNotV, dAnd, dOr, dNot, dB, dCall, dCallF, dCons, dNil, dVar, dC, dUn, dOp, dChain, dIfE, dSet, dAsg, dDrop, dPar, dPar3, dNext, dTup, dLst, dMeth, dSl, dPart, dNo, dSplit, dJoin, dJoined2, dStar, dgName, dgCons, dgNil, dgTup, dgSub, startD, rdNeg, rdLe, rdLt, rdGt, rdGe, rdIsi, rdLen, tyD, seqOf, lstOf, rdSub, rdIsN, rdNotN, isNonD, rdFmt, rdSl, kb_NoneType_int, kb_NoneType_bool, kb_NoneType_str, kb_NoneType_tuple, kb_bool_int, kb_bool_bool, kb_bool_str, kb_bool_tuple, kb_int_int, kb_int_bool, kb_int_str, kb_int_tuple, kb_str_int, kb_str_bool, kb_str_str, kb_str_tuple, kb_tuple_int, kb_tuple_bool, kb_tuple_str, kb_tuple_tuple, kb_list_int, kb_list_bool, kb_list_str, kb_list_tuple, kb_dict_int, kb_dict_bool, kb_dict_str, kb_dict_tuple, rdEq_int, rdInt, rdAdd, rdMul, rdMod, rdPow, rdAbs, rdMax, e, hlt, dLstT]
    generalize ns[k] = i
    refine ⟨⟨by decide, by decide, by decide⟩, ⟨by decide, by decide, by decide⟩, ?_, L2.wide_mul (a := 13) (b := 11) (by decide) (by omega) (by decide) (by decide) (by decide), L2.wide_mul (a := 6) (b := 2) (by decide) (by split <;> decide) (by decide) (by decide) (by decide), ?_⟩
    · exact mill_mul
    · exact mill_fin hq
  · simp [t21, dRet, dRetN, dSeq, dIf, dAndV, dOrV, dNotV, dAnd, dOr, dNot, dB, dCall, dCallF, dCons, dNil, dVar, dC, dUn, dOp, dChain, dIfE, dSet, dAsg, dDrop, dPar, dPar3, dNext, dTup, dLst, dMeth, dSl, dPart, dNo, dSplit, dJoin, dJoined2, dStar, dgName, dgCons, dgNil, dgTup, dgSub, startD, rdNeg, rdLe, rdLt, rdGt, rdGe, rdIsi, rdLen, tyD, seqOf, lstOf, rdSub, rdIsN, rdNotN, isNonD, rdFmt, rdSl, kb_NoneType_int, kb_NoneType_bool, kb_NoneType_str, kb_NoneType_tuple, kb_bool_int, kb_bool_bool, kb_bool_str, kb_bool_tuple, kb_int_int, kb_int_bool, kb_int_str, kb_int_tuple, kb_str_int, kb_str_bool, kb_str_str, kb_str_tuple, kb_tuple_int, kb_tuple_bool, kb_tuple_str, kb_tuple_tuple, kb_list_int, kb_list_bool, kb_list_str, kb_list_tuple, kb_dict_int, kb_dict_bool, kb_dict_str, kb_dict_tuple, rdEq_int, rdInt, rdAdd, rdMul, rdMod, rdPow, rdAbs, rdMax, hlt, dLstT]
    refine ⟨L2.wide_mul (a := 6) (b := 11) (by decide) (by omega) (by decide) (by decide) (by decide), ?_⟩
    generalize 47 * (k : Int) + 19 = i
    refine ⟨⟨by decide, by decide, by decide⟩, ⟨by decide, by decide, by decide⟩, ?_, L2.wide_mul (a := 13) (b := 11) (by decide) (by omega) (by decide) (by decide) (by decide), L2.wide_mul (a := 6) (b := 2) (by decide) (by split <;> decide) (by decide) (by decide) (by decide), ?_⟩
    · exact mill_mul
    · exact mill_fin hq
theorem rd23 (T : Tx P K mg) {ds : List D} {M : DHp} {Q : QD} {E : XD} (h : (S23) ds M Q E) : t23 T (wF E) { nx := fun _ M' => Q .non M', rt := Q } (startD N23 ds) M := by
  obtain ⟨p, l, c, rfl, h0, hl, hc, x, y, z, hp, hm, hq⟩ := h
  have hlen : 0 < l.length := List.length_pos_iff.mpr h0
  simp [t23, dRet, dRetN, dSeq, dIf, dAndV, dOrV, dNotV, dAnd, dOr, dNot, dB, dCall, dCallF, dCons, dNil, dVar, dC, dUn, dOp, dChain, dIfE, dSet, dAsg, dDrop, dPar, dPar3, dNext, dTup, dLst, dMeth, dSl, dPart, dNo, dSplit, dJoin, dJoined2, dStar, dgName, dgCons, dgNil, dgTup, dgSub, startD, rdNeg, rdLe, rdLt, rdGt, rdGe, rdIsi, rdLen, tyD, seqOf, lstOf, rdSub, rdIsN, rdNotN, isNonD, rdFmt, rdSl, kb_NoneType_int, kb_NoneType_bool, kb_NoneType_str, kb_NoneType_tuple, kb_bool_int, kb_bool_bool, kb_bool_str, kb_bool_tuple, kb_int_int, kb_int_bool, kb_int_str, kb_int_tuple, kb_str_int, kb_str_bool, kb_str_str, kb_str_tuple, kb_tuple_int, kb_tuple_bool, kb_tuple_str, kb_tuple_tuple, kb_list_int, kb_list_bool, kb_list_str, kb_list_tuple, kb_dict_int, kb_dict_bool, kb_dict_str, kb_dict_tuple, rdEq_int]
  refine ⟨p, l.length, c, rfl, by omega, by omega, hc, x, y, z, hp, hm, ?_⟩
  rintro _ x' y' z' ⟨r, rfl, hr0, hr⟩ hm'
  obtain ⟨d, hd⟩ : ∃ d, l[r.toNat]? = some d := ⟨l[r.toNat]'(by omega), List.getElem?_eq_getElem _⟩
  have e : L2.atI l r = some d := by
    unfold L2.atI
    have : ixN l.length r = some r.toNat := by
      unfold ixN
      rw [if_pos hr0, if_pos hr]
    rw [this]
    exact hd
  exact ⟨l, d, rfl, e, hq d _ _ _ (List.mem_of_getElem? hd) hm'⟩
theorem rd25 (T : Tx P K mg) {ds : List D} {M : DHp} {Q : QD} {E : XD} (h : (S25) ds M Q E) : t25 T (wF E) { nx := fun _ M' => Q .non M', rt := Q } (startD N25 ds) M := by
  obtain ⟨p, c, rfl, hc, x, y, z, hp, hm, hq⟩ := h
  simp [t25, dRet, dRetN, dSeq, dIf, dAndV, dOrV, dNotV, dAnd, dOr, dNot, dB, dCall, dCallF, dCons, dNil, dVar, dC, dUn, dOp, dChain, dIfE, dSet, dAsg, dDrop, dPar, dPar3, dNext, dTup, dLst, dMeth, dSl, dPart, dNo, dSplit, dJoin, dJoined2, dStar, dgName, dgCons, dgNil, dgTup, dgSub, startD, rdNeg, rdLe, rdLt, rdGt, rdGe, rdIsi, rdLen, tyD, seqOf, lstOf, rdSub, rdIsN, rdNotN, isNonD, rdFmt, rdSl, kb_NoneType_int, kb_NoneType_bool, kb_NoneType_str, kb_NoneType_tuple, kb_bool_int, kb_bool_bool, kb_bool_str, kb_bool_tuple, kb_int_int, kb_int_bool, kb_int_str, kb_int_tuple, kb_str_int, kb_str_bool, kb_str_str, kb_str_tuple, kb_tuple_int, kb_tuple_bool, kb_tuple_str, kb_tuple_tuple, kb_list_int, kb_list_bool, kb_list_str, kb_list_tuple, kb_dict_int, kb_dict_bool, kb_dict_str, kb_dict_tuple, rdEq_int]
  refine ⟨p, 26, c, rfl, by omega, by omega, hc, x, y, z, hp, hm, ?_⟩
  rintro _ x' y' z' ⟨r, rfl, hr0, hr⟩ hm'
  have e : L2.atI ("abcdefghijklmnopqrstuvwxyz" : Str).cps.toList r = some (97 + r.toNat) := by
    have e1 : ("abcdefghijklmnopqrstuvwxyz" : Str).cps.toList = (List.range 26).map (97 + ·) := by decide +kernel
    rw [e1]
    unfold L2.atI
    have : ixN ((List.range 26).map (97 + ·)).length r = some r.toNat := by
      unfold ixN
      rw [if_pos hr0, if_pos (by simp; omega)]
    rw [this]
    have : r.toNat < 26 := by omega
    simp [this]
  exact ⟨by decide, _, e, hq _ _ _ _ ⟨_, rfl, 97 + r.toNat, by omega, by omega, rfl⟩ hm'⟩
end Dl
set_option Elab.async false
set_option linter.all false
set_option maxRecDepth 100000
set_option maxHeartbeats 4000000
namespace Dl
open PySem PySem.Spec PyProof.Rows L2
variable {P : Program} {K : PySem.W.Frag} {mg : Str → Option Value}
/-! ### comprehensions that ask a mill -/
theorem updD_comm {M : DHp} {a b : Addr} {o u : DO} (h : a ≠ b) : updD (updD M a o) b u = updD (updD M b u) a o := by
  funext c
  by_cases e : c = b
  · subst e
    rw [updD_same, updD_ne (Ne.symm h), updD_same]
  · rw [updD_ne e]
    by_cases e2 : c = a
    · subst e2; rw [updD_same, updD_same]
    · rw [updD_ne e2, updD_ne e2, updD_ne e]
theorem inv_go {g : TGd} {tt : TDt} {te : TD} {δ0 : Sd} {F : DHp → Prop} {n : Nat} {Iv : Nat → DHp → Prop} {R : D → Prop} {r : Addr} (hn : n ≤ sizeLine)
    (hb : ∀ i N acc x K', i < n → N r = none → Iv i N → (∀ d N', R d → N' r = none → Iv (i + 1) N' → K' (some d) (updD N' r (.lst acc))) → Body g tt te δ0 x (updD N r (.lst acc)) K')
    (hq : ∀ N l, N r = none → Iv n N → l.length = n → (∀ d ∈ l, R d) → F (updD N r (.lst l))) :
    ∀ (xs : List D) (i : Nat) (N : DHp) (acc : List D), N r = none → Iv i N → (∀ d ∈ acc, R d) → acc.length = i → i + xs.length = n →
      compRec g tt te δ0 r xs (updD N r (.lst acc)) F
  | [], i, N, acc, h0, hi, hr, hl, he => by
      have e : i = n := by simpa using he
      subst e
      exact hq N acc h0 hi hl hr
  | x :: xs, i, N, acc, h0, hi, hr, hl, he => by
    have he' : i + (xs.length + 1) = n := he
    refine hb i N acc x (fun o M4 => match o with
      | some y => ∃ acc, M4 r = some (.lst acc) ∧ acc.length < sizeLine ∧ compRec g tt te δ0 r xs (updD M4 r (.lst (acc ++ [y]))) _
      | none => compRec g tt te δ0 r xs M4 _) (by omega) h0 hi fun d N' hd h0' hi' => ?_
    refine ⟨acc, updD_same, by omega, ?_⟩
    rw [updD_updD]
    exact inv_go hn hb hq xs (i + 1) N' _ h0' hi' (fun z hz => by
      rcases List.mem_append.mp hz with hz | hz
      · exact hr z hz
      · rw [List.mem_singleton.mp hz]; exact hd) (by simp [hl]) (by omega)
theorem lc_inv {g : TGd} {tt : TDt} {te : TD} {δ0 : Sd} {M : DHp} {F : Addr → DHp → Prop} {items : List D} (Iv : Nat → DHp → Prop) (R : D → Prop) (hn : items.length ≤ sizeLine)
    (hb : ∀ r i N acc x K', M r = none → i < items.length → N r = none → Iv i N → (∀ d N', R d → N' r = none → Iv (i + 1) N' → K' (some d) (updD N' r (.lst acc))) → Body g tt te δ0 x (updD N r (.lst acc)) K')
    (h0 : Iv 0 M) (hq : ∀ r N l, M r = none → N r = none → Iv items.length N → l.length = items.length → (∀ d ∈ l, R d) → F r (updD N r (.lst l))) :
    ∀ r, M r = none → compRec g tt te δ0 r items (updD M r (.lst [])) (F r) := fun r hr =>
  inv_go hn (fun i N acc x K' hi => hb r i N acc x K' hr hi) (fun N l => hq r N l hr) items 0 M [] hr h0 (fun d hd => by cases hd) rfl (by simp)
/-- the mill at p, in M -/
def IvM (M : DHp) (p : Addr) (c more : Nat) (i : Nat) (N : DHp) : Prop := ∃ x y z, N = updD M p (millD x y z) ∧ Mil (c + i * more) x y z
theorem lc_mill {g : TGd} {tt : TDt} {te : TD} {δ0 : Sd} {M : DHp} {F : Addr → DHp → Prop} {items : List D} {p : Addr} {c more : Nat} {x y z : Int} (R : D → Prop) (hp : M p = some (millD x y z)) (hm : Mil c x y z) (hn : items.length ≤ sizeLine)
    (hb : ∀ M' c' d K', c ≤ c' → c' + more ≤ c + items.length * more → atMill M' p c' more R (fun d M2 => K' (some d) M2) → Body g tt te δ0 d M' K')
    (hq : ∀ r x y z l, updD M p (millD x y z) r = none → Mil (c + items.length * more) x y z → l.length = items.length → (∀ d ∈ l, R d) → F r (updD (updD M p (millD x y z)) r (.lst l))) :
    ∀ r, M r = none → compRec g tt te δ0 r items (updD M r (.lst [])) (F r) := by
  refine lc_inv (IvM M p c more) R hn (fun r i N acc d K' hr hi h0 hI hK => ?_) ⟨x, y, z, mill_is hp, by simpa using hm⟩ (fun r N l _ h0 hI hl hR => ?_)
  · obtain ⟨x', y', z', rfl, hm'⟩ := hI
    have hrp : r ≠ p := fun e => by subst e; rw [hp] at hr; cases hr
    have hle : (i + 1) * more ≤ items.length * more := Nat.mul_le_mul_right _ (by omega)
    rw [Nat.add_mul, Nat.one_mul] at hle
    refine hb _ (c + i * more) d K' (by omega) (by omega) ⟨x', y', z', by rw [updD_ne (Ne.symm hrp), updD_same], hm', fun d' x2 y2 z2 hd hm2 => ?_⟩
    rw [updD_comm hrp, updD_updD]
    exact hK d' _ hd (by rw [updD_ne hrp]; exact hr) ⟨x2, y2, z2, rfl, by rw [Nat.add_mul, Nat.one_mul, ← Nat.add_assoc]; exact hm2⟩
  · obtain ⟨x', y', z', rfl, hm'⟩ := hI
    exact hq r x' y' z' l h0 hm' hl hR
theorem map_erase {α β : Type} (f : α → β) : ∀ (l : List α) (k : Nat), (l.map f).eraseIdx k = (l.eraseIdx k).map f
  | [], _ => rfl
  | a :: l, 0 => rfl
  | a :: l, k + 1 => by
    show f a :: (l.map f).eraseIdx k = f a :: (l.eraseIdx k).map f
    rw [map_erase f l k]
theorem strs_of {R : Str → Prop} : ∀ {l : List D}, (∀ d ∈ l, ∃ s, d = .str s ∧ R s) → ∃ L : List Str, l = L.map D.str ∧ ∀ s ∈ L, R s
  | [], _ => ⟨[], rfl, fun s h => by cases h⟩
  | d :: l, h => by
    obtain ⟨s, rfl, hs⟩ := h d List.mem_cons_self
    obtain ⟨L, rfl, hL⟩ := strs_of fun x hx => h x (List.mem_cons_of_mem _ hx)
    exact ⟨s :: L, rfl, fun z hz => by
      rcases List.mem_cons.mp hz with rfl | hz
      · exact hs
      · exact hL z hz⟩
theorem rngD_len (n : Nat) : (rngD 0 n).length = n := by simp [rngD]
theorem rd24 (T : Tx P K mg) {ds : List D} {M : DHp} {Q : QD} {E : XD} (h : (S24) ds M Q E) : t24 T (wF E) { nx := fun _ M' => Q .non M', rt := Q } (startD N24 ds) M := by
  obtain ⟨p, c, rfl, hc, x, y, z, hp, hm, hq⟩ := h
  simp [t24, dRet, dRetN, dSeq, dIf, dAndV, dOrV, dNotV, dAnd, dOr, dNot, dB, dCall, dCallF, dCons, dNil, dVar, dC, dUn, dOp, dChain, dIfE, dSet, dAsg, dDrop, dPar, dPar3, dNext, dTup, dLst, dMeth, dSl, dPart, dNo, dSplit, dJoin, dJoined2, dStar, dgName, dgCons, dgNil, dgTup, dgSub, startD, rdNeg, rdLe, rdLt, rdGt, rdGe, rdIsi, rdLen, tyD, seqOf, lstOf, rdSub, rdIsN, rdNotN, isNonD, rdFmt, rdSl, kb_NoneType_int, kb_NoneType_bool, kb_NoneType_str, kb_NoneType_tuple, kb_bool_int, kb_bool_bool, kb_bool_str, kb_bool_tuple, kb_int_int, kb_int_bool, kb_int_str, kb_int_tuple, kb_str_int, kb_str_bool, kb_str_str, kb_str_tuple, kb_tuple_int, kb_tuple_bool, kb_tuple_str, kb_tuple_tuple, kb_list_int, kb_list_bool, kb_list_str, kb_list_tuple, kb_dict_int, kb_dict_bool, kb_dict_str, kb_dict_tuple, rdEq_int]
  refine ⟨by decide, fun q hqn => ?_⟩
  have hpq : p ≠ q := fun e => by subst e; rw [hp] at hqn; cases hqn
  simp [dShr, dFrz, dLcT, diRng, dRet, dRetN, dSeq, dIf, dAndV, dOrV, dNotV, dAnd, dOr, dNot, dB, dCall, dCallF, dCons, dNil, dVar, dC, dUn, dOp, dChain, dIfE, dSet, dAsg, dDrop, dPar, dPar3, dNext, dTup, dLst, dMeth, dSl, dPart, dNo, dSplit, dJoin, dJoined2, dStar, dgName, dgCons, dgNil, dgTup, dgSub, startD, rdNeg, rdLe, rdLt, rdGt, rdGe, rdIsi, rdLen, tyD, seqOf, lstOf, rdSub, rdIsN, rdNotN, isNonD, rdFmt, rdSl, kb_NoneType_int, kb_NoneType_bool, kb_NoneType_str, kb_NoneType_tuple, kb_bool_int, kb_bool_bool, kb_bool_str, kb_bool_tuple, kb_int_int, kb_int_bool, kb_int_str, kb_int_tuple, kb_str_int, kb_str_bool, kb_str_str, kb_str_tuple, kb_tuple_int, kb_tuple_bool, kb_tuple_str, kb_tuple_tuple, kb_list_int, kb_list_bool, kb_list_str, kb_list_tuple, kb_dict_int, kb_dict_bool, kb_dict_str, kb_dict_tuple]
  have hA : (Str.ofString "abcdefghijklmnopqrstuvwxyz").length = 26 := by decide +kernel
  have e : signs (Str.ofString "abcdefghijklmnopqrstuvwxyz") = (List.range 26).map fun i => (⟨#[97 + i]⟩ : Str) := by decide +kernel
  have hLt : ∀ s ∈ signs (Str.ofString "abcdefghijklmnopqrstuvwxyz"), ltr s := by
    intro s hs
    rw [e] at hs
    obtain ⟨i, hi, rfl⟩ := List.mem_map.mp hs
    have := List.mem_range.mp hi
    exact ⟨97 + i, by omega, by omega, rfl⟩
  have hL : (signs (Str.ofString "abcdefghijklmnopqrstuvwxyz")).length = 26 := by rw [e]; simp
  rw [hA]
  generalize signs (Str.ofString "abcdefghijklmnopqrstuvwxyz") = L at hLt hL ⊢
  generalize Str.ofString "abcdefghijklmnopqrstuvwxyz" = al at hA ⊢
  clear e
  refine ⟨by decide, by decide, ?_⟩
  refine lc_inv (items := rngD 0 26) (fun i N => ∃ (x y z : Int) (rest : List Str), N = updD (updD M q (.lst (rest.map D.str))) p (millD x y z) ∧ Mil (c + i) x y z ∧ rest.length + i = 26 ∧ ∀ s ∈ rest, ltr s) (fun d => ∃ s, d = .str s ∧ ltr s) (by rw [rngD_len]; decide) (fun r i N acc d K' hr hi h0 hI hK => ?_) ⟨x, y, z, L, ?_, hm, hL, hLt⟩ (fun r N l hr h0 hI hl hR => ?_)
  · obtain ⟨x', y', z', rest, rfl, hm', hn', hl'⟩ := hI
    have hi : i < 26 := by rw [rngD_len] at hi; exact hi
    have hrp : r ≠ p := fun e => by subst e; rw [updD_same] at h0; cases h0
    have hrq : r ≠ q := fun e => by subst e; rw [updD_ne (Ne.symm hpq), updD_same] at h0; cases h0
    have hq1 : (updD (updD (updD M q (.lst (rest.map D.str))) p (millD x' y' z')) r (.lst acc)) q = some (.lst (rest.map D.str)) := by rw [updD_ne (Ne.symm hrq), updD_ne (Ne.symm hpq), updD_same]
    have hp1 : (updD (updD (updD M q (.lst (rest.map D.str))) p (millD x' y' z')) r (.lst acc)) p = some (millD x' y' z') := by rw [updD_ne (Ne.symm hrp), updD_same]
    refine ⟨⟨_, lst_ref hq1⟩, _, seq_ref hq1, ?_⟩
    refine ⟨p, _, c + i, rfl, by rw [List.length_map]; omega, by rw [List.length_map]; omega, by omega, x', y', z', hp1, hm', ?_⟩
    rintro _ x2 y2 z2 ⟨k, rfl, hk0, hk⟩ hm2
    rw [List.length_map] at hk
    have hkl : k.toNat < rest.length := by omega
    refine ⟨_, k.toNat, .str (rest[k.toNat]'hkl), by rw [updD_ne (Ne.symm hpq)]; exact hq1, hk0, rfl, by rw [List.length_map]; exact le_size (by omega), by simp [hkl], ?_⟩
    have e : updD (updD (updD (updD (updD M q (.lst (rest.map D.str))) p (millD x' y' z')) r (.lst acc)) p (millD x2 y2 z2)) q (.lst ((rest.map D.str).eraseIdx k.toNat)) = updD (updD (updD M q (.lst ((rest.eraseIdx k.toNat).map D.str))) p (millD x2 y2 z2)) r (.lst acc) := by
      have em : (rest.map D.str).eraseIdx k.toNat = (rest.eraseIdx k.toNat).map D.str := map_erase _ _ _
      rw [em]
      funext a
      unfold updD
      by_cases e1 : a = q
      · subst e1; rw [if_pos rfl, if_neg (Ne.symm hrq), if_neg (Ne.symm hpq), if_pos rfl]
      · by_cases e2 : a = p
        · subst e2; simp [e1, Ne.symm hrp]
        · by_cases e3 : a = r
          · subst e3; simp [e1, e2]
          · simp [e1, e2, e3]
    rw [e]
    refine hK _ _ ⟨_, rfl, hl' _ (List.getElem_mem hkl)⟩ (by rw [updD_ne hrp, updD_ne hrq]; rw [updD_ne hrq] at hr; exact hr) ⟨x2, y2, z2, _, rfl, hm2, ?_, fun s hs => hl' s (List.mem_of_mem_eraseIdx hs)⟩
    rw [List.length_eraseIdx, if_pos hkl]
    omega
  · exact mill_is (by rw [updD_ne hpq]; exact hp)
  · rw [rngD_len] at hI hl
    obtain ⟨x', y', z', rest, rfl, hm', hn', hl'⟩ := hI
    obtain ⟨ls, rfl, hls⟩ := strs_of hR
    refine ⟨_, updD_same, updD M p (millD x' y' z'), ?_, hq _ _ _ _ ⟨ls, rfl, by simpa using hl, hls⟩ hm'⟩
    rw [ersD_updD h0]
    intro a o ha
    by_cases e1 : a = p
    · subst e1; rw [updD_same] at ha ⊢; exact ha
    · rw [updD_ne e1] at ha ⊢
      have : a ≠ q := fun e2 => by subst e2; rw [hqn] at ha; cases ha
      rw [updD_ne this]
      exact ha
end Dl
set_option Elab.async false
set_option linter.all false
set_option maxRecDepth 100000
set_option maxHeartbeats 4000000
namespace Dl
open PySem PySem.Spec PyProof.Rows L2
variable {P : Program} {K : PySem.W.Frag} {mg : Str → Option Value}
def low (s : Str) : Prop := ∀ ch ∈ s.cps.toList, 97 ≤ ch ∧ ch ≤ 122
theorem low_app {s t : Str} (h : low s) (h' : low t) : low (s ++ t) := fun ch hc => by
  have e : (s ++ t).cps.toList = s.cps.toList ++ t.cps.toList := Array.toList_append
  rw [e] at hc
  rcases List.mem_append.mp hc with hc | hc
  · exact h ch hc
  · exact h' ch hc
theorem isNm_of {s : Str} (h : low s) (h1 : 1 ≤ s.length) (h2 : s.length ≤ 8) : isNm s = true := by
  unfold isNm
  rw [decide_eq_true ⟨h1, h2⟩, Bool.true_and, List.all_eq_true]
  exact fun c hc => decide_eq_true (h c hc)
theorem ltr_low {s : Str} (h : ltr s) : low s ∧ s.length = 1 := by
  obtain ⟨c, h1, h2, rfl⟩ := h
  exact ⟨fun ch hc => by rw [List.mem_singleton.mp hc]; exact ⟨h1, h2⟩, rfl⟩
theorem join_low : ∀ {ls : List Str}, (∀ s ∈ ls, ltr s) → (Str.join "" ls).length = ls.length ∧ low (Str.join "" ls)
  | [], _ => ⟨rfl, fun ch hc => by cases hc⟩
  | [x], h => ⟨(ltr_low (h x List.mem_cons_self)).2, (ltr_low (h x List.mem_cons_self)).1⟩
  | x :: y :: r, h => by
    obtain ⟨h1, h2⟩ := join_low (ls := y :: r) fun s hs => h s (List.mem_cons_of_mem _ hs)
    obtain ⟨h3, h4⟩ := ltr_low (h x List.mem_cons_self)
    have e : Str.join "" (x :: y :: r) = x ++ "" ++ Str.join "" (y :: r) := rfl
    rw [e]
    refine ⟨?_, low_app (low_app h3 (fun ch hc => by cases hc)) h2⟩
    rw [str_app_len, str_app_len, h1, h4]
    show 1 + 0 + _ = _
    simp; omega
theorem low_cut {s : Str} (h : low s) (a b : Option Int) : low (cutS s a b) := fun ch hc => h ch (List.mem_of_mem_drop (List.mem_of_mem_take (by simpa [cutS] using hc)))
theorem cut_lo {z : Str} {k : Nat} (hk : k ≤ z.length) : (cutS z none (some (k : Int))).length = k := by
  show ((z.cps.toList.drop (HT.sIx z.length 0 none)).take (HT.sIx z.length z.length (some (k : Int)) - HT.sIx z.length 0 none)).toArray.size = k
  rw [HT.sIx_none, HT.sIx_nat, List.size_toArray, List.length_take, List.length_drop]
  have : z.cps.toList.length = z.length := Array.length_toList
  omega
theorem cut_hi {z : Str} {k : Nat} (hk : k ≤ z.length) : (cutS z (some (k : Int)) none).length = z.length - k := by
  show ((z.cps.toList.drop (HT.sIx z.length 0 (some (k : Int)))).take (HT.sIx z.length z.length none - HT.sIx z.length 0 (some (k : Int)))).toArray.size = _
  rw [HT.sIx_none, HT.sIx_nat, List.size_toArray, List.length_take, List.length_drop]
  have : z.cps.toList.length = z.length := Array.length_toList
  omega
theorem mul8 {s : Str} (h : ltr s) : (Txt.mul s 8).length = 8 ∧ low (Txt.mul s 8) := by
  obtain ⟨c, h1, h2, rfl⟩ := h
  have e : Txt.mul ⟨#[c]⟩ 8 = ⟨#[c, c, c, c, c, c, c, c]⟩ := rfl
  rw [e]
  refine ⟨rfl, fun ch hc => ?_⟩
  have : ch = c := by simpa using hc
  rw [this]
  exact ⟨h1, h2⟩
theorem Mil.mono {c c' : Nat} {x y z : Int} (h : Mil c x y z) (hc : c ≤ c') : Mil c' x y z := ⟨h.1, h.2.1, h.2.2.1, h.2.2.2.1, by have := h.2.2.2.2; omega⟩
theorem rd26 (T : Tx P K mg) {ds : List D} {M : DHp} {Q : QD} {E : XD} (h : (S26) ds M Q E) : t26 T (wF E) { nx := fun _ M' => Q .non M', rt := Q } (startD N26 ds) M := by
  obtain ⟨p, c, rfl, hc, x, y, z, hp, hm, hq⟩ := h
  simp [t26, dRet, dRetN, dSeq, dIf, dAndV, dOrV, dNotV, dAnd, dOr, dNot, dB, dCall, dCallF, dCons, dNil, dVar, dC, dUn, dOp, dChain, dIfE, dSet, dAsg, dDrop, dPar, dPar3, dNext, dTup, dLst, dMeth, dSl, dPart, dNo, dSplit, dJoin, dJoined2, dStar, dgName, dgCons, dgNil, dgTup, dgSub, startD, rdNeg, rdLe, rdLt, rdGt, rdGe, rdIsi, rdLen, tyD, seqOf, lstOf, rdSub, rdIsN, rdNotN, isNonD, rdFmt, rdSl, kb_NoneType_int, kb_NoneType_bool, kb_NoneType_str, kb_NoneType_tuple, kb_bool_int, kb_bool_bool, kb_bool_str, kb_bool_tuple, kb_int_int, kb_int_bool, kb_int_str, kb_int_tuple, kb_str_int, kb_str_bool, kb_str_str, kb_str_tuple, kb_tuple_int, kb_tuple_bool, kb_tuple_str, kb_tuple_tuple, kb_list_int, kb_list_bool, kb_list_str, kb_list_tuple, kb_dict_int, kb_dict_bool, kb_dict_str, kb_dict_tuple, rdEq_int, dLcT, dFrz, diRng]
  refine ⟨p, 8, c, rfl, by omega, by omega, by omega, x, y, z, hp, hm, ?_⟩
  rintro _ x1 y1 z1 ⟨n, rfl, hn0, hn⟩ hm1
  have hp1 : updD M p (millD x1 y1 z1) p = some (millD x1 y1 z1) := updD_same
  have hln : (rngD 0 n.toNat).length ≤ 7 := by rw [rngD_len]; omega
  refine ⟨⟨by omega, by omega⟩, ?_⟩
  refine lc_mill (items := rngD 0 n.toNat) (c := c + 1) (more := 1) (fun d => ∃ s, d = .str s ∧ ltr s) hp1 hm1 (le_size (by omega)) (fun M' c' d K' hc1 hc2 hK => ?_) (fun r x2 y2 z2 l h0 hm2 hl hR => ?_)
  · exact ⟨p, c', rfl, by omega, hK⟩
  · rw [updD_updD] at h0 ⊢
    obtain ⟨ls, rfl, hls⟩ := strs_of hR
    refine ⟨_, updD_same, ls, rfl, ?_, ?_⟩
    · have := join_size (z := ("" : Str)) (n := 1) (m := 0) (ws := ls) fun w hw => by rw [(ltr_low (hls w hw)).2]; exact Nat.le_refl _
      simp at hl
      have e : ("" : Str).length = 0 := rfl
      rw [e] at this ⊢
      omega
    rw [ersD_updD h0, join_eq]
    obtain ⟨hb1, hb2⟩ := join_low hls
    have hb7 : (Str.join "" ls).length ≤ 7 := by rw [hb1]; simp at hl; omega
    rw [show (Str.join (Str.ofString "") ls) = Str.join "" ls from rfl]
    generalize Str.join "" ls = bd at hb1 hb2 hb7
    refine ⟨p, 3, c + 1 + (rngD 0 n.toNat).length * 1, rfl, by omega, by omega, by omega, x2, y2, z2, updD_same, hm2, ?_⟩
    rintro _ x3 y3 z3 ⟨lot, rfl, hlot0, hlot⟩ hm3
    rw [updD_updD]
    refine ⟨by decide, fun f hf => ⟨le_size (by omega), ?_⟩⟩
    have hpf : p ≠ f := fun e => by subst e; rw [updD_same] at hf; cases hf
    have hMf : M f = none := by rw [updD_ne (Ne.symm hpf)] at hf; exact hf
    refine ⟨p, (bd.length : Int) + 1, c + 1 + (rngD 0 n.toNat).length * 1 + 1, rfl, by omega, by omega, by omega, x3, y3, z3, by rw [updD_ne hpf, updD_same], hm3, ?_⟩
    rintro _ x4 y4 z4 ⟨spot, rfl, hs0, hs⟩ hm4
    simp [dFor, diLst, dRet, dRetN, dSeq, dIf, dAndV, dOrV, dNotV, dAnd, dOr, dNot, dB, dCall, dCallF, dCons, dNil, dVar, dC, dUn, dOp, dChain, dIfE, dSet, dAsg, dDrop, dPar, dPar3, dNext, dTup, dLst, dMeth, dSl, dPart, dNo, dSplit, dJoin, dJoined2, dStar, dgName, dgCons, dgNil, dgTup, dgSub, startD, rdNeg, rdLe, rdLt, rdGt, rdGe, rdIsi, rdLen, tyD, seqOf, lstOf, rdSub, rdIsN, rdNotN, isNonD, rdFmt, rdSl, kb_NoneType_int, kb_NoneType_bool, kb_NoneType_str, kb_NoneType_tuple, kb_bool_int, kb_bool_bool, kb_bool_str, kb_bool_tuple, kb_int_int, kb_int_bool, kb_int_str, kb_int_tuple, kb_str_int, kb_str_bool, kb_str_str, kb_str_tuple, kb_tuple_int, kb_tuple_bool, kb_tuple_str, kb_tuple_tuple, kb_list_int, kb_list_bool, kb_list_str, kb_list_tuple, kb_dict_int, kb_dict_bool, kb_dict_str, kb_dict_tuple]
    refine ⟨p, c + 1 + (rngD 0 n.toNat).length * 1 + 1 + 1, rfl, by omega, x4, y4, z4, updD_same, hm4, ?_⟩
    rintro _ x5 y5 z5 ⟨al, rfl, hal, halt⟩ hm5
    simp [dRet, dRetN, dSeq, dIf, dAndV, dOrV, dNotV, dAnd, dOr, dNot, dB, dCall, dCallF, dCons, dNil, dVar, dC, dUn, dOp, dChain, dIfE, dSet, dAsg, dDrop, dPar, dPar3, dNext, dTup, dLst, dMeth, dSl, dPart, dNo, dSplit, dJoin, dJoined2, dStar, dgName, dgCons, dgNil, dgTup, dgSub, startD, rdNeg, rdLe, rdLt, rdGt, rdGe, rdIsi, rdLen, tyD, seqOf, lstOf, rdSub, rdIsN, rdNotN, isNonD, rdFmt, rdSl]
    obtain ⟨a0, al, rfl⟩ : ∃ a l, al = a :: l := by
      cases al with
      | nil => simp at hal
      | cons a l => exact ⟨a, l, rfl⟩
    have ec : cutD ((a0 :: al).map D.str) none (some 1) = [.str a0] := by
      unfold cutD
      rw [List.length_map, hal]
      rfl
    rw [ec]
    have eM : updD (updD (updD (updD M p (millD x3 y3 z3)) f (.lst [])) p (millD x4 y4 z4)) p (millD x5 y5 z5) = updD (updD M f (.lst [])) p (millD x5 y5 z5) := by
      rw [updD_updD, updD_comm hpf, updD_updD]
    rw [eM]
    obtain ⟨ha1, ha2⟩ := ltr_low (halt a0 List.mem_cons_self)
    have hc5 : Mil (c + 99) x5 y5 z5 := hm5.mono (by omega)
    have fin : ∀ (s : Str) x y z, isNm s = true → Mil (c + 100) x y z → ∃ l, updD (updD M f (.lst [])) p (millD x y z) f = some (.lst l) ∧ l.length < sizeLine ∧ ∃ l', (updD (updD (updD M f (.lst [])) p (millD x y z)) f (.lst (l ++ [.str s]))) f = some (.lst l') ∧ ∃ M2, SubM M2 (ersD (updD (updD (updD M f (.lst [])) p (millD x y z)) f (.lst (l ++ [.str s]))) f) ∧ Q (.lst l') M2 := fun s x y z hs hm => by
      refine ⟨[], by rw [updD_ne (Ne.symm hpf), updD_same], by decide, _, updD_same, updD M p (millD x y z), ?_, hq _ _ _ _ ⟨s, rfl, hs⟩ hm⟩
      intro a o ha
      have haf : a ≠ f := fun e => by subst e; rw [updD_ne (Ne.symm hpf), hMf] at ha; cases ha
      rw [ersD_ne haf, updD_ne haf]
      by_cases e : a = p
      · subst e; rw [updD_same] at ha ⊢; exact ha
      · rw [updD_ne e] at ha ⊢; rw [updD_ne haf]; exact ha
    have hlf : isLst (.ref f) (updD (updD M f (.lst [])) p (millD x5 y5 z5)) := ⟨_, lst_ref (by rw [updD_ne (Ne.symm hpf), updD_same])⟩
    simp [forRec, dShr, dFrz, rdAppend, rdEq_int, dRet, dRetN, dSeq, dIf, dAndV, dOrV, dNotV, dAnd, dOr, dNot, dB, dCall, dCallF, dCons, dNil, dVar, dC, dUn, dOp, dChain, dIfE, dSet, dAsg, dDrop, dPar, dPar3, dNext, dTup, dLst, dMeth, dSl, dPart, dNo, dSplit, dJoin, dJoined2, dStar, dgName, dgCons, dgNil, dgTup, dgSub, startD, rdNeg, rdLe, rdLt, rdGt, rdGe, rdIsi, rdLen, tyD, seqOf, lstOf, rdSub, rdIsN, rdNotN, isNonD, rdFmt, rdSl, rdAdd, rdMul]
    obtain ⟨k, rfl⟩ : ∃ k : Nat, spot = (k : Int) := ⟨spot.toNat, by omega⟩
    have hk : k ≤ bd.length := by omega
    have g1 := cut_lo hk
    have g2 := cut_hi hk
    by_cases h0' : lot = 0
    · rw [if_pos h0']
      refine ⟨hlf, le_size (by omega), le_size (by omega), le_size (by omega), le_size (by rw [str_app_len]; omega), ?_⟩
      exact fin _ _ _ _ (isNm_of (low_app (low_app (low_cut hb2 _ _) ha1) (low_cut hb2 _ _)) (by rw [str_app_len, str_app_len]; omega) (by rw [str_app_len, str_app_len]; omega)) (hc5.mono (by omega))
    · rw [if_neg h0']
      by_cases h1' : lot = 1
      · rw [if_pos h1']
        refine ⟨hlf, le_size (by omega), p, (bd.length : Int) + 1, c + 99, rfl, by omega, by omega, by omega, x5, y5, z5, updD_same, hc5, ?_⟩
        rintro _ x6 y6 z6 ⟨r2, rfl, hr0, hr1⟩ hm6
        obtain ⟨k2, rfl⟩ : ∃ k : Nat, r2 = (k : Int) := ⟨r2.toNat, by omega⟩
        have g3 := cut_lo (z := bd) (k := k2) (by omega)
        rw [updD_updD]
        refine ⟨le_size (by omega), le_size (by omega), ?_⟩
        exact fin _ _ _ _ (isNm_of (low_app ha1 (low_cut hb2 _ _)) (by rw [str_app_len]; omega) (by rw [str_app_len]; omega)) hm6
      · rw [if_neg h1']
        refine ⟨hlf, by omega, p, 8, c + 99, rfl, by omega, by omega, by omega, x5, y5, z5, updD_same, hc5, ?_⟩
        rintro _ x6 y6 z6 ⟨r2, rfl, hr0, hr1⟩ hm6
        obtain ⟨k2, rfl⟩ : ∃ k : Nat, r2 = (k : Int) := ⟨r2.toNat, by omega⟩
        obtain ⟨m1, m2⟩ := mul8 (halt a0 List.mem_cons_self)
        have g3 := cut_lo (z := Txt.mul a0 8) (k := 1 + k2) (by omega)
        rw [updD_updD]
        refine ⟨le_size (by omega), ?_⟩
        show ∃ l, _
        rw [show ((1 : Int) + (k2 : Int)) = ((1 + k2 : Nat) : Int) by omega]
        exact fin _ _ _ _ (isNm_of (low_cut m2 _ _) (by omega) (by omega)) hm6
end Dl
set_option Elab.async false
set_option linter.all false
set_option maxRecDepth 100000
set_option maxHeartbeats 4000000
namespace Dl
open PySem PySem.Spec PyProof.Rows L2
variable {P : Program} {K : PySem.W.Frag} {mg : Str → Option Value}
theorem worth_list {P : Program} {K : PySem.W.Frag} {mg : Str → Option Value} {M : DHp} {p : Addr} {c k : Nat} {x y z : Int} {Q : QD} {W W' : XD} (hm : Mil (c + 1) x y z) (hp : M p = some (millD x y z)) (hc : c + asks k < 2 ^ 60) (h2 : 3 ≤ asks k)
    (hq : ∀ (d : D) (x y z : Int), Wv k d → Mil (c + asks k) x y z → Q d (updD M p (millD x y z))) :
    CPowW 10 20 ∧ S22 [D.ref p, D.int 100000000000000000000] M (fun x M1 => CPowW 10 60 ∧ 5 ≤ sizeLine ∧ S23 [D.ref p, D.lst [D.int 0, D.int 7, D.int 10, x, D.int 999999999999999999999999999999999999999999999999999999999999]] M1 Q W) W' := by
  refine ⟨⟨by decide, by decide, by decide⟩, p, _, c + 1, rfl, by decide, by decide, by omega, x, y, z, hp, hm, ?_⟩
  rintro _ x1 y1 z1 ⟨r, rfl, hr0, hr1⟩ hm1
  refine ⟨⟨by decide, by decide, by decide⟩, by decide, p, _, c + 2, rfl, by simp, by simp, by omega, x1, y1, z1, updD_same, hm1, ?_⟩
  intro d x2 y2 z2 hd hm2
  rw [updD_updD]
  refine hq d _ _ _ ?_ (hm2.mono (by omega))
  have hG : (999999999999999999999999999999999999999999999999999999999999 : Int) = GR := by decide
  have hG2 : (100000000000000000000 : Int) ≤ GR := by decide
  simp at hd
  rcases hd with rfl | rfl | rfl | rfl | rfl
  · exact .int _ (by decide) (by decide)
  · exact .int _ (by decide) (by decide)
  · exact .int _ (by decide) (by decide)
  · exact .int _ hr0 (by omega)
  · exact .int _ (by decide) (by decide)
theorem asks_ge : ∀ k, 200 ≤ asks k
  | 0 => Nat.le_refl _
  | k + 1 => Nat.le_add_right _ _
theorem rd29 (T : Tx P K mg) {n : Nat} {ds : List D} {M : DHp} {Q : QD} {E : XD} (h : (S29 (n + 1)) ds M Q E) : t29 T n (wF E) { nx := fun _ M' => Q .non M', rt := Q } (startD N29 ds) M := by
  obtain ⟨p, k, c, rfl, hk, hk8, hc, x, y, z, hp, hm, hq⟩ := h
  have ha := asks_ge k
  have name : ∀ {x1 y1 z1 : Int} {W : XD}, Mil (c + 1) x1 y1 z1 → S26 [D.ref p, D.int 1] (updD M p (millD x1 y1 z1)) (fun x M1 => rdIx x (D.int 0) M1 Q) W := fun {x1 y1 z1 W} hm1 => by
    refine ⟨p, c + 1, rfl, by omega, x1, y1, z1, updD_same, hm1, ?_⟩
    rintro _ x2 y2 z2 ⟨s, rfl, hs⟩ hm2
    rw [updD_updD]
    exact ⟨_, _, rfl, atI_zero, hq _ _ _ _ (.str s hs) (hm2.mono (by omega))⟩
  have lst : ∀ {x1 y1 z1 : Int} {W W' : XD}, Mil (c + 1) x1 y1 z1 → _ := fun {x1 y1 z1 W W'} hm1 => worth_list (P := P) (K := K) (mg := mg) (k := k) (Q := Q) (W := W) (W' := W') (M := updD M p (millD x1 y1 z1)) hm1 updD_same hc (by omega) (fun d x y z hd hm => by rw [updD_updD]; exact hq d x y z hd hm)
  cases k with
  | zero =>
    simp [t29, dRet, dRetN, dSeq, dIf, dAndV, dOrV, dNotV, dAnd, dOr, dNot, dB, dCall, dCallF, dCons, dNil, dVar, dC, dUn, dOp, dChain, dIfE, dSet, dAsg, dDrop, dPar, dPar3, dNext, dTup, dLst, dMeth, dSl, dPart, dNo, dSplit, dJoin, dJoined2, dStar, dgName, dgCons, dgNil, dgTup, dgSub, startD, rdNeg, rdLe, rdLt, rdGt, rdGe, rdIsi, rdLen, tyD, seqOf, lstOf, rdSub, rdIsN, rdNotN, isNonD, rdFmt, rdSl, kb_NoneType_int, kb_NoneType_bool, kb_NoneType_str, kb_NoneType_tuple, kb_bool_int, kb_bool_bool, kb_bool_str, kb_bool_tuple, kb_int_int, kb_int_bool, kb_int_str, kb_int_tuple, kb_str_int, kb_str_bool, kb_str_str, kb_str_tuple, kb_tuple_int, kb_tuple_bool, kb_tuple_str, kb_tuple_tuple, kb_list_int, kb_list_bool, kb_list_str, kb_list_tuple, kb_dict_int, kb_dict_bool, kb_dict_str, kb_dict_tuple, rdEq_int, rdPow]
    refine ⟨p, 4, c, rfl, by omega, by omega, by omega, x, y, z, hp, hm, ?_⟩
    rintro _ x1 y1 z1 ⟨lot, rfl, h0, h1⟩ hm1
    rw [rdEq_int]
    by_cases c0 : lot = 0
    · simp [c0]
      exact name hm1
    · simp [c0]
      by_cases c1 : lot < 3
      · rw [if_pos c1]
        exact lst hm1
      · rw [if_neg c1, rdEq_int]
        have : lot = 3 := by omega
        simp [this]
        exact hq _ _ _ _ .non (hm1.mono (by omega))
  | succ k =>
    simp [t29, dRet, dRetN, dSeq, dIf, dAndV, dOrV, dNotV, dAnd, dOr, dNot, dB, dCall, dCallF, dCons, dNil, dVar, dC, dUn, dOp, dChain, dIfE, dSet, dAsg, dDrop, dPar, dPar3, dNext, dTup, dLst, dMeth, dSl, dPart, dNo, dSplit, dJoin, dJoined2, dStar, dgName, dgCons, dgNil, dgTup, dgSub, startD, rdNeg, rdLe, rdLt, rdGt, rdGe, rdIsi, rdLen, tyD, seqOf, lstOf, rdSub, rdIsN, rdNotN, isNonD, rdFmt, rdSl, kb_NoneType_int, kb_NoneType_bool, kb_NoneType_str, kb_NoneType_tuple, kb_bool_int, kb_bool_bool, kb_bool_str, kb_bool_tuple, kb_int_int, kb_int_bool, kb_int_str, kb_int_tuple, kb_str_int, kb_str_bool, kb_str_str, kb_str_tuple, kb_tuple_int, kb_tuple_bool, kb_tuple_str, kb_tuple_tuple, kb_list_int, kb_list_bool, kb_list_str, kb_list_tuple, kb_dict_int, kb_dict_bool, kb_dict_str, kb_dict_tuple, rdEq_int, rdPow]
    refine ⟨p, 7, c, rfl, by omega, by omega, by omega, x, y, z, hp, hm, ?_⟩
    rintro _ x1 y1 z1 ⟨lot, rfl, h0, h1⟩ hm1
    rw [rdEq_int]
    by_cases c0 : lot = 0
    · simp [c0]
      exact name hm1
    · simp [c0]
      by_cases c1 : lot < 3
      · rw [if_pos c1]
        exact lst hm1
      · rw [if_neg c1, rdEq_int]
        by_cases c3 : lot = 3
        · simp [c3]
          exact hq _ _ _ _ .non (hm1.mono (by omega))
        · simp [c3, dFrz, dLcT, diRng, dRet, dRetN, dSeq, dIf, dAndV, dOrV, dNotV, dAnd, dOr, dNot, dB, dCall, dCallF, dCons, dNil, dVar, dC, dUn, dOp, dChain, dIfE, dSet, dAsg, dDrop, dPar, dPar3, dNext, dTup, dLst, dMeth, dSl, dPart, dNo, dSplit, dJoin, dJoined2, dStar, dgName, dgCons, dgNil, dgTup, dgSub, startD, rdNeg, rdLe, rdLt, rdGt, rdGe, rdIsi, rdLen, tyD, seqOf, lstOf, rdSub, rdIsN, rdNotN, isNonD, rdFmt, rdSl]
          refine ⟨p, 4, c + 1, rfl, by omega, by omega, by omega, x1, y1, z1, updD_same, hm1, ?_⟩
          rintro _ x2 y2 z2 ⟨m, rfl, hm0, hm4⟩ hm2
          rw [updD_updD]
          have hln : (rngD 0 m.toNat).length ≤ 3 := by rw [rngD_len]; omega
          have hak : asks (k + 1) = 200 + 3 * asks k := rfl
          have hmul : (rngD 0 m.toNat).length * asks k ≤ 3 * asks k := Nat.mul_le_mul_right _ hln
          refine ⟨⟨by omega, by omega⟩, ?_⟩
          refine lc_mill (items := rngD 0 m.toNat) (c := c + 1 + 1) (more := asks k) (fun d => Wv k d) updD_same hm2 (le_size (by omega)) (fun M' c' d K' hc1 hc2 hK => ?_) (fun r x3 y3 z3 l h0 hm3 hl hR => ?_)
          · have e : ((k + 1 : Nat) : Int) - 1 = (k : Int) := by omega
            refine ⟨p, k, c', by show [D.ref p, D.int (((k + 1 : Nat) : Int) - 1)] = _; rw [e], by omega, by omega, by omega, hK⟩
          · rw [updD_updD] at h0 ⊢
            refine ⟨_, updD_same, ?_⟩
            rw [ersD_updD h0]
            exact ⟨l, rfl, hq _ _ _ _ (.tup l (by rw [hl]; exact hln) hR) (hm3.mono (by omega))⟩
end Dl
set_option Elab.async false
set_option linter.all false
set_option maxRecDepth 100000
set_option maxHeartbeats 4000000
namespace Dl
open PySem PySem.Spec PyProof.Rows L2
variable {P : Program} {K : PySem.W.Frag} {mg : Str → Option Value}
theorem word1_wv_int {i : Int} (h0 : 0 ≤ i) (h1 : i ≤ GR) (k : Nat) : wordsOf k (.int i) = some [(toString i : Str)] := by
  rw [words_simple (fun l e => by cases e)]
  show (if 0 ≤ i ∧ i ≤ GR then some (toString i) else none : Option Str).map _ = _
  rw [if_pos ⟨h0, h1⟩]
  rfl
theorem word1_wv_str {s : Str} (h : isNm s = true) (k : Nat) : wordsOf k (.str s) = some ["=" ++ s] := by
  rw [words_simple (fun l e => by cases e)]
  show (if isNm s = true then some ("=" ++ s) else none : Option Str).map _ = _
  rw [if_pos h]
  rfl
theorem wv_words : ∀ {k : Nat} {d : D}, Wv k d → (∃ ws, wordsOf k d = some ws) ∧ wlen d ≤ 4 ^ (k + 1)
  | k, _, .non => ⟨⟨["-"], by cases k <;> rfl⟩, by simp [wlen]; exact Nat.one_le_pow _ _ (by decide)⟩
  | k, _, .int i h0 h1 => ⟨⟨_, word1_wv_int h0 h1 k⟩, by simp [wlen]; exact Nat.one_le_pow _ _ (by decide)⟩
  | k, _, .str s h => ⟨⟨_, word1_wv_str h k⟩, by simp [wlen]; exact Nat.one_le_pow _ _ (by decide)⟩
  | k + 1, _, .tup l hl hx => by
    have key : ∀ m : List D, (∀ x ∈ m, x ∈ l) → (∃ ws, wordsAll (wordsOf k) m = some ws) ∧ wlens m ≤ m.length * 4 ^ (k + 1) := by
      intro m
      induction m with
      | nil => intro _; exact ⟨⟨[], rfl⟩, by simp [wlens]⟩
      | cons a m ih =>
        intro h
        obtain ⟨⟨ws, e⟩, h1⟩ := wv_words (hx a (h a List.mem_cons_self))
        obtain ⟨⟨zs, e2⟩, h2⟩ := ih fun x hx => h x (List.mem_cons_of_mem _ hx)
        refine ⟨⟨ws ++ zs, by rw [wordsAll_cons, e, e2]; rfl⟩, ?_⟩
        simp only [wlens, List.length_cons, Nat.add_mul, Nat.one_mul]
        omega
    obtain ⟨⟨ws, e⟩, h1⟩ := key l fun x h => h
    refine ⟨⟨_, by simp only [wordsOf, e]; rfl⟩, ?_⟩
    simp only [wlen]
    have h3 : l.length * 4 ^ (k + 1) ≤ 3 * 4 ^ (k + 1) := Nat.mul_le_mul_right _ hl
    have h4 : 4 ^ (k + 1 + 1) = 4 * 4 ^ (k + 1) := by rw [Nat.pow_succ]; omega
    have h5 : 4 ≤ 4 ^ (k + 1) := by rw [Nat.pow_succ]; have := Nat.one_le_pow k 4 (by decide); omega
    omega
theorem words_go {n k : Nat} {a0 : Option D} {M : DHp} {W : WXd} (hk : k < n) (hk8 : k ≤ 8) {Dd : DEnds} : ∀ (l : List D) (acc : List Str) (a2 : Option D), (∀ x ∈ l, Wv k x) → acc.length + wlens l ≤ sizeLine →
    (∀ ws a2, wordsAll (wordsOf k) l = some ws → Dd.nx [a0, some (.lst ((acc ++ ws).map D.str)), a2] M) →
    forRec (dgName 2) (dSet 1 (dOp rdAdd (dVar 1) (dCallF W (S30 n) (dCons (dVar 2) dNil)))) l Dd [a0, some (.lst (acc.map D.str)), a2] M
  | [], acc, a2, _, _, hq => by
    have := hq [] a2 rfl
    rw [List.append_nil] at this
    exact this
  | x :: l, acc, a2, hx, hz, hq => by
    have hwx := hx x List.mem_cons_self
    refine ⟨x, k, rfl, hk, hk8, hwx, fun ws hws => ?_⟩
    have hlen := words_len k x ws hws
    have hz' : acc.length + (wlen x + wlens l) ≤ sizeLine := hz
    refine ⟨acc.map D.str, ws.map D.str, rfl, rfl, by rw [List.length_map, List.length_map]; omega, ?_⟩
    rw [← List.map_append]
    refine words_go hk hk8 l (acc ++ ws) _ (fun y hy => hx y (List.mem_cons_of_mem _ hy)) (by rw [List.length_append]; omega) fun zs a2 hzs => ?_
    have := hq (ws ++ zs) a2 (by rw [wordsAll_cons, hws, hzs]; rfl)
    rw [← List.append_assoc] at this
    exact this
theorem rd30 (T : Tx P K mg) {n : Nat} {ds : List D} {M : DHp} {Q : QD} {E : XD} (h : (S30 (n + 1)) ds M Q E) : t30 T n (wF E) { nx := fun _ M' => Q .non M', rt := Q } (startD N30 ds) M := by
  obtain ⟨d, k, rfl, hk, hk8, hw, hq⟩ := h
  cases hw with
  | non =>
    simp [t30, dRet, dRetN, dSeq, dIf, dAndV, dOrV, dNotV, dAnd, dOr, dNot, dB, dCall, dCallF, dCons, dNil, dVar, dC, dUn, dOp, dChain, dIfE, dSet, dAsg, dDrop, dPar, dPar3, dNext, dTup, dLst, dMeth, dSl, dPart, dNo, dSplit, dJoin, dJoined2, dStar, dgName, dgCons, dgNil, dgTup, dgSub, startD, rdNeg, rdLe, rdLt, rdGt, rdGe, rdIsi, rdLen, tyD, seqOf, lstOf, rdSub, rdIsN, rdNotN, isNonD, rdFmt, rdSl, kb_NoneType_int, kb_NoneType_bool, kb_NoneType_str, kb_NoneType_tuple, kb_bool_int, kb_bool_bool, kb_bool_str, kb_bool_tuple, kb_int_int, kb_int_bool, kb_int_str, kb_int_tuple, kb_str_int, kb_str_bool, kb_str_str, kb_str_tuple, kb_tuple_int, kb_tuple_bool, kb_tuple_str, kb_tuple_tuple, kb_list_int, kb_list_bool, kb_list_str, kb_list_tuple, kb_dict_int, kb_dict_bool, kb_dict_str, kb_dict_tuple, rdEq_int]
    exact ⟨by decide, hq ["-"] (by cases k <;> rfl)⟩
  | int i h0 h1 =>
    simp [t30, dRet, dRetN, dSeq, dIf, dAndV, dOrV, dNotV, dAnd, dOr, dNot, dB, dCall, dCallF, dCons, dNil, dVar, dC, dUn, dOp, dChain, dIfE, dSet, dAsg, dDrop, dPar, dPar3, dNext, dTup, dLst, dMeth, dSl, dPart, dNo, dSplit, dJoin, dJoined2, dStar, dgName, dgCons, dgNil, dgTup, dgSub, startD, rdNeg, rdLe, rdLt, rdGt, rdGe, rdIsi, rdLen, tyD, seqOf, lstOf, rdSub, rdIsN, rdNotN, isNonD, rdFmt, rdSl, kb_NoneType_int, kb_NoneType_bool, kb_NoneType_str, kb_NoneType_tuple, kb_bool_int, kb_bool_bool, kb_bool_str, kb_bool_tuple, kb_int_int, kb_int_bool, kb_int_str, kb_int_tuple, kb_str_int, kb_str_bool, kb_str_str, kb_str_tuple, kb_tuple_int, kb_tuple_bool, kb_tuple_str, kb_tuple_tuple, kb_list_int, kb_list_bool, kb_list_str, kb_list_tuple, kb_dict_int, kb_dict_bool, kb_dict_str, kb_dict_tuple, rdEq_int]
    refine ⟨_, rfl, ⟨⟨_, rfl⟩, fun s e => by cases e⟩, ?_⟩
    rw [show isNat (.int i) = true from decide_eq_true h0]
    exact ⟨log_of h0 (Int.le_trans h1 (by decide)), by decide, hq _ (word1_wv_int h0 h1 k)⟩
  | str s hs =>
    have hl := isNm_len hs
    simp [t30, dRet, dRetN, dSeq, dIf, dAndV, dOrV, dNotV, dAnd, dOr, dNot, dB, dCall, dCallF, dCons, dNil, dVar, dC, dUn, dOp, dChain, dIfE, dSet, dAsg, dDrop, dPar, dPar3, dNext, dTup, dLst, dMeth, dSl, dPart, dNo, dSplit, dJoin, dJoined2, dStar, dgName, dgCons, dgNil, dgTup, dgSub, startD, rdNeg, rdLe, rdLt, rdGt, rdGe, rdIsi, rdLen, tyD, seqOf, lstOf, rdSub, rdIsN, rdNotN, isNonD, rdFmt, rdSl, kb_NoneType_int, kb_NoneType_bool, kb_NoneType_str, kb_NoneType_tuple, kb_bool_int, kb_bool_bool, kb_bool_str, kb_bool_tuple, kb_int_int, kb_int_bool, kb_int_str, kb_int_tuple, kb_str_int, kb_str_bool, kb_str_str, kb_str_tuple, kb_tuple_int, kb_tuple_bool, kb_tuple_str, kb_tuple_tuple, kb_list_int, kb_list_bool, kb_list_str, kb_list_tuple, kb_dict_int, kb_dict_bool, kb_dict_str, kb_dict_tuple, rdEq_int]
    refine ⟨_, rfl, ⟨⟨_, rfl⟩, fun z e => by cases e; omega⟩, ?_⟩
    refine ⟨_, rfl, ⟨⟨_, rfl⟩, fun z e => by cases e; omega⟩, ?_⟩
    show if isNm s = true then _ else _
    rw [if_pos hs]
    exact ⟨le_size (by show 1 + s.length ≤ _; omega), by decide, hq _ (word1_wv_str hs k)⟩
  | tup l hl hx =>
    simp [t30, dRet, dRetN, dSeq, dIf, dAndV, dOrV, dNotV, dAnd, dOr, dNot, dB, dCall, dCallF, dCons, dNil, dVar, dC, dUn, dOp, dChain, dIfE, dSet, dAsg, dDrop, dPar, dPar3, dNext, dTup, dLst, dMeth, dSl, dPart, dNo, dSplit, dJoin, dJoined2, dStar, dgName, dgCons, dgNil, dgTup, dgSub, startD, rdNeg, rdLe, rdLt, rdGt, rdGe, rdIsi, rdLen, tyD, seqOf, lstOf, rdSub, rdIsN, rdNotN, isNonD, rdFmt, rdSl, kb_NoneType_int, kb_NoneType_bool, kb_NoneType_str, kb_NoneType_tuple, kb_bool_int, kb_bool_bool, kb_bool_str, kb_bool_tuple, kb_int_int, kb_int_bool, kb_int_str, kb_int_tuple, kb_str_int, kb_str_bool, kb_str_str, kb_str_tuple, kb_tuple_int, kb_tuple_bool, kb_tuple_str, kb_tuple_tuple, kb_list_int, kb_list_bool, kb_list_str, kb_list_tuple, kb_dict_int, kb_dict_bool, kb_dict_str, kb_dict_tuple, rdEq_int, dFor, diTup]
    refine ⟨_, rfl, ⟨⟨_, rfl⟩, fun z e => by cases e⟩, ?_⟩
    refine ⟨_, rfl, ⟨⟨_, rfl⟩, fun z e => by cases e⟩, ?_⟩
    have hb := (wv_words (.tup l hl hx)).2
    rename_i k
    have hp : 4 ^ (k + 1 + 1) ≤ 4 ^ 9 := Nat.pow_le_pow_right (by decide) (by omega)
    have hs : 4 ^ 9 + 10 ≤ sizeLine := by decide
    have hwl : wlen (.tup l) = 2 + wlens l := by simp [wlen]
    refine ⟨by decide, ?_⟩
    refine words_go (k := k) (by omega) (by omega) l ["("] none hx (by show 1 + _ ≤ _; omega) fun ws a2 hws => ?_
    have hlen := words_lens k l ws hws
    have e : wordsOf (k + 1) (.tup l) = some (("(" : Str) :: (ws ++ [(")" : Str)])) := by simp [wordsOf, hws]
    have q := hq _ e
    refine ⟨(by decide : 1 ≤ sizeLine), (("(" : Str) :: ws).map D.str, [.str ")"], rfl, rfl, ?_, ?_⟩
    · rw [List.length_map]
      show ws.length + 1 + 1 ≤ sizeLine
      omega
    · have e2 : (("(" : Str) :: ws).map D.str ++ [D.str ")"] = (("(" : Str) :: (ws ++ [(")" : Str)])).map D.str := by simp
      rw [e2]
      exact q
end Dl
set_option Elab.async false
set_option linter.all false
set_option maxRecDepth 100000
set_option maxHeartbeats 4000000
namespace Dl
open PySem PySem.Spec PyProof.Rows L2
variable {P : Program} {K : PySem.W.Frag} {mg : Str → Option Value}
theorem Hid.mono {o d : D} {n : Nat} (h : Hid o n d) : ∀ m, n ≤ m → Hid o m d := by
  induction h with
  | here => exact fun m _ => .here
  | tup l r x h1 h2 h3 h4 _ ih =>
    intro m hm
    cases m with
    | zero => omega
    | succ m => exact .tup l r x h1 h2 h3 h4 (ih m (by omega))
theorem hid_go {W : WXd} {p : Addr} {d : D} {M : DHp} {Dd : DEnds} : ∀ (xs : List D) (k c : Nat) (v : D) (x y z : Int) (a2 : Option D), Hid d k v → c + xs.length < 2 ^ 201 → Mil c x y z →
    (∀ v' x y z a2, Hid d (k + xs.length) v' → Mil (c + xs.length) x y z → Dd.nx [some (.ref p), some v', a2] (updD M p (millD x y z))) →
    forRec (dgName 2) (dSet 1 (dCallF W S23 (dCons (dVar 0) (dCons (dLst (dCons (dTup (dCons (dVar 1) dNil)) (dCons (dTup (dCons (dC (D.int 0)) (dCons (dVar 1) dNil))) (dCons (dTup (dCons (dVar 1) (dCons (dC (D.str (Str.ofString "a"))) dNil))) (dCons (dTup (dCons (dTup dNil) (dCons (dVar 1) (dCons (dC D.non) dNil)))) dNil))))) dNil)))) xs Dd [some (.ref p), some v, a2] (updD M p (millD x y z))
  | [], k, c, v, x, y, z, a2, hh, _, hm, hq => hq v x y z a2 hh hm
  | _ :: xs, k, c, v, x, y, z, a2, hh, hc, hm, hq => by
    have hc' : c + (xs.length + 1) < 2 ^ 201 := hc
    simp [forRec, dRet, dRetN, dSeq, dIf, dAndV, dOrV, dNotV, dAnd, dOr, dNot, dB, dCall, dCallF, dCons, dNil, dVar, dC, dUn, dOp, dChain, dIfE, dSet, dAsg, dDrop, dPar, dPar3, dNext, dTup, dLst, dMeth, dSl, dPart, dNo, dSplit, dJoin, dJoined2, dStar, dgName, dgCons, dgNil, dgTup, dgSub, startD, rdNeg, rdLe, rdLt, rdGt, rdGe, rdIsi, rdLen, tyD, seqOf, lstOf, rdSub, rdIsN, rdNotN, isNonD, rdFmt, rdSl]
    refine ⟨by decide, by decide, by decide, by decide, p, _, c, rfl, by simp, by simp, by omega, x, y, z, updD_same, hm, ?_⟩
    intro v' x1 y1 z1 hv hm1
    rw [updD_updD]
    refine hid_go xs (k + 1) (c + 1) v' x1 y1 z1 _ ?_ (by omega) hm1 fun v2 x2 y2 z2 a2 h2 hm2 => hq v2 x2 y2 z2 a2 (by rw [List.length_cons, Nat.add_comm xs.length 1, ← Nat.add_assoc]; exact h2) (by rw [List.length_cons, Nat.add_comm xs.length 1, ← Nat.add_assoc]; exact hm2)
    simp at hv
    rcases hv with rfl | rfl | rfl | rfl
    · exact .tup [] [] v (by simp) (by simp) (by simp) (by simp) hh
    · exact .tup [.int 0] [] v (by simp) (by simp) (by simp [beside]) (by simp) hh
    · exact .tup [] [.str "a"] v (by simp) (by simp) (by simp) (by simp [beside]) hh
    · exact .tup [.tup []] [.non] v (by simp) (by simp) (by simp [beside]) (by simp [beside]) hh
theorem rd38 (T : Tx P K mg) {ds : List D} {M : DHp} {Q : QD} {E : XD} (h : S38 ds M Q E) : t38 T (wF E) { nx := fun _ M' => Q .non M', rt := Q } (startD N38 ds) M := by
  obtain ⟨p, c, d, rfl, hc, x, y, z, hp, hm, hq⟩ := h
  simp [t38, dRet, dRetN, dSeq, dIf, dAndV, dOrV, dNotV, dAnd, dOr, dNot, dB, dCall, dCallF, dCons, dNil, dVar, dC, dUn, dOp, dChain, dIfE, dSet, dAsg, dDrop, dPar, dPar3, dNext, dTup, dLst, dMeth, dSl, dPart, dNo, dSplit, dJoin, dJoined2, dStar, dgName, dgCons, dgNil, dgTup, dgSub, startD, rdNeg, rdLe, rdLt, rdGt, rdGe, rdIsi, rdLen, tyD, seqOf, lstOf, rdSub, rdIsN, rdNotN, isNonD, rdFmt, rdSl, kb_NoneType_int, kb_NoneType_bool, kb_NoneType_str, kb_NoneType_tuple, kb_bool_int, kb_bool_bool, kb_bool_str, kb_bool_tuple, kb_int_int, kb_int_bool, kb_int_str, kb_int_tuple, kb_str_int, kb_str_bool, kb_str_str, kb_str_tuple, kb_tuple_int, kb_tuple_bool, kb_tuple_str, kb_tuple_tuple, kb_list_int, kb_list_bool, kb_list_str, kb_list_tuple, kb_dict_int, kb_dict_bool, kb_dict_str, kb_dict_tuple, rdEq_int, dFor, diRng]
  refine ⟨p, 4, c, rfl, by omega, by omega, by omega, x, y, z, hp, hm, ?_⟩
  rintro _ x1 y1 z1 ⟨n, rfl, hn0, hn⟩ hm1
  refine ⟨⟨by omega, by omega⟩, ?_⟩
  have hln : (rngD 0 n.toNat).length ≤ 3 := by rw [rngD_len]; omega
  refine hid_go (d := d) (M := M) (rngD 0 n.toNat) 0 (c + 1) d x1 y1 z1 none .here (by omega) hm1 fun v' x2 y2 z2 a2 h2 hm2 => ?_
  exact hq _ _ _ _ (h2.mono 3 (by omega)) (hm2.mono (by omega))
end Dl
set_option Elab.async false
set_option linter.all false
set_option maxRecDepth 100000
set_option maxHeartbeats 4000000
/-! PL: plain laws of k83: where the brackets are not too deep both readings agree; the words of drawn texts; what is read can be shown. -/
namespace Dl
open PySem PySem.Spec PyProof.Rows L2
theorem single_open : singleOf "(" = [] := by
  unfold singleOf
  rw [if_neg (by decide), if_neg (by decide +kernel), numOf_no (fun z => absurd z.2.2 (by decide +kernel))]
theorem single_close : singleOf ")" = [] := by
  unfold singleOf
  rw [if_neg (by decide), if_neg (by decide +kernel), numOf_no (fun z => absurd z.2.2 (by decide +kernel))]
theorem dep_le (p : Int × Int) (w : Str) : p.2 ≤ (depStep p w).2 ∧ (depStep p w).1 ≤ (depStep p w).2 := by
  have key : ∀ f m : Int, m ≤ (if f > m then f else m) ∧ f ≤ (if f > m then f else m) := by
    intro f m
    split <;> omega
  exact key _ _
theorem dep_mono : ∀ (ws : List Str) (p : Int × Int), p.2 ≤ (ws.foldl depStep p).2
  | [], _ => Int.le_refl _
  | w :: ws, p => Int.le_trans (dep_le p w).1 (dep_mono ws (depStep p w))
theorem dep_open {p : Int × Int} {w : Str} (c : w = "(") : (depStep p w).1 = p.1 + 1 := by
  show p.1 + (if w = "(" then 1 else 0) - (if w = ")" then 1 else 0) = p.1 + 1
  rw [if_pos c, if_neg (fun z => by rw [c] at z; exact absurd z (by decide))]
  omega
theorem dep_close {p : Int × Int} {w : Str} (c : w = ")") : (depStep p w).1 = p.1 - 1 := by
  show p.1 + (if w = "(" then 1 else 0) - (if w = ")" then 1 else 0) = p.1 - 1
  rw [if_pos c, if_neg (fun z => by rw [c] at z; exact absurd z (by decide))]
  omega
theorem dep_other {p : Int × Int} {w : Str} (c : w ≠ "(") (c2 : w ≠ ")") : (depStep p w).1 = p.1 := by
  show p.1 + (if w = "(" then 1 else 0) - (if w = ")" then 1 else 0) = p.1
  rw [if_neg c, if_neg c2]
  omega
theorem runs_agree : ∀ (ws : List Str) (rows : List (List D)) (p : Int × Int), p.1 = (rows.length : Int) - 1 → rows ≠ [] → (ws.foldl depStep p).2 < 9 → runW valStep rows ws = runW meanStep rows ws
  | [], _, _, _, _, _ => rfl
  | w :: ws, [], _, _, hn, _ => absurd rfl hn
  | w :: ws, r :: rows, p, hp, _, h => by
    have h : (ws.foldl depStep (depStep p w)).2 < 9 := h
    have h0 := dep_mono ws (depStep p w)
    have h1 := (dep_le p w).2
    have hlen : ((r :: rows).length : Int) = (rows.length : Int) + 1 := by simp
    simp only [runW]
    by_cases c1 : w = "("
    · have e := dep_open (p := p) c1
      have hl : (r :: rows).length ≤ 8 := by omega
      rw [val_open ⟨c1, hl⟩, mean_open c1]
      exact runs_agree ws ([] :: r :: rows) _ (by rw [e, hp]; simp) (by simp) h
    · by_cases c2 : w = ")"
      · have e := dep_close (p := p) c2
        cases rows with
        | nil =>
          rw [mean_none c2, val_single (fun z => c1 z.1) (fun z => absurd z.2 (by simp)), c2, single_close]
          rfl
        | cons q l =>
          rw [val_close c2, mean_close c2]
          exact runs_agree ws ((q ++ [.tup r]) :: l) _ (by rw [e, hp]; simp) (by simp) h
      · have e := dep_other (p := p) c1 c2
        rw [val_single (fun z => c1 z.1) (fun z => c2 z.1), mean_single c1 c2]
        by_cases hs : singleOf w = []
        · rw [if_pos hs]
        · rw [if_neg hs]
          exact runs_agree ws ((r ++ singleOf w) :: rows) _ (by rw [e, hp]; simp) (by simp) h
theorem runW_app {f : List (List D) → Str → Option (List (List D))} : ∀ (a b : List Str) (rows : List (List D)), runW f rows (a ++ b) = match runW f rows a with
    | some r => runW f r b
    | none => none
  | [], b, rows => rfl
  | w :: a, b, rows => by
    simp only [List.cons_append, runW]
    cases e : f rows w with
    | none => rfl
    | some r => exact runW_app a b r
theorem run_ne {f : List (List D) → Str → Option (List (List D))} (hf : ∀ w rows rows', f rows w = some rows' → rows ≠ [] → rows' ≠ []) : ∀ (ws : List Str) (rows rows' : List (List D)), rows ≠ [] → runW f rows ws = some rows' → rows' ≠ []
  | [], rows, rows', h, e => by cases e; exact h
  | w :: ws, rows, rows', h, e => by
    simp only [runW] at e
    cases e2 : f rows w with
    | none => rw [e2] at e; cases e
    | some r => rw [e2] at e; exact run_ne hf ws r rows' (hf w rows r e2 h) e
theorem agree {init : List Str} {x : Str} (h : (init.foldl depStep (0, 0)).2 < 9) : valueOf (init ++ [x]) = meantOf (init ++ [x]) := by
  unfold valueOf meantOf
  rw [runW_app, runW_app, runs_agree init [[]] (0, 0) (by simp) (by simp) h]
  cases e : runW meanStep [[]] init with
  | none => rfl
  | some rows =>
    have hn := run_ne (fun w rows rows' e hn => (mean_grow e hn).1) init [[]] rows (by simp) e
    cases rows with
    | nil => exact absurd rfl hn
    | cons r rows =>
      show endW (runW valStep (r :: rows) [x]) = endW (runW meanStep (r :: rows) [x])
      simp only [runW]
      by_cases c1 : x = "("
      · rw [mean_open c1]
        by_cases hl : (r :: rows).length ≤ 8
        · rw [val_open ⟨c1, hl⟩]
        · rw [val_single (fun z => hl z.2) (fun z => by rw [c1] at z; exact absurd z.1 (by decide)), c1, single_open]
          rfl
      · by_cases c2 : x = ")"
        · cases rows with
          | nil =>
            rw [mean_none c2, val_single (fun z => c1 z.1) (fun z => absurd z.2 (by simp)), c2, single_close]
            rfl
          | cons q l => rw [val_close c2, mean_close c2]
        · rw [val_single (fun z => c1 z.1) (fun z => c2 z.1), mean_single c1 c2]
/-! ### the first line's words -/
theorem join_cons {sep a : Str} {l : List Str} (h : l ≠ []) : Str.join sep (a :: l) = a ++ sep ++ Str.join sep l := by
  cases l with
  | nil => exact absurd rfl h
  | cons b l => rfl
theorem str_assoc (a b c : Str) : a ++ b ++ c = a ++ (b ++ c) := str_ext (by simp only [cps_toList_append, List.append_assoc])
theorem str_empty (a : Str) : a ++ "" = a := str_ext (by rw [cps_toList_append]; exact List.append_nil _)
theorem join_last (sep x u : Str) : ∀ init : List Str, Str.join sep (init ++ [x]) ++ u = Str.join sep (init ++ [x ++ u])
  | [] => rfl
  | a :: init => by
    rw [List.cons_append, List.cons_append, join_cons (by simp), join_cons (by simp), str_assoc, str_assoc, join_last sep x u init, ← str_assoc]
theorem join_in (sep : Str) (q : List Str) (hq : q ≠ []) : ∀ init : List Str, Str.join sep (init ++ [Str.join sep q]) = Str.join sep (init ++ q)
  | [] => rfl
  | a :: init => by
    rw [List.cons_append, List.cons_append, join_cons (by simp), join_cons (by simp [hq]), join_in sep q hq init]
theorem split_line (t : Str) : ∃ l0 ls u, Txt.split t "\n" = l0 :: ls ∧ t = l0 ++ u := by
  cases e : Txt.split t "\n" with
  | nil => exact absurd e (split_ne _ _)
  | cons l0 ls =>
    have h := StrLaws.join_split t "\n"
    rw [e] at h
    cases ls with
    | nil => exact ⟨l0, [], "", rfl, by rw [str_empty]; exact h.symm⟩
    | cons b ls =>
      refine ⟨l0, _, "\n" ++ Str.join "\n" (b :: ls), rfl, ?_⟩
      rw [← str_assoc]
      exact h.symm
theorem sp_is : (" " : Str) = ⟨#[32]⟩ := rfl
theorem nl_is : ("\n" : Str) = ⟨#[10]⟩ := rfl
theorem first_split (t : Str) : ∃ init x y rest, firstLine t = init ++ [x] ∧ Txt.split t " " = init ++ y :: rest := by
  obtain ⟨l0, ls, u, hs, ht⟩ := split_line t
  have hf : firstLine t = Txt.split l0 " " := by unfold firstLine; rw [hs]
  have hne := split_ne l0 " "
  have hj := StrLaws.join_split l0 " "
  have hfree := split_free (x := l0) (c := 32) (by decide)
  rw [← sp_is] at hfree
  have hd := List.dropLast_concat_getLast hne
  generalize (Txt.split l0 " ").dropLast = init at hd
  generalize (Txt.split l0 " ").getLast hne = x at hd
  have hq := split_ne (x ++ u) " "
  have hqj := StrLaws.join_split (x ++ u) " "
  have hqf := split_free (x := x ++ u) (c := 32) (by decide)
  rw [← sp_is] at hqf
  have e1 : t = Str.join " " (init ++ Txt.split (x ++ u) " ") := by
    rw [← join_in " " _ hq, hqj, ← join_last, hd, hj]
    exact ht
  have e2 : Txt.split t " " = init ++ Txt.split (x ++ u) " " := by
    have := split_join (c := 32) (by decide) (l := init ++ Txt.split (x ++ u) " ") (by simp [hq]) (fun w hw => by
      rcases List.mem_append.mp hw with h | h
      · exact hfree w (by rw [← hd]; exact List.mem_append_left _ h)
      · exact hqf w h)
    rw [← sp_is, ← e1] at this
    exact this
  cases eq : Txt.split (x ++ u) " " with
  | nil => exact absurd eq hq
  | cons y rest => exact ⟨init, x, y, rest, by rw [hf, hd], by rw [e2, eq]⟩
/-- where the brackets are not too deep, the package reads what is due -/
theorem due_is {t : Str} (h : depOf t < 9) : dueOf t = readOf t := by
  obtain ⟨init, x, y, rest, h1, h2⟩ := first_split t
  have e : valueOf (firstLine t) = meantOf (firstLine t) := by
    rw [h1]
    refine agree (Int.lt_of_le_of_lt ?_ h)
    unfold depOf
    rw [h2, List.foldl_append]
    exact dep_mono _ _
  unfold dueOf readOf
  rw [e]
/-! ### drawn texts -/
theorem mem_jn {c x : Nat} : ∀ {l : List (List Nat)}, x ∈ jn c l → x = c ∨ ∃ a ∈ l, x ∈ a
  | [a], h => .inr ⟨a, List.mem_cons_self, h⟩
  | a :: b :: r, h => by
    have h : x ∈ a ++ c :: jn c (b :: r) := h
    rcases List.mem_append.mp h with h | h
    · exact .inr ⟨a, List.mem_cons_self, h⟩
    · rcases List.mem_cons.mp h with h | h
      · exact .inl h
      · rcases mem_jn h with h | ⟨z, hz, h⟩
        · exact .inl h
        · exact .inr ⟨z, List.mem_cons_of_mem _ hz, h⟩
theorem free_join {row : List Str} (hr : ∀ w ∈ row, okWord w) : 10 ∉ (Str.join " " row).cps.toList := fun h => by
  rw [sp_is, jn_join] at h
  rcases mem_jn h with h | ⟨a, ha, h⟩
  · cases h
  · obtain ⟨w, hw, rfl⟩ := List.mem_map.mp ha
    exact ((hr w hw).2 10 h).2 rfl
theorem join_len_le {row : List Str} (hr : ∀ w ∈ row, w.length ≤ 60) : (Str.join " " row).length ≤ row.length * 61 := by
  induction row with
  | nil => exact Nat.zero_le _
  | cons a l ih =>
    have h1 := hr a List.mem_cons_self
    have h2 := ih fun w hw => hr w (List.mem_cons_of_mem _ hw)
    by_cases hl : l = []
    · subst hl
      show a.length ≤ 61
      omega
    · rw [join_cons hl, str_app_len, str_app_len]
      have : (" " : Str).length = 1 := rfl
      rw [List.length_cons, Nat.add_mul, this]
      omega
/-- the row, at least one word -/
theorem row_ne {row : List Str} (hr : ∀ w ∈ row, okWord w) : ∃ row', row' ≠ [] ∧ Str.join " " row = Str.join " " row' ∧ (∀ w ∈ row', okWord w) ∧ row'.length ≤ row.length + 1 := by
  by_cases h : row = []
  · subst h
    exact ⟨[("" : Str)], by simp, rfl, fun w hw => by rw [List.mem_singleton.mp hw]; exact ⟨by decide, fun c hc => by cases hc⟩, by simp⟩
  · exact ⟨row, h, rfl, hr, by omega⟩
theorem split_sp {row : List Str} (hn : row ≠ []) (hr : ∀ w ∈ row, okWord w) : Txt.split (Str.join " " row) " " = row := by
  rw [sp_is]
  exact split_join (by decide) hn fun w hw h => ((hr w hw).2 32 h).1 rfl
theorem first_of_lines {l0 : Str} {ls : List Str} (h0 : 10 ∉ l0.cps.toList) (hl : ∀ w ∈ ls, 10 ∉ w.cps.toList) : Txt.split (Str.join "\n" (l0 :: ls)) "\n" = l0 :: ls := by
  rw [nl_is]
  exact split_join (by decide) (by simp) fun w hw => by
    rcases List.mem_cons.mp hw with rfl | hw
    · exact h0
    · exact hl w hw
/-- what a drawn text ends with -/
def okEnd (s : Str) : Prop := s = "" ∨ s = "\n" ∨ s = "\n0" ∨ s = " " ∨ s = "\n\n"
theorem text_ok {row : List Str} {s : Str} (hr : ∀ w ∈ row, okWord w) (hs : okEnd s) (hl : row.length ≤ 10000) : (Str.join " " row ++ s).length ≤ 900000 ∧ (Txt.split (Str.join " " row ++ s) "\n").length ≤ 1000 ∧ (firstLine (Str.join " " row ++ s)).length ≤ 10003 ∧ ∀ w ∈ firstLine (Str.join " " row ++ s), w.length ≤ 60 := by
  have hsl : s.length ≤ 2 := by rcases hs with rfl | rfl | rfl | rfl | rfl <;> decide
  have h1 := join_len_le (row := row) fun w hw => (hr w hw).1
  refine ⟨by rw [str_app_len]; omega, ?_⟩
  obtain ⟨row', hn, ej, hr', hl'⟩ := row_ne hr
  rw [ej]
  have h0 := free_join hr'
  have hsp := split_sp hn hr'
  have line : ∀ ls : List Str, ls.length ≤ 5 → (∀ w ∈ ls, 10 ∉ w.cps.toList) → Str.join " " row' ++ s = Str.join "\n" (Str.join " " row' :: ls) → (Txt.split (Str.join " " row' ++ s) "\n").length ≤ 1000 ∧ (firstLine (Str.join " " row' ++ s)).length ≤ 10003 ∧ ∀ w ∈ firstLine (Str.join " " row' ++ s), w.length ≤ 60 := fun ls hls hf e => by
    rw [e]
    have e2 := first_of_lines h0 hf
    have e3 : firstLine (Str.join "\n" (Str.join " " row' :: ls)) = row' := by unfold firstLine; rw [e2]; exact hsp
    rw [e3]
    exact ⟨by rw [e2]; simp; omega, by omega, fun w hw => (hr' w hw).1⟩
  rcases hs with rfl | rfl | rfl | rfl | rfl
  · exact line [] (by simp) (by simp) (by rw [str_empty]; rfl)
  · exact line [("" : Str)] (by simp) (by decide) (by rw [join_cons (by simp), str_assoc]; rfl)
  · exact line ["0"] (by simp) (by decide) (by rw [join_cons (by simp), str_assoc]; rfl)
  · have e : Str.join " " row' ++ " " = Str.join " " (row' ++ [("" : Str)]) := by
      have hd := List.dropLast_concat_getLast hn
      generalize row'.dropLast = init at hd
      generalize row'.getLast hn = x at hd
      subst hd
      clear line hsp h0 hr' ej hn hl'
      induction init with
      | nil => show x ++ " " = x ++ " " ++ ""; rw [str_empty]
      | cons a l ih =>
        show Str.join " " (a :: (l ++ [x])) ++ " " = Str.join " " (a :: (l ++ [x] ++ [("" : Str)]))
        rw [join_cons (by simp), join_cons (by simp), str_assoc]
        exact congrArg _ ih
    rw [e]
    have hr2 : ∀ w ∈ row' ++ [("" : Str)], okWord w := fun w hw => by
      rcases List.mem_append.mp hw with h | h
      · exact hr' w h
      · rw [List.mem_singleton.mp h]; exact ⟨by decide, fun c hc => by cases hc⟩
    have e2 := first_of_lines (ls := []) (free_join hr2) (by simp)
    have e3 : Str.join "\n" [Str.join " " (row' ++ [("" : Str)])] = Str.join " " (row' ++ [("" : Str)]) := rfl
    rw [e3] at e2
    have e4 : firstLine (Str.join " " (row' ++ [("" : Str)])) = row' ++ [("" : Str)] := by unfold firstLine; rw [e2]; exact split_sp (by simp) hr2
    rw [e4]
    exact ⟨by rw [e2]; simp, by simp; omega, fun w hw => (hr2 w hw).1⟩
  · exact line ["", ""] (by simp) (by decide) (by rw [join_cons (by simp), str_assoc]; rfl)
/-- the words of a value -/
theorem words_ok {k : Nat} {d : D} {ws : List Str} (h : wordsOf k d = some ws) : ∀ w ∈ ws, okWord w := fun w hw => by
  refine ⟨words_le h w hw, ?_⟩
  have dec : ∀ z : Str, (32 ∉ z.cps.toList ∧ 10 ∉ z.cps.toList) → ∀ c ∈ z.cps.toList, c ≠ 32 ∧ c ≠ 10 := fun z hz c hc => ⟨fun e => hz.1 (e ▸ hc), fun e => hz.2 (e ▸ hc)⟩
  rcases words_word h w hw with rfl | rfl | ⟨x, e⟩
  · exact dec _ (by decide)
  · exact dec _ (by decide)
  · cases x with
    | non => cases e; exact dec _ (by decide)
    | int i =>
      have e : (if 0 ≤ i ∧ i ≤ GR then some (toString i : Str) else none) = some w := e
      split at e
      · cases e
        exact dec _ ⟨cnt_zero.mp (cnt_intText_free 32 (by decide) i), cnt_zero.mp (cnt_intText_free 10 (by decide) i)⟩
      · cases e
    | str s =>
      have e : (if isNm s = true then some ("=" ++ s) else none : Option Str) = some w := e
      split at e
      · rename_i hn
        cases e
        intro c hc
        rw [cps_toList_append] at hc
        rcases List.mem_append.mp hc with hc | hc
        · have : c = 61 := List.mem_singleton.mp hc
          omega
        · unfold isNm at hn
          rw [Bool.and_eq_true] at hn
          have := of_decide_eq_true (List.all_eq_true.mp hn.2 c hc)
          omega
      · cases e
    | _ => cases e
end Dl
set_option Elab.async false
set_option linter.all false
set_option maxRecDepth 100000
set_option maxHeartbeats 4000000
/-! PV: what is read can be shown: its shape, its size, its depth. -/
namespace Dl
open PySem PySem.Spec PyProof.Rows L2
mutual
def good : D → Bool
  | .non => true
  | .int i => decide (0 ≤ i ∧ i ≤ GR)
  | .str s => isNm s
  | .tup l => goods l
  | _ => false
def goods : List D → Bool
  | [] => true
  | d :: l => good d && goods l
end
theorem goods_app : ∀ {a b : List D}, goods a = true → goods b = true → goods (a ++ b) = true
  | [], _, _, h => h
  | d :: a, b, h, h' => by
    simp only [goods, Bool.and_eq_true] at h
    simp only [List.cons_append, goods, Bool.and_eq_true]
    exact ⟨h.1, goods_app h.2 h'⟩
theorem wlens_app : ∀ (a b : List D), wlens (a ++ b) = wlens a + wlens b
  | [], b => by simp [wlens]
  | d :: a, b => by simp only [List.cons_append, wlens, wlens_app a b]; omega
theorem depa_app : ∀ (a b : List D), PyData.depthAll (toPs (a ++ b)) = max (PyData.depthAll (toPs a)) (PyData.depthAll (toPs b))
  | [], b => by simp [toPs, PyData.depthAll]
  | d :: a, b => by simp only [List.cons_append, toPs, PyData.depthAll, depa_app a b, Nat.max_assoc]
theorem tuple_text_le (ts : List Str) : (tupleText ts).length ≤ piled ts + 3 := by
  unfold tupleText
  rw [str_app_len, str_app_len]
  have e1 : ((("(" : String) : Str)).length = 1 := rfl
  have e3 : (((if ts.length == 1 then ",)" else ")" : String) : Str)).length ≤ 2 := by split <;> decide
  rw [e1]
  by_cases h : ts = []
  · subst h
    have e : (Str.join ", " ([] : List Str)).length = 0 := rfl
    rw [e]; omega
  · have := join_length_add ts h
    omega
theorem list_text_le (ts : List Str) : (listText ts).length ≤ piled ts + 2 := by
  cases ts with
  | nil => decide +kernel
  | cons t r =>
    have h := textFrom_length_pos r 1 (("[" : Str) ++ (if (0 : Nat) > 0 then ", " else "" : String) ++ t) (Nat.succ_pos 0)
    have e : ((("[" : Str) ++ (if (0 : Nat) > 0 then ", " else "" : String) ++ t)).length = 1 + t.length := by
      rw [str_app_len, str_app_len]; rfl
    have hX : (listText (t :: r)).length = (textFrom 0 "[" (t :: r)).length + 1 := by
      show (textFrom 0 "[" (t :: r) ++ "]").length = _
      rw [str_app_len]; rfl
    have hY : (textFrom 0 "[" (t :: r)).length = (textFrom 1 (("[" : Str) ++ (if (0 : Nat) > 0 then ", " else "" : String) ++ t) r).length := rfl
    rw [piled_cons]
    omega
theorem nm_small {s : Str} (h : isNm s = true) : (reprText s).length ≤ 82 := by
  have h1 := isNm_len h
  unfold isNm at h
  rw [Bool.and_eq_true] at h
  have := StrLaws.reprText_len s fun c hc => by
    have := of_decide_eq_true (List.all_eq_true.mp h.2 c hc)
    have : (16 : Nat) ^ 8 > 122 := by decide
    omega
  omega
mutual
theorem good_shown : ∀ d : D, good d = true → (toP d).showable = true ∧ (toP d).shown.length + 2 ≤ 90 * wlen d
  | .non, _ => ⟨rfl, by simp only [toP, PyData.shown, wlen]; decide⟩
  | .int i, h => by
    have h : decide (0 ≤ i ∧ i ≤ GR) = true := h
    have h := of_decide_eq_true h
    refine ⟨?_, ?_⟩
    · simp only [toP, PyData.showable]
      exact decide_eq_true (log_of h.1 (Int.le_trans h.2 (by decide)))
    · simp only [toP, PyData.shown, wlen]
      have := toString_length_le (k := 60) h.1 (by decide) (Int.lt_of_le_of_lt h.2 (by decide))
      omega
  | .str s, h => by
    have := nm_small (s := s) h
    exact ⟨rfl, by simp only [toP, PyData.shown, wlen]; omega⟩
  | .tup l, h => by
    obtain ⟨h1, h2⟩ := goods_shown l (by simpa [good] using h)
    refine ⟨by simpa [toP, PyData.showable] using h1, ?_⟩
    simp only [toP, PyData.shown, wlen]
    have := tuple_text_le (PyData.shownAll (toPs l))
    omega
theorem goods_shown : ∀ l : List D, goods l = true → PyData.showableAll (toPs l) = true ∧ piled (PyData.shownAll (toPs l)) ≤ 90 * wlens l
  | [], _ => ⟨rfl, by simp [toPs, PyData.shownAll, piled]⟩
  | d :: l, h => by
    simp only [goods, Bool.and_eq_true] at h
    obtain ⟨h1, h2⟩ := good_shown d h.1
    obtain ⟨h3, h4⟩ := goods_shown l h.2
    refine ⟨by simp only [toPs, PyData.showableAll, h1, h3, Bool.and_self], ?_⟩
    simp only [toPs, PyData.shownAll, wlens]
    rw [piled_cons]
    omega
end
/-- a number's value -/
theorem digits_lt : ∀ (cs : List Nat) (a : Nat), (∀ c ∈ cs, c ≤ 57) → cs.foldl (fun acc c => acc * 10 + (c - 48)) a < (a + 1) * 10 ^ cs.length
  | [], a, _ => by simp
  | c :: cs, a, h => by
    have h1 := h c List.mem_cons_self
    have h2 := digits_lt cs (a * 10 + (c - 48)) fun x hx => h x (List.mem_cons_of_mem _ hx)
    rw [List.foldl_cons, List.length_cons, Nat.pow_succ]
    refine Nat.lt_of_lt_of_le h2 ?_
    have h3 : a * 10 + (c - 48) + 1 ≤ (a + 1) * 10 := by omega
    calc (a * 10 + (c - 48) + 1) * 10 ^ cs.length ≤ ((a + 1) * 10) * 10 ^ cs.length := Nat.mul_le_mul_right _ h3
      _ = (a + 1) * (10 ^ cs.length * 10) := by rw [Nat.mul_assoc, Nat.mul_comm 10]
theorem numOf_range {w : Str} {n : Int} (h : numOf w = some n) : 0 ≤ n ∧ n ≤ GR := by
  unfold numOf at h
  split at h
  · rename_i c
    split at h
    · cases h
    · have hl : w.cps.toList.length = w.length := Array.length_toList
      have hd : NumText.AllDigits w.cps.toList := fun x hx => of_decide_eq_true (List.all_eq_true.mp c.2.2 x hx)
      have e := intText_digits hd (by intro e; rw [e] at hl; have := c.1; simp at hl; omega) (by have := c.2.1; omega)
      rw [e] at h
      simp only [Option.getD_some, Option.some.injEq] at h
      have h2 := digits_lt w.cps.toList 0 fun x hx => (hd x hx).2
      have h3 : (10 : Nat) ^ w.cps.toList.length ≤ 10 ^ 60 := Nat.pow_le_pow_right (by decide) (by rw [hl]; exact c.2.1)
      have h4 : NumText.digitsVal w.cps.toList < 10 ^ 60 := by
        unfold NumText.digitsVal
        omega
      have h5 : GR = 10 ^ 60 - 1 := rfl
      omega
  · cases h
theorem single_good (w : Str) : goods (singleOf w) = true ∧ wlens (singleOf w) ≤ 1 ∧ PyData.depthAll (toPs (singleOf w)) = 0 := by
  unfold singleOf
  split
  · exact ⟨rfl, by simp [wlens, wlen], rfl⟩
  · split
    · split
      · rename_i h
        exact ⟨by simp [goods, good, h], by simp [wlens, wlen], rfl⟩
      · exact ⟨rfl, by simp [wlens], rfl⟩
    · split
      · rename_i n h
        have := numOf_range h
        exact ⟨by simp [goods, good, this], by simp [wlens, wlen], rfl⟩
      · exact ⟨rfl, by simp [wlens], rfl⟩
def wrows : List (List D) → Nat
  | [] => 0
  | r :: l => wlens r + 1 + wrows l
def lvl : List (List D) → Prop
  | [] => True
  | r :: l => PyData.depthAll (toPs r) + (l.length + 1) ≤ 9 ∧ lvl l
def RI (n : Nat) (rows : List (List D)) : Prop := (∀ r ∈ rows, goods r = true) ∧ wrows rows ≤ n ∧ lvl rows
theorem RI.step {n : Nat} {rows rows' : List (List D)} {w : Str} (h : RI n rows) (e : valStep rows w = some rows') : RI (n + 1) rows' := by
  obtain ⟨h1, h2, h3⟩ := h
  unfold valStep at e
  split at e
  · rename_i c
    cases e
    refine ⟨fun r hr => ?_, by simp only [wrows, wlens]; omega, by simp only [toPs, PyData.depthAll]; omega, h3⟩
    rcases List.mem_cons.mp hr with rfl | hr
    · rfl
    · exact h1 r hr
  · split at e
    · split at e
      · rename_i r q l _ _
        cases e
        simp only [wrows] at h2
        obtain ⟨g1, g2, g3⟩ := h3
        refine ⟨fun x hx => ?_, ?_, ?_, g3⟩
        · rcases List.mem_cons.mp hx with rfl | hx
          · exact goods_app (h1 q (by simp)) (by simp only [goods, good, h1 r List.mem_cons_self, Bool.and_self])
          · exact h1 x (by simp [hx])
        · simp only [wrows, wlens_app, wlens, wlen]
          omega
        · rw [depa_app]
          simp only [toPs, toP, PyData.depthAll, PyData.depth]
          simp only [List.length_cons] at g1
          omega
      · cases e
    · obtain ⟨s1, s2, s3⟩ := single_good w
      split at e
      · cases e
      · rename_i r l _ _ _
        cases e
        obtain ⟨g1, g2⟩ := h3
        simp only [wrows] at h2
        refine ⟨fun x hx => ?_, ?_, ?_, g2⟩
        · rcases List.mem_cons.mp hx with rfl | hx
          · exact goods_app (h1 r List.mem_cons_self) s1
          · exact h1 x (by simp [hx])
        · simp only [wrows, wlens_app]
          omega
        · rw [depa_app, s3]
          omega
      · cases e
theorem RI.run : ∀ (ws : List Str) {n : Nat} {rows rows' : List (List D)}, RI n rows → runW valStep rows ws = some rows' → RI (n + ws.length) rows'
  | [], n, rows, rows', h, e => by cases e; exact h
  | w :: ws, n, rows, rows', h, e => by
    simp only [runW] at e
    cases e2 : valStep rows w with
    | none => rw [e2] at e; cases e
    | some r =>
      rw [e2] at e
      have := RI.run ws (h.step e2) e
      rw [List.length_cons, Nat.add_comm ws.length 1, ← Nat.add_assoc]
      exact this
theorem value_good {ws : List Str} {d : D} {l : List D} (h : valueOf ws = d :: l) : good d = true ∧ wlen d ≤ ws.length + 1 ∧ dep d ≤ 8 := by
  unfold valueOf endW at h
  split at h
  · rename_i z e
    cases h
    obtain ⟨h1, h2, h3⟩ := RI.run ws (n := 1) (rows := [[]]) ⟨by simp [goods], by simp [wrows, wlens], by simp [lvl, toPs, PyData.depthAll]⟩ e
    have g := h1 [d] List.mem_cons_self
    simp only [goods, Bool.and_true] at g
    simp only [wrows, wlens] at h2
    have h4 := h3.1
    simp only [toPs, PyData.depthAll] at h4
    refine ⟨g, by omega, ?_⟩
    unfold dep
    simp at h4
    omega
  · cases h
/-- what is told of a text can be shown -/
theorem told_shown {t : Str} (h : (firstLine t).length ≤ 10003) : ∃ l, toldD (readOf t) = .lst l ∧ dats l = true ∧ (toP (.lst l)).showable = true ∧ (toP (.lst l)).shown.length ≤ sizeLine ∧ dep (.lst l) ≤ 150 := by
  unfold readOf
  cases e : valueOf (firstLine t) with
  | nil => exact ⟨_, rfl, rfl, rfl, by decide +kernel, by decide⟩
  | cons d r =>
    obtain ⟨g1, g2, g3⟩ := value_good e
    obtain ⟨g4, g5⟩ := good_shown d g1
    have hd : dat d = true := by
      have := vals_dats (ws := firstLine t)
      rw [e] at this
      simp only [dats, Bool.and_eq_true] at this
      exact this.1
    by_cases c : (Txt.split t "\n").length = 1
    · simp only [if_pos c]
      refine ⟨_, rfl, by simp only [dats, dat, hd, Bool.and_self], ?_, ?_, ?_⟩
      · simp only [toP, toPs, PyData.showable, PyData.showableAll, g4, Bool.and_self]
      · simp only [toP, toPs, PyData.shown, PyData.shownAll]
        have h1 := list_text_le [reprText "value", (toP d).shown]
        have h2 : piled [reprText "value", (toP d).shown] = (reprText "value").length + 2 + ((toP d).shown.length + 2) := by
          rw [piled_cons, piled_cons, piled_nil]
        have h3 : (reprText "value").length = 7 := by decide +kernel
        have h4 : sizeLine = 16777216 := rfl
        omega
      · have : dep (.lst [.str "value", d]) = max 0 (max (dep d) 0) + 1 := rfl
        omega
    · simp only [if_neg c]
      exact ⟨_, rfl, rfl, rfl, by decide +kernel, by decide⟩
end Dl
set_option Elab.async false
set_option linter.all false
set_option maxRecDepth 100000
set_option maxHeartbeats 4000000
namespace Dl
open PySem PySem.Spec PyProof.Rows L2
variable {P : Program} {K : PySem.W.Frag} {mg : Str → Option Value}
theorem digs_is (c : Nat) : (decide (c ∈ ("0123456789" : Str).cps.toList)) = decide (48 ≤ c ∧ c ≤ 57) := by
  have : ("0123456789" : Str).cps.toList = (List.range 10).map (48 + ·) := by decide +kernel
  rw [this]
  apply decide_eq_decide.mpr
  simp only [List.mem_map, List.mem_range]
  constructor
  · rintro ⟨a, ha, rfl⟩; omega
  · intro h; exact ⟨c - 48, by omega, by omega⟩
theorem single_tail {w : Str} (hs : w.length ≤ 60) {M : DHp} {Q : QD} (hq : Q (.lst (match numOf w with | some n => [.int n] | none => [])) M) :
    if w = Str.ofString "" then Q (D.lst []) M else
      dLc (diStr (dVar 0)) (dgName 1) (dB (dOp (rdInN true) (dVar 1) (dC (D.str (Str.ofString "0123456789"))))) (dVar 1) [1] [some (D.str w), none] M fun x M1 => rdNe x (D.lst []) M1 fun d M' => match d with
        | D.bl b => if b = true then Q (D.lst []) M' else rdIx (D.str w) (D.int 0) M' fun x M1 => rdEq x (D.str (Str.ofString "0")) M1 fun d M' => match d with
          | D.bl b => if b = true then if w = Str.ofString "0" then rdInt [D.str w] M' fun x M1 => 1 ≤ sizeLine ∧ Q (D.lst [x]) M1 else Q (D.lst []) M' else rdInt [D.str w] M' fun x M1 => 1 ≤ sizeLine ∧ Q (D.lst [x]) M1
          | _ => False
        | _ => False := by
  have hl : w.length ≤ 1000000 := by omega
  by_cases h0 : w = ""
  · rw [if_pos h0]
    rw [numOf_no (fun z => by rw [h0] at z; exact absurd z.1 (by decide))] at hq
    exact hq
  rw [if_neg h0]
  have h1 : 1 ≤ w.length := by
    refine Nat.pos_of_ne_zero fun e => h0 (str_ext ?_)
    have : w.cps.toList.length = w.length := Array.length_toList
    rw [e] at this
    exact List.length_eq_zero_iff.mp this
  let o : D → Option D := fun d => match d with
    | .str z => match z.cps.toList with
      | [c] => if 48 ≤ c ∧ c ≤ 57 then none else some (.str z)
      | _ => none
    | _ => none
  show ∀ p, M p = none → compRec (dgName 1) _ _ _ p ((signs w).map D.str) _ _
  refine lc_pure (Q := fun x M1 => rdNe x (.lst []) M1 _) o (by simp [signs]; exact le_size hl) (fun x hx M R hR => ?_) ?_
  · simp only [signs, List.map_map, List.mem_map] at hx
    obtain ⟨c, _, rfl⟩ := hx
    refine ⟨_, rfl, ?_⟩
    rw [digs_is]
    have hR : R (if 48 ≤ c ∧ c ≤ 57 then none else some (.str ⟨#[c]⟩)) M := hR
    by_cases hc : 48 ≤ c ∧ c ≤ 57
    · rw [if_pos hc] at hR
      rw [decide_eq_true hc]
      exact hR
    · rw [if_neg hc] at hR
      rw [decide_eq_false hc]
      exact hR
  · have key : ∀ l : List Nat, ((l.map fun c => (⟨#[c]⟩ : Str)).map D.str).filterMap o = ((l.filter fun c => !decide (48 ≤ c ∧ c ≤ 57)).map fun c => (⟨#[c]⟩ : Str)).map D.str := by
      intro l
      induction l with
      | nil => rfl
      | cons c l ih =>
        by_cases hc : 48 ≤ c ∧ c ≤ 57
        · rw [List.map_cons, List.map_cons, List.filterMap_cons_none (show o (.str ⟨#[c]⟩) = none from if_pos hc), ih, List.filter_cons_of_neg (by simp [hc])]
        · rw [List.map_cons, List.map_cons, List.filterMap_cons_some (show o (.str ⟨#[c]⟩) = some (.str ⟨#[c]⟩) from if_neg hc), ih, List.filter_cons_of_pos (by simp; omega), List.map_cons, List.map_cons]
    show rdNe (.lst (((w.cps.toList.map fun c => (⟨#[c]⟩ : Str)).map D.str).filterMap o)) (.lst []) M _
    rw [key, rdNe_nil (dats_strs _)]
    have e : isDig w = (((w.cps.toList.filter fun c => !decide (48 ≤ c ∧ c ≤ 57)).map fun c => (⟨#[c]⟩ : Str)).map D.str).isEmpty := by
      unfold isDig
      induction w.cps.toList with
      | nil => rfl
      | cons c l ih =>
        by_cases hc : 48 ≤ c ∧ c ≤ 57
        · rw [List.all_cons, ih, List.filter_cons_of_neg (by simp [hc]), decide_eq_true hc, Bool.true_and]
        · rw [List.all_cons, List.filter_cons_of_pos (by simp; omega), decide_eq_false hc, Bool.false_and]
          rfl
    rw [← e]
    cases hd : isDig w with
    | false =>
      rw [numOf_no (fun z => by rw [hd] at z; cases z.2.2)] at hq
      exact hq
    | true =>
      obtain ⟨n, hn⟩ := digits_int hd h1 (by omega)
      obtain ⟨c, l, hc⟩ := first_of h1
      refine ⟨le_size hl, c, ?_, ?_⟩
      · rw [hc]
        simp [atI, ixN]
      · rw [show ("0" : Str) = ⟨#[48]⟩ from rfl]
        show rdEq (.str ⟨#[c]⟩) (.str ⟨#[48]⟩) M _
        rw [rdEq_str]
        have e : numOf w = if c = 48 ∧ w ≠ ("0" : Str) then none else some n := by
          unfold numOf
          rw [if_pos ⟨h1, by omega, hd⟩, hn, hc]
          simp
        rw [e] at hq
        have fin : Q (.lst [.int n]) M → rdInt [D.str w] M fun x M1 => 1 ≤ sizeLine ∧ Q (D.lst [x]) M1 := fun hq => ⟨n, hn, by omega, by decide, hq⟩
        by_cases hc0 : c = 48
        · subst hc0
          rw [decide_eq_true rfl]
          show if w = (⟨#[48]⟩ : Str) then _ else Q (D.lst []) M
          by_cases hw : w = (⟨#[48]⟩ : Str)
          · rw [if_neg (fun z => z.2 hw)] at hq
            rw [if_pos hw]
            exact fin hq
          · rw [if_pos ⟨rfl, hw⟩] at hq
            rw [if_neg hw]
            exact hq
        · rw [if_neg (fun z => hc0 z.1)] at hq
          rw [decide_eq_false (fun z => hc0 (one_eq.mp z))]
          exact fin hq
theorem eq_not_num {w : Str} (h : cutS w none (some 1) = "=") : numOf w = none := numOf_no fun z => by
  obtain ⟨c, l, hc⟩ := first_of z.1
  have e : (cutS w none (some 1)).cps.toList = [61] := by rw [h]; rfl
  have h1 : (cutS w none (some 1)).cps.toList = (w.cps.toList.drop 0).take (HT.sIx w.length w.length (some ((1 : Nat) : Int)) - 0) := by
    show (List.take _ _).toArray.toList = _
    rw [HT.sIx_none]
    rfl
  rw [hc, e] at h1
  have hx : c = 61 := by
    cases k : HT.sIx w.length w.length (some ((1 : Nat) : Int)) - 0 with
    | zero => rw [k] at h1; simp at h1
    | succ n => rw [k] at h1; simp at h1; exact h1.1.symm
  have := z.2.2
  unfold isDig at this
  rw [hc, List.all_cons, hx] at this
  simp at this
theorem rd31 (T : Tx P K mg) {ds : List D} {M : DHp} {Q : QD} {E : XD} (h : S31 ds M Q E) : t31 T (wF E) { nx := fun _ M' => Q .non M', rt := Q } (startD N31 ds) M := by
  obtain ⟨w, rfl, hs, hq⟩ := h
  have hl : w.length ≤ 1000000 := by omega
  simp [t31, dRet, dRetN, dSeq, dIf, dAndV, dOrV, dNotV, dAnd, dOr, dNot, dB, dCall, dCallF, dCons, dNil, dVar, dC, dUn, dOp, dChain, dIfE, dSet, dAsg, dDrop, dPar, dPar3, dNext, dTup, dLst, dMeth, dSl, dPart, dNo, dSplit, dJoin, dJoined2, dStar, dgName, dgCons, dgNil, dgTup, dgSub, startD, rdNeg, rdLe, rdLt, rdGt, rdGe, rdIsi, rdLen, tyD, seqOf, lstOf, rdSub, rdIsN, rdNotN, isNonD, rdFmt, rdSl, kb_NoneType_int, kb_NoneType_bool, kb_NoneType_str, kb_NoneType_tuple, kb_bool_int, kb_bool_bool, kb_bool_str, kb_bool_tuple, kb_int_int, kb_int_bool, kb_int_str, kb_int_tuple, kb_str_int, kb_str_bool, kb_str_str, kb_str_tuple, kb_tuple_int, kb_tuple_bool, kb_tuple_str, kb_tuple_tuple, kb_list_int, kb_list_bool, kb_list_str, kb_list_tuple, kb_dict_int, kb_dict_bool, kb_dict_str, kb_dict_tuple, rdEq_str, rdNe_str]
  unfold singleOf at hq
  by_cases h1 : w = "-"
  · rw [if_pos h1] at hq
    rw [if_pos h1]
    exact ⟨by decide, hq⟩
  rw [if_neg h1] at hq
  rw [if_neg h1]
  refine ⟨le_size hl, ?_⟩
  by_cases h2 : cutS w none (some 1) = "="
  · rw [if_pos h2] at hq
    rw [if_pos h2]
    have hn := eq_not_num h2
    refine ⟨le_size hl, _, rfl, ⟨⟨_, rfl⟩, fun s e => by cases e; exact Nat.le_trans (cutS_length _ _ _) hl⟩, ?_⟩
    show if isNm (cutS w (some 1) none) = true then _ else _
    cases h3 : isNm (cutS w (some 1) none) with
    | true =>
      rw [if_pos h3] at hq
      exact ⟨le_size hl, by decide, hq⟩
    | false =>
      rw [if_neg (by rw [h3]; decide)] at hq
      exact single_tail hs (by rw [hn]; exact hq)
  · rw [if_neg h2] at hq
    rw [if_neg h2]
    refine single_tail hs ?_
    cases h3 : numOf w with
    | none => rw [h3] at hq; exact hq
    | some n => rw [h3] at hq; exact hq
end Dl
set_option Elab.async false
set_option linter.all false
set_option maxRecDepth 100000
set_option maxHeartbeats 4000000
namespace Dl
open PySem PySem.Spec PyProof.Rows L2
variable {P : Program} {K : PySem.W.Frag} {mg : Str → Option Value}
def cutL (ws : List Str) (lo hi : Option Int) : List Str := (ws.drop (HT.sIx ws.length 0 lo)).take (HT.sIx ws.length ws.length hi - HT.sIx ws.length 0 lo)
theorem cutD_map (ws : List Str) (lo hi : Option Int) : cutD (ws.map D.str) lo hi = (cutL ws lo hi).map D.str := by
  unfold cutD cutL
  rw [List.length_map, List.map_take, List.map_drop]
theorem cutL_mem {ws : List Str} {lo hi : Option Int} {w : Str} (h : w ∈ cutL ws lo hi) : w ∈ ws := List.mem_of_mem_drop (List.mem_of_mem_take h)
theorem cutL_lo {ws : List Str} {k : Nat} : (cutL ws none (some (k : Int))).length ≤ k ∧ (cutL ws none (some (k : Int))).length ≤ ws.length := by
  unfold cutL
  rw [HT.sIx_none, HT.sIx_nat, List.length_take, List.length_drop]
  omega
theorem cutL_hi {ws : List Str} {k : Nat} : (cutL ws (some (k : Int)) none).length ≤ ws.length - k := by
  unfold cutL
  rw [HT.sIx_none, HT.sIx_nat, List.length_take, List.length_drop]
  omega
theorem cutL_mid {ws : List Str} {k m : Nat} : (cutL ws (some (k : Int)) (some (m : Int))).length ≤ m - k ∧ (cutL ws (some (k : Int)) (some (m : Int))).length ≤ ws.length - k := by
  unfold cutL
  rw [HT.sIx_nat, HT.sIx_nat, List.length_take, List.length_drop]
  omega
def okWB (w : Str) : Bool := decide (w.length ≤ 60) && w.cps.toList.all fun c => c != 32 && c != 10
theorem okWord_of {w : Str} (h : okWB w = true) : okWord w := by
  unfold okWB at h
  rw [Bool.and_eq_true] at h
  refine ⟨of_decide_eq_true h.1, fun c hc => ?_⟩
  have := List.all_eq_true.mp h.2 c hc
  simpa using this
theorem odd_ok {d : D} : ∀ {l : List Str}, l.all okWB = true → d ∈ l.map D.str → ∃ o, d = .str o ∧ okWord o := fun {l} h hd => by
  obtain ⟨o, ho, rfl⟩ := List.mem_map.mp hd
  exact ⟨o, rfl, okWord_of (List.all_eq_true.mp h o ho)⟩
theorem rd36 (T : Tx P K mg) {ds : List D} {M : DHp} {Q : QD} {E : XD} (h : S36 ds M Q E) : t36 T (wF E) { nx := fun _ M' => Q .non M', rt := Q } (startD N36 ds) M := by
  obtain ⟨p, c, ws, rfl, hl, hw, hc, x, y, z, hp, hm, hq⟩ := h
  simp [t36, dRet, dRetN, dSeq, dIf, dAndV, dOrV, dNotV, dAnd, dOr, dNot, dB, dCall, dCallF, dCons, dNil, dVar, dC, dUn, dOp, dChain, dIfE, dSet, dAsg, dDrop, dPar, dPar3, dNext, dTup, dLst, dMeth, dSl, dPart, dNo, dSplit, dJoin, dJoined2, dStar, dgName, dgCons, dgNil, dgTup, dgSub, startD, rdNeg, rdLe, rdLt, rdGt, rdGe, rdIsi, rdLen, tyD, seqOf, lstOf, rdSub, rdIsN, rdNotN, isNonD, rdFmt, rdSl, kb_NoneType_int, kb_NoneType_bool, kb_NoneType_str, kb_NoneType_tuple, kb_bool_int, kb_bool_bool, kb_bool_str, kb_bool_tuple, kb_int_int, kb_int_bool, kb_int_str, kb_int_tuple, kb_str_int, kb_str_bool, kb_str_str, kb_str_tuple, kb_tuple_int, kb_tuple_bool, kb_tuple_str, kb_tuple_tuple, kb_list_int, kb_list_bool, kb_list_str, kb_list_tuple, kb_dict_int, kb_dict_bool, kb_dict_str, kb_dict_tuple, rdEq_int, rdAdd]
  have hz : 100000 ≤ sizeLine := by decide
  refine ⟨p, (ws.length : Int) + 1, c, rfl, by omega, by omega, by omega, x, y, z, hp, hm, ?_⟩
  rintro _ x1 y1 z1 ⟨k, rfl, hk0, hk⟩ hm1
  obtain ⟨k, rfl⟩ := Int.eq_ofNat_of_zero_le hk0
  refine ⟨p, 5, c + 1, rfl, by omega, by omega, by omega, x1, y1, z1, updD_same, hm1, ?_⟩
  rintro _ x2 y2 z2 ⟨lot, rfl, hl0, hl5⟩ hm2
  rw [updD_updD]
  refine ⟨by decide, ?_⟩
  simp [rdMul]
  refine ⟨by decide, by decide, by decide, p, _, c + 2, rfl, by simp, by simp, by omega, x2, y2, z2, updD_same, hm2, ?_⟩
  intro d x3 y3 z3 hd hm3
  rw [updD_updD]
  obtain ⟨o, rfl, ho⟩ : ∃ o, d = .str o ∧ okWord o := odd_ok (l := ["", "(", ")", "-", "=", "=a", "==a", "a", "=A", "0", "00", "01", "-1", "+1", "1.0", "()", "{", Txt.mul "9" 60]) (by decide +kernel) hd
  have e1 : (k : Int) + 1 = ((k + 1 : Nat) : Int) := by omega
  have e2 : (k : Int) + 2 = ((k + 2 : Nat) : Int) := by omega
  have fin : ∀ l : List Str, l.length ≤ ws.length + 2 → (∀ w ∈ l, okWord w) → Q (.lst (l.map D.str)) (updD M p (millD x3 y3 z3)) := fun l h1 h2 => hq _ _ _ _ ⟨l, rfl, h1, h2⟩ (hm3.mono (by omega))
  have lo := cutL_lo (ws := ws) (k := k)
  have hi0 := cutL_hi (ws := ws) (k := k)
  have hi1 := cutL_hi (ws := ws) (k := k + 1)
  have hi2 := cutL_hi (ws := ws) (k := k + 2)
  have mi1 := cutL_mid (ws := ws) (k := k) (m := k + 1)
  have mi2 := cutL_mid (ws := ws) (k := k) (m := k + 2)
  have mem : ∀ {a b w}, w ∈ cutL ws a b → okWord w := fun h => hw _ (cutL_mem h)
  simp only [e1, e2, cutD_map, ← List.map_append, List.length_map, rdEq_int]
  generalize hA : cutL ws none (some (k : Int)) = A at *
  generalize hB : cutL ws (some (k : Int)) none = B at *
  generalize hC : cutL ws (some ((k + 1 : Nat) : Int)) none = C at *
  generalize hD : cutL ws (some ((k + 2 : Nat) : Int)) none = D' at *
  generalize hF : cutL ws (some (k : Int)) (some ((k + 1 : Nat) : Int)) = F at *
  generalize hG : cutL ws (some (k : Int)) (some ((k + 2 : Nat) : Int)) = G at *
  have mA : ∀ w ∈ A, okWord w := fun w h => mem (hA ▸ h)
  have mB : ∀ w ∈ B, okWord w := fun w h => mem (hB ▸ h)
  have mC : ∀ w ∈ C, okWord w := fun w h => mem (hC ▸ h)
  have mD : ∀ w ∈ D', okWord w := fun w h => mem (hD ▸ h)
  have mF : ∀ w ∈ F, okWord w := fun w h => mem (hF ▸ h)
  have mG : ∀ w ∈ G, okWord w := fun w h => mem (hG ▸ h)
  have app : ∀ {a b : List Str}, (∀ w ∈ a, okWord w) → (∀ w ∈ b, okWord w) → ∀ w ∈ a ++ b, okWord w := fun ha hb w h => (List.mem_append.mp h).elim (ha w) (hb w)
  by_cases c0 : lot = 0
  · rw [decide_eq_true c0, if_pos rfl]
    exact ⟨by omega, fin _ (by rw [List.length_append]; omega) (app mA mC)⟩
  · rw [decide_eq_false c0, if_neg Bool.false_ne_true]
    by_cases c1 : lot = 1
    · rw [decide_eq_true c1]
      show if true = true then _ else _
      rw [if_pos rfl]
      exact ⟨by omega, by omega, fin _ (by simp only [List.length_append]; omega) (app mA (app mF mB))⟩
    · rw [decide_eq_false c1]
      show if false = true then _ else _
      rw [if_neg Bool.false_ne_true]
      by_cases c2 : lot = 2
      · rw [decide_eq_true c2]
        show if true = true then _ else _
        rw [if_pos rfl]
        have mR : ∀ w ∈ G.reverse, okWord w := fun w h => mG w (List.mem_reverse.mp h)
        refine ⟨G.map D.str, rfl, (G.map D.str).reverse, rfl, ?_⟩
        rw [← List.map_reverse, List.length_map, List.length_reverse, ← List.map_append, ← List.map_append]
        exact ⟨by omega, by omega, fin _ (by simp only [List.length_append, List.length_reverse]; omega) (app mA (app mR mD))⟩
      · rw [decide_eq_false c2]
        show if false = true then _ else _
        rw [if_neg Bool.false_ne_true]
        have mO : ∀ {X : List Str}, (∀ w ∈ X, okWord w) → ∀ w ∈ o :: X, okWord w := fun h w hw => by
          rcases List.mem_cons.mp hw with rfl | hw
          · exact ho
          · exact h w hw
        have e : ∀ X : List Str, (D.str o :: X.map D.str) = (o :: X).map D.str := fun _ => rfl
        rw [e, e, ← List.map_append, ← List.map_append]
        refine ⟨by omega, by omega, ?_⟩
        split
        · exact ⟨by omega, fin _ (by simp only [List.length_append, List.length_cons]; omega) (app mA (mO mB))⟩
        · exact ⟨by omega, fin _ (by simp only [List.length_append, List.length_cons]; omega) (app mA (mO mC))⟩
end Dl
set_option Elab.async false
set_option linter.all false
set_option maxRecDepth 100000
set_option maxHeartbeats 4000000
namespace Dl
open PySem PySem.Spec PyProof.Rows L2
variable {P : Program} {K : PySem.W.Frag} {mg : Str → Option Value}
theorem len3 : ∀ ds M Q E, (S3) ds M Q E → ds.length = 1 := fun ds M Q E h => by
  first | (obtain ⟨_, rfl, _⟩ := h; rfl) | (obtain ⟨_, _, rfl, _⟩ := h; rfl) | (obtain ⟨_, _, _, rfl, _⟩ := h; rfl) | (obtain ⟨_, _, _, _, rfl, _⟩ := h; rfl)
theorem len4 : ∀ ds M Q E, (S4) ds M Q E → ds.length = 1 := fun ds M Q E h => by
  first | (obtain ⟨_, rfl, _⟩ := h; rfl) | (obtain ⟨_, _, rfl, _⟩ := h; rfl) | (obtain ⟨_, _, _, rfl, _⟩ := h; rfl) | (obtain ⟨_, _, _, _, rfl, _⟩ := h; rfl)
theorem len5 : ∀ ds M Q E, (S5) ds M Q E → ds.length = 1 := fun ds M Q E h => by
  first | (obtain ⟨_, rfl, _⟩ := h; rfl) | (obtain ⟨_, _, rfl, _⟩ := h; rfl) | (obtain ⟨_, _, _, rfl, _⟩ := h; rfl) | (obtain ⟨_, _, _, _, rfl, _⟩ := h; rfl)
theorem len13 : ∀ ds M Q E, (S13) ds M Q E → ds.length = 1 := fun ds M Q E h => by
  first | (obtain ⟨_, rfl, _⟩ := h; rfl) | (obtain ⟨_, _, rfl, _⟩ := h; rfl) | (obtain ⟨_, _, _, rfl, _⟩ := h; rfl) | (obtain ⟨_, _, _, _, rfl, _⟩ := h; rfl)
theorem len14 : ∀ ds M Q E, (S14) ds M Q E → ds.length = 1 := fun ds M Q E h => by
  first | (obtain ⟨_, rfl, _⟩ := h; rfl) | (obtain ⟨_, _, rfl, _⟩ := h; rfl) | (obtain ⟨_, _, _, rfl, _⟩ := h; rfl) | (obtain ⟨_, _, _, _, rfl, _⟩ := h; rfl)
theorem len15 {T : Tx P K mg} {n : Nat} : ∀ ds M Q E, (S15 T n) ds M Q E → ds.length = 2 := fun ds M Q E h => by
  first | (obtain ⟨_, rfl, _⟩ := h; rfl) | (obtain ⟨_, _, rfl, _⟩ := h; rfl) | (obtain ⟨_, _, _, rfl, _⟩ := h; rfl) | (obtain ⟨_, _, _, _, rfl, _⟩ := h; rfl)
theorem no15 {T : Tx P K mg} {ds : List D} {M : DHp} {Q : QD} {E : XD} : ¬ (S15 T 0) ds M Q E := fun h => by
  obtain ⟨_, _, _, hw, _⟩ := h
  exact hw
theorem len16 {T : Tx P K mg} : ∀ ds M Q E, (S16 T) ds M Q E → ds.length = 1 := fun ds M Q E h => by
  first | (obtain ⟨_, rfl, _⟩ := h; rfl) | (obtain ⟨_, _, rfl, _⟩ := h; rfl) | (obtain ⟨_, _, _, rfl, _⟩ := h; rfl) | (obtain ⟨_, _, _, _, rfl, _⟩ := h; rfl)
theorem len17 : ∀ ds M Q E, (S17) ds M Q E → ds.length = 1 := fun ds M Q E h => by
  first | (obtain ⟨_, rfl, _⟩ := h; rfl) | (obtain ⟨_, _, rfl, _⟩ := h; rfl) | (obtain ⟨_, _, _, rfl, _⟩ := h; rfl) | (obtain ⟨_, _, _, _, rfl, _⟩ := h; rfl)
theorem len18 : ∀ ds M Q E, (S18) ds M Q E → ds.length = 1 := fun ds M Q E h => by
  first | (obtain ⟨_, rfl, _⟩ := h; rfl) | (obtain ⟨_, _, rfl, _⟩ := h; rfl) | (obtain ⟨_, _, _, rfl, _⟩ := h; rfl) | (obtain ⟨_, _, _, _, rfl, _⟩ := h; rfl)
theorem len19 {T : Tx P K mg} : ∀ ds M Q E, (S19 T) ds M Q E → ds.length = 1 := fun ds M Q E h => by
  first | (obtain ⟨_, rfl, _⟩ := h; rfl) | (obtain ⟨_, _, rfl, _⟩ := h; rfl) | (obtain ⟨_, _, _, rfl, _⟩ := h; rfl) | (obtain ⟨_, _, _, _, rfl, _⟩ := h; rfl)
theorem len21 : ∀ ds M Q E, (S21) ds M Q E → ds.length = 2 := fun ds M Q E h => by
  first | (obtain ⟨_, rfl, _⟩ := h; rfl) | (obtain ⟨_, _, rfl, _⟩ := h; rfl) | (obtain ⟨_, _, _, rfl, _⟩ := h; rfl) | (obtain ⟨_, _, _, _, rfl, _⟩ := h; rfl)
theorem len22 : ∀ ds M Q E, (S22) ds M Q E → ds.length = 2 := fun ds M Q E h => by
  first | (obtain ⟨_, rfl, _⟩ := h; rfl) | (obtain ⟨_, _, rfl, _⟩ := h; rfl) | (obtain ⟨_, _, _, rfl, _⟩ := h; rfl) | (obtain ⟨_, _, _, _, rfl, _⟩ := h; rfl)
theorem len23 : ∀ ds M Q E, (S23) ds M Q E → ds.length = 2 := fun ds M Q E h => by
  first | (obtain ⟨_, rfl, _⟩ := h; rfl) | (obtain ⟨_, _, rfl, _⟩ := h; rfl) | (obtain ⟨_, _, _, rfl, _⟩ := h; rfl) | (obtain ⟨_, _, _, _, rfl, _⟩ := h; rfl)
theorem len24 : ∀ ds M Q E, (S24) ds M Q E → ds.length = 2 := fun ds M Q E h => by
  first | (obtain ⟨_, rfl, _⟩ := h; rfl) | (obtain ⟨_, _, rfl, _⟩ := h; rfl) | (obtain ⟨_, _, _, rfl, _⟩ := h; rfl) | (obtain ⟨_, _, _, _, rfl, _⟩ := h; rfl)
theorem len25 : ∀ ds M Q E, (S25) ds M Q E → ds.length = 1 := fun ds M Q E h => by
  first | (obtain ⟨_, rfl, _⟩ := h; rfl) | (obtain ⟨_, _, rfl, _⟩ := h; rfl) | (obtain ⟨_, _, _, rfl, _⟩ := h; rfl) | (obtain ⟨_, _, _, _, rfl, _⟩ := h; rfl)
theorem len26 : ∀ ds M Q E, (S26) ds M Q E → ds.length = 2 := fun ds M Q E h => by
  first | (obtain ⟨_, rfl, _⟩ := h; rfl) | (obtain ⟨_, _, rfl, _⟩ := h; rfl) | (obtain ⟨_, _, _, rfl, _⟩ := h; rfl) | (obtain ⟨_, _, _, _, rfl, _⟩ := h; rfl)
theorem len27 : ∀ ds M Q E, (S27) ds M Q E → ds.length = 1 := fun ds M Q E h => by
  first | (obtain ⟨_, rfl, _⟩ := h; rfl) | (obtain ⟨_, _, rfl, _⟩ := h; rfl) | (obtain ⟨_, _, _, rfl, _⟩ := h; rfl) | (obtain ⟨_, _, _, _, rfl, _⟩ := h; rfl)
theorem len28 : ∀ ds M Q E, (S28) ds M Q E → ds.length = 1 := fun ds M Q E h => by
  first | (obtain ⟨_, rfl, _⟩ := h; rfl) | (obtain ⟨_, _, rfl, _⟩ := h; rfl) | (obtain ⟨_, _, _, rfl, _⟩ := h; rfl) | (obtain ⟨_, _, _, _, rfl, _⟩ := h; rfl)
theorem len29 {n : Nat} : ∀ ds M Q E, (S29 n) ds M Q E → ds.length = 2 := fun ds M Q E h => by
  first | (obtain ⟨_, rfl, _⟩ := h; rfl) | (obtain ⟨_, _, rfl, _⟩ := h; rfl) | (obtain ⟨_, _, _, rfl, _⟩ := h; rfl) | (obtain ⟨_, _, _, _, rfl, _⟩ := h; rfl)
theorem no29 {ds : List D} {M : DHp} {Q : QD} {E : XD} : ¬ (S29 0) ds M Q E := fun h => by
  obtain ⟨_, _, _, _, hk, _⟩ := h
  exact absurd hk (Nat.not_lt_zero _)
theorem len30 {n : Nat} : ∀ ds M Q E, (S30 n) ds M Q E → ds.length = 1 := fun ds M Q E h => by
  first | (obtain ⟨_, rfl, _⟩ := h; rfl) | (obtain ⟨_, _, rfl, _⟩ := h; rfl) | (obtain ⟨_, _, _, rfl, _⟩ := h; rfl) | (obtain ⟨_, _, _, _, rfl, _⟩ := h; rfl)
theorem no30 {ds : List D} {M : DHp} {Q : QD} {E : XD} : ¬ (S30 0) ds M Q E := fun h => by
  obtain ⟨_, _, _, hk, _⟩ := h
  exact absurd hk (Nat.not_lt_zero _)
theorem len31 : ∀ ds M Q E, (S31) ds M Q E → ds.length = 1 := fun ds M Q E h => by
  first | (obtain ⟨_, rfl, _⟩ := h; rfl) | (obtain ⟨_, _, rfl, _⟩ := h; rfl) | (obtain ⟨_, _, _, rfl, _⟩ := h; rfl) | (obtain ⟨_, _, _, _, rfl, _⟩ := h; rfl)
theorem len32 : ∀ ds M Q E, (S32) ds M Q E → ds.length = 1 := fun ds M Q E h => by
  first | (obtain ⟨_, rfl, _⟩ := h; rfl) | (obtain ⟨_, _, rfl, _⟩ := h; rfl) | (obtain ⟨_, _, _, rfl, _⟩ := h; rfl) | (obtain ⟨_, _, _, _, rfl, _⟩ := h; rfl)
theorem len33 : ∀ ds M Q E, (S33) ds M Q E → ds.length = 1 := fun ds M Q E h => by
  first | (obtain ⟨_, rfl, _⟩ := h; rfl) | (obtain ⟨_, _, rfl, _⟩ := h; rfl) | (obtain ⟨_, _, _, rfl, _⟩ := h; rfl) | (obtain ⟨_, _, _, _, rfl, _⟩ := h; rfl)
theorem len34 : ∀ ds M Q E, (S34) ds M Q E → ds.length = 1 := fun ds M Q E h => by
  first | (obtain ⟨_, rfl, _⟩ := h; rfl) | (obtain ⟨_, _, rfl, _⟩ := h; rfl) | (obtain ⟨_, _, _, rfl, _⟩ := h; rfl) | (obtain ⟨_, _, _, _, rfl, _⟩ := h; rfl)
theorem len35 : ∀ ds M Q E, (S35) ds M Q E → ds.length = 1 := fun ds M Q E h => by
  first | (obtain ⟨_, rfl, _⟩ := h; rfl) | (obtain ⟨_, _, rfl, _⟩ := h; rfl) | (obtain ⟨_, _, _, rfl, _⟩ := h; rfl) | (obtain ⟨_, _, _, _, rfl, _⟩ := h; rfl)
theorem len36 : ∀ ds M Q E, (S36) ds M Q E → ds.length = 2 := fun ds M Q E h => by
  first | (obtain ⟨_, rfl, _⟩ := h; rfl) | (obtain ⟨_, _, rfl, _⟩ := h; rfl) | (obtain ⟨_, _, _, rfl, _⟩ := h; rfl) | (obtain ⟨_, _, _, _, rfl, _⟩ := h; rfl)
theorem len37 {T : Tx P K mg} : ∀ ds M Q E, (S37 T) ds M Q E → ds.length = 1 := fun ds M Q E h => by
  first | (obtain ⟨_, rfl, _⟩ := h; rfl) | (obtain ⟨_, _, rfl, _⟩ := h; rfl) | (obtain ⟨_, _, _, rfl, _⟩ := h; rfl) | (obtain ⟨_, _, _, _, rfl, _⟩ := h; rfl)
theorem len38 : ∀ ds M Q E, (S38) ds M Q E → ds.length = 2 := fun ds M Q E h => by
  first | (obtain ⟨_, rfl, _⟩ := h; rfl) | (obtain ⟨_, _, rfl, _⟩ := h; rfl) | (obtain ⟨_, _, _, rfl, _⟩ := h; rfl) | (obtain ⟨_, _, _, _, rfl, _⟩ := h; rfl)
theorem len39 : ∀ ds M Q E, (S39) ds M Q E → ds.length = 1 := fun ds M Q E h => by
  first | (obtain ⟨_, rfl, _⟩ := h; rfl) | (obtain ⟨_, _, rfl, _⟩ := h; rfl) | (obtain ⟨_, _, _, rfl, _⟩ := h; rfl) | (obtain ⟨_, _, _, _, rfl, _⟩ := h; rfl)
theorem len40 : ∀ ds M Q E, (S40) ds M Q E → ds.length = 1 := fun ds M Q E h => by
  first | (obtain ⟨_, rfl, _⟩ := h; rfl) | (obtain ⟨_, _, rfl, _⟩ := h; rfl) | (obtain ⟨_, _, _, rfl, _⟩ := h; rfl) | (obtain ⟨_, _, _, _, rfl, _⟩ := h; rfl)
end Dl
set_option Elab.async false
set_option linter.all false
set_option maxRecDepth 100000
set_option maxHeartbeats 4000000
namespace Dl
open PySem PySem.Spec PyProof.Rows L2
variable {P : Program} {K : PySem.W.Frag} {mg : Str → Option Value}
def a39_0 (T : Tx P K mg) (wd : WXd) : TDS :=
  (dSet 2 (dCallF wd (S29 9) (dCons (dVar 0) (dCons (dC (.int 8)) dNil))))
def a39_1 (T : Tx P K mg) (wd : WXd) : TDS :=
  (dSet 3 (dCallF wd (S30 10) (dCons (dVar 2) dNil)))
def a39_2 (T : Tx P K mg) (wd : WXd) : TDS :=
  (dIf (dB (dOp rdNe (dCallF wd (S16 T) (dCons (dVar 2) dNil)) (dJoin (dC (.str " ")) (dVar 3)))) (dRet (dC (.bl false))) dNext)
def a39_3 (T : Tx P K mg) (wd : WXd) : TDS :=
  (dSet 3 (dIfE (dB (dOp rdLt (dCall rdLen (dCons (dJoin (dC (.str " ")) (dVar 3)) dNil)) (dC (.int 3500)))) (dVar 3) (dLst (dCons (dC (.str "(")) (dCons (dC (.str ")")) dNil)))))
def a39_4 (T : Tx P K mg) (wd : WXd) : TDS :=
  (dSet 4 (dLst (dCons (dVar 3) (dCons (dCallF wd S36 (dCons (dVar 0) (dCons (dVar 3) dNil))) (dCons (dCallF wd S36 (dCons (dVar 0) (dCons (dCallF wd S36 (dCons (dVar 0) (dCons (dVar 3) dNil))) dNil))) dNil)))))
def a39_5 (T : Tx P K mg) (wd : WXd) : TDS :=
  (dSet 5 (dLcT (diLst (dVar 4)) (dgName 7) dYes (dJoin (dC (.str " ")) (dVar 7)) [7]))
def a39_6 (T : Tx P K mg) (wd : WXd) : TDS :=
  (dDrop (dMeth isLst rdAppend (dVar 5) (dCons (dOp rdAdd (dOp rdIx (dVar 5) (dCallF wd S22 (dCons (dVar 0) (dCons (dC (.int 3)) dNil)))) (dCallF wd S23 (dCons (dVar 0) (dCons (dLst (dCons (dC (.str "\n")) (dCons (dC (.str "\n0")) (dCons (dC (.str " ")) (dCons (dC (.str "\n\n")) dNil))))) dNil)))) dNil)))
def a39_7 (T : Tx P K mg) (wd : WXd) : TDS :=
  (dSet 5 (dLc (diLst (dFrz (dVar 5))) (dgName 8) (dB (dOp rdLt (dCallF wN.d S33 (dCons (dVar 8) dNil)) (dC (.int 9)))) (dVar 8) [8]))
def a39_8 (T : Tx P K mg) (wd : WXd) : TDS :=
  (dIf (dB (dOp rdNe (dLc (diLst (dVar 5)) (dgName 8) (dB (dOp rdNe (dCall rdRepr (dCons (dCallF wN.d S34 (dCons (dVar 8) dNil)) dNil)) (dCall rdRepr (dCons (dCallF wN.d S35 (dCons (dVar 8) dNil)) dNil)))) (dVar 8) [8]) (dLst dNil))) (dRet (dC (.bl false))) dNext)
def a39_9 (T : Tx P K mg) (wd : WXd) : TDS :=
  (dSet 6 (dCallF wd S23 (dCons (dVar 0) (dCons (dLst (dCons (dC (.bl true)) (dCons (dC (.bl false)) (dCons (dOp rdSub (dC (.int 0)) (dC (.int 1))) (dCons (dLst dNil) (dCons dDict0 (dCons (dC (.str "A")) (dCons (dC (.str "")) (dCons (dC (.str "a b")) (dCons (dOp rdPow (dC (.int 10)) (dC (.int 60))) (dCons (dC (.str "aaaaaaaaa")) (dCons (dLst (dCons (dC (.int 0)) dNil)) (dCons (dDict1 "a" 0) dNil))))))))))))) dNil))))
def a39_10 (T : Tx P K mg) (wd : WXd) : TDS :=
  (dIf (dNot (dB (dCallF wd (S37 T) (dCons (dCallF wd S38 (dCons (dVar 0) (dCons (dVar 6) dNil))) dNil)))) (dRet (dC (.bl false))) dNext)
def b39 (T : Tx P K mg) (wd : WXd) : TDS :=
  dSeq (a39_0 T wd) (dSeq (a39_1 T wd) (dSeq (a39_2 T wd) (dSeq (a39_3 T wd) (dSeq (a39_4 T wd) (dSeq (a39_5 T wd) (dSeq (a39_6 T wd) (dSeq (a39_7 T wd) (dSeq (a39_8 T wd) (dSeq (a39_9 T wd) (a39_10 T wd))))))))))
theorem b39_is (T : Tx P K mg) (wd : WXd) : t39 T wd = dSeq (dFor (diRng (dCons (dC (.int 8)) dNil)) (dgName 1) (b39 T wd)) (dRet (dC (.bl true))) := rfl
theorem wv_okW {M : DHp} : ∀ {k : Nat} {d : D}, Wv k d → ∀ n, k < n → okW n M d
  | k, _, .non, n + 1, _ => ⟨⟨⟨_, rfl⟩, fun s e => by cases e⟩, fun l e => by cases e⟩
  | k, _, .int i _ _, n + 1, _ => ⟨⟨⟨_, rfl⟩, fun s e => by cases e⟩, fun l e => by cases e⟩
  | k, _, .str s h, n + 1, _ => ⟨⟨⟨_, rfl⟩, fun z e => by cases e; have := isNm_len h; omega⟩, fun l e => by cases e⟩
  | k + 1, _, .tup l _ hx, n + 1, hk => ⟨⟨⟨_, rfl⟩, fun z e => by cases e⟩, fun m e x hm => by cases e; exact wv_okW (hx x hm) n (by omega)⟩
theorem join_ge (l : List Str) : l.length ≤ (Str.join " " l).length + 1 := by
  induction l with
  | nil => exact Nat.zero_le _
  | cons a l ih =>
    by_cases h : l = []
    · subst h; simp
    · rw [join_cons h, str_app_len, str_app_len]
      have : (" " : Str).length = 1 := rfl
      rw [List.length_cons, this]
      omega
section
variable {T : Tx P K mg} {E : XD} {M : DHp} {p : Addr} {Dd : DEnds} {a1 a2 a3 a4 a5 a6 a7 a8 : Option D} {x y z : Int} {c : Nat}
theorem x39_0 (hp : M p = some (millD x y z)) (hm : Mil c x y z) (hc : c + asks 8 < 2 ^ 60) (hq : ∀ v x y z, Wv 8 v → Mil (c + asks 8) x y z → Dd.nx [some (.ref p), a1, some v, a3, a4, a5, a6, a7, a8] (updD M p (millD x y z))) :
    a39_0 T (wF E) Dd [some (.ref p), a1, a2, a3, a4, a5, a6, a7, a8] M := by
  simp [a39_0, dRet, dRetN, dSeq, dIf, dAndV, dOrV, dNotV, dAnd, dOr, dNot, dB, dCall, dCallF, dCons, dNil, dVar, dC, dUn, dOp, dChain, dIfE, dSet, dAsg, dDrop, dPar, dPar3, dNext, dTup, dLst, dMeth, dSl, dPart, dNo, dSplit, dJoin, dJoined2, dStar, dgName, dgCons, dgNil, dgTup, dgSub, startD, rdNeg, rdLe, rdLt, rdGt, rdGe, rdIsi, rdLen, tyD, seqOf, lstOf, rdSub, rdIsN, rdNotN, isNonD, rdFmt, rdSl]
  exact ⟨p, 8, c, rfl, by omega, by omega, hc, x, y, z, hp, hm, fun v x y z hv hm => hq v x y z hv hm⟩
theorem x39_1 {v : D} (hv : Wv 8 v) (hq : ∀ ws, wordsOf 8 v = some ws → Dd.nx [some (.ref p), a1, some v, some (.lst (ws.map D.str)), a4, a5, a6, a7, a8] M) :
    a39_1 T (wF E) Dd [some (.ref p), a1, some v, a3, a4, a5, a6, a7, a8] M := by
  simp [a39_1, dRet, dRetN, dSeq, dIf, dAndV, dOrV, dNotV, dAnd, dOr, dNot, dB, dCall, dCallF, dCons, dNil, dVar, dC, dUn, dOp, dChain, dIfE, dSet, dAsg, dDrop, dPar, dPar3, dNext, dTup, dLst, dMeth, dSl, dPart, dNo, dSplit, dJoin, dJoined2, dStar, dgName, dgCons, dgNil, dgTup, dgSub, startD, rdNeg, rdLe, rdLt, rdGt, rdGe, rdIsi, rdLen, tyD, seqOf, lstOf, rdSub, rdIsN, rdNotN, isNonD, rdFmt, rdSl]
  exact ⟨v, 8, rfl, by omega, by omega, hv, fun ws h => hq ws h⟩
theorem x39_2 {v : D} {ws : List Str} (hv : Wv 8 v) (hw : wordsOf 8 v = some ws) (hl : ws.length ≤ 262144) (hq : Dd.nx [some (.ref p), a1, some v, some (.lst (ws.map D.str)), a4, a5, a6, a7, a8] M) :
    a39_2 T (wF E) Dd [some (.ref p), a1, some v, some (.lst (ws.map D.str)), a4, a5, a6, a7, a8] M := by
  simp [a39_2, dRet, dRetN, dSeq, dIf, dAndV, dOrV, dNotV, dAnd, dOr, dNot, dB, dCall, dCallF, dCons, dNil, dVar, dC, dUn, dOp, dChain, dIfE, dSet, dAsg, dDrop, dPar, dPar3, dNext, dTup, dLst, dMeth, dSl, dPart, dNo, dSplit, dJoin, dJoined2, dStar, dgName, dgCons, dgNil, dgTup, dgSub, startD, rdNeg, rdLe, rdLt, rdGt, rdGe, rdIsi, rdLen, tyD, seqOf, lstOf, rdSub, rdIsN, rdNotN, isNonD, rdFmt, rdSl]
  refine ⟨v, rfl, wv_okW hv 10 (by omega), by have := (wv_words hv).2; have : 4 ^ (8 + 1) = 262144 := rfl; omega, ?_⟩
  rw [hw]
  have h2 := join_size (z := (" " : Str)) (m := 0) (words_le hw)
  refine ⟨ws, rfl, ?_, ?_⟩
  · have : (Str.ofString " ").length = 1 := rfl
    have h3 : ws.length * (60 + (" " : Str).length) = ws.length * 61 := rfl
    show (ws.map (·.length)).sum + ws.length * (" " : Str).length ≤ 16777216
    omega
  · show rdNe (.str _) (.str _) M _
    rw [rdNe_str]
    simp
    exact hq
theorem x39_3 {ws : List Str} (hl : ws.length ≤ 262144) (hw : ∀ w ∈ ws, okWord w) (hq : ∀ us : List Str, us.length ≤ 3500 → (∀ w ∈ us, okWord w) → Dd.nx [some (.ref p), a1, a2, some (.lst (us.map D.str)), a4, a5, a6, a7, a8] M) :
    a39_3 T (wF E) Dd [some (.ref p), a1, a2, some (.lst (ws.map D.str)), a4, a5, a6, a7, a8] M := by
  simp [a39_3, dRet, dRetN, dSeq, dIf, dAndV, dOrV, dNotV, dAnd, dOr, dNot, dB, dCall, dCallF, dCons, dNil, dVar, dC, dUn, dOp, dChain, dIfE, dSet, dAsg, dDrop, dPar, dPar3, dNext, dTup, dLst, dMeth, dSl, dPart, dNo, dSplit, dJoin, dJoined2, dStar, dgName, dgCons, dgNil, dgTup, dgSub, startD, rdNeg, rdLe, rdLt, rdGt, rdGe, rdIsi, rdLen, tyD, seqOf, lstOf, rdSub, rdIsN, rdNotN, isNonD, rdFmt, rdSl]
  have h2 := join_size (z := (" " : Str)) (m := 0) (fun w h => (hw w h).1)
  refine ⟨ws, rfl, ?_, ?_⟩
  · have : (Str.ofString " ").length = 1 := rfl
    have h3 : ws.length * (60 + (" " : Str).length) = ws.length * 61 := rfl
    show (ws.map (·.length)).sum + ws.length * (" " : Str).length ≤ 16777216
    omega
  · rw [join_eq]
    have hj := join_ge ws
    have hj2 := join_len_le fun w h => (hw w h).1
    have hz : sizeLine = 16777216 := rfl
    show (Str.join " " ws).length ≤ sizeLine ∧ (if ((Str.join " " ws).length : Int) < 3500 then _ else _)
    refine ⟨by omega, ?_⟩
    by_cases c : (((" " : Str).join ws).length : Int) < 3500
    · rw [if_pos c]
      exact hq ws (by omega) hw
    · rw [if_neg c]
      exact ⟨by decide, hq ["(", ")"] (by decide) (fun w h => (by rcases List.mem_cons.mp h with rfl | h; exact okWord_of (by decide +kernel); rw [List.mem_singleton.mp h]; exact okWord_of (by decide +kernel)))⟩
theorem x39_4 {us : List Str} (hl : us.length ≤ 3500) (hw : ∀ w ∈ us, okWord w) (hp : M p = some (millD x y z)) (hm : Mil c x y z) (hc : c < 2 ^ 100) (hq : ∀ (rs : List (List Str)) x y z, rs.length = 3 → (∀ r ∈ rs, r.length ≤ 3504 ∧ ∀ w ∈ r, okWord w) → Mil (c + 9) x y z → Dd.nx [some (.ref p), a1, a2, some (.lst (us.map D.str)), some (.lst (rs.map fun r => .lst (r.map D.str))), a5, a6, a7, a8] (updD M p (millD x y z))) :
    a39_4 T (wF E) Dd [some (.ref p), a1, a2, some (.lst (us.map D.str)), a4, a5, a6, a7, a8] M := by
  simp [a39_4, dRet, dRetN, dSeq, dIf, dAndV, dOrV, dNotV, dAnd, dOr, dNot, dB, dCall, dCallF, dCons, dNil, dVar, dC, dUn, dOp, dChain, dIfE, dSet, dAsg, dDrop, dPar, dPar3, dNext, dTup, dLst, dMeth, dSl, dPart, dNo, dSplit, dJoin, dJoined2, dStar, dgName, dgCons, dgNil, dgTup, dgSub, startD, rdNeg, rdLe, rdLt, rdGt, rdGe, rdIsi, rdLen, tyD, seqOf, lstOf, rdSub, rdIsN, rdNotN, isNonD, rdFmt, rdSl]
  refine ⟨p, c, us, rfl, by omega, hw, by omega, x, y, z, hp, hm, ?_⟩
  rintro _ x1 y1 z1 ⟨r1, rfl, hr1, hw1⟩ hm1
  refine ⟨p, c + 3, us, rfl, by omega, hw, by omega, x1, y1, z1, updD_same, hm1, ?_⟩
  rintro _ x2 y2 z2 ⟨r2, rfl, hr2, hw2⟩ hm2
  refine ⟨p, c + 3 + 3, r2, rfl, by omega, hw2, by omega, x2, y2, z2, updD_same, hm2, ?_⟩
  rintro _ x3 y3 z3 ⟨r3, rfl, hr3, hw3⟩ hm3
  rw [updD_updD, updD_updD]
  refine ⟨by decide, ?_⟩
  exact hq [us, r1, r3] x3 y3 z3 rfl (fun r hr => by
    simp at hr
    rcases hr with rfl | rfl | rfl
    · exact ⟨by omega, hw⟩
    · exact ⟨by omega, hw1⟩
    · exact ⟨by omega, hw3⟩) (hm3.mono (by omega))
theorem x39_5 {rs : List (List Str)} (hl : rs.length = 3) (hr : ∀ r ∈ rs, r.length ≤ 3504 ∧ ∀ w ∈ r, okWord w) (hq : ∀ q, M q = none → Dd.nx [some (.ref p), a1, a2, a3, some (.lst (rs.map fun r => .lst (r.map D.str))), some (.ref q), a6, a7, a8] (updD M q (.lst (rs.map fun r => .str (Str.join " " r))))) :
    a39_5 T (wF E) Dd [some (.ref p), a1, a2, a3, some (.lst (rs.map fun r => .lst (r.map D.str))), a5, a6, a7, a8] M := by
  simp [a39_5, dRet, dRetN, dSeq, dIf, dAndV, dOrV, dNotV, dAnd, dOr, dNot, dB, dCall, dCallF, dCons, dNil, dVar, dC, dUn, dOp, dChain, dIfE, dSet, dAsg, dDrop, dPar, dPar3, dNext, dTup, dLst, dMeth, dSl, dPart, dNo, dSplit, dJoin, dJoined2, dStar, dgName, dgCons, dgNil, dgTup, dgSub, startD, rdNeg, rdLe, rdLt, rdGt, rdGe, rdIsi, rdLen, tyD, seqOf, lstOf, rdSub, rdIsN, rdNotN, isNonD, rdFmt, rdSl, dLcT, diLst]
  intro q hq0
  let un : D → Str := fun d => match d with
    | .str s => s
    | _ => ""
  have hun : ∀ r : List Str, (r.map D.str).map un = r := fun r => by
    rw [List.map_map]
    exact List.map_id' r
  let o : D → Option D := fun d => match d with
    | .lst l => some (.str (Str.join " " (l.map un)))
    | _ => none
  refine compRec_pure (o := o) [] (fun d hd M R hR => ?_) (by simp [hl]; decide) updD_same ?_
  · obtain ⟨r, hr0, rfl⟩ := List.mem_map.mp hd
    obtain ⟨h1, h2⟩ := hr r hr0
    refine ⟨r, rfl, ?_, ?_⟩
    · have h3 := join_size (z := (" " : Str)) (m := 0) (fun w h => (h2 w h).1)
      have h4 : r.length * (60 + (" " : Str).length) = r.length * 61 := rfl
      show (r.map (·.length)).sum + r.length * (" " : Str).length ≤ 16777216
      omega
    · rw [join_eq]
      have hR : R (some (.str (Str.join " " ((r.map D.str).map un)))) M := hR
      rw [hun] at hR
      exact hR
  · rw [updD_updD]
    have e : (rs.map fun r => D.lst (r.map D.str)).filterMap o = rs.map fun r => .str (Str.join " " r) := by
      clear hq hr hl
      induction rs with
      | nil => rfl
      | cons r rs ih =>
        rw [List.map_cons, List.map_cons, List.filterMap_cons_some (show o (.lst (r.map D.str)) = some (.str (Str.join " " ((r.map D.str).map un))) from rfl), hun, ih]
    rw [e]
    exact hq q hq0
theorem x39_6 {rs : List (List Str)} {q : Addr} (hl : rs.length = 3) (hr : ∀ r ∈ rs, r.length ≤ 3504 ∧ ∀ w ∈ r, okWord w) (hpq : p ≠ q) (hM : M q = some (.lst (rs.map fun r => .str (Str.join " " r)))) (hp : M p = some (millD x y z)) (hm : Mil c x y z) (hc : c < 2 ^ 100)
    (hq : ∀ (r : List Str) (s : Str) x y z, (r.length ≤ 3504 ∧ ∀ w ∈ r, okWord w) → okEnd s → Mil (c + 2) x y z → Dd.nx [some (.ref p), a1, a2, a3, a4, some (.ref q), a6, a7, a8] (updD (updD M p (millD x y z)) q (.lst ((rs.map fun r => .str (Str.join " " r)) ++ [.str (Str.join " " r ++ s)])))) :
    a39_6 T (wF E) Dd [some (.ref p), a1, a2, a3, a4, some (.ref q), a6, a7, a8] M := by
  simp [a39_6, dRet, dRetN, dSeq, dIf, dAndV, dOrV, dNotV, dAnd, dOr, dNot, dB, dCall, dCallF, dCons, dNil, dVar, dC, dUn, dOp, dChain, dIfE, dSet, dAsg, dDrop, dPar, dPar3, dNext, dTup, dLst, dMeth, dSl, dPart, dNo, dSplit, dJoin, dJoined2, dStar, dgName, dgCons, dgNil, dgTup, dgSub, startD, rdNeg, rdLe, rdLt, rdGt, rdGe, rdIsi, rdLen, tyD, seqOf, lstOf, rdSub, rdIsN, rdNotN, isNonD, rdFmt, rdSl]
  refine ⟨⟨_, lst_ref hM⟩, p, 3, c, rfl, by omega, by omega, by omega, x, y, z, hp, hm, ?_⟩
  rintro _ x1 y1 z1 ⟨i, rfl, h0, h1⟩ hm1
  obtain ⟨i, rfl⟩ := Int.eq_ofNat_of_zero_le h0
  have hi : i < rs.length := by omega
  have hMq : ∀ o, (updD M p o) q = some (.lst (rs.map fun r => .str (Str.join " " r))) := fun o => by rw [updD_ne (Ne.symm hpq)]; exact hM
  have hr1 := hr _ (List.getElem_mem hi)
  refine ⟨_, .str (Str.join " " rs[i]), seq_ref (hMq _), ?_, by decide, ?_⟩
  · unfold L2.atI
    have : ixN (rs.map fun r => D.str (Str.join " " r)).length (i : Int) = some i := by
      unfold ixN
      rw [if_pos (by omega), if_pos (by simp; omega)]
      simp
    rw [this]
    simp [hi]
  refine ⟨p, _, c + 1, rfl, by simp, by simp, by omega, x1, y1, z1, updD_same, hm1, ?_⟩
  intro s x2 y2 z2 hs hm2
  obtain ⟨o, rfl, ho⟩ : ∃ o, s = .str o ∧ okEnd o := by
    simp at hs
    rcases hs with rfl | rfl | rfl | rfl
    · exact ⟨_, rfl, .inr (.inl rfl)⟩
    · exact ⟨_, rfl, .inr (.inr (.inl rfl))⟩
    · exact ⟨_, rfl, .inr (.inr (.inr (.inl rfl)))⟩
    · exact ⟨_, rfl, .inr (.inr (.inr (.inr rfl)))⟩
  rw [updD_updD]
  have h2 := (text_ok hr1.2 ho (by omega)).1
  rw [str_app_len] at h2
  refine ⟨le_size (by omega), _, hMq _, by simp [hl]; decide, ?_⟩
  exact hq rs[i] o x2 y2 z2 hr1 ho (hm2.mono (by omega))
theorem x39_7 {ts : List Str} {q : Addr} (hl : ts.length ≤ 10) (ht : ∀ t ∈ ts, t.length ≤ 900000) (hM : M q = some (.lst (ts.map D.str))) (hq : Dd.nx [some (.ref p), a1, a2, a3, a4, some (.lst ((ts.filter fun t => decide (depOf t < 9)).map D.str)), a6, a7, a8] (ersD M q)) :
    a39_7 T (wF E) Dd [some (.ref p), a1, a2, a3, a4, some (.ref q), a6, a7, a8] M := by
  simp [a39_7, dRet, dRetN, dSeq, dIf, dAndV, dOrV, dNotV, dAnd, dOr, dNot, dB, dCall, dCallF, dCons, dNil, dVar, dC, dUn, dOp, dChain, dIfE, dSet, dAsg, dDrop, dPar, dPar3, dNext, dTup, dLst, dMeth, dSl, dPart, dNo, dSplit, dJoin, dJoined2, dStar, dgName, dgCons, dgNil, dgTup, dgSub, startD, rdNeg, rdLe, rdLt, rdGt, rdGe, rdIsi, rdLen, tyD, seqOf, lstOf, rdSub, rdIsN, rdNotN, isNonD, rdFmt, rdSl]
  show ∃ p2 l, D.ref q = D.ref p2 ∧ M p2 = some (.lst l) ∧ _
  refine ⟨q, _, rfl, hM, ?_⟩
  show ∀ p2, (ersD M q) p2 = none → compRec (dgName 8) _ (dVar 8) _ p2 (ts.map D.str) _ _
  let o : D → Option D := fun d => match d with
    | .str t => if depOf t < 9 then some d else none
    | _ => none
  refine lc_pure (Q := fun x M1 => Dd.nx [some (.ref p), a1, a2, a3, a4, some x, a6, a7, a8] M1) o (by simp; exact le_size (by omega)) (fun d hd M R hR => ?_) ?_
  · obtain ⟨t, ht', rfl⟩ := List.mem_map.mp hd
    have h1 := ht t ht'
    refine ⟨t, rfl, by omega, ?_⟩
    have hR : R (if depOf t < 9 then some (.str t) else none) M := hR
    show if decide (depOf t < 9) = true then _ else _
    by_cases c : depOf t < 9
    · rw [if_pos c] at hR
      rw [decide_eq_true c]
      exact hR
    · rw [if_neg c] at hR
      rw [decide_eq_false c]
      exact hR
  · have e : (ts.map D.str).filterMap o = (ts.filter fun t => decide (depOf t < 9)).map D.str := by
      clear hq hM ht hl
      induction ts with
      | nil => rfl
      | cons t ts ih =>
        by_cases c : depOf t < 9
        · rw [List.map_cons, List.filterMap_cons_some (show o (.str t) = some (.str t) from if_pos c), ih, List.filter_cons_of_pos (by simp [c]), List.map_cons]
        · rw [List.map_cons, List.filterMap_cons_none (show o (.str t) = none from if_neg c), ih, List.filter_cons_of_neg (by simp [c])]
    rw [e]
    exact hq
theorem x39_8 {ts : List Str} (hl : ts.length ≤ 10) (ht : ∀ t ∈ ts, t.length ≤ 900000 ∧ (Txt.split t "\n").length ≤ 1000 ∧ (firstLine t).length ≤ 10003 ∧ (∀ w ∈ firstLine t, w.length ≤ 60) ∧ depOf t < 9) (hq : Dd.nx [some (.ref p), a1, a2, a3, a4, some (.lst (ts.map D.str)), a6, a7, a8] M) :
    a39_8 T (wF E) Dd [some (.ref p), a1, a2, a3, a4, some (.lst (ts.map D.str)), a6, a7, a8] M := by
  simp [a39_8, dRet, dRetN, dSeq, dIf, dAndV, dOrV, dNotV, dAnd, dOr, dNot, dB, dCall, dCallF, dCons, dNil, dVar, dC, dUn, dOp, dChain, dIfE, dSet, dAsg, dDrop, dPar, dPar3, dNext, dTup, dLst, dMeth, dSl, dPart, dNo, dSplit, dJoin, dJoined2, dStar, dgName, dgCons, dgNil, dgTup, dgSub, startD, rdNeg, rdLe, rdLt, rdGt, rdGe, rdIsi, rdLen, tyD, seqOf, lstOf, rdSub, rdIsN, rdNotN, isNonD, rdFmt, rdSl]
  show ∀ p2, M p2 = none → compRec (dgName 8) _ (dVar 8) _ p2 (ts.map D.str) _ _
  let o : D → Option D := fun d => none
  refine lc_pure (Q := fun x M1 => rdNe x (.lst []) M1 _) o (by simp; exact le_size (by omega)) (fun d hd M R hR => ?_) ?_
  · obtain ⟨t, ht', rfl⟩ := List.mem_map.mp hd
    obtain ⟨h1, h2, h3, h4, h5⟩ := ht t ht'
    obtain ⟨l, e, g1, g2, g3, g4⟩ := told_shown h3
    refine ⟨t, rfl, h1, h2, ?_⟩
    rw [e]
    refine ⟨g1, g2, g3, g4, ?_⟩
    refine ⟨t, rfl, h1, h4, h2, ?_⟩
    rw [due_is h5, e]
    refine ⟨g1, g2, g3, g4, ?_⟩
    show rdNe (.str _) (.str _) M _
    rw [rdNe_str]
    simp
    exact hR
  · have e : (ts.map D.str).filterMap o = [] := by
      simp [o]
    rw [e, rdNe_nil rfl]
    exact hq
/-- values that have no text -/
def oddD (M : DHp) (d : D) : Prop := d = .bl true ∨ d = .bl false ∨ d = .int (-1) ∨ d = .lst [] ∨ d = .str "A" ∨ d = .str "" ∨ d = .str "a b" ∨ d = .int (10 ^ 60) ∨ d = .str "aaaaaaaaa" ∨ d = .lst [.int 0] ∨ ∃ q, d = .ref q ∧ tyD M d = some "dict"
theorem x39_9 (hp : M p = some (millD x y z)) (hm : Mil c x y z) (hc : c < 2 ^ 100) (hq : ∀ d M' x y z, oddD M' d → M' p = some (millD x y z) → Mil (c + 1) x y z → Dd.nx [some (.ref p), a1, a2, a3, a4, a5, some d, a7, a8] M') :
    a39_9 T (wF E) Dd [some (.ref p), a1, a2, a3, a4, a5, a6, a7, a8] M := by
  simp [a39_9, dRet, dRetN, dSeq, dIf, dAndV, dOrV, dNotV, dAnd, dOr, dNot, dB, dCall, dCallF, dCons, dNil, dVar, dC, dUn, dOp, dChain, dIfE, dSet, dAsg, dDrop, dPar, dPar3, dNext, dTup, dLst, dMeth, dSl, dPart, dNo, dSplit, dJoin, dJoined2, dStar, dgName, dgCons, dgNil, dgTup, dgSub, startD, rdNeg, rdLe, rdLt, rdGt, rdGe, rdIsi, rdLen, tyD, seqOf, lstOf, rdSub, rdIsN, rdNotN, isNonD, rdFmt, rdSl]
  intro q1 hq1
  have hp1 : p ≠ q1 := fun e => by subst e; rw [hp] at hq1; cases hq1
  refine ⟨⟨by decide, by decide, by decide⟩, by decide, fun q2 hq2 => ?_⟩
  have h12 : q1 ≠ q2 := fun e => by subst e; rw [updD_same] at hq2; cases hq2
  have hp2 : p ≠ q2 := fun e => by subst e; rw [updD_ne hp1, hp] at hq2; cases hq2
  refine ⟨by decide, p, _, c, rfl, by simp, by simp, by omega, x, y, z, by rw [updD_ne hp2, updD_ne hp1]; exact hp, hm, ?_⟩
  intro d x1 y1 z1 hd hm1
  refine hq d _ x1 y1 z1 ?_ updD_same hm1
  have e1 : tyD (updD (updD (updD M q1 (.raw (.dK []))) q2 (.raw (.dK [(Sum.inr "a", V.int 0)]))) p (millD x1 y1 z1)) (.ref q1) = some "dict" := by
    simp only [tyD]
    rw [updD_ne (Ne.symm hp1), updD_ne h12, updD_same]
  have e2 : tyD (updD (updD (updD M q1 (.raw (.dK []))) q2 (.raw (.dK [(Sum.inr "a", V.int 0)]))) p (millD x1 y1 z1)) (.ref q2) = some "dict" := by
    simp only [tyD]
    rw [updD_ne (Ne.symm hp2), updD_same]
  unfold oddD
  simp only [List.mem_cons, List.not_mem_nil, or_false] at hd
  rcases hd with rfl | rfl | rfl | rfl | rfl | rfl | rfl | rfl | rfl | rfl | rfl | rfl
  · exact .inl rfl
  · exact .inr (.inl rfl)
  · exact .inr (.inr (.inl rfl))
  · exact .inr (.inr (.inr (.inl rfl)))
  · exact .inr (.inr (.inr (.inr (.inr (.inr (.inr (.inr (.inr (.inr ⟨q1, rfl, e1⟩)))))))))
  · exact .inr (.inr (.inr (.inr (.inl rfl))))
  · exact .inr (.inr (.inr (.inr (.inr (.inl rfl)))))
  · exact .inr (.inr (.inr (.inr (.inr (.inr (.inl rfl))))))
  · exact .inr (.inr (.inr (.inr (.inr (.inr (.inr (.inl rfl)))))))
  · exact .inr (.inr (.inr (.inr (.inr (.inr (.inr (.inr (.inl rfl))))))))
  · exact .inr (.inr (.inr (.inr (.inr (.inr (.inr (.inr (.inr (.inl rfl)))))))))
  · exact .inr (.inr (.inr (.inr (.inr (.inr (.inr (.inr (.inr (.inr ⟨q2, rfl, e2⟩)))))))))
theorem odd_mill {d : D} {x1 y1 z1 : Int} (h : oddD M d) (hp : M p = some (millD x y z)) : oddD (updD M p (millD x1 y1 z1)) d := by
  unfold oddD at h ⊢
  refine h.imp id fun h => h.imp id fun h => h.imp id fun h => h.imp id fun h => h.imp id fun h => h.imp id fun h => h.imp id fun h => h.imp id fun h => h.imp id fun h => h.imp id fun h => ?_
  obtain ⟨q, rfl, e⟩ := h
  have hqp : q ≠ p := fun e2 => by
    subst e2
    simp only [tyD, hp, millD] at e
    exact absurd e (by decide)
  exact ⟨q, rfl, by simp only [tyD] at e ⊢; rw [updD_ne hqp]; exact e⟩
theorem word1_int_no {i : Int} (h : ¬ (0 ≤ i ∧ i ≤ GR)) : word1 (.int i) = none := if_neg h
theorem word1_str_no {s : Str} (h : ¬ isNm s = true) : word1 (.str s) = none := if_neg h
theorem odd_facts {d : D} (h : oddD M d) : okV M d ∧ (∀ l, d ≠ .tup l) ∧ word1 d = none ∧ wlen d = 1 := by
  unfold oddD at h
  rcases h with rfl | rfl | rfl | rfl | rfl | rfl | rfl | rfl | rfl | rfl | ⟨q, rfl, e⟩
  · exact ⟨⟨⟨_, rfl⟩, fun s e => (by cases e)⟩, fun l e => (by cases e), rfl, rfl⟩
  · exact ⟨⟨⟨_, rfl⟩, fun s e => (by cases e)⟩, fun l e => (by cases e), rfl, rfl⟩
  · exact ⟨⟨⟨_, rfl⟩, fun s e => (by cases e)⟩, fun l e => (by cases e), word1_int_no (fun z => absurd z.1 (by decide)), rfl⟩
  · exact ⟨⟨⟨_, rfl⟩, fun s e => (by cases e)⟩, fun l e => (by cases e), rfl, rfl⟩
  · exact ⟨⟨⟨_, rfl⟩, fun s e => (by cases e; decide)⟩, fun l e => (by cases e), word1_str_no (by decide +kernel), rfl⟩
  · exact ⟨⟨⟨_, rfl⟩, fun s e => (by cases e; decide)⟩, fun l e => (by cases e), word1_str_no (by decide +kernel), rfl⟩
  · exact ⟨⟨⟨_, rfl⟩, fun s e => (by cases e; decide)⟩, fun l e => (by cases e), word1_str_no (by decide +kernel), rfl⟩
  · exact ⟨⟨⟨_, rfl⟩, fun s e => (by cases e)⟩, fun l e => (by cases e), word1_int_no (fun z => absurd z.2 (by decide)), rfl⟩
  · exact ⟨⟨⟨_, rfl⟩, fun s e => (by cases e; decide)⟩, fun l e => (by cases e), word1_str_no (by decide +kernel), rfl⟩
  · exact ⟨⟨⟨_, rfl⟩, fun s e => (by cases e)⟩, fun l e => (by cases e), rfl, rfl⟩
  · exact ⟨⟨⟨_, e⟩, fun s e => (by cases e)⟩, fun l e => (by cases e), rfl, rfl⟩
theorem beside_facts {y : D} (h : beside y) : (∀ n, okW (n + 1) M y) ∧ wlen y ≤ 2 := by
  rcases h with rfl | rfl | rfl | rfl
  · exact ⟨fun n => ⟨⟨⟨_, rfl⟩, fun s e => by cases e⟩, fun l e => by cases e⟩, by simp [wlen]⟩
  · exact ⟨fun n => ⟨⟨⟨_, rfl⟩, fun s e => by cases e; decide⟩, fun l e => by cases e⟩, by simp [wlen]⟩
  · exact ⟨fun n => ⟨⟨⟨_, rfl⟩, fun s e => by cases e⟩, fun l e x hx => by cases e; cases hx⟩, by simp [wlen, wlens]⟩
  · exact ⟨fun n => ⟨⟨⟨_, rfl⟩, fun s e => by cases e⟩, fun l e => by cases e⟩, by simp [wlen]⟩
theorem beside_len {l : List D} (h : l.length ≤ 1) (hb : ∀ y ∈ l, beside y) : wlens l ≤ 2 := by
  match l, h with
  | [], _ => simp [wlens]
  | [y], _ =>
    have := (beside_facts (M := fun _ => none) (hb y List.mem_cons_self)).2
    simp [wlens]
    exact this
theorem wordsAll_none {f : D → Option (List Str)} {x : D} (hx : f x = none) : ∀ (l r : List D), wordsAll f (l ++ x :: r) = none
  | [], r => by rw [List.nil_append, wordsAll_cons, hx]
  | d :: l, r => by
    rw [List.cons_append, wordsAll_cons, wordsAll_none hx l r]
    cases f d <;> rfl
theorem hid_facts {d r : D} (hd : oddD M d) {n : Nat} (h : Hid d n r) : (∀ m, n < m → okW m M r) ∧ (∀ k, n ≤ k → wordsOf k r = none) ∧ wlen r ≤ 6 * n + 1 := by
  obtain ⟨f1, f2, f3, f4⟩ := odd_facts hd
  induction h with
  | here =>
    refine ⟨fun m hm => ?_, fun k hk => by rw [words_simple f2, f3]; rfl, by omega⟩
    obtain ⟨m, rfl⟩ : ∃ k, m = k + 1 := ⟨m - 1, by omega⟩
    exact ⟨f1, fun l e => absurd e (f2 l)⟩
  | tup l r x h1 h2 h3 h4 _ ih =>
    obtain ⟨i1, i2, i3⟩ := ih
    refine ⟨fun m hm => ?_, fun k hk => ?_, ?_⟩
    · obtain ⟨m, rfl⟩ : ∃ k, m = k + 2 := ⟨m - 2, by omega⟩
      refine ⟨⟨⟨_, rfl⟩, fun s e => by cases e⟩, fun l' e y hy => ?_⟩
      cases e
      rcases List.mem_append.mp hy with hy | hy
      · exact (beside_facts (h3 y hy)).1 m
      · rcases List.mem_cons.mp hy with rfl | hy
        · exact i1 _ (by omega)
        · exact (beside_facts (h4 y hy)).1 m
    · obtain ⟨k, rfl⟩ : ∃ j, k = j + 1 := ⟨k - 1, by omega⟩
      simp only [wordsOf]
      rw [wordsAll_none (i2 k (by omega))]
      rfl
    · simp only [wlen, wlens_app, wlens]
      have := beside_len h1 h3
      have := beside_len h2 h4
      omega
theorem x39_10 {d : D} (hd : oddD M d) (hp : M p = some (millD x y z)) (hm : Mil c x y z) (hc : c < 2 ^ 100) (hq : ∀ M' x y z, M' p = some (millD x y z) → Mil (c + 10) x y z → Dd.nx [some (.ref p), a1, a2, a3, a4, a5, some d, a7, a8] M') :
    a39_10 T (wF E) Dd [some (.ref p), a1, a2, a3, a4, a5, some d, a7, a8] M := by
  simp [a39_10, dRet, dRetN, dSeq, dIf, dAndV, dOrV, dNotV, dAnd, dOr, dNot, dB, dCall, dCallF, dCons, dNil, dVar, dC, dUn, dOp, dChain, dIfE, dSet, dAsg, dDrop, dPar, dPar3, dNext, dTup, dLst, dMeth, dSl, dPart, dNo, dSplit, dJoin, dJoined2, dStar, dgName, dgCons, dgNil, dgTup, dgSub, startD, rdNeg, rdLe, rdLt, rdGt, rdGe, rdIsi, rdLen, tyD, seqOf, lstOf, rdSub, rdIsN, rdNotN, isNonD, rdFmt, rdSl]
  refine ⟨p, c, d, rfl, by omega, x, y, z, hp, hm, ?_⟩
  intro r x1 y1 z1 hr hm1
  obtain ⟨f1, f2, f3⟩ := hid_facts (odd_mill hd hp) hr
  refine ⟨r, rfl, f1 10 (by omega), by omega, ?_⟩
  rw [f2 8 (by omega)]
  exact hq _ x1 y1 z1 updD_same hm1
/-- one turn -/
theorem x39 (hp : M p = some (millD x y z)) (hm : Mil c x y z) (hc : c + asks 8 + 100 < 2 ^ 60) (hq : ∀ M' x y z a2 a3 a4 a5 a6 a7 a8, M' p = some (millD x y z) → Mil (c + asks 8 + 30) x y z → Dd.nx [some (.ref p), a1, a2, a3, a4, a5, a6, a7, a8] M') :
    b39 T (wF E) Dd [some (.ref p), a1, a2, a3, a4, a5, a6, a7, a8] M := by
  refine x39_0 (T := T) (E := E) hp hm (by omega) fun v x y z hv hm => ?_
  refine x39_1 (T := T) (E := E) hv fun ws hw => ?_
  have hl : ws.length ≤ 262144 := by
    have h1 := words_len 8 v ws hw
    have h2 := (wv_words hv).2
    have : 4 ^ (8 + 1) = 262144 := rfl
    omega
  refine x39_2 (T := T) (E := E) hv hw hl ?_
  refine x39_3 (T := T) (E := E) hl (words_ok hw) fun us h1 h2 => ?_
  refine x39_4 (T := T) (E := E) h1 h2 updD_same hm (by omega) fun rs x y z h3 h4 hm => ?_
  rw [updD_updD]
  refine x39_5 (T := T) (E := E) h3 h4 fun q hq0 => ?_
  have hpq : p ≠ q := fun e => by subst e; rw [updD_same] at hq0; cases hq0
  refine x39_6 (T := T) (E := E) h3 h4 hpq updD_same (by rw [updD_ne hpq]; exact updD_same) hm (by omega) fun r s x y z hr hs hm => ?_
  have e : (rs.map fun r => D.str (Str.join " " r)) ++ [.str (Str.join " " r ++ s)] = (rs.map (fun r => Str.join " " r) ++ [Str.join " " r ++ s]).map D.str := by simp
  rw [e]
  have all : ∀ t ∈ rs.map (fun r => Str.join " " r) ++ [Str.join " " r ++ s], t.length ≤ 900000 ∧ (Txt.split t "\n").length ≤ 1000 ∧ (firstLine t).length ≤ 10003 ∧ ∀ w ∈ firstLine t, w.length ≤ 60 := fun t ht => by
    rcases List.mem_append.mp ht with ht | ht
    · obtain ⟨r', hr', rfl⟩ := List.mem_map.mp ht
      have := text_ok (h4 r' hr').2 (.inl rfl : okEnd "") (by have := (h4 r' hr').1; omega)
      rw [str_empty] at this
      exact this
    · rw [List.mem_singleton.mp ht]
      exact text_ok hr.2 hs (by have := hr.1; omega)
  refine x39_7 (T := T) (E := E) (by simp [h3]) (fun t ht => (all t ht).1) updD_same ?_
  refine x39_8 (T := T) (E := E) (Nat.le_trans (List.length_filter_le _ _) (by simp [h3])) (fun t ht => ?_) ?_
  · obtain ⟨h5, h6⟩ := List.mem_filter.mp ht
    obtain ⟨g1, g2, g3, g4⟩ := all t h5
    exact ⟨g1, g2, g3, g4, of_decide_eq_true h6⟩
  refine x39_9 (T := T) (E := E) (x := x) (y := y) (z := z) (by rw [ersD_ne hpq, updD_ne hpq]; exact updD_same) hm (by omega) fun d M' x y z hd hp hm => ?_
  exact x39_10 (T := T) (E := E) hd hp hm (by omega) fun M' x y z hp hm => hq M' x y z _ _ _ _ _ _ _ hp (hm.mono (by omega))
theorem asks8 : asks 8 < 2 ^ 30 := by decide
theorem go39 (hq : ∀ δ M, Dd.nx δ M) : ∀ (xs : List D) (M : DHp) (c : Nat) (x y z : Int) (a1 a2 a3 a4 a5 a6 a7 a8 : Option D), M p = some (millD x y z) → Mil c x y z → c + xs.length * 2 ^ 31 < 2 ^ 50 → forRec (dgName 1) (b39 T (wF E)) xs Dd [some (.ref p), a1, a2, a3, a4, a5, a6, a7, a8] M
  | [], M, c, x, y, z, a1, a2, a3, a4, a5, a6, a7, a8, hp, hm, hc => hq _ _
  | d :: xs, M, c, x, y, z, a1, a2, a3, a4, a5, a6, a7, a8, hp, hm, hc => by
    have h8 := asks8
    have hc' : c + (xs.length + 1) * 2 ^ 31 < 2 ^ 50 := hc
    rw [Nat.add_mul] at hc'
    show b39 T (wF E) _ [some (.ref p), some d, a2, a3, a4, a5, a6, a7, a8] M
    refine x39 (T := T) (E := E) hp hm (by omega) fun M' x y z a2 a3 a4 a5 a6 a7 a8 hp hm => ?_
    exact go39 hq xs M' _ x y z _ _ _ _ _ _ _ _ hp hm (by omega)
end
theorem rd39 (T : Tx P K mg) {ds : List D} {M : DHp} {Q : QD} {E : XD} (h : S39 ds M Q E) : t39 T (wF E) { nx := fun _ M' => Q .non M', rt := Q } (startD N39 ds) M := by
  obtain ⟨p, x, y, z, rfl, hp, hm, hq⟩ := h
  rw [b39_is]
  refine ⟨⟨by decide, by decide⟩, ?_⟩
  exact go39 (T := T) (E := E) (fun δ M => hq M) (rngD 0 8) M 0 x y z none none none none none none none none hp hm (by rw [rngD_len]; decide)
end Dl
set_option Elab.async false
set_option linter.all false
set_option maxRecDepth 100000
set_option maxHeartbeats 4000000
namespace Dl
open PySem PySem.Spec PyProof.Rows L2
variable {P : Program} {K : PySem.W.Frag} {mg : Str → Option Value}
def deepD : Nat → D
  | 0 => .tup []
  | n + 1 => .tup [deepD n]
def deepW : List Str := ["(", "(", "(", "(", "(", "(", "(", "(", ")", ")", ")", ")", ")", ")", ")", ")"]
theorem go40 (T : Tx P K mg) {E : XD} {Dd : DEnds} {s0 : Option D} {ns : List Int} (hn : ns.length ≤ 63) (hq : ∀ a1 M, Dd.nx [some (.scr ns), a1, none, none, none] M) : ∀ (xs : List D) (a1 : Option D) (M : DHp), (∀ d ∈ xs, ∃ k : Nat, d = .int (k : Int) ∧ k ≤ 1000) →
    forRec (dgName 1) (dIf (dNot (dB (dCallF (wF E) S39 (dCons (dCallF (wF E) S21 (dCons (dVar 0) (dCons (dVar 1) dNil))) dNil)))) (dRet (dC (D.bl false))) dNext) xs Dd [some (.scr ns), a1, none, none, none] M
  | [], a1, M, _ => hq a1 M
  | d :: xs, a1, M, h => by
    obtain ⟨k, rfl, hk⟩ := h d List.mem_cons_self
    refine ⟨ns, k, rfl, hk, hn, fun p x y z hp hm => ?_⟩
    refine ⟨p, x, y, z, rfl, updD_same, hm, fun M' => ?_⟩
    exact go40 T (s0 := s0) hn hq xs _ M' fun d hd => h d (List.mem_cons_of_mem _ hd)
theorem deep_words : wordsOf 8 (deepD 7) = some deepW := rfl
theorem deep_okW (M : DHp) : ∀ n m, n < m → okW m M (deepD n)
  | 0, m + 1, _ => ⟨⟨⟨_, rfl⟩, fun s e => by cases e⟩, fun l e x hx => by cases e; cases hx⟩
  | n + 1, m + 1, h => ⟨⟨⟨_, rfl⟩, fun s e => by cases e⟩, fun l e x hx => by
      cases e
      rw [List.mem_singleton.mp hx]
      exact deep_okW M n m (by omega)⟩
def deepT : Str := Txt.mul "( " 8 ++ Txt.mul ") " 7 ++ ")"
theorem deep_join : Str.join " " deepW = deepT := by decide +kernel
theorem deepW_ok : ∀ w ∈ deepW, okWord w := fun w h => okWord_of (List.all_eq_true.mp (by decide +kernel : deepW.all okWB = true) w h)
theorem deep_value : valueOf deepW = [deepD 7] := rfl
theorem deep_read : readOf deepT = .inl (deepD 7) := by
  have e2 := first_of_lines (l0 := Str.join " " deepW) (ls := []) (free_join deepW_ok) (by simp)
  have e3 : Str.join "\n" [Str.join " " deepW] = deepT := deep_join
  rw [e3, deep_join] at e2
  have e4 : firstLine deepT = deepW := by
    unfold firstLine
    rw [e2, ← deep_join]
    exact split_sp (by simp [deepW]) deepW_ok
  unfold readOf
  rw [e4, deep_value, e2]
  rfl
theorem end40 (T : Tx P K mg) {E : XD} {Q : QD} {a0 a1 a3 : Option D} {M : DHp} (hq : ∀ M' : DHp, Q (D.bl true) M') : dRet (dAndV (dOp rdEq (dCallF (wF E) (S16 T) (dCons (dVar 2) dNil)) (dVar 4))
                    (dOp rdEq (dCallF (wF E) (S19 T) (dCons (dVar 4) dNil)) (dVar 2))) { nx := fun x M' => Q D.non M', rt := Q } [a0, a1, some (deepD 7), a3, some (.str deepT)] M := by
  have e : eqD (deepD 7) (deepD 7) = true := rfl
  have d1 : dat (deepD 7) = true := rfl
  have d2 : dep (deepD 7) ≤ 160 := by decide
  have d3 : wlen (deepD 7) ≤ 270000 := by decide
  have w := deep_words
  have hr := deep_read
  have hj := deep_join
  have ho := deep_okW M 7 10 (by omega)
  have hl : deepT.length ≤ 900000 := by decide +kernel
  have hs : (Txt.split deepT "\n").length ≤ 1000 := by
    have := split_le deepT "\n"
    have h2 : deepT.length ≤ 100 := by decide +kernel
    omega
  have h7 : ∃ l, deepD 7 = .tup l := ⟨_, rfl⟩
  generalize deepD 7 = dd at *
  generalize deepT = tt at *
  simp [dRet, dRetN, dSeq, dIf, dAndV, dOrV, dNotV, dAnd, dOr, dNot, dB, dCall, dCallF, dCons, dNil, dVar, dC, dUn, dOp, dChain, dIfE, dSet, dAsg, dDrop, dPar, dPar3, dNext, dTup, dLst, dMeth, dSl, dPart, dNo, dSplit, dJoin, dJoined2, dStar, dgName, dgCons, dgNil, dgTup, dgSub, startD, rdNeg, rdLe, rdLt, rdGt, rdGe, rdIsi, rdLen, tyD, seqOf, lstOf, rdSub, rdIsN, rdNotN, isNonD, rdFmt, rdSl]
  refine ⟨dd, rfl, ho, d3, ?_⟩
  rw [w]
  show rdEq (.str (Txt.join " " deepW)) (.str tt) M _
  rw [rdEq_str, join_eq, hj, decide_eq_true rfl]
  show if true = true then _ else _
  rw [if_pos rfl]
  refine ⟨tt, rfl, hl, hs, ?_⟩
  rw [hr]
  obtain ⟨l, rfl⟩ := h7
  refine ⟨d1, d1, Nat.le_trans (Nat.min_le_left _ _) d2, ?_⟩
  show Q (.bl (eqD (.tup l) (.tup l))) M
  rw [e]
  exact hq M
theorem loop40 {Dd : DEnds} {a0 a1 : Option D} {M : DHp} (hq : ∀ a3, Dd.nx [a0, a1, some (deepD 7), a3, none] M) : dFor (diRng (dCons (dC (D.int 7)) dNil)) (dgName 3) (dSet 2 (dTup (dCons (dVar 2) dNil))) Dd [a0, a1, some (deepD 0), none, none] M := by
  have one : 1 ≤ sizeLine := by decide
  have key : ∀ (xs : List D) (n : Nat) (a3 : Option D), n + xs.length = 7 → forRec (dgName 3) (dSet 2 (dTup (dCons (dVar 2) dNil))) xs Dd [a0, a1, some (deepD n), a3, none] M := by
    intro xs
    induction xs with
    | nil => intro n a3 h; have : n = 7 := by simpa using h
             rw [this]; exact hq a3
    | cons x xs ih => intro n a3 h; exact ⟨one, ih (n + 1) _ (by rw [List.length_cons] at h; omega)⟩
  exact ⟨⟨by decide, by decide⟩, key (rngD 0 7) 0 none rfl⟩
theorem set40 {Dd : DEnds} {a0 a1 a2 a3 : Option D} {M : DHp} (hq : Dd.nx [a0, a1, a2, a3, some (.str deepT)] M) : dSet 4
                  (dOp rdAdd
                    (dOp rdAdd (dOp rdMul (dC (D.str (Str.ofString "( "))) (dC (D.int 8)))
                      (dOp rdMul (dC (D.str (Str.ofString ") "))) (dC (D.int 7))))
                    (dC (D.str (Str.ofString ")")))) Dd [a0, a1, a2, a3, none] M := by
  have h1 : (Txt.mul (Str.ofString "( ") 8).length + (Txt.mul (Str.ofString ") ") 7).length ≤ sizeLine := by decide +kernel
  have h2 : (Txt.mul (Str.ofString "( ") 8 ++ Txt.mul (Str.ofString ") ") 7).length + (Str.ofString ")").length ≤ sizeLine := by decide +kernel
  exact ⟨⟨by decide, by decide, by decide⟩, ⟨by decide, by decide, by decide⟩, h1, h2, hq⟩
theorem tail40 (T : Tx P K mg) {E : XD} {Q : QD} {a0 a1 : Option D} {M : DHp} (hq : ∀ M' : DHp, Q (D.bl true) M') : (dSeq (dSet 2 (dTup dNil))
            (dSeq (dFor (diRng (dCons (dC (D.int 7)) dNil)) (dgName 3) (dSet 2 (dTup (dCons (dVar 2) dNil))))
              (dSeq
                (dSet 4
                  (dOp rdAdd
                    (dOp rdAdd (dOp rdMul (dC (D.str (Str.ofString "( "))) (dC (D.int 8)))
                      (dOp rdMul (dC (D.str (Str.ofString ") "))) (dC (D.int 7))))
                    (dC (D.str (Str.ofString ")")))))
                (dRet
                  (dAndV (dOp rdEq (dCallF (wF E) (S16 T) (dCons (dVar 2) dNil)) (dVar 4))
                    (dOp rdEq (dCallF (wF E) (S19 T) (dCons (dVar 4) dNil)) (dVar 2))))))) { nx := fun x M' => Q D.non M', rt := Q } [a0, a1, none, none, none] M := by
  refine ⟨by decide, ?_⟩
  refine loop40 fun a3 => ?_
  refine set40 ?_
  exact end40 T hq
theorem rd40 (T : Tx P K mg) {ds : List D} {M : DHp} {Q : QD} {E : XD} (h : S40 ds M Q E) : t40 T (wF E) { nx := fun _ M' => Q .non M', rt := Q } (startD N40 ds) M := by
  obtain ⟨ns, hn, rfl, hq⟩ := h
  simp [t40, dRet, dRetN, dSeq, dIf, dAndV, dOrV, dNotV, dAnd, dOr, dNot, dB, dCall, dCallF, dCons, dNil, dVar, dC, dUn, dOp, dChain, dIfE, dSet, dAsg, dDrop, dPar, dPar3, dNext, dTup, dLst, dMeth, dSl, dPart, dNo, dSplit, dJoin, dJoined2, dStar, dgName, dgCons, dgNil, dgTup, dgSub, startD, rdNeg, rdLe, rdLt, rdGt, rdGe, rdIsi, rdLen, tyD, seqOf, lstOf, rdSub, rdIsN, rdNotN, isNonD, rdFmt, rdSl, kb_NoneType_int, kb_NoneType_bool, kb_NoneType_str, kb_NoneType_tuple, kb_bool_int, kb_bool_bool, kb_bool_str, kb_bool_tuple, kb_int_int, kb_int_bool, kb_int_str, kb_int_tuple, kb_str_int, kb_str_bool, kb_str_str, kb_str_tuple, kb_tuple_int, kb_tuple_bool, kb_tuple_str, kb_tuple_tuple, kb_list_int, kb_list_bool, kb_list_str, kb_list_tuple, kb_dict_int, kb_dict_bool, kb_dict_str, kb_dict_tuple, rdEq_int, dFor, diRng, rdMax, rdMin]
  have h6 : ∃ n : Nat, (if 1 < if (ns.length : Int) < 6 then (ns.length : Int) else 6 then if (ns.length : Int) < 6 then (ns.length : Int) else 6 else 1) = (n : Int) ∧ n ≤ 6 := by
    by_cases c : (ns.length : Int) < 6
    · rw [if_pos c]
      by_cases c2 : (1 : Int) < ns.length
      · rw [if_pos c2]
        exact ⟨ns.length, rfl, by omega⟩
      · rw [if_neg c2]
        exact ⟨1, rfl, by omega⟩
    · rw [if_neg c]
      exact ⟨6, rfl, by omega⟩
  obtain ⟨n, e, hn6⟩ := h6
  rw [e]
  refine ⟨⟨by omega, by omega⟩, ?_⟩
  refine go40 T (s0 := none) hn (fun a1 M => ?_) _ _ _ fun d hd => ?_
  · exact tail40 T hq
  · obtain ⟨k, hk, rfl⟩ := List.mem_map.mp hd
    have := List.mem_range.mp hk
    exact ⟨k, by simp, by omega⟩
end Dl
set_option Elab.async false
set_option linter.all false
set_option maxRecDepth 100000
set_option maxHeartbeats 4000000
namespace Dl
open PySem PySem.Spec PyProof.Rows L2
variable {P : Program} {K : PySem.W.Frag} {mg : Str → Option Value}
theorem ok_init (T : Tx P K mg) {w : World} {base : Heap} : FnOk P w K mg base (L2.CX P w) 1 T.aIn T.dIn ["self", "index"] (spI K T.aPE "index" okIxV) := by
  obtain ⟨oc, od, osl, dV, kV, doc, pm, an, ct, lk, e⟩ := T.okIn
  rw [e] at lk ⊢
  refine fn_super (x2 := "index") (fld := "index") lk T.cdIn T.oPE T.inPE T.noPE rfl rfl rfl rfl (by decide +kernel) (by decide) rfl rfl rfl rfl (fun y hy => ?_) (by decide) (by decide)
    (fun A outer s H E => pe_joined (.cons pe_str (.cons (pe_fmt (pe_var (i := 1) (hN := rfl) (hv := .inl rfl))) .nil))) (fun v y H Q hy hQ => ?_) (fun _ => ⟨_, rfl⟩) (fun _ => rfl)
  · have key : ∀ (l : List (Str × NameKind)), (∀ p ∈ l, p.2 = .cell ∨ p.2 = .free → p.1 = "__class__") → ∀ k, l.lookup y = some k → (k = .cell ∨ k = .free) → y = "__class__" := by
      intro l hl k hk hc
      exact hl (y, k) (PySem.mem_of_lookup hk) hc
    have hl : ∀ p ∈ (defScope sIn).names, p.2 = .cell ∨ p.2 = .free → p.1 = "__class__" := by decide +kernel
    rcases hy with hy | hy
    · exact key _ hl _ hy (.inl rfl)
    · exact key _ hl _ hy (.inr rfl)
  · rcases hy with rfl | rfl
    · exact ⟨_, rfl, (by decide +kernel), _, rfl, .inr ⟨0, rfl, (by decide), _, rfl, (by decide +kernel), hQ _⟩⟩
    · exact ⟨_, rfl, (by decide +kernel), _, rfl, .inr ⟨1, rfl, (by decide), _, rfl, (by decide +kernel), hQ _⟩⟩
end Dl
set_option Elab.async false
set_option linter.all false
set_option maxRecDepth 100000
set_option maxHeartbeats 4000000
namespace Dl
open PySem PySem.Spec PyProof.Rows L2
theorem fnD_none {P : Program} {wd : World} {K : PySem.W.Frag} {mg : Str → Option Value} {base : Heap} {k : Nat} {f : Addr} {fd : FuncData} {ps : List Str} {S : SpD} (h : ∀ ds M Q E, ¬ S ds M Q E) : FnD P wd K mg base k f fd ps S :=
  ⟨fun vs H Q E h => h.1, fun A outer s H args us vs Q E _ _ _ _ hs => by
    obtain ⟨_, ds, M, Qd, Ed, _, _, hS, _⟩ := hs
    exact absurd hS (h _ _ _ _)⟩
end Dl
set_option Elab.async false
set_option linter.all false
set_option maxRecDepth 100000
set_option maxHeartbeats 4000000
namespace Dl
open PySem PySem.Spec PyProof.Rows L2
/-! the derivations, printed by pr83.py -/
variable {P : Program} {w : World} {K : PySem.W.Frag} {mg : Str → Option Value} {base : Heap}

theorem ok3 (T : Tx P K mg) : FnD P w K mg base 1 T.a3 T.d3 ["value"] S3 := by
  refine fnD (k := 0) T.f3 sc3 fun cdv A outer s H E Ed hr => ⟨t3 T (wF Ed), ?_, fun ds M Qd _ hS => rd3 T hS⟩
  have hu := hu160 hr
  have tk : Takes (cxOf (L2.CX P w) P w K mg base N3 "is_integer" (defScope s3) T.a3 cdv A outer s H E) (wD Ed E).h := takes_of rfl rfl rfl rfl
  exact (dss_one (ds_ret (de_and (de_isi T.n_isinstance (da_cons (dv 0) (da_cons (de_bltn rfl T.n_int (by decide +kernel)) da_nil))) (de_and (de_not (de_isi T.n_isinstance (da_cons (dv 0) (da_cons (de_bltn rfl T.n_bool (by decide +kernel)) da_nil)))) (de_one (de_lele (de_neg (de_glob rfl T.m_GREATEST T.r_GREATEST (fun _ _ => rfl))) (dv 0) (de_glob rfl T.m_GREATEST T.r_GREATEST (fun _ _ => rfl))))))))
theorem ok4 (T : Tx P K mg) : FnD P w K mg base 2 T.a4 T.d4 ["value"] S4 := by
  refine fnD (k := 1) T.f4 sc4 fun cdv A outer s H E Ed hr => ⟨t4 T (wF Ed), ?_, fun ds M Qd _ hS => rd4 T hS⟩
  have hu := hu160 hr
  have tk : Takes (cxOf (L2.CX P w) P w K mg base N4 "is_count" (defScope s4) T.a4 cdv A outer s H E) (wD Ed E).h := takes_of rfl rfl rfl rfl
  exact (dss_one (ds_ret (de_and (de_call (ok3 T) (hr.mono (by omega)) T.m3 T.f3.kp T.b3 tk len3 (da_cons (dv 0) da_nil)) (de_one (de_ge (dv 0) de_int)))))
theorem ok5 (T : Tx P K mg) : FnD P w K mg base 1 T.a5 T.d5 ["value"] S5 := by
  refine fnD (k := 0) T.f5 sc5 fun cdv A outer s H E Ed hr => ⟨t5 T (wF Ed), ?_, fun ds M Qd _ hS => rd5 T hS⟩
  have hu := hu160 hr
  have tk : Takes (cxOf (L2.CX P w) P w K mg base N5 "is_name" (defScope s5) T.a5 cdv A outer s H E) (wD Ed E).h := takes_of rfl rfl rfl rfl
  exact (dss_cons (ds_if (dw_pt (dw_or (dt_not (dt_val (de_isi T.n_isinstance (da_cons (dv 0) (da_cons (de_bltn rfl T.n_str (by decide +kernel)) da_nil))))) (dw_or1 (dt_not (dt_lele de_int (de_len T.n_len (da_cons (dv 0) da_nil)) (de_glob rfl T.m_MAX_LETTERS T.r_MAX_LETTERS (fun _ _ => rfl))))))) (dss_one (ds_ret de_bl)) dss_nil) (dss_one (ds_ret (de_all rfl T.n_all (da_cons (de_lc (own := [("letter", 1)]) rfl sc5.nd (di_str (dv 0)) (blkOk_by (N := N5) (sc := defScope s5) (by decide +kernel)) (fun _ _ _ _ _ => (dg_name (i := 1) sc5.nd rfl (by first | exact Or.inl rfl | exact Or.inr rfl))) (fun _ _ _ _ _ => dts_nil) (fun _ _ _ _ _ => (de_lele de_str (dv 1) de_str))) da_nil)))))
theorem ok13 (T : Tx P K mg) : FnD P w K mg base 1 T.a13 T.d13 ["value"] S13 := by
  refine fnD (k := 0) T.f13 sc13 fun cdv A outer s H E Ed hr => ⟨t13 T (wF Ed), ?_, fun ds M Qd _ hS => rd13 T hS⟩
  have hu := hu160 hr
  have tk : Takes (cxOf (L2.CX P w) P w K mg base N13 "require_text" (defScope s13) T.a13 cdv A outer s H E) (wD Ed E).h := takes_of rfl rfl rfl rfl
  exact (dss_one (ds_if (dt_not (dt_val (de_isi T.n_isinstance (da_cons (dv 0) (da_cons (de_bltn rfl T.n_str (by decide +kernel)) da_nil))))) (dss_one (ds_raise rfl tk (pmk_own PySem.F.excBase_ValueError T.xIO T.gIO T.kIO (raises_own T.bIO T.tIO) rfl))) dss_nil))
theorem ok14 (T : Tx P K mg) : FnD P w K mg base 1 T.a14 T.d14 ["word"] S14 := by
  refine fnD (k := 0) T.f14 sc14 fun cdv A outer s H E Ed hr => ⟨t14 T (wF Ed), ?_, fun ds M Qd _ hS => rd14 T hS⟩
  have hu := hu160 hr
  have tk : Takes (cxOf (L2.CX P w) P w K mg base N14 "number_of" (defScope s14) T.a14 cdv A outer s H E) (wD Ed E).h := takes_of rfl rfl rfl rfl
  exact (dss_cons (ds_if (dw_pt (dw_or (dt_not (dt_lele de_int (de_len T.n_len (da_cons (dv 0) da_nil)) (de_glob rfl T.m_MAX_DIGITS T.r_MAX_DIGITS (fun _ _ => rfl)))) (dw_or1 (dt_not (dt_val (de_all rfl T.n_all (da_cons (de_lc (own := [("sign", 1)]) rfl sc14.nd (di_str (dv 0)) (blkOk_by (N := N14) (sc := defScope s14) (by decide +kernel)) (fun _ _ _ _ _ => (dg_name (i := 1) sc14.nd rfl (by first | exact Or.inl rfl | exact Or.inr rfl))) (fun _ _ _ _ _ => dts_nil) (fun _ _ _ _ _ => (de_lele de_str (dv 1) de_str))) da_nil))))))) (dss_one (ds_ret de_non)) dss_nil) (dss_one (ds_ret (de_ifExp (dw_pt (dw_and (dt_eq hu (de_sub_ix (dv 0) de_int) de_str) (dw_and1 (dt_ne hu (dv 0) de_str)))) de_non (de_intC T.n_int (da_cons (dv 0) da_nil))))))
theorem ok15 (T : Tx P K mg) : ∀ n : Nat, FnD P w K mg base (3 + n) T.a15 T.d15 ["value", "depth"] (S15 T n)
  | 0 => fnD_none fun _ _ _ _ h => no15 h
  | n + 1 => by
    have ih := ok15 T n
    refine fnD (k := 3 + n) T.f15 sc15 fun cdv A outer s H E Ed hr => ⟨t15 T n (wF Ed), ?_, fun ds M Qd _ hS => rd15 T hS⟩
    have hu := hu160 hr
    have tk : Takes (cxOf (L2.CX P w) P w K mg base N15 "words_of" (defScope s15) T.a15 cdv A outer s H E) (wD Ed E).h := takes_of rfl rfl rfl rfl
    exact (dss_cons (ds_if (dt_is (dv 0) de_non) (dss_one (ds_ret (de_lst (da_cons de_str da_nil)))) dss_nil) (dss_cons (ds_if (dt_val (de_call (ok4 T) (hr.mono (by omega)) T.m4 T.f4.kp T.b4 tk len4 (da_cons (dv 0) da_nil))) (dss_one (ds_ret (de_lst (da_cons (de_strC T.n_str (da_cons (dv 0) da_nil)) da_nil)))) dss_nil) (dss_cons (ds_if (dt_val (de_call (ok5 T) (hr.mono (by omega)) T.m5 T.f5.kp T.b5 tk len5 (da_cons (dv 0) da_nil))) (dss_one (ds_ret (de_lst (da_cons (de_joined2 de_str (de_fmt (dv 0))) da_nil)))) dss_nil) (dss_cons (ds_if (dw_pt (dw_or (dt_not (dt_val (de_isi T.n_isinstance (da_cons (dv 0) (da_cons (de_bltn rfl T.n_tuple (by decide +kernel)) da_nil))))) (dw_or1 (dt_eq hu (dv 1) de_int)))) (dss_one (ds_raise rfl tk (pmk_own PySem.F.excBase_ValueError T.xIO T.gIO T.kIO (raises_own T.bIO T.tIO) rfl))) dss_nil) (dss_one (ds_ret (de_lst (da_cons de_str (da_star (de_frz (de_lc2T (own := [("part", 2), ("word", 3)]) (vs1 := [3]) rfl rfl tk rfl sc15.nd (di_tup (dv 0)) (blkOk_by (N := N15) (sc := defScope s15) (by decide +kernel)) (fun _ _ _ _ _ => (dg_name (i := 2) sc15.nd rfl (by first | exact Or.inl rfl | exact Or.inr rfl))) (fun _ _ _ _ _ => dts_nil) (fun _ _ _ _ _ _ _ wb tkB => (di_lst (de_callC ih (hr.mono (by omega)) T.m15 T.f15.kp T.b15 tkB len15 (da_cons (dv 2) (da_cons (de_sub (dv 1) de_int) da_nil))))) (fun _ _ _ _ _ => (dg_name (i := 3) sc15.nd rfl (by first | exact Or.inl rfl | exact Or.inr rfl))) (fun _ _ _ _ _ => dts_nil) (fun _ _ _ _ _ => (dv 3)))) (da_cons de_str da_nil))))))))))
theorem ok16 (T : Tx P K mg) : FnD P w K mg base 14 T.a16 T.d16 ["value"] (S16 T) := by
  refine fnD (k := 13) T.f16 sc16 fun cdv A outer s H E Ed hr => ⟨t16 T (wF Ed), ?_, fun ds M Qd _ hS => rd16 T hS⟩
  have hu := hu160 hr
  have tk : Takes (cxOf (L2.CX P w) P w K mg base N16 "write_value" (defScope s16) T.a16 cdv A outer s H E) (wD Ed E).h := takes_of rfl rfl rfl rfl
  exact (dss_one (ds_ret (de_join de_str (de_call (ok15 T 10) (hr.mono (by omega)) T.m15 T.f15.kp T.b15 tk len15 (da_cons (dv 0) (da_cons (de_glob rfl T.m_MAX_DEPTH T.r_MAX_DEPTH (fun _ _ => rfl)) da_nil))))))
theorem ok17 (T : Tx P K mg) : FnD P w K mg base 2 T.a17 T.d17 ["word"] S17 := by
  refine fnD (k := 1) T.f17 sc17 fun cdv A outer s H E Ed hr => ⟨t17 T (wF Ed), ?_, fun ds M Qd _ hS => rd17 T hS⟩
  have hu := hu160 hr
  have tk : Takes (cxOf (L2.CX P w) P w K mg base N17 "single_of" (defScope s17) T.a17 cdv A outer s H E) (wD Ed E).h := takes_of rfl rfl rfl rfl
  exact (dss_cons (ds_if (dt_eq hu (dv 0) de_str) (dss_one (ds_ret (de_lst (da_cons de_non da_nil)))) dss_nil) (dss_cons (ds_if (dt_eq hu (de_sl (dv 0) dp_none (dp_some de_int)) de_str) (dss_one (ds_ret (de_ifExp (dt_val (de_call (ok5 T) (hr.mono (by omega)) T.m5 T.f5.kp T.b5 tk len5 (da_cons (de_sl (dv 0) (dp_some de_int) dp_none) da_nil))) (de_lst (da_cons (de_sl (dv 0) (dp_some de_int) dp_none) da_nil)) (de_lst da_nil)))) dss_nil) (dss_cons (ds_set 1 sc17.nd (de_call (ok14 T) (hr.mono (by omega)) T.m14 T.f14.kp T.b14 tk len14 (da_cons (dv 0) da_nil))) (dss_one (ds_ret (de_ifExp (dt_is (dv 1) de_non) (de_lst da_nil) (de_lst (da_cons (dv 1) da_nil))))))))
theorem ok18 (T : Tx P K mg) : FnD P w K mg base 3 T.a18 T.d18 ["words"] S18 := by
  refine fnD (k := 2) T.f18 sc18 fun cdv A outer s H E Ed hr => ⟨t18 T (wF Ed), ?_, fun ds M Qd _ hS => rd18 T hS⟩
  have hu := hu160 hr
  have tk : Takes (cxOf (L2.CX P w) P w K mg base N18 "value_of" (defScope s18) T.a18 cdv A outer s H E) (wD Ed E).h := takes_of rfl rfl rfl rfl
  exact (dss_cons (ds_set 1 sc18.nd (de_lstT (da_cons (de_lstT da_nil) da_nil))) (dss_cons (ds_for (passes_of rfl) rfl (di_lst (dv 0)) (dg_name (i := 2) sc18.nd rfl (by first | exact Or.inl rfl | exact Or.inr rfl)) (dss_one (ds_if (dw_pt (dw_and (dt_eq hu (dv 2) de_str) (dw_and1 (dt_le (de_len T.n_len (da_cons (dv 1) da_nil)) (de_glob rfl T.m_MAX_DEPTH T.r_MAX_DEPTH (fun _ _ => rfl)))))) (dss_one (ds_expr (de_append (dv 1) (da_cons (de_lstT da_nil) da_nil)))) (dss_one (ds_if (dw_pt (dw_and (dt_eq hu (dv 2) de_str) (dw_and1 (dt_gt (de_len T.n_len (da_cons (dv 1) da_nil)) de_int)))) (dss_cons (ds_set 3 sc18.nd (de_tupleC T.n_tuple (da_cons (de_pop (dv 1)) da_nil))) (dss_one (ds_expr (de_append (de_sub_ix (dv 1) (de_neg de_int)) (da_cons (dv 3) da_nil))))) (dss_cons (ds_set 4 sc18.nd (de_call (ok17 T) (hr.mono (by omega)) T.m17 T.f17.kp T.b17 tk len17 (da_cons (dv 2) da_nil))) (dss_cons (ds_if (dt_eq hu (dv 4) (de_lst da_nil)) (dss_one (ds_ret (de_shr (de_lst da_nil)))) dss_nil) (dss_one (ds_expr (de_extend (de_sub_ix (dv 1) (de_neg de_int)) (da_cons (dv 4) da_nil))))))))))) (dss_one (ds_ret (de_shr (de_frz (de_ifExp (dw_pt (dw_and (dt_eq hu (de_len T.n_len (da_cons (dv 1) da_nil)) de_int) (dw_and1 (dt_eq hu (de_len T.n_len (da_cons (de_sub_ix (dv 1) de_int) da_nil)) de_int)))) (de_sub_ix (dv 1) de_int) (de_lstT da_nil))))))))
theorem ok19 (T : Tx P K mg) : FnD P w K mg base 5 T.a19 T.d19 ["text"] (S19 T) := by
  refine fnD (k := 4) T.f19 sc19 fun cdv A outer s H E Ed hr => ⟨t19 T (wF Ed), ?_, fun ds M Qd _ hS => rd19 T hS⟩
  have hu := hu160 hr
  have tk : Takes (cxOf (L2.CX P w) P w K mg base N19 "read_value" (defScope s19) T.a19 cdv A outer s H E) (wD Ed E).h := takes_of rfl rfl rfl rfl
  exact (dss_cons (ds_expr (de_call (ok13 T) (hr.mono (by omega)) T.m13 T.f13.kp T.b13 tk len13 (da_cons (dv 0) da_nil))) (dss_cons (ds_asg (de_split (dv 0) de_str) (dg_star (n := 2) 1 rfl (dgs_cons (dg_name (i := 2) sc19.nd rfl (by first | exact Or.inl rfl | exact Or.inr rfl)) (dgs_star (dg_name (i := 3) sc19.nd rfl (by first | exact Or.inl rfl | exact Or.inr rfl)) dgs_nil)))) (dss_cons (ds_set 1 sc19.nd (de_call (ok18 T) (hr.mono (by omega)) T.m18 T.f18.kp T.b18 tk len18 (da_cons (de_split (dv 2) de_str) da_nil))) (dss_cons (ds_if (dt_eq hu (dv 1) (de_lst da_nil)) (dss_one (ds_raiseX rfl tk T.oPE T.iPE T.iPEt (ok_init T) (hr.mono (by omega)) T.bPE passL okIx_ok T.gPE de_int)) dss_nil) (dss_cons (ds_if (dt_ne hu (dv 3) (de_lst da_nil)) (dss_one (ds_raiseX rfl tk T.oPE T.iPE T.iPEt (ok_init T) (hr.mono (by omega)) T.bPE passL okIx_ok T.gPE de_int)) dss_nil) (dss_one (ds_ret (de_sub_ix (dv 1) de_int))))))))
theorem ok21 (T : Tx P K mg) : FnD P w K mg base 1 T.a21 T.d21 ["_law_script", "_law_at"] S21 := by
  refine fnD (k := 0) T.f21 sc21 fun cdv A outer s H E Ed hr => ⟨t21 T (wF Ed), ?_, fun ds M Qd _ hS => rd21 T hS⟩
  have hu := hu160 hr
  have tk : Takes (cxOf (L2.CX P w) P w K mg base N21 "_law_mill" (defScope s21) T.a21 cdv A outer s H E) (wD Ed E).h := takes_of rfl rfl rfl rfl
  exact (dss_cons (ds_set 2 sc21.nd (de_ifExp (dt_lt (dv 1) (de_len T.n_len (da_cons (dv 0) da_nil))) (de_sub_ix (dv 0) (dv 1)) (de_add (de_mul de_int (dv 1)) de_int))) (dss_cons (ds_set 3 sc21.nd (de_mod (de_intC T.n_int (da_cons (de_abs T.n_abs (da_cons (dv 2) da_nil)) da_nil)) (de_pow (de_pow de_int de_int) de_int))) (dss_cons (ds_set 4 sc21.nd (de_add (de_add (de_add (de_mul (de_mod (de_intC T.n_int (da_cons (dv 3) da_nil)) de_int) de_int) (de_mul de_int (dv 1))) (de_mul de_int (de_intC T.n_int (da_cons (de_lt (dv 2) de_int) da_nil)))) de_int)) (dss_one (ds_ret (de_lstT (da_cons (de_max rfl T.n_max (da_cons de_int (da_cons (de_sub (dv 3) (de_pow de_int de_int)) da_nil))) (da_cons (de_mod (de_intC T.n_int (da_cons (dv 4) da_nil)) de_int) (da_cons de_int da_nil)))))))))
theorem ok22 (T : Tx P K mg) : FnD P w K mg base 1 T.a22 T.d22 ["_law_mill_here", "_law_total"] S22 := by
  refine fnD (k := 0) T.f22 sc22 fun cdv A outer s H E Ed hr => ⟨t22 T (wF Ed), ?_, fun ds M Qd _ hS => rd22 T hS⟩
  have hu := hu160 hr
  have tk : Takes (cxOf (L2.CX P w) P w K mg base N22 "_law_grain" (defScope s22) T.a22 cdv A outer s H E) (wD Ed E).h := takes_of rfl rfl rfl rfl
  exact (dss_cons (ds_if (dt_gt (de_sub_ix (dv 0) de_int) de_int) (dss_cons (ds_set 4 sc22.nd (de_mod (de_intC T.n_int (da_cons (de_sub_ix (dv 0) de_int) da_nil)) (dv 1))) (dss_cons (ds_asg (de_div (de_sub_ix (dv 0) de_int) (dv 1)) (dg_ix (dv 0) de_int)) (dss_one (ds_ret (dv 4))))) dss_nil) (dss_cons (ds_asg (de_add (de_sub_ix (dv 0) de_int) de_int) (dg_ix (dv 0) de_int)) (dss_cons (ds_set 2 sc22.nd (de_mod (de_intC T.n_int (da_cons (de_add (de_sub_ix (dv 0) de_int) (de_mul de_int (de_sub_ix (dv 0) de_int))) da_nil)) de_int)) (dss_cons (ds_set 3 sc22.nd (de_add (de_mul (de_mod (de_intC T.n_int (da_cons (de_mul (dv 2) (dv 2)) da_nil)) de_int) (dv 2)) (de_mul de_int (de_sub_ix (dv 0) de_int)))) (dss_one (ds_ret (de_mod (de_intC T.n_int (da_cons (de_div (de_mod (de_intC T.n_int (da_cons (dv 3) da_nil)) de_int) de_int) da_nil)) (dv 1))))))))
theorem ok23 (T : Tx P K mg) : FnD P w K mg base 2 T.a23 T.d23 ["_law_mill_here", "_law_items"] S23 := by
  refine fnD (k := 1) T.f23 sc23 fun cdv A outer s H E Ed hr => ⟨t23 T (wF Ed), ?_, fun ds M Qd _ hS => rd23 T hS⟩
  have hu := hu160 hr
  have tk : Takes (cxOf (L2.CX P w) P w K mg base N23 "_law_one_of" (defScope s23) T.a23 cdv A outer s H E) (wD Ed E).h := takes_of rfl rfl rfl rfl
  exact (dss_one (ds_ret (de_sub_ix (dv 1) (de_call (ok22 T) (hr.mono (by omega)) T.m22 T.f22.kp T.b22 tk len22 (da_cons (dv 0) (da_cons (de_len T.n_len (da_cons (dv 1) da_nil)) da_nil))))))
theorem ok24 (T : Tx P K mg) : FnD P w K mg base 2 T.a24 T.d24 ["_law_mill_here", "_law_items"] S24 := by
  refine fnD (k := 1) T.f24 sc24 fun cdv A outer s H E Ed hr => ⟨t24 T (wF Ed), ?_, fun ds M Qd _ hS => rd24 T hS⟩
  have hu := hu160 hr
  have tk : Takes (cxOf (L2.CX P w) P w K mg base N24 "_law_order" (defScope s24) T.a24 cdv A outer s H E) (wD Ed E).h := takes_of rfl rfl rfl rfl
  exact (dss_cons (ds_set 2 sc24.nd (de_listCT rfl T.n_list (da_cons (dv 1) da_nil))) (dss_one (ds_ret (de_shr (de_lc (own := [("_law_turn", 3)]) rfl sc24.nd (di_range1 rfl T.n_range (da_cons (de_len T.n_len (da_cons (dv 1) da_nil)) da_nil)) (blkOk_by (N := N24) (sc := defScope s24) (by decide +kernel)) (fun _ _ _ _ _ => (dg_name (i := 3) sc24.nd rfl (by first | exact Or.inl rfl | exact Or.inr rfl))) (fun _ _ _ _ _ => dts_nil) (fun _ _ _ _ _ => (de_popAt (dv 2) (da_cons (de_call (ok22 T) (hr.mono (by omega)) T.m22 T.f22.kp T.b22 takesN len22 (da_cons (dv 0) (da_cons (de_len T.n_len (da_cons (dv 2) da_nil)) da_nil))) da_nil))))))))
theorem ok25 (T : Tx P K mg) : FnD P w K mg base 2 T.a25 T.d25 ["_law_mill_here"] S25 := by
  refine fnD (k := 1) T.f25 sc25 fun cdv A outer s H E Ed hr => ⟨t25 T (wF Ed), ?_, fun ds M Qd _ hS => rd25 T hS⟩
  have hu := hu160 hr
  have tk : Takes (cxOf (L2.CX P w) P w K mg base N25 "_law_letter" (defScope s25) T.a25 cdv A outer s H E) (wD Ed E).h := takes_of rfl rfl rfl rfl
  exact (dss_one (ds_ret (de_sub_ix de_str (de_call (ok22 T) (hr.mono (by omega)) T.m22 T.f22.kp T.b22 tk len22 (da_cons (dv 0) (da_cons de_int da_nil))))))
theorem ok26 (T : Tx P K mg) : FnD P w K mg base 3 T.a26 T.d26 ["_law_mill_here", "_law_much"] S26 := by
  refine fnD (k := 2) T.f26 sc26 fun cdv A outer s H E Ed hr => ⟨t26 T (wF Ed), ?_, fun ds M Qd _ hS => rd26 T hS⟩
  have hu := hu160 hr
  have tk : Takes (cxOf (L2.CX P w) P w K mg base N26 "_law_many_names" (defScope s26) T.a26 cdv A outer s H E) (wD Ed E).h := takes_of rfl rfl rfl rfl
  exact (dss_cons (ds_par3 4 5 6 rfl sc26.nd (da_cons (de_join de_str (de_lc (own := [("_law_at", 7)]) rfl sc26.nd (di_range1 rfl T.n_range (da_cons (de_call (ok22 T) (hr.mono (by omega)) T.m22 T.f22.kp T.b22 tk len22 (da_cons (dv 0) (da_cons de_int da_nil))) da_nil)) (blkOk_by (N := N26) (sc := defScope s26) (by decide +kernel)) (fun _ _ _ _ _ => (dg_name (i := 7) sc26.nd rfl (by first | exact Or.inl rfl | exact Or.inr rfl))) (fun _ _ _ _ _ => dts_nil) (fun _ _ _ _ _ => (de_call (ok25 T) (hr.mono (by omega)) T.m25 T.f25.kp T.b25 takesN len25 (da_cons (dv 0) da_nil))))) (da_cons (de_call (ok22 T) (hr.mono (by omega)) T.m22 T.f22.kp T.b22 tk len22 (da_cons (dv 0) (da_cons de_int da_nil))) (da_cons (de_lstT da_nil) da_nil)))) (dss_cons (ds_set 2 sc26.nd (de_call (ok22 T) (hr.mono (by omega)) T.m22 T.f22.kp T.b22 tk len22 (da_cons (dv 0) (da_cons (de_add (de_len T.n_len (da_cons (dv 4) da_nil)) de_int) da_nil)))) (dss_cons (ds_for (passes_of rfl) rfl (di_lst (de_sl (de_call (ok24 T) (hr.mono (by omega)) T.m24 T.f24.kp T.b24 tk len24 (da_cons (dv 0) (da_cons de_str da_nil))) dp_none (dp_some (dv 1)))) (dg_name (i := 3) sc26.nd rfl (by first | exact Or.inl rfl | exact Or.inr rfl)) (dss_one (ds_if (dt_eq hu (dv 5) de_int) (dss_one (ds_expr (de_append (dv 6) (da_cons (de_add (de_add (de_sl (dv 4) dp_none (dp_some (dv 2))) (dv 3)) (de_sl (dv 4) (dp_some (dv 2)) dp_none)) da_nil)))) (dss_one (ds_if (dt_eq hu (dv 5) de_int) (dss_one (ds_expr (de_append (dv 6) (da_cons (de_add (dv 3) (de_sl (dv 4) dp_none (dp_some (de_call (ok22 T) (hr.mono (by omega)) T.m22 T.f22.kp T.b22 tk len22 (da_cons (dv 0) (da_cons (de_add (de_len T.n_len (da_cons (dv 4) da_nil)) de_int) da_nil)))))) da_nil)))) (dss_one (ds_expr (de_append (dv 6) (da_cons (de_sl (de_mul (dv 3) de_int) dp_none (dp_some (de_add de_int (de_call (ok22 T) (hr.mono (by omega)) T.m22 T.f22.kp T.b22 tk len22 (da_cons (dv 0) (da_cons de_int da_nil)))))) da_nil))))))))) (dss_one (ds_ret (de_shr (de_frz (dv 6))))))))
theorem ok27 (T : Tx P K mg) : FnD P w K mg base 1 T.a27 T.d27 ["_law_value"] S27 := by
  refine fnD (k := 0) T.f27 sc27 fun cdv A outer s H E Ed hr => ⟨t27 T (wF Ed), ?_, fun ds M Qd _ hS => rd27 T hS⟩
  have hu := hu160 hr
  have tk : Takes (cxOf (L2.CX P w) P w K mg base N27 "_law_spelled" (defScope s27) T.a27 cdv A outer s H E) (wD Ed E).h := takes_of rfl rfl rfl rfl
  exact (dss_cons (ds_if (dw_pt (dw_or (dt_not (dt_val (de_isi T.n_isinstance (da_cons (dv 0) (da_cons (de_bltn rfl T.n_str (by decide +kernel)) da_nil))))) (dw_or (dt_eq hu (de_len T.n_len (da_cons (dv 0) da_nil)) de_int) (dw_or1 (dt_gt (de_len T.n_len (da_cons (dv 0) da_nil)) de_int))))) (dss_one (ds_ret de_bl)) dss_nil) (dss_one (ds_ret (de_eq hu (de_lc (own := [("_law_sign", 1)]) rfl sc27.nd (di_str (dv 0)) (blkOk_by (N := N27) (sc := defScope s27) (by decide +kernel)) (fun _ _ _ _ _ => (dg_name (i := 1) sc27.nd rfl (by first | exact Or.inl rfl | exact Or.inr rfl))) (fun _ _ _ _ _ => (dts_one (dt_notin hu (dv 1) de_str))) (fun _ _ _ _ _ => (dv 1))) (de_lst da_nil)))))
theorem ok28 (T : Tx P K mg) : FnD P w K mg base 1 T.a28 T.d28 ["_law_value"] S28 := by
  refine fnD (k := 0) T.f28 sc28 fun cdv A outer s H E Ed hr => ⟨t28 T (wF Ed), ?_, fun ds M Qd _ hS => rd28 T hS⟩
  have hu := hu160 hr
  have tk : Takes (cxOf (L2.CX P w) P w K mg base N28 "_law_is_count" (defScope s28) T.a28 cdv A outer s H E) (wD Ed E).h := takes_of rfl rfl rfl rfl
  exact (dss_one (ds_ret (de_and (de_isi T.n_isinstance (da_cons (dv 0) (da_cons (de_bltn rfl T.n_int (by decide +kernel)) da_nil))) (de_and (de_not (de_isi T.n_isinstance (da_cons (dv 0) (da_cons (de_bltn rfl T.n_bool (by decide +kernel)) da_nil)))) (de_one (de_le de_int (dv 0)))))))
theorem ok29 (T : Tx P K mg) : ∀ n : Nat, FnD P w K mg base (9 + n) T.a29 T.d29 ["_law_mill_here", "_law_deep"] (S29 n)
  | 0 => fnD_none fun _ _ _ _ h => no29 h
  | n + 1 => by
    have ih := ok29 T n
    refine fnD (k := 9 + n) T.f29 sc29 fun cdv A outer s H E Ed hr => ⟨t29 T n (wF Ed), ?_, fun ds M Qd _ hS => rd29 T hS⟩
    have hu := hu160 hr
    have tk : Takes (cxOf (L2.CX P w) P w K mg base N29 "_law_worth" (defScope s29) T.a29 cdv A outer s H E) (wD Ed E).h := takes_of rfl rfl rfl rfl
    exact (dss_cons (ds_set 2 sc29.nd (de_ifExp (dt_gt (dv 1) de_int) (de_call (ok22 T) (hr.mono (by omega)) T.m22 T.f22.kp T.b22 tk len22 (da_cons (dv 0) (da_cons de_int da_nil))) (de_call (ok22 T) (hr.mono (by omega)) T.m22 T.f22.kp T.b22 tk len22 (da_cons (dv 0) (da_cons de_int da_nil))))) (dss_cons (ds_if (dt_eq hu (dv 2) de_int) (dss_one (ds_ret (de_sub_ix (de_call (ok26 T) (hr.mono (by omega)) T.m26 T.f26.kp T.b26 tk len26 (da_cons (dv 0) (da_cons de_int da_nil))) de_int))) dss_nil) (dss_cons (ds_if (dt_lt (dv 2) de_int) (dss_one (ds_ret (de_call (ok23 T) (hr.mono (by omega)) T.m23 T.f23.kp T.b23 tk len23 (da_cons (dv 0) (da_cons (de_lst (da_cons de_int (da_cons de_int (da_cons de_int (da_cons (de_call (ok22 T) (hr.mono (by omega)) T.m22 T.f22.kp T.b22 tk len22 (da_cons (dv 0) (da_cons (de_pow de_int de_int) da_nil))) (da_cons (de_sub (de_pow de_int de_int) de_int) da_nil)))))) da_nil))))) dss_nil) (dss_cons (ds_if (dt_eq hu (dv 2) de_int) (dss_one (ds_ret de_non)) dss_nil) (dss_one (ds_ret (de_tupleC T.n_tuple (da_cons (de_lc (own := [("_law_at", 3)]) rfl sc29.nd (di_range1 rfl T.n_range (da_cons (de_call (ok22 T) (hr.mono (by omega)) T.m22 T.f22.kp T.b22 tk len22 (da_cons (dv 0) (da_cons de_int da_nil))) da_nil)) (blkOk_by (N := N29) (sc := defScope s29) (by decide +kernel)) (fun _ _ _ _ _ => (dg_name (i := 3) sc29.nd rfl (by first | exact Or.inl rfl | exact Or.inr rfl))) (fun _ _ _ _ _ => dts_nil) (fun _ _ _ _ _ => (de_call ih (hr.mono (by omega)) T.m29 T.f29.kp T.b29 takesN len29 (da_cons (dv 0) (da_cons (de_sub (dv 1) de_int) da_nil))))) da_nil))))))))
theorem ok30 (T : Tx P K mg) : ∀ n : Nat, FnD P w K mg base (3 + n) T.a30 T.d30 ["_law_value"] (S30 n)
  | 0 => fnD_none fun _ _ _ _ h => no30 h
  | n + 1 => by
    have ih := ok30 T n
    refine fnD (k := 3 + n) T.f30 sc30 fun cdv A outer s H E Ed hr => ⟨t30 T n (wF Ed), ?_, fun ds M Qd _ hS => rd30 T hS⟩
    have hu := hu160 hr
    have tk : Takes (cxOf (L2.CX P w) P w K mg base N30 "_law_words" (defScope s30) T.a30 cdv A outer s H E) (wD Ed E).h := takes_of rfl rfl rfl rfl
    exact (dss_cons (ds_if (dt_is (dv 0) de_non) (dss_one (ds_ret (de_lst (da_cons de_str da_nil)))) dss_nil) (dss_cons (ds_if (dt_val (de_call (ok28 T) (hr.mono (by omega)) T.m28 T.f28.kp T.b28 tk len28 (da_cons (dv 0) da_nil))) (dss_one (ds_ret (de_lst (da_cons (de_strC T.n_str (da_cons (dv 0) da_nil)) da_nil)))) dss_nil) (dss_cons (ds_if (dt_val (de_call (ok27 T) (hr.mono (by omega)) T.m27 T.f27.kp T.b27 tk len27 (da_cons (dv 0) da_nil))) (dss_one (ds_ret (de_lst (da_cons (de_add de_str (dv 0)) da_nil)))) dss_nil) (dss_cons (ds_set 1 sc30.nd (de_lst (da_cons de_str da_nil))) (dss_cons (ds_for (passes_of rfl) rfl (di_tup (dv 0)) (dg_name (i := 2) sc30.nd rfl (by first | exact Or.inl rfl | exact Or.inr rfl)) (dss_one (ds_set 1 sc30.nd (de_add (dv 1) (de_call ih (hr.mono (by omega)) T.m30 T.f30.kp T.b30 tk len30 (da_cons (dv 2) da_nil)))))) (dss_one (ds_ret (de_add (dv 1) (de_lst (da_cons de_str da_nil))))))))))
theorem ok31 (T : Tx P K mg) : FnD P w K mg base 2 T.a31 T.d31 ["_law_word"] S31 := by
  refine fnD (k := 1) T.f31 sc31 fun cdv A outer s H E Ed hr => ⟨t31 T (wF Ed), ?_, fun ds M Qd _ hS => rd31 T hS⟩
  have hu := hu160 hr
  have tk : Takes (cxOf (L2.CX P w) P w K mg base N31 "_law_single" (defScope s31) T.a31 cdv A outer s H E) (wD Ed E).h := takes_of rfl rfl rfl rfl
  exact (dss_cons (ds_if (dt_eq hu (dv 0) de_str) (dss_one (ds_ret (de_lst (da_cons de_non da_nil)))) dss_nil) (dss_cons (ds_if (dw_pt (dw_and (dt_eq hu (de_sl (dv 0) dp_none (dp_some de_int)) de_str) (dw_and1 (dt_val (de_call (ok27 T) (hr.mono (by omega)) T.m27 T.f27.kp T.b27 tk len27 (da_cons (de_sl (dv 0) (dp_some de_int) dp_none) da_nil)))))) (dss_one (ds_ret (de_lst (da_cons (de_sl (dv 0) (dp_some de_int) dp_none) da_nil)))) dss_nil) (dss_cons (ds_if (dw_pt (dw_or (dt_eq hu (dv 0) de_str) (dw_or1 (dt_ne hu (de_lc (own := [("_law_sign", 1)]) rfl sc31.nd (di_str (dv 0)) (blkOk_by (N := N31) (sc := defScope s31) (by decide +kernel)) (fun _ _ _ _ _ => (dg_name (i := 1) sc31.nd rfl (by first | exact Or.inl rfl | exact Or.inr rfl))) (fun _ _ _ _ _ => (dts_one (dt_notin hu (dv 1) de_str))) (fun _ _ _ _ _ => (dv 1))) (de_lst da_nil))))) (dss_one (ds_ret (de_lst da_nil))) dss_nil) (dss_one (ds_ret (de_ifExp (dw_pt (dw_and (dt_eq hu (de_sub_ix (dv 0) de_int) de_str) (dw_and1 (dt_ne hu (dv 0) de_str)))) (de_lst da_nil) (de_lst (da_cons (de_intC T.n_int (da_cons (dv 0) da_nil)) da_nil))))))))
theorem ok32 (T : Tx P K mg) : FnD P w K mg base 3 T.a32 T.d32 ["_law_words_here"] S32 := by
  refine fnD (k := 2) T.f32 sc32 fun cdv A outer s H E Ed hr => ⟨t32 T (wF Ed), ?_, fun ds M Qd _ hS => rd32 T hS⟩
  have hu := hu160 hr
  have tk : Takes (cxOf (L2.CX P w) P w K mg base N32 "_law_meant" (defScope s32) T.a32 cdv A outer s H E) (wD Ed E).h := takes_of rfl rfl rfl rfl
  exact (dss_cons (ds_set 1 sc32.nd (de_lstT (da_cons (de_lstT da_nil) da_nil))) (dss_cons (ds_for (passes_of rfl) rfl (di_lst (dv 0)) (dg_name (i := 2) sc32.nd rfl (by first | exact Or.inl rfl | exact Or.inr rfl)) (dss_one (ds_if (dt_eq hu (dv 2) de_str) (dss_one (ds_expr (de_append (dv 1) (da_cons (de_lstT da_nil) da_nil)))) (dss_one (ds_if (dt_eq hu (dv 2) de_str) (dss_cons (ds_if (dt_eq hu (de_len T.n_len (da_cons (dv 1) da_nil)) de_int) (dss_one (ds_ret (de_shr (de_lst da_nil)))) dss_nil) (dss_cons (ds_set 3 sc32.nd (de_pop (dv 1))) (dss_one (ds_expr (de_append (de_sub_ix (dv 1) (de_neg de_int)) (da_cons (de_tupleC T.n_tuple (da_cons (dv 3) da_nil)) da_nil)))))) (dss_cons (ds_set 4 sc32.nd (de_call (ok31 T) (hr.mono (by omega)) T.m31 T.f31.kp T.b31 tk len31 (da_cons (dv 2) da_nil))) (dss_cons (ds_if (dt_eq hu (dv 4) (de_lst da_nil)) (dss_one (ds_ret (de_shr (de_lst da_nil)))) dss_nil) (dss_one (ds_expr (de_extend (de_sub_ix (dv 1) (de_neg de_int)) (da_cons (dv 4) da_nil))))))))))) (dss_one (ds_ret (de_shr (de_frz (de_ifExp (dw_pt (dw_and (dt_eq hu (de_len T.n_len (da_cons (dv 1) da_nil)) de_int) (dw_and1 (dt_eq hu (de_len T.n_len (da_cons (de_sub_ix (dv 1) de_int) da_nil)) de_int)))) (de_sub_ix (dv 1) de_int) (de_lstT da_nil))))))))
theorem ok33 (T : Tx P K mg) : FnD P w K mg base 1 T.a33 T.d33 ["_law_text"] S33 := by
  refine fnD (k := 0) T.f33 sc33 fun cdv A outer s H E Ed hr => ⟨t33 T (wF Ed), ?_, fun ds M Qd _ hS => rd33 T hS⟩
  have hu := hu160 hr
  have tk : Takes (cxOf (L2.CX P w) P w K mg base N33 "_law_depth" (defScope s33) T.a33 cdv A outer s H E) (wD Ed E).h := takes_of rfl rfl rfl rfl
  exact (dss_cons (ds_asg (de_tup (da_cons de_int (da_cons de_int da_nil))) (dg_tup (n := 2) rfl (dgs_cons (dg_name (i := 2) sc33.nd rfl (by first | exact Or.inl rfl | exact Or.inr rfl)) (dgs_cons (dg_name (i := 3) sc33.nd rfl (by first | exact Or.inl rfl | exact Or.inr rfl)) dgs_nil)))) (dss_cons (ds_for (passes_of rfl) rfl (di_lst (de_split (dv 0) de_str)) (dg_name (i := 1) sc33.nd rfl (by first | exact Or.inl rfl | exact Or.inr rfl)) (dss_cons (ds_set 2 sc33.nd (de_sub (de_add (dv 2) (de_intC T.n_int (da_cons (de_eq hu (dv 1) de_str) da_nil))) (de_intC T.n_int (da_cons (de_eq hu (dv 1) de_str) da_nil)))) (dss_one (ds_set 3 sc33.nd (de_max rfl T.n_max (da_cons (dv 3) (da_cons (dv 2) da_nil))))))) (dss_one (ds_ret (dv 3)))))
theorem ok34 (T : Tx P K mg) : FnD P w K mg base 6 T.a34 T.d34 ["_law_text"] S34 := by
  refine fnD (k := 5) T.f34 sc34 fun cdv A outer s H E Ed hr => ⟨t34 T (wF Ed), ?_, fun ds M Qd _ hS => rd34 T hS⟩
  have hu := hu160 hr
  have tk : Takes (cxOf (L2.CX P w) P w K mg base N34 "_law_told_by" (defScope s34) T.a34 cdv A outer s H E) (wD Ed E).h := takes_of rfl rfl rfl rfl
  exact (dss_one (ds_try_as 1 rfl rfl sc34.nd ⟨rfl, by decide, .inl T.gPE⟩ tk (fun wb _ _ _ tkB _ => (dss_one (ds_ret (de_shr (de_lst (da_cons de_str (da_cons (de_call (ok19 T) (hr.mono (by omega)) T.m19 T.f19.kp T.b19 tkB len19 (da_cons (dv 0) da_nil)) da_nil))))))) (fun a dd oe _ hz hfd => (dss_one (ds_ret (de_shr (de_lst (da_cons de_str (da_cons (de_xf T.xfPE T.noPE hz hfd (dv 1)) da_nil)))))))))
theorem ok35 (T : Tx P K mg) : FnD P w K mg base 4 T.a35 T.d35 ["_law_text"] S35 := by
  refine fnD (k := 3) T.f35 sc35 fun cdv A outer s H E Ed hr => ⟨t35 T (wF Ed), ?_, fun ds M Qd _ hS => rd35 T hS⟩
  have hu := hu160 hr
  have tk : Takes (cxOf (L2.CX P w) P w K mg base N35 "_law_due" (defScope s35) T.a35 cdv A outer s H E) (wD Ed E).h := takes_of rfl rfl rfl rfl
  exact (dss_cons (ds_set 1 sc35.nd (de_split (dv 0) de_str)) (dss_cons (ds_set 2 sc35.nd (de_call (ok32 T) (hr.mono (by omega)) T.m32 T.f32.kp T.b32 tk len32 (da_cons (de_split (de_sub_ix (dv 1) de_int) de_str) da_nil))) (dss_cons (ds_if (dt_eq hu (dv 2) (de_lst da_nil)) (dss_one (ds_ret (de_lst (da_cons de_str (da_cons de_int da_nil))))) dss_nil) (dss_one (ds_ret (de_ifExp (dt_eq hu (de_len T.n_len (da_cons (dv 1) da_nil)) de_int) (de_lst (da_cons de_str (da_cons (de_sub_ix (dv 2) de_int) da_nil))) (de_lst (da_cons de_str (da_cons de_int da_nil)))))))))
theorem ok36 (T : Tx P K mg) : FnD P w K mg base 3 T.a36 T.d36 ["_law_mill_here", "_law_words_here"] S36 := by
  refine fnD (k := 2) T.f36 sc36 fun cdv A outer s H E Ed hr => ⟨t36 T (wF Ed), ?_, fun ds M Qd _ hS => rd36 T hS⟩
  have hu := hu160 hr
  have tk : Takes (cxOf (L2.CX P w) P w K mg base N36 "_law_bent" (defScope s36) T.a36 cdv A outer s H E) (wD Ed E).h := takes_of rfl rfl rfl rfl
  exact (dss_cons (ds_par 3 4 rfl sc36.nd (da_cons (de_call (ok22 T) (hr.mono (by omega)) T.m22 T.f22.kp T.b22 tk len22 (da_cons (dv 0) (da_cons (de_add (de_len T.n_len (da_cons (dv 1) da_nil)) de_int) da_nil))) (da_cons (de_call (ok22 T) (hr.mono (by omega)) T.m22 T.f22.kp T.b22 tk len22 (da_cons (dv 0) (da_cons de_int da_nil))) da_nil))) (dss_cons (ds_set 2 sc36.nd (de_lst (da_cons de_str (da_cons de_str (da_cons de_str (da_cons de_str (da_cons de_str (da_cons de_str (da_cons de_str (da_cons de_str (da_cons de_str (da_cons de_str (da_cons de_str (da_cons de_str (da_cons de_str (da_cons de_str (da_cons de_str (da_cons de_str (da_cons de_str da_nil))))))))))))))))))) (dss_cons (ds_set 2 sc36.nd (de_call (ok23 T) (hr.mono (by omega)) T.m23 T.f23.kp T.b23 tk len23 (da_cons (dv 0) (da_cons (de_add (dv 2) (de_lst (da_cons (de_mul de_str de_int) da_nil))) da_nil)))) (dss_cons (ds_if (dt_eq hu (dv 4) de_int) (dss_one (ds_ret (de_add (de_sl (dv 1) dp_none (dp_some (dv 3))) (de_sl (dv 1) (dp_some (de_add (dv 3) de_int)) dp_none)))) dss_nil) (dss_cons (ds_if (dt_eq hu (dv 4) de_int) (dss_one (ds_ret (de_add (de_add (de_sl (dv 1) dp_none (dp_some (dv 3))) (de_sl (dv 1) (dp_some (dv 3)) (dp_some (de_add (dv 3) de_int)))) (de_sl (dv 1) (dp_some (dv 3)) dp_none)))) dss_nil) (dss_cons (ds_if (dt_eq hu (dv 4) de_int) (dss_cons (ds_set 5 sc36.nd (de_sl (dv 1) (dp_some (dv 3)) (dp_some (de_add (dv 3) de_int)))) (dss_one (ds_ret (de_add (de_add (de_sl (dv 1) dp_none (dp_some (dv 3))) (de_rev (dv 5))) (de_sl (dv 1) (dp_some (de_add (dv 3) de_int)) dp_none))))) dss_nil) (dss_one (ds_ret (de_add (de_add (de_sl (dv 1) dp_none (dp_some (dv 3))) (de_lst (da_cons (dv 2) da_nil))) (de_ifExp (dt_eq hu (dv 4) de_int) (de_sl (dv 1) (dp_some (dv 3)) dp_none) (de_sl (dv 1) (dp_some (de_add (dv 3) de_int)) dp_none)))))))))))
theorem ok37 (T : Tx P K mg) : FnD P w K mg base 15 T.a37 T.d37 ["_law_value"] (S37 T) := by
  refine fnD (k := 14) T.f37 sc37 fun cdv A outer s H E Ed hr => ⟨t37 T (wF Ed), ?_, fun ds M Qd _ hS => rd37 T hS⟩
  have hu := hu160 hr
  have tk : Takes (cxOf (L2.CX P w) P w K mg base N37 "_law_is_refused" (defScope s37) T.a37 cdv A outer s H E) (wD Ed E).h := takes_of rfl rfl rfl rfl
  exact (dss_cons (ds_try_only rfl rfl ⟨rfl, by decide, .inl T.gIO⟩ tk (fun wb _ _ _ tkB _ => (dss_one (ds_expr (de_call (ok16 T) (hr.mono (by omega)) T.m16 T.f16.kp T.b16 tkB len16 (da_cons (dv 0) da_nil))))) (fun _ _ _ _ _ _ _ => (dss_one (ds_ret (de_shr de_bl))))) (dss_one (ds_ret (de_shr de_bl))))
theorem ok38 (T : Tx P K mg) : FnD P w K mg base 3 T.a38 T.d38 ["_law_mill_here", "_law_value"] S38 := by
  refine fnD (k := 2) T.f38 sc38 fun cdv A outer s H E Ed hr => ⟨t38 T (wF Ed), ?_, fun ds M Qd _ hS => rd38 T hS⟩
  have hu := hu160 hr
  have tk : Takes (cxOf (L2.CX P w) P w K mg base N38 "_law_hidden" (defScope s38) T.a38 cdv A outer s H E) (wD Ed E).h := takes_of rfl rfl rfl rfl
  exact (dss_cons (ds_for (passes_of rfl) rfl (di_range1 rfl T.n_range (da_cons (de_call (ok22 T) (hr.mono (by omega)) T.m22 T.f22.kp T.b22 tk len22 (da_cons (dv 0) (da_cons de_int da_nil))) da_nil)) (dg_name (i := 2) sc38.nd rfl (by first | exact Or.inl rfl | exact Or.inr rfl)) (dss_one (ds_set 1 sc38.nd (de_call (ok23 T) (hr.mono (by omega)) T.m23 T.f23.kp T.b23 tk len23 (da_cons (dv 0) (da_cons (de_lst (da_cons (de_tup (da_cons (dv 1) da_nil)) (da_cons (de_tup (da_cons de_int (da_cons (dv 1) da_nil))) (da_cons (de_tup (da_cons (dv 1) (da_cons de_str da_nil))) (da_cons (de_tup (da_cons (de_tup da_nil) (da_cons (dv 1) (da_cons de_non da_nil)))) da_nil))))) da_nil)))))) (dss_one (ds_ret (dv 1))))
theorem ok39 (T : Tx P K mg) : FnDG P w K mg base 20 T.a39 T.d39 ["_law_mill_here"] S39 := by
  refine fnDG (k := 19) T.f39 sc39 fun cdv A outer s H E Ed hr gd => ⟨t39 T (wF Ed), ?_, fun ds M Qd _ hS => rd39 T hS⟩
  have hu := hu160 hr
  have tk : Takes (cxOf (L2.CX P w) P w K mg base N39 "_law_cell_right" (defScope s39) T.a39 cdv A outer s H E) (wD Ed E).h := takes_of rfl rfl rfl rfl
  exact (dss_cons (ds_for (passes_of rfl) rfl (di_range1 rfl T.n_range (da_cons de_int da_nil)) (dg_name (i := 1) sc39.nd rfl (by first | exact Or.inl rfl | exact Or.inr rfl)) (dss_cons (ds_set 2 sc39.nd (de_call (ok29 T 9) (hr.mono (by omega)) T.m29 T.f29.kp T.b29 tk len29 (da_cons (dv 0) (da_cons de_int da_nil)))) (dss_cons (ds_set 3 sc39.nd (de_call (ok30 T 10) (hr.mono (by omega)) T.m30 T.f30.kp T.b30 tk len30 (da_cons (dv 2) da_nil))) (dss_cons (ds_if (dt_ne hu (de_call (ok16 T) (hr.mono (by omega)) T.m16 T.f16.kp T.b16 tk len16 (da_cons (dv 2) da_nil)) (de_join de_str (dv 3))) (dss_one (ds_ret de_bl)) dss_nil) (dss_cons (ds_set 3 sc39.nd (de_ifExp (dt_lt (de_len T.n_len (da_cons (de_join de_str (dv 3)) da_nil)) de_int) (dv 3) (de_lst (da_cons de_str (da_cons de_str da_nil))))) (dss_cons (ds_set 4 sc39.nd (de_lst (da_cons (dv 3) (da_cons (de_call (ok36 T) (hr.mono (by omega)) T.m36 T.f36.kp T.b36 tk len36 (da_cons (dv 0) (da_cons (dv 3) da_nil))) (da_cons (de_call (ok36 T) (hr.mono (by omega)) T.m36 T.f36.kp T.b36 tk len36 (da_cons (dv 0) (da_cons (de_call (ok36 T) (hr.mono (by omega)) T.m36 T.f36.kp T.b36 tk len36 (da_cons (dv 0) (da_cons (dv 3) da_nil))) da_nil))) da_nil))))) (dss_cons (ds_setLcTA 5 (own := [("_law_row", 7)]) rfl sc39.nd (di_lst (dv 4)) (blkOk_by (N := N39) (sc := defScope s39) (by decide +kernel)) (fun _ _ _ _ _ => (dg_name (i := 7) sc39.nd rfl (by first | exact Or.inl rfl | exact Or.inr rfl))) (fun _ _ _ _ _ => dts_nil) (fun _ _ _ _ _ => (de_join de_str (dv 7))) (sw_true rfl rfl rfl (by decide +kernel))) (dss_cons (ds_expr (de_append (dv 5) (da_cons (de_add (de_sub_ix (dv 5) (de_call (ok22 T) (hr.mono (by omega)) T.m22 T.f22.kp T.b22 tk len22 (da_cons (dv 0) (da_cons de_int da_nil)))) (de_call (ok23 T) (hr.mono (by omega)) T.m23 T.f23.kp T.b23 tk len23 (da_cons (dv 0) (da_cons (de_lst (da_cons de_str (da_cons de_str (da_cons de_str (da_cons de_str da_nil))))) da_nil)))) da_nil))) (dss_cons (ds_setLcA 5 (own := [("_law_text", 8)]) rfl sc39.nd (di_lst (de_frz (dv 5))) (blkOk_by (N := N39) (sc := defScope s39) (by decide +kernel)) (fun _ _ _ _ _ => (dg_name (i := 8) sc39.nd rfl (by first | exact Or.inl rfl | exact Or.inr rfl))) (fun _ _ _ _ _ => (dts_one (dt_lt (de_call (ok33 T) (hr.mono (by omega)) T.m33 T.f33.kp T.b33 takesN len33 (da_cons (dv 8) da_nil)) de_int))) (fun _ _ _ _ _ => (dv 8)) (sw_true rfl rfl rfl (by decide +kernel))) (dss_cons (ds_if (dt_ne hu (de_lc (own := [("_law_text", 8)]) rfl sc39.nd (di_lst (dv 5)) (blkOk_by (N := N39) (sc := defScope s39) (by decide +kernel)) (fun _ _ _ _ _ => (dg_name (i := 8) sc39.nd rfl (by first | exact Or.inl rfl | exact Or.inr rfl))) (fun _ _ _ _ _ => (dts_one (dt_ne hu (de_repr gd hu T.n_repr (da_cons (de_call (ok34 T) (hr.mono (by omega)) T.m34 T.f34.kp T.b34 takesN len34 (da_cons (dv 8) da_nil)) da_nil)) (de_repr gd hu T.n_repr (da_cons (de_call (ok35 T) (hr.mono (by omega)) T.m35 T.f35.kp T.b35 takesN len35 (da_cons (dv 8) da_nil)) da_nil))))) (fun _ _ _ _ _ => (dv 8))) (de_lst da_nil)) (dss_one (ds_ret de_bl)) dss_nil) (dss_cons (ds_set 6 sc39.nd (de_call (ok23 T) (hr.mono (by omega)) T.m23 T.f23.kp T.b23 tk len23 (da_cons (dv 0) (da_cons (de_lst (da_cons de_bl (da_cons de_bl (da_cons (de_sub de_int de_int) (da_cons (de_lst da_nil) (da_cons de_dict0 (da_cons de_str (da_cons de_str (da_cons de_str (da_cons (de_pow de_int de_int) (da_cons de_str (da_cons (de_lst (da_cons de_int da_nil)) (da_cons de_dict1 da_nil))))))))))))) da_nil)))) (dss_one (ds_if (dt_not (dt_val (de_call (ok37 T) (hr.mono (by omega)) T.m37 T.f37.kp T.b37 tk len37 (da_cons (de_call (ok38 T) (hr.mono (by omega)) T.m38 T.f38.kp T.b38 tk len38 (da_cons (dv 0) (da_cons (dv 6) da_nil))) da_nil)))) (dss_one (ds_ret de_bl)) dss_nil))))))))))))) (dss_one (ds_ret de_bl)))
theorem ok40 (T : Tx P K mg) : FnDG P w K mg base 21 T.a40 T.d40 ["_law_script"] S40 := by
  refine fnDG (k := 20) T.f40 sc40 fun cdv A outer s H E Ed hr gd => ⟨t40 T (wF Ed), ?_, fun ds M Qd _ hS => rd40 T hS⟩
  have hu := hu160 hr
  have tk : Takes (cxOf (L2.CX P w) P w K mg base N40 "law" (defScope s40) T.a40 cdv A outer s H E) (wD Ed E).h := takes_of rfl rfl rfl rfl
  exact (dss_cons (ds_for (passes_of rfl) rfl (di_range1 rfl T.n_range (da_cons (de_max rfl T.n_max (da_cons de_int (da_cons (de_min rfl T.n_min (da_cons de_int (da_cons (de_len T.n_len (da_cons (dv 0) da_nil)) da_nil))) da_nil))) da_nil)) (dg_name (i := 1) sc40.nd rfl (by first | exact Or.inl rfl | exact Or.inr rfl)) (dss_one (ds_if (dt_not (dt_val (de_callG (ok39 T) (hr.mono (by omega)) gd T.m39 T.f39.kp T.b39 tk len39 (da_cons (de_call (ok21 T) (hr.mono (by omega)) T.m21 T.f21.kp T.b21 tk len21 (da_cons (dv 0) (da_cons (dv 1) da_nil))) da_nil)))) (dss_one (ds_ret de_bl)) dss_nil))) (dss_cons (ds_set 2 sc40.nd (de_tup da_nil)) (dss_cons (ds_for (passes_of rfl) rfl (di_range1 rfl T.n_range (da_cons de_int da_nil)) (dg_name (i := 3) sc40.nd rfl (by first | exact Or.inl rfl | exact Or.inr rfl)) (dss_one (ds_set 2 sc40.nd (de_tup (da_cons (dv 2) da_nil))))) (dss_cons (ds_set 4 sc40.nd (de_add (de_add (de_mul de_str de_int) (de_mul de_str de_int)) de_str)) (dss_one (ds_ret (de_and (de_eq hu (de_call (ok16 T) (hr.mono (by omega)) T.m16 T.f16.kp T.b16 tk len16 (da_cons (dv 2) da_nil)) (dv 4)) (de_one (de_eq hu (de_call (ok19 T) (hr.mono (by omega)) T.m19 T.f19.kp T.b19 tk len19 (da_cons (dv 4) da_nil)) (dv 2))))))))))
end Dl
set_option Elab.async false
set_option linter.all false
set_option maxRecDepth 100000
set_option maxHeartbeats 4000000
namespace Dl
open PySem PySem.Spec PyProof.Rows L2
theorem clsIn_of {K : PySem.W.Frag} {C : Addr} {oc : Value} {dd : Option Addr} {cd : ClassData} {sl : Array (Option Value)} (h : K.lookup C = some ⟨oc, dd, .cls cd, sl⟩) : PySem.W.clsIn K C = some cd := by
  unfold PySem.W.clsIn
  rw [h]
/-- what the top leaves is what the proofs ask -/
theorem all_mk {l : PySem.W.OpenLaw} {w : World} {K : PySem.W.Frag} {h : Heap} {mg : Str → Option Value} {fa : Addr} (X : K.In h) (G : h.Ns mainGlobals mg) (hfa : mg "law" = some (.ref fa))
    {f3 : Addr} {od3 an3 : Option Addr} {sl3 : Array (Option Value)} {oc3 kV3 dc3 pm3 cd3 ct3 : Value}
    {f4 : Addr} {od4 an4 : Option Addr} {sl4 : Array (Option Value)} {oc4 kV4 dc4 pm4 cd4 ct4 : Value}
    {f5 : Addr} {od5 an5 : Option Addr} {sl5 : Array (Option Value)} {oc5 kV5 dc5 pm5 cd5 ct5 : Value}
    {f13 : Addr} {od13 an13 : Option Addr} {sl13 : Array (Option Value)} {oc13 kV13 dc13 pm13 cd13 ct13 : Value}
    {f14 : Addr} {od14 an14 : Option Addr} {sl14 : Array (Option Value)} {oc14 kV14 dc14 pm14 cd14 ct14 : Value}
    {f15 : Addr} {od15 an15 : Option Addr} {sl15 : Array (Option Value)} {oc15 kV15 dc15 pm15 cd15 ct15 : Value}
    {f16 : Addr} {od16 an16 : Option Addr} {sl16 : Array (Option Value)} {oc16 kV16 dc16 pm16 cd16 ct16 : Value}
    {f17 : Addr} {od17 an17 : Option Addr} {sl17 : Array (Option Value)} {oc17 kV17 dc17 pm17 cd17 ct17 : Value}
    {f18 : Addr} {od18 an18 : Option Addr} {sl18 : Array (Option Value)} {oc18 kV18 dc18 pm18 cd18 ct18 : Value}
    {f19 : Addr} {od19 an19 : Option Addr} {sl19 : Array (Option Value)} {oc19 kV19 dc19 pm19 cd19 ct19 : Value}
    {f21 : Addr} {od21 an21 : Option Addr} {sl21 : Array (Option Value)} {oc21 kV21 dc21 pm21 cd21 ct21 : Value}
    {f22 : Addr} {od22 an22 : Option Addr} {sl22 : Array (Option Value)} {oc22 kV22 dc22 pm22 cd22 ct22 : Value}
    {f23 : Addr} {od23 an23 : Option Addr} {sl23 : Array (Option Value)} {oc23 kV23 dc23 pm23 cd23 ct23 : Value}
    {f24 : Addr} {od24 an24 : Option Addr} {sl24 : Array (Option Value)} {oc24 kV24 dc24 pm24 cd24 ct24 : Value}
    {f25 : Addr} {od25 an25 : Option Addr} {sl25 : Array (Option Value)} {oc25 kV25 dc25 pm25 cd25 ct25 : Value}
    {f26 : Addr} {od26 an26 : Option Addr} {sl26 : Array (Option Value)} {oc26 kV26 dc26 pm26 cd26 ct26 : Value}
    {f27 : Addr} {od27 an27 : Option Addr} {sl27 : Array (Option Value)} {oc27 kV27 dc27 pm27 cd27 ct27 : Value}
    {f28 : Addr} {od28 an28 : Option Addr} {sl28 : Array (Option Value)} {oc28 kV28 dc28 pm28 cd28 ct28 : Value}
    {f29 : Addr} {od29 an29 : Option Addr} {sl29 : Array (Option Value)} {oc29 kV29 dc29 pm29 cd29 ct29 : Value}
    {f30 : Addr} {od30 an30 : Option Addr} {sl30 : Array (Option Value)} {oc30 kV30 dc30 pm30 cd30 ct30 : Value}
    {f31 : Addr} {od31 an31 : Option Addr} {sl31 : Array (Option Value)} {oc31 kV31 dc31 pm31 cd31 ct31 : Value}
    {f32 : Addr} {od32 an32 : Option Addr} {sl32 : Array (Option Value)} {oc32 kV32 dc32 pm32 cd32 ct32 : Value}
    {f33 : Addr} {od33 an33 : Option Addr} {sl33 : Array (Option Value)} {oc33 kV33 dc33 pm33 cd33 ct33 : Value}
    {f34 : Addr} {od34 an34 : Option Addr} {sl34 : Array (Option Value)} {oc34 kV34 dc34 pm34 cd34 ct34 : Value}
    {f35 : Addr} {od35 an35 : Option Addr} {sl35 : Array (Option Value)} {oc35 kV35 dc35 pm35 cd35 ct35 : Value}
    {f36 : Addr} {od36 an36 : Option Addr} {sl36 : Array (Option Value)} {oc36 kV36 dc36 pm36 cd36 ct36 : Value}
    {f37 : Addr} {od37 an37 : Option Addr} {sl37 : Array (Option Value)} {oc37 kV37 dc37 pm37 cd37 ct37 : Value}
    {f38 : Addr} {od38 an38 : Option Addr} {sl38 : Array (Option Value)} {oc38 kV38 dc38 pm38 cd38 ct38 : Value}
    {f39 : Addr} {od39 an39 : Option Addr} {sl39 : Array (Option Value)} {oc39 kV39 dc39 pm39 cd39 ct39 : Value}
    {f40 : Addr} {od40 an40 : Option Addr} {sl40 : Array (Option Value)} {oc40 kV40 dc40 pm40 cd40 ct40 : Value}
    {t_GREATEST : Tok}
    {t_MAX_DEPTH : Tok}
    {t_MAX_DIGITS : Tok}
    {t_MAX_LETTERS : Tok}
    {IO PE fI cI ccI : Addr} {nm q : Str} {NN : Addr} {bs bm : List Value} {sn : List Str} {sub : List Value} {ab : Bool} {col : Option Bool} {dd : Option Addr} {m0 m1 m2 m3 m5 : Option Value} {odI anI : Option Addr} {slI : Array (Option Value)} {ocI kVI dcI pmI ctI : Value} {cl : Value} {cld : Option Addr} {csl : Array (Option Value)} {ccl : Value} {cdd : Option Addr} {cvs : Array Value} {ccs : Array (Option Value)} {file : Str} {tf : Tok}
    (a3 : PySem.W.nsIn K mainGlobals "is_integer" = some (some (.ref f3))) (l3 : K.lookup f3 = some ⟨oc3, od3, .func (PySem.W.fnOf "is_integer" "is_integer" (defArgs s3) (defBody s3) (defScope s3) .none kV3 dc3 pm3 an3 cd3 ct3), sl3⟩) (c3 : PySem.W.codeIn K cd3 "is_integer" = true) (k3 : PySem.W.keepIn K (.ref f3) = true)
    (a4 : PySem.W.nsIn K mainGlobals "is_count" = some (some (.ref f4))) (l4 : K.lookup f4 = some ⟨oc4, od4, .func (PySem.W.fnOf "is_count" "is_count" (defArgs s4) (defBody s4) (defScope s4) .none kV4 dc4 pm4 an4 cd4 ct4), sl4⟩) (c4 : PySem.W.codeIn K cd4 "is_count" = true) (k4 : PySem.W.keepIn K (.ref f4) = true)
    (a5 : PySem.W.nsIn K mainGlobals "is_name" = some (some (.ref f5))) (l5 : K.lookup f5 = some ⟨oc5, od5, .func (PySem.W.fnOf "is_name" "is_name" (defArgs s5) (defBody s5) (defScope s5) .none kV5 dc5 pm5 an5 cd5 ct5), sl5⟩) (c5 : PySem.W.codeIn K cd5 "is_name" = true) (k5 : PySem.W.keepIn K (.ref f5) = true)
    (a13 : PySem.W.nsIn K mainGlobals "require_text" = some (some (.ref f13))) (l13 : K.lookup f13 = some ⟨oc13, od13, .func (PySem.W.fnOf "require_text" "require_text" (defArgs s13) (defBody s13) (defScope s13) .none kV13 dc13 pm13 an13 cd13 ct13), sl13⟩) (c13 : PySem.W.codeIn K cd13 "require_text" = true) (k13 : PySem.W.keepIn K (.ref f13) = true)
    (a14 : PySem.W.nsIn K mainGlobals "number_of" = some (some (.ref f14))) (l14 : K.lookup f14 = some ⟨oc14, od14, .func (PySem.W.fnOf "number_of" "number_of" (defArgs s14) (defBody s14) (defScope s14) .none kV14 dc14 pm14 an14 cd14 ct14), sl14⟩) (c14 : PySem.W.codeIn K cd14 "number_of" = true) (k14 : PySem.W.keepIn K (.ref f14) = true)
    (a15 : PySem.W.nsIn K mainGlobals "words_of" = some (some (.ref f15))) (l15 : K.lookup f15 = some ⟨oc15, od15, .func (PySem.W.fnOf "words_of" "words_of" (defArgs s15) (defBody s15) (defScope s15) .none kV15 dc15 pm15 an15 cd15 ct15), sl15⟩) (c15 : PySem.W.codeIn K cd15 "words_of" = true) (k15 : PySem.W.keepIn K (.ref f15) = true)
    (a16 : PySem.W.nsIn K mainGlobals "write_value" = some (some (.ref f16))) (l16 : K.lookup f16 = some ⟨oc16, od16, .func (PySem.W.fnOf "write_value" "write_value" (defArgs s16) (defBody s16) (defScope s16) .none kV16 dc16 pm16 an16 cd16 ct16), sl16⟩) (c16 : PySem.W.codeIn K cd16 "write_value" = true) (k16 : PySem.W.keepIn K (.ref f16) = true)
    (a17 : PySem.W.nsIn K mainGlobals "single_of" = some (some (.ref f17))) (l17 : K.lookup f17 = some ⟨oc17, od17, .func (PySem.W.fnOf "single_of" "single_of" (defArgs s17) (defBody s17) (defScope s17) .none kV17 dc17 pm17 an17 cd17 ct17), sl17⟩) (c17 : PySem.W.codeIn K cd17 "single_of" = true) (k17 : PySem.W.keepIn K (.ref f17) = true)
    (a18 : PySem.W.nsIn K mainGlobals "value_of" = some (some (.ref f18))) (l18 : K.lookup f18 = some ⟨oc18, od18, .func (PySem.W.fnOf "value_of" "value_of" (defArgs s18) (defBody s18) (defScope s18) .none kV18 dc18 pm18 an18 cd18 ct18), sl18⟩) (c18 : PySem.W.codeIn K cd18 "value_of" = true) (k18 : PySem.W.keepIn K (.ref f18) = true)
    (a19 : PySem.W.nsIn K mainGlobals "read_value" = some (some (.ref f19))) (l19 : K.lookup f19 = some ⟨oc19, od19, .func (PySem.W.fnOf "read_value" "read_value" (defArgs s19) (defBody s19) (defScope s19) .none kV19 dc19 pm19 an19 cd19 ct19), sl19⟩) (c19 : PySem.W.codeIn K cd19 "read_value" = true) (k19 : PySem.W.keepIn K (.ref f19) = true)
    (a21 : PySem.W.nsIn K mainGlobals "_law_mill" = some (some (.ref f21))) (l21 : K.lookup f21 = some ⟨oc21, od21, .func (PySem.W.fnOf "_law_mill" "_law_mill" (defArgs s21) (defBody s21) (defScope s21) .none kV21 dc21 pm21 an21 cd21 ct21), sl21⟩) (c21 : PySem.W.codeIn K cd21 "_law_mill" = true) (k21 : PySem.W.keepIn K (.ref f21) = true)
    (a22 : PySem.W.nsIn K mainGlobals "_law_grain" = some (some (.ref f22))) (l22 : K.lookup f22 = some ⟨oc22, od22, .func (PySem.W.fnOf "_law_grain" "_law_grain" (defArgs s22) (defBody s22) (defScope s22) .none kV22 dc22 pm22 an22 cd22 ct22), sl22⟩) (c22 : PySem.W.codeIn K cd22 "_law_grain" = true) (k22 : PySem.W.keepIn K (.ref f22) = true)
    (a23 : PySem.W.nsIn K mainGlobals "_law_one_of" = some (some (.ref f23))) (l23 : K.lookup f23 = some ⟨oc23, od23, .func (PySem.W.fnOf "_law_one_of" "_law_one_of" (defArgs s23) (defBody s23) (defScope s23) .none kV23 dc23 pm23 an23 cd23 ct23), sl23⟩) (c23 : PySem.W.codeIn K cd23 "_law_one_of" = true) (k23 : PySem.W.keepIn K (.ref f23) = true)
    (a24 : PySem.W.nsIn K mainGlobals "_law_order" = some (some (.ref f24))) (l24 : K.lookup f24 = some ⟨oc24, od24, .func (PySem.W.fnOf "_law_order" "_law_order" (defArgs s24) (defBody s24) (defScope s24) .none kV24 dc24 pm24 an24 cd24 ct24), sl24⟩) (c24 : PySem.W.codeIn K cd24 "_law_order" = true) (k24 : PySem.W.keepIn K (.ref f24) = true)
    (a25 : PySem.W.nsIn K mainGlobals "_law_letter" = some (some (.ref f25))) (l25 : K.lookup f25 = some ⟨oc25, od25, .func (PySem.W.fnOf "_law_letter" "_law_letter" (defArgs s25) (defBody s25) (defScope s25) .none kV25 dc25 pm25 an25 cd25 ct25), sl25⟩) (c25 : PySem.W.codeIn K cd25 "_law_letter" = true) (k25 : PySem.W.keepIn K (.ref f25) = true)
    (a26 : PySem.W.nsIn K mainGlobals "_law_many_names" = some (some (.ref f26))) (l26 : K.lookup f26 = some ⟨oc26, od26, .func (PySem.W.fnOf "_law_many_names" "_law_many_names" (defArgs s26) (defBody s26) (defScope s26) .none kV26 dc26 pm26 an26 cd26 ct26), sl26⟩) (c26 : PySem.W.codeIn K cd26 "_law_many_names" = true) (k26 : PySem.W.keepIn K (.ref f26) = true)
    (a27 : PySem.W.nsIn K mainGlobals "_law_spelled" = some (some (.ref f27))) (l27 : K.lookup f27 = some ⟨oc27, od27, .func (PySem.W.fnOf "_law_spelled" "_law_spelled" (defArgs s27) (defBody s27) (defScope s27) .none kV27 dc27 pm27 an27 cd27 ct27), sl27⟩) (c27 : PySem.W.codeIn K cd27 "_law_spelled" = true) (k27 : PySem.W.keepIn K (.ref f27) = true)
    (a28 : PySem.W.nsIn K mainGlobals "_law_is_count" = some (some (.ref f28))) (l28 : K.lookup f28 = some ⟨oc28, od28, .func (PySem.W.fnOf "_law_is_count" "_law_is_count" (defArgs s28) (defBody s28) (defScope s28) .none kV28 dc28 pm28 an28 cd28 ct28), sl28⟩) (c28 : PySem.W.codeIn K cd28 "_law_is_count" = true) (k28 : PySem.W.keepIn K (.ref f28) = true)
    (a29 : PySem.W.nsIn K mainGlobals "_law_worth" = some (some (.ref f29))) (l29 : K.lookup f29 = some ⟨oc29, od29, .func (PySem.W.fnOf "_law_worth" "_law_worth" (defArgs s29) (defBody s29) (defScope s29) .none kV29 dc29 pm29 an29 cd29 ct29), sl29⟩) (c29 : PySem.W.codeIn K cd29 "_law_worth" = true) (k29 : PySem.W.keepIn K (.ref f29) = true)
    (a30 : PySem.W.nsIn K mainGlobals "_law_words" = some (some (.ref f30))) (l30 : K.lookup f30 = some ⟨oc30, od30, .func (PySem.W.fnOf "_law_words" "_law_words" (defArgs s30) (defBody s30) (defScope s30) .none kV30 dc30 pm30 an30 cd30 ct30), sl30⟩) (c30 : PySem.W.codeIn K cd30 "_law_words" = true) (k30 : PySem.W.keepIn K (.ref f30) = true)
    (a31 : PySem.W.nsIn K mainGlobals "_law_single" = some (some (.ref f31))) (l31 : K.lookup f31 = some ⟨oc31, od31, .func (PySem.W.fnOf "_law_single" "_law_single" (defArgs s31) (defBody s31) (defScope s31) .none kV31 dc31 pm31 an31 cd31 ct31), sl31⟩) (c31 : PySem.W.codeIn K cd31 "_law_single" = true) (k31 : PySem.W.keepIn K (.ref f31) = true)
    (a32 : PySem.W.nsIn K mainGlobals "_law_meant" = some (some (.ref f32))) (l32 : K.lookup f32 = some ⟨oc32, od32, .func (PySem.W.fnOf "_law_meant" "_law_meant" (defArgs s32) (defBody s32) (defScope s32) .none kV32 dc32 pm32 an32 cd32 ct32), sl32⟩) (c32 : PySem.W.codeIn K cd32 "_law_meant" = true) (k32 : PySem.W.keepIn K (.ref f32) = true)
    (a33 : PySem.W.nsIn K mainGlobals "_law_depth" = some (some (.ref f33))) (l33 : K.lookup f33 = some ⟨oc33, od33, .func (PySem.W.fnOf "_law_depth" "_law_depth" (defArgs s33) (defBody s33) (defScope s33) .none kV33 dc33 pm33 an33 cd33 ct33), sl33⟩) (c33 : PySem.W.codeIn K cd33 "_law_depth" = true) (k33 : PySem.W.keepIn K (.ref f33) = true)
    (a34 : PySem.W.nsIn K mainGlobals "_law_told_by" = some (some (.ref f34))) (l34 : K.lookup f34 = some ⟨oc34, od34, .func (PySem.W.fnOf "_law_told_by" "_law_told_by" (defArgs s34) (defBody s34) (defScope s34) .none kV34 dc34 pm34 an34 cd34 ct34), sl34⟩) (c34 : PySem.W.codeIn K cd34 "_law_told_by" = true) (k34 : PySem.W.keepIn K (.ref f34) = true)
    (a35 : PySem.W.nsIn K mainGlobals "_law_due" = some (some (.ref f35))) (l35 : K.lookup f35 = some ⟨oc35, od35, .func (PySem.W.fnOf "_law_due" "_law_due" (defArgs s35) (defBody s35) (defScope s35) .none kV35 dc35 pm35 an35 cd35 ct35), sl35⟩) (c35 : PySem.W.codeIn K cd35 "_law_due" = true) (k35 : PySem.W.keepIn K (.ref f35) = true)
    (a36 : PySem.W.nsIn K mainGlobals "_law_bent" = some (some (.ref f36))) (l36 : K.lookup f36 = some ⟨oc36, od36, .func (PySem.W.fnOf "_law_bent" "_law_bent" (defArgs s36) (defBody s36) (defScope s36) .none kV36 dc36 pm36 an36 cd36 ct36), sl36⟩) (c36 : PySem.W.codeIn K cd36 "_law_bent" = true) (k36 : PySem.W.keepIn K (.ref f36) = true)
    (a37 : PySem.W.nsIn K mainGlobals "_law_is_refused" = some (some (.ref f37))) (l37 : K.lookup f37 = some ⟨oc37, od37, .func (PySem.W.fnOf "_law_is_refused" "_law_is_refused" (defArgs s37) (defBody s37) (defScope s37) .none kV37 dc37 pm37 an37 cd37 ct37), sl37⟩) (c37 : PySem.W.codeIn K cd37 "_law_is_refused" = true) (k37 : PySem.W.keepIn K (.ref f37) = true)
    (a38 : PySem.W.nsIn K mainGlobals "_law_hidden" = some (some (.ref f38))) (l38 : K.lookup f38 = some ⟨oc38, od38, .func (PySem.W.fnOf "_law_hidden" "_law_hidden" (defArgs s38) (defBody s38) (defScope s38) .none kV38 dc38 pm38 an38 cd38 ct38), sl38⟩) (c38 : PySem.W.codeIn K cd38 "_law_hidden" = true) (k38 : PySem.W.keepIn K (.ref f38) = true)
    (a39 : PySem.W.nsIn K mainGlobals "_law_cell_right" = some (some (.ref f39))) (l39 : K.lookup f39 = some ⟨oc39, od39, .func (PySem.W.fnOf "_law_cell_right" "_law_cell_right" (defArgs s39) (defBody s39) (defScope s39) .none kV39 dc39 pm39 an39 cd39 ct39), sl39⟩) (c39 : PySem.W.codeIn K cd39 "_law_cell_right" = true) (k39 : PySem.W.keepIn K (.ref f39) = true)
    (a40 : PySem.W.nsIn K mainGlobals "law" = some (some (.ref f40))) (l40 : K.lookup f40 = some ⟨oc40, od40, .func (PySem.W.fnOf "law" "law" (defArgs s40) (defBody s40) (defScope s40) .none kV40 dc40 pm40 an40 cd40 ct40), sl40⟩) (c40 : PySem.W.codeIn K cd40 "law" = true) (k40 : PySem.W.keepIn K (.ref f40) = true)
    (z_abs : PySem.W.nsIn K mainGlobals "abs" = some none)
    (z_all : PySem.W.nsIn K mainGlobals "all" = some none)
    (z_bool : PySem.W.nsIn K mainGlobals "bool" = some none)
    (z_int : PySem.W.nsIn K mainGlobals "int" = some none)
    (z_isinstance : PySem.W.nsIn K mainGlobals "isinstance" = some none)
    (z_len : PySem.W.nsIn K mainGlobals "len" = some none)
    (z_list : PySem.W.nsIn K mainGlobals "list" = some none)
    (z_max : PySem.W.nsIn K mainGlobals "max" = some none)
    (z_min : PySem.W.nsIn K mainGlobals "min" = some none)
    (z_range : PySem.W.nsIn K mainGlobals "range" = some none)
    (z_repr : PySem.W.nsIn K mainGlobals "repr" = some none)
    (z_str : PySem.W.nsIn K mainGlobals "str" = some none)
    (z_tuple : PySem.W.nsIn K mainGlobals "tuple" = some none)
    (z_GREATEST : PySem.W.nsIn K mainGlobals "GREATEST" = some (some (.int (10 ^ 60 - 1) t_GREATEST)))
    (z_MAX_DEPTH : PySem.W.nsIn K mainGlobals "MAX_DEPTH" = some (some (.int 8 t_MAX_DEPTH)))
    (z_MAX_DIGITS : PySem.W.nsIn K mainGlobals "MAX_DIGITS" = some (some (.int 60 t_MAX_DIGITS)))
    (z_MAX_LETTERS : PySem.W.nsIn K mainGlobals "MAX_LETTERS" = some (some (.int 8 t_MAX_LETTERS)))
    (aIO : PySem.W.nsIn K mainGlobals "InvalidOperation" = some (some (.ref IO))) (xIO : PySem.W.excIn K IO [.type "ValueError", .type "Exception", .type "BaseException", .type "object"] "ValueError.__new__" = true) (kIO : PySem.W.keepIn K (.ref IO) = true) (bIO : PySem.W.subIn K (.ref IO) (.type "BaseException") = some true) (tIO : PySem.W.typeIn K (.ref IO) = some (.type "type")) (iIO : PySem.W.isClsIn K IO = true) (sIO : PySem.W.subIn K (.ref IO) (.ref IO) = some true)
    (aPE : PySem.W.nsIn K mainGlobals "ParseError" = some (some (.ref PE))) (xPE : K.lookup PE = some (excClassObj nm q PE NN bs bm true sn sub ab col dd m0 m1 m2 m3 m5 "ValueError.__new__")) (rPE : PySem.HandSPX.refsVE bm = true) (saPE : PySem.W.findIn K (.ref PE) "__setattr__" = some (some (.builtin "object.__setattr__"))) (gaPE : PySem.W.findIn K (.ref PE) "__getattribute__" = some (some (.builtin "BaseException.__getattribute__"))) (ggPE : PySem.W.findIn K (.ref PE) "__getattr__" = some none) (nbPE : PySem.W.findIn K (.ref PE) "index" = some none) (inPE : PySem.W.findIn K (.ref PE) "__init__" = some (some (.ref fI))) (tyI : PySem.W.typeIn K (.ref fI) = some (.type "function"))
    (kPE : PySem.W.keepIn K (.ref PE) = true) (bPE : PySem.W.subIn K (.ref PE) (.type "BaseException") = some true) (tPE : PySem.W.typeIn K (.ref PE) = some (.type "type")) (hPE : PySem.W.hasDictIn K PE = true) (iPE : PySem.W.isClsIn K PE = true) (sPE : PySem.W.subIn K (.ref PE) (.ref PE) = some true) (vPE : PySem.W.subIn K (.ref PE) (.type "ValueError") = some true) (mPE : PySem.W.mroIn K PE (.ref PE) = some true)
    (lI : K.lookup fI = some ⟨ocI, odI, .func (PySem.W.ksFn "__init__" "ParseError.__init__" (defArgs sIn) (defBody sIn) (defScope sIn) .none kVI dcI pmI anI (.ref cI) ctI ccI), slI⟩) (cdI : PySem.W.codeIn K (.ref cI) "ParseError.__init__" = true) (ceI : K.lookup ccI = some ⟨cl, cld, .cell (some (.ref PE)), csl⟩) (coI : K.lookup cI = some ⟨ccl, cdd, .fields cvs, ccs⟩) (fiI : cvs[2]? = some (.str file tf)) (feI : ((l.prog.main.file : Str) == file) = true) (toI : (l.prog.main.scope.names.lookup ("super" : Str)).isSome = false) (nsI : PySem.W.nsIn K mainGlobals "super" = some none) (opI : PySem.W.nsIn K PySem.cStatics "thirdparty.any" = some none) (suI : PySem.W.ks_superIn K PE PE "__init__" = some (some (.builtin "ValueError.__init__"))) (ovI : PySem.W.excInitIn K PE [.type "ValueError", .type "Exception", .type "BaseException", .type "object"] "ValueError.__new__" = true) :
    ∃ fd : FuncData, (∀ (s : Shared) (v : Value), BindsTo s fd ⟨[v], []⟩ [("_law_script", v)]) ∧ ∀ base : Heap, K.In base → base.Ns mainGlobals mg → FnDG l.prog w K mg base 21 fa fd ["_law_script"] S40 := by
  have e := hfa.symm.trans (PySem.W.mg_of X G a40)
  cases e
  have F3 := fun_mk (st := s3) l3 c3 k3
  have B3 := F3.binds (ps := ["value"]) fun _ _ _ _ _ _ us hl => match us, hl with | [_], _ => rfl
  have F4 := fun_mk (st := s4) l4 c4 k4
  have B4 := F4.binds (ps := ["value"]) fun _ _ _ _ _ _ us hl => match us, hl with | [_], _ => rfl
  have F5 := fun_mk (st := s5) l5 c5 k5
  have B5 := F5.binds (ps := ["value"]) fun _ _ _ _ _ _ us hl => match us, hl with | [_], _ => rfl
  have F13 := fun_mk (st := s13) l13 c13 k13
  have B13 := F13.binds (ps := ["value"]) fun _ _ _ _ _ _ us hl => match us, hl with | [_], _ => rfl
  have F14 := fun_mk (st := s14) l14 c14 k14
  have B14 := F14.binds (ps := ["word"]) fun _ _ _ _ _ _ us hl => match us, hl with | [_], _ => rfl
  have F15 := fun_mk (st := s15) l15 c15 k15
  have B15 := F15.binds (ps := ["value", "depth"]) fun _ _ _ _ _ _ us hl => match us, hl with | [_, _], _ => rfl
  have F16 := fun_mk (st := s16) l16 c16 k16
  have B16 := F16.binds (ps := ["value"]) fun _ _ _ _ _ _ us hl => match us, hl with | [_], _ => rfl
  have F17 := fun_mk (st := s17) l17 c17 k17
  have B17 := F17.binds (ps := ["word"]) fun _ _ _ _ _ _ us hl => match us, hl with | [_], _ => rfl
  have F18 := fun_mk (st := s18) l18 c18 k18
  have B18 := F18.binds (ps := ["words"]) fun _ _ _ _ _ _ us hl => match us, hl with | [_], _ => rfl
  have F19 := fun_mk (st := s19) l19 c19 k19
  have B19 := F19.binds (ps := ["text"]) fun _ _ _ _ _ _ us hl => match us, hl with | [_], _ => rfl
  have F21 := fun_mk (st := s21) l21 c21 k21
  have B21 := F21.binds (ps := ["_law_script", "_law_at"]) fun _ _ _ _ _ _ us hl => match us, hl with | [_, _], _ => rfl
  have F22 := fun_mk (st := s22) l22 c22 k22
  have B22 := F22.binds (ps := ["_law_mill_here", "_law_total"]) fun _ _ _ _ _ _ us hl => match us, hl with | [_, _], _ => rfl
  have F23 := fun_mk (st := s23) l23 c23 k23
  have B23 := F23.binds (ps := ["_law_mill_here", "_law_items"]) fun _ _ _ _ _ _ us hl => match us, hl with | [_, _], _ => rfl
  have F24 := fun_mk (st := s24) l24 c24 k24
  have B24 := F24.binds (ps := ["_law_mill_here", "_law_items"]) fun _ _ _ _ _ _ us hl => match us, hl with | [_, _], _ => rfl
  have F25 := fun_mk (st := s25) l25 c25 k25
  have B25 := F25.binds (ps := ["_law_mill_here"]) fun _ _ _ _ _ _ us hl => match us, hl with | [_], _ => rfl
  have F26 := fun_mk (st := s26) l26 c26 k26
  have B26 := F26.binds (ps := ["_law_mill_here", "_law_much"]) fun _ _ _ _ _ _ us hl => match us, hl with | [_, _], _ => rfl
  have F27 := fun_mk (st := s27) l27 c27 k27
  have B27 := F27.binds (ps := ["_law_value"]) fun _ _ _ _ _ _ us hl => match us, hl with | [_], _ => rfl
  have F28 := fun_mk (st := s28) l28 c28 k28
  have B28 := F28.binds (ps := ["_law_value"]) fun _ _ _ _ _ _ us hl => match us, hl with | [_], _ => rfl
  have F29 := fun_mk (st := s29) l29 c29 k29
  have B29 := F29.binds (ps := ["_law_mill_here", "_law_deep"]) fun _ _ _ _ _ _ us hl => match us, hl with | [_, _], _ => rfl
  have F30 := fun_mk (st := s30) l30 c30 k30
  have B30 := F30.binds (ps := ["_law_value"]) fun _ _ _ _ _ _ us hl => match us, hl with | [_], _ => rfl
  have F31 := fun_mk (st := s31) l31 c31 k31
  have B31 := F31.binds (ps := ["_law_word"]) fun _ _ _ _ _ _ us hl => match us, hl with | [_], _ => rfl
  have F32 := fun_mk (st := s32) l32 c32 k32
  have B32 := F32.binds (ps := ["_law_words_here"]) fun _ _ _ _ _ _ us hl => match us, hl with | [_], _ => rfl
  have F33 := fun_mk (st := s33) l33 c33 k33
  have B33 := F33.binds (ps := ["_law_text"]) fun _ _ _ _ _ _ us hl => match us, hl with | [_], _ => rfl
  have F34 := fun_mk (st := s34) l34 c34 k34
  have B34 := F34.binds (ps := ["_law_text"]) fun _ _ _ _ _ _ us hl => match us, hl with | [_], _ => rfl
  have F35 := fun_mk (st := s35) l35 c35 k35
  have B35 := F35.binds (ps := ["_law_text"]) fun _ _ _ _ _ _ us hl => match us, hl with | [_], _ => rfl
  have F36 := fun_mk (st := s36) l36 c36 k36
  have B36 := F36.binds (ps := ["_law_mill_here", "_law_words_here"]) fun _ _ _ _ _ _ us hl => match us, hl with | [_, _], _ => rfl
  have F37 := fun_mk (st := s37) l37 c37 k37
  have B37 := F37.binds (ps := ["_law_value"]) fun _ _ _ _ _ _ us hl => match us, hl with | [_], _ => rfl
  have F38 := fun_mk (st := s38) l38 c38 k38
  have B38 := F38.binds (ps := ["_law_mill_here", "_law_value"]) fun _ _ _ _ _ _ us hl => match us, hl with | [_, _], _ => rfl
  have F39 := fun_mk (st := s39) l39 c39 k39
  have B39 := F39.binds (ps := ["_law_mill_here"]) fun _ _ _ _ _ _ us hl => match us, hl with | [_], _ => rfl
  have F40 := fun_mk (st := s40) l40 c40 k40
  have B40 := F40.binds (ps := ["_law_script"]) fun _ _ _ _ _ _ us hl => match us, hl with | [_], _ => rfl
  let T : Tx l.prog K mg := {
    a3 := _, d3 := _, f3 := F3, b3 := B3, m3 := PySem.W.mg_of X G a3,
    a4 := _, d4 := _, f4 := F4, b4 := B4, m4 := PySem.W.mg_of X G a4,
    a5 := _, d5 := _, f5 := F5, b5 := B5, m5 := PySem.W.mg_of X G a5,
    a13 := _, d13 := _, f13 := F13, b13 := B13, m13 := PySem.W.mg_of X G a13,
    a14 := _, d14 := _, f14 := F14, b14 := B14, m14 := PySem.W.mg_of X G a14,
    a15 := _, d15 := _, f15 := F15, b15 := B15, m15 := PySem.W.mg_of X G a15,
    a16 := _, d16 := _, f16 := F16, b16 := B16, m16 := PySem.W.mg_of X G a16,
    a17 := _, d17 := _, f17 := F17, b17 := B17, m17 := PySem.W.mg_of X G a17,
    a18 := _, d18 := _, f18 := F18, b18 := B18, m18 := PySem.W.mg_of X G a18,
    a19 := _, d19 := _, f19 := F19, b19 := B19, m19 := PySem.W.mg_of X G a19,
    a21 := _, d21 := _, f21 := F21, b21 := B21, m21 := PySem.W.mg_of X G a21,
    a22 := _, d22 := _, f22 := F22, b22 := B22, m22 := PySem.W.mg_of X G a22,
    a23 := _, d23 := _, f23 := F23, b23 := B23, m23 := PySem.W.mg_of X G a23,
    a24 := _, d24 := _, f24 := F24, b24 := B24, m24 := PySem.W.mg_of X G a24,
    a25 := _, d25 := _, f25 := F25, b25 := B25, m25 := PySem.W.mg_of X G a25,
    a26 := _, d26 := _, f26 := F26, b26 := B26, m26 := PySem.W.mg_of X G a26,
    a27 := _, d27 := _, f27 := F27, b27 := B27, m27 := PySem.W.mg_of X G a27,
    a28 := _, d28 := _, f28 := F28, b28 := B28, m28 := PySem.W.mg_of X G a28,
    a29 := _, d29 := _, f29 := F29, b29 := B29, m29 := PySem.W.mg_of X G a29,
    a30 := _, d30 := _, f30 := F30, b30 := B30, m30 := PySem.W.mg_of X G a30,
    a31 := _, d31 := _, f31 := F31, b31 := B31, m31 := PySem.W.mg_of X G a31,
    a32 := _, d32 := _, f32 := F32, b32 := B32, m32 := PySem.W.mg_of X G a32,
    a33 := _, d33 := _, f33 := F33, b33 := B33, m33 := PySem.W.mg_of X G a33,
    a34 := _, d34 := _, f34 := F34, b34 := B34, m34 := PySem.W.mg_of X G a34,
    a35 := _, d35 := _, f35 := F35, b35 := B35, m35 := PySem.W.mg_of X G a35,
    a36 := _, d36 := _, f36 := F36, b36 := B36, m36 := PySem.W.mg_of X G a36,
    a37 := _, d37 := _, f37 := F37, b37 := B37, m37 := PySem.W.mg_of X G a37,
    a38 := _, d38 := _, f38 := F38, b38 := B38, m38 := PySem.W.mg_of X G a38,
    a39 := _, d39 := _, f39 := F39, b39 := B39, m39 := PySem.W.mg_of X G a39,
    a40 := _, d40 := _, f40 := F40, b40 := B40, m40 := PySem.W.mg_of X G a40,
    n_abs := PySem.W.mg_none_of X G z_abs,
    n_all := PySem.W.mg_none_of X G z_all,
    n_bool := PySem.W.mg_none_of X G z_bool,
    n_int := PySem.W.mg_none_of X G z_int,
    n_isinstance := PySem.W.mg_none_of X G z_isinstance,
    n_len := PySem.W.mg_none_of X G z_len,
    n_list := PySem.W.mg_none_of X G z_list,
    n_max := PySem.W.mg_none_of X G z_max,
    n_min := PySem.W.mg_none_of X G z_min,
    n_range := PySem.W.mg_none_of X G z_range,
    n_repr := PySem.W.mg_none_of X G z_repr,
    n_str := PySem.W.mg_none_of X G z_str,
    n_tuple := PySem.W.mg_none_of X G z_tuple,
    u_GREATEST := _, m_GREATEST := PySem.W.mg_of X G z_GREATEST, r_GREATEST := ⟨t_GREATEST, by first | rfl | (congr 1; done) | decide⟩,
    u_MAX_DEPTH := _, m_MAX_DEPTH := PySem.W.mg_of X G z_MAX_DEPTH, r_MAX_DEPTH := ⟨t_MAX_DEPTH, by first | rfl | (congr 1; done) | decide⟩,
    u_MAX_DIGITS := _, m_MAX_DIGITS := PySem.W.mg_of X G z_MAX_DIGITS, r_MAX_DIGITS := ⟨t_MAX_DIGITS, by first | rfl | (congr 1; done) | decide⟩,
    u_MAX_LETTERS := _, m_MAX_LETTERS := PySem.W.mg_of X G z_MAX_LETTERS, r_MAX_LETTERS := ⟨t_MAX_LETTERS, by first | rfl | (congr 1; done) | decide⟩,
    aIO := IO, gIO := PySem.W.mg_of X G aIO, xIO := xIO, kIO := kIO, bIO := bIO, tIO := tIO, eIO := exm_self bIO iIO tIO sIO,
    aPE := PE, gPE := PySem.W.mg_of X G aPE, oPE := ⟨⟨nm, q, NN, bs, bm, sn, sub, ab, col, dd, m0, m1, m2, m3, m5, xPE, rPE⟩, saPE, bPE, tPE, kPE⟩, xfPE := ⟨gaPE, ggPE, bPE, hPE⟩, noPE := nbPE, ePE := exm_self bPE iPE tPE sPE,
    aIn := fI, dIn := _, iPE := inPE, iPEt := tyI, bPE := .all fun us hl => match us, hl with | [_, _], _ => rfl, cIn := cI, ccIn := ccI, okIn := ⟨ocI, odI, slI, .none, kVI, dcI, pmI, anI, ctI, lI, rfl⟩, cdIn := cdI,
    inPE := ⟨PySem.W.kxs_ValueError, PySem.F.excBase_ValueError, ovI, ⟨cl, cld, csl, ceI⟩, ⟨ccl, cdd, cvs, ccs, file, tf, coI, fiI, feI⟩, ⟨_, clsIn_of xPE⟩, mPE, nsI, toI, opI, suI, vPE⟩ }
  exact ⟨_, fun s v => .of_eq rfl, fun base _ _ => ok40 T⟩
end Dl
open PySem PySem.W PyProof.Rows
set_option maxRecDepth 100000 in
set_option maxHeartbeats 0 in
theorem PySem.Challenge.cw_whichwalks_k83_texts_of_values_holds : PySem.Challenge.rw_whichwalks_k83_texts_of_values.Holds := by
  w_on; o_law; k_head; (case hw => w_witness2)
  k_fill
  refine Dl.walk_ofG (l := PySem.Challenge.rw_whichwalks_k83_texts_of_values) (n := 63) (k := 21) (x := "_law_script") rfl (by decide) rfl ⟨rfl, by decide, by decide⟩ (fun w h Y => PySem.W.kIn_of Y) ?F
  case F =>
    intro w mg fa h KX G hmg
    refine' Dl.all_mk KX G hmg ?a3 ?l3 ?c3 ?k3 ?a4 ?l4 ?c4 ?k4 ?a5 ?l5 ?c5 ?k5 ?a13 ?l13 ?c13 ?k13 ?a14 ?l14 ?c14 ?k14 ?a15 ?l15 ?c15 ?k15 ?a16 ?l16 ?c16 ?k16 ?a17 ?l17 ?c17 ?k17 ?a18 ?l18 ?c18 ?k18 ?a19 ?l19 ?c19 ?k19 ?a21 ?l21 ?c21 ?k21 ?a22 ?l22 ?c22 ?k22 ?a23 ?l23 ?c23 ?k23 ?a24 ?l24 ?c24 ?k24 ?a25 ?l25 ?c25 ?k25 ?a26 ?l26 ?c26 ?k26 ?a27 ?l27 ?c27 ?k27 ?a28 ?l28 ?c28 ?k28 ?a29 ?l29 ?c29 ?k29 ?a30 ?l30 ?c30 ?k30 ?a31 ?l31 ?c31 ?k31 ?a32 ?l32 ?c32 ?k32 ?a33 ?l33 ?c33 ?k33 ?a34 ?l34 ?c34 ?k34 ?a35 ?l35 ?c35 ?k35 ?a36 ?l36 ?c36 ?k36 ?a37 ?l37 ?c37 ?k37 ?a38 ?l38 ?c38 ?k38 ?a39 ?l39 ?c39 ?k39 ?a40 ?l40 ?c40 ?k40 ?z_abs ?z_all ?z_bool ?z_int ?z_isinstance ?z_len ?z_list ?z_max ?z_min ?z_range ?z_repr ?z_str ?z_tuple ?z_GREATEST ?z_MAX_DEPTH ?z_MAX_DIGITS ?z_MAX_LETTERS ?aIO ?xIO ?kIO ?bIO ?tIO ?iIO ?sIO ?aPE ?xPE ?rPE ?saPE ?gaPE ?ggPE ?nbPE ?inPE ?tyI ?kPE ?bPE ?tPE ?hPE ?iPE ?sPE ?vPE ?mPE ?lI ?cdI ?ceI ?coI ?fiI ?feI ?toI ?nsI ?opI ?suI ?ovI
    (case a3 => k_is)
    (case l3 => k_is)
    (case c3 => k_is)
    (case k3 => k_is)
    (case a4 => k_is)
    (case l4 => k_is)
    (case c4 => k_is)
    (case k4 => k_is)
    (case a5 => k_is)
    (case l5 => k_is)
    (case c5 => k_is)
    (case k5 => k_is)
    (case a13 => k_is)
    (case l13 => k_is)
    (case c13 => k_is)
    (case k13 => k_is)
    (case a14 => k_is)
    (case l14 => k_is)
    (case c14 => k_is)
    (case k14 => k_is)
    (case a15 => k_is)
    (case l15 => k_is)
    (case c15 => k_is)
    (case k15 => k_is)
    (case a16 => k_is)
    (case l16 => k_is)
    (case c16 => k_is)
    (case k16 => k_is)
    (case a17 => k_is)
    (case l17 => k_is)
    (case c17 => k_is)
    (case k17 => k_is)
    (case a18 => k_is)
    (case l18 => k_is)
    (case c18 => k_is)
    (case k18 => k_is)
    (case a19 => k_is)
    (case l19 => k_is)
    (case c19 => k_is)
    (case k19 => k_is)
    (case a21 => k_is)
    (case l21 => k_is)
    (case c21 => k_is)
    (case k21 => k_is)
    (case a22 => k_is)
    (case l22 => k_is)
    (case c22 => k_is)
    (case k22 => k_is)
    (case a23 => k_is)
    (case l23 => k_is)
    (case c23 => k_is)
    (case k23 => k_is)
    (case a24 => k_is)
    (case l24 => k_is)
    (case c24 => k_is)
    (case k24 => k_is)
    (case a25 => k_is)
    (case l25 => k_is)
    (case c25 => k_is)
    (case k25 => k_is)
    (case a26 => k_is)
    (case l26 => k_is)
    (case c26 => k_is)
    (case k26 => k_is)
    (case a27 => k_is)
    (case l27 => k_is)
    (case c27 => k_is)
    (case k27 => k_is)
    (case a28 => k_is)
    (case l28 => k_is)
    (case c28 => k_is)
    (case k28 => k_is)
    (case a29 => k_is)
    (case l29 => k_is)
    (case c29 => k_is)
    (case k29 => k_is)
    (case a30 => k_is)
    (case l30 => k_is)
    (case c30 => k_is)
    (case k30 => k_is)
    (case a31 => k_is)
    (case l31 => k_is)
    (case c31 => k_is)
    (case k31 => k_is)
    (case a32 => k_is)
    (case l32 => k_is)
    (case c32 => k_is)
    (case k32 => k_is)
    (case a33 => k_is)
    (case l33 => k_is)
    (case c33 => k_is)
    (case k33 => k_is)
    (case a34 => k_is)
    (case l34 => k_is)
    (case c34 => k_is)
    (case k34 => k_is)
    (case a35 => k_is)
    (case l35 => k_is)
    (case c35 => k_is)
    (case k35 => k_is)
    (case a36 => k_is)
    (case l36 => k_is)
    (case c36 => k_is)
    (case k36 => k_is)
    (case a37 => k_is)
    (case l37 => k_is)
    (case c37 => k_is)
    (case k37 => k_is)
    (case a38 => k_is)
    (case l38 => k_is)
    (case c38 => k_is)
    (case k38 => k_is)
    (case a39 => k_is)
    (case l39 => k_is)
    (case c39 => k_is)
    (case k39 => k_is)
    (case a40 => k_is)
    (case l40 => k_is)
    (case c40 => k_is)
    (case k40 => k_is)
    (case z_abs => k_is)
    (case z_all => k_is)
    (case z_bool => k_is)
    (case z_int => k_is)
    (case z_isinstance => k_is)
    (case z_len => k_is)
    (case z_list => k_is)
    (case z_max => k_is)
    (case z_min => k_is)
    (case z_range => k_is)
    (case z_repr => k_is)
    (case z_str => k_is)
    (case z_tuple => k_is)
    (case z_GREATEST => k_is)
    (case z_MAX_DEPTH => k_is)
    (case z_MAX_DIGITS => k_is)
    (case z_MAX_LETTERS => k_is)
    (case aIO => k_is)
    (case xIO => k_exc)
    (case kIO => k_is)
    (case bIO => k_is)
    (case tIO => k_is)
    (case iIO => k_is)
    (case sIO => first | rfl | k_is)
    (case aPE => k_is)
    (case xPE => k_is)
    (case rPE => rfl)
    (case saPE => k_is)
    (case gaPE => k_is)
    (case ggPE => k_is)
    (case nbPE => k_is)
    (case inPE => k_is)
    (case tyI => k_is)
    (case kPE => k_is)
    (case bPE => k_is)
    (case tPE => k_is)
    (case hPE => k_is)
    (case iPE => k_is)
    (case sPE => first | rfl | k_is)
    (case vPE => k_is)
    (case mPE => k_is)
    (case lI => k_is)
    (case cdI => k_is)
    (case ceI => k_is)
    (case coI => k_is)
    (case fiI => rfl)
    (case feI => decide +kernel)
    (case toI => decide +kernel)
    (case nsI => k_is)
    (case opI => k_is)
    (case suI => ks_is)
    (case ovI => kx_is)
