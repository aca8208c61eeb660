import PyProof.Rows.All
import Wide.All
import OpenK.AllK
import Wide.FinOn
import HandS.ForMost
import HandS.Defaults
import HandS.SetKeys
import HandS.Wide
import HandS.IsInst
import HandS.More
import HandS.SortInts
import HandS.Set
import HandS.SetFor
import HandS.Strs
import PySem.Challenge.RW_keepsakes_k63_joined_shelves
import HandS.Text
set_option Elab.async false
set_option maxRecDepth 100000
/-! Sy: a symbolic heap over the hand layer. D: what a value is, read through what never changes; Ck: an object that may change, with what it holds. -/
namespace Sy
open PySem L2

/-- what a value is: a plain value (a reference says nothing of what stands there), or data that never changes -/
inductive D where
  | v (x : V)
  | tup (xs : List D)
  | lst (xs : List D)
  | ins (C : Addr) (fs : List (Str × D))
  | dct (kvs : List (Key × D))
abbrev D.int (i : Int) : D := .v (.int i)
abbrev D.bl (b : Bool) : D := .v (.bl b)
abbrev D.non : D := .v .non
abbrev D.str (s : Str) : D := .v (.str s)
abbrev D.ref (a : Addr) : D := .v (.ref a)

mutual
def rd (K : PySem.W.Frag) (F : Hp) : D → V → Prop
  | .v x, y => y = x
  | .tup xs, y => ∃ a vs, y = .ref a ∧ F a = some (.tup vs) ∧ rds K F xs vs
  | .lst xs, y => ∃ a vs, y = .ref a ∧ SqL K F a vs ∧ rds K F xs vs
  | .ins C fs, y => ∃ a dx gs, y = .ref a ∧ F a = some (.ins C dx gs) ∧ rfs K F fs gs
  | .dct kvs, y => ∃ a ws, y = .ref a ∧ F a = some (.dK ws) ∧ rks K F kvs ws
def rds (K : PySem.W.Frag) (F : Hp) : List D → List V → Prop
  | [], vs => vs = []
  | d :: ds, vs => ∃ v r, vs = v :: r ∧ rd K F d v ∧ rds K F ds r
def rfs (K : PySem.W.Frag) (F : Hp) : List (Str × D) → List (Str × V) → Prop
  | [], vs => vs = []
  | d :: ds, vs => ∃ v r, vs = (d.1, v) :: r ∧ rd K F d.2 v ∧ rfs K F ds r
def rks (K : PySem.W.Frag) (F : Hp) : List (Key × D) → List (Key × V) → Prop
  | [], vs => vs = []
  | d :: ds, vs => ∃ v r, vs = (d.1, v) :: r ∧ rd K F d.2 v ∧ rks K F ds r
end

section
variable {K : PySem.W.Frag} {F F' : Hp}
theorem sqT_mono {a : Addr} {xs : List V} (e : Same F F') (h : SqT K F a xs) : SqT K F' a xs := by
  rcases h with (h | ⟨o, h⟩) | h
  · exact .inl (.inl (e _ _ h))
  · exact .inl (.inr ⟨o, e _ _ h⟩)
  · exact .inr h
mutual
theorem rd_mono (e : Same F F') : ∀ (d : D) (v : V), rd K F d v → rd K F' d v
  | .v x, y, h => by unfold rd at h ⊢; exact h
  | .tup xs, y, h => by
    unfold rd at h ⊢
    obtain ⟨a, vs, h1, h2, h3⟩ := h
    exact ⟨a, vs, h1, e _ _ h2, rds_mono e xs vs h3⟩
  | .lst xs, y, h => by
    unfold rd at h ⊢
    obtain ⟨a, vs, h1, h2, h3⟩ := h
    exact ⟨a, vs, h1, e.seq h2, rds_mono e xs vs h3⟩
  | .ins C fs, y, h => by
    unfold rd at h ⊢
    obtain ⟨a, dx, gs, h1, h2, h3⟩ := h
    exact ⟨a, dx, gs, h1, e _ _ h2, rfs_mono e fs gs h3⟩
  | .dct kvs, y, h => by
    unfold rd at h ⊢
    obtain ⟨a, ws, h1, h2, h3⟩ := h
    exact ⟨a, ws, h1, e _ _ h2, rks_mono e kvs ws h3⟩
theorem rds_mono (e : Same F F') : ∀ (ds : List D) (vs : List V), rds K F ds vs → rds K F' ds vs
  | [], vs, h => by unfold rds at h ⊢; exact h
  | d :: ds, vs, h => by
    unfold rds at h ⊢
    obtain ⟨v, r, h1, h2, h3⟩ := h
    exact ⟨v, r, h1, rd_mono e d v h2, rds_mono e ds r h3⟩
theorem rfs_mono (e : Same F F') : ∀ (ds : List (Str × D)) (vs : List (Str × V)), rfs K F ds vs → rfs K F' ds vs
  | [], vs, h => by unfold rfs at h ⊢; exact h
  | d :: ds, vs, h => by
    unfold rfs at h ⊢
    obtain ⟨v, r, h1, h2, h3⟩ := h
    exact ⟨v, r, h1, rd_mono e d.2 v h2, rfs_mono e ds r h3⟩
theorem rks_mono (e : Same F F') : ∀ (ds : List (Key × D)) (vs : List (Key × V)), rks K F ds vs → rks K F' ds vs
  | [], vs, h => by unfold rks at h ⊢; exact h
  | d :: ds, vs, h => by
    unfold rks at h ⊢
    obtain ⟨v, r, h1, h2, h3⟩ := h
    exact ⟨v, r, h1, rd_mono e d.2 v h2, rks_mono e ds r h3⟩
end
theorem rd_v {x y : V} : rd K F (.v x) y ↔ y = x := by unfold rd; exact Iff.rfl
theorem rds_nil {vs : List V} : rds K F [] vs ↔ vs = [] := by unfold rds; exact Iff.rfl
theorem rds_cons {d : D} {ds : List D} {vs : List V} : rds K F (d :: ds) vs ↔ ∃ v r, vs = v :: r ∧ rd K F d v ∧ rds K F ds r := by
  constructor
  · intro h; unfold rds at h; exact h
  · intro h; unfold rds; exact h
theorem rds_len : ∀ {ds : List D} {vs : List V}, rds K F ds vs → ds.length = vs.length
  | [], vs, h => by rw [rds_nil] at h; subst h; rfl
  | d :: ds, vs, h => by
    rw [rds_cons] at h
    obtain ⟨v, r, rfl, _, h3⟩ := h
    show ds.length + 1 = r.length + 1
    rw [rds_len h3]
theorem rds_get : ∀ {ds : List D} {vs : List V} {i : Nat} {d : D}, rds K F ds vs → ds[i]? = some d → ∃ v, vs[i]? = some v ∧ rd K F d v
  | [], vs, i, d, h, e => by simp at e
  | x :: ds, vs, i, d, h, e => by
    rw [rds_cons] at h
    obtain ⟨v, r, rfl, h2, h3⟩ := h
    cases i with
    | zero => simp at e; subst e; exact ⟨v, rfl, h2⟩
    | succ i =>
      obtain ⟨u, hu, ru⟩ := rds_get (i := i) h3 (by simpa using e)
      exact ⟨u, by simpa using hu, ru⟩
theorem rds_get' {ds : List D} {vs : List V} {i : Nat} {v : V} (h : rds K F ds vs) (e : vs[i]? = some v) : ∃ d, ds[i]? = some d ∧ rd K F d v := by
  have hl := rds_len h
  have hi := (List.getElem?_eq_some_iff.mp e).1
  have hd : ds[i]? = some (ds[i]'(by omega)) := List.getElem?_eq_getElem (by omega)
  obtain ⟨u, hu, ru⟩ := rds_get h hd
  rw [e] at hu
  cases hu
  exact ⟨_, hd, ru⟩
theorem rds_append : ∀ {ds es : List D} {vs us : List V}, rds K F ds vs → rds K F es us → rds K F (ds ++ es) (vs ++ us)
  | [], es, vs, us, h, g => by rw [rds_nil] at h; subst h; exact g
  | d :: ds, es, vs, us, h, g => by
    rw [rds_cons] at h
    obtain ⟨v, r, rfl, h2, h3⟩ := h
    exact rds_cons.mpr ⟨v, r ++ us, rfl, h2, rds_append h3 g⟩
theorem rds_one {d : D} {v : V} (h : rd K F d v) : rds K F [d] [v] := rds_cons.mpr ⟨v, [], rfl, h, rds_nil.mpr rfl⟩
theorem rds_set : ∀ {ds : List D} {vs : List V} {d : D} {v : V} (i : Nat), rds K F ds vs → rd K F d v → rds K F (ds.set i d) (vs.set i v)
  | [], vs, d, v, i, h, g => by rw [rds_nil] at h; subst h; exact rds_nil.mpr rfl
  | x :: ds, vs, d, v, i, h, g => by
    rw [rds_cons] at h
    obtain ⟨u, r, rfl, h2, h3⟩ := h
    cases i with
    | zero => exact rds_cons.mpr ⟨v, r, rfl, g, h3⟩
    | succ i => exact rds_cons.mpr ⟨u, r.set i v, rfl, h2, rds_set i h3 g⟩
theorem rds_take : ∀ {ds : List D} {vs : List V} (i : Nat), rds K F ds vs → rds K F (ds.take i) (vs.take i)
  | [], vs, i, h => by rw [rds_nil] at h; subst h; simp [rds_nil]
  | x :: ds, vs, i, h => by
    rw [rds_cons] at h
    obtain ⟨u, r, rfl, h2, h3⟩ := h
    cases i with
    | zero => exact rds_nil.mpr rfl
    | succ i => exact rds_cons.mpr ⟨u, r.take i, rfl, h2, rds_take i h3⟩
theorem rds_drop : ∀ {ds : List D} {vs : List V} (i : Nat), rds K F ds vs → rds K F (ds.drop i) (vs.drop i)
  | [], vs, i, h => by rw [rds_nil] at h; subst h; simp [rds_nil]
  | x :: ds, vs, i, h => by
    cases i with
    | zero => exact h
    | succ i =>
      rw [rds_cons] at h
      obtain ⟨u, r, rfl, h2, h3⟩ := h
      exact rds_drop i h3
theorem rds_eraseIdx : ∀ {ds : List D} {vs : List V} (i : Nat), rds K F ds vs → rds K F (ds.eraseIdx i) (vs.eraseIdx i)
  | [], vs, i, h => by rw [rds_nil] at h; subst h; simp [rds_nil]
  | x :: ds, vs, i, h => by
    rw [rds_cons] at h
    obtain ⟨u, r, rfl, h2, h3⟩ := h
    cases i with
    | zero => exact h3
    | succ i => exact rds_cons.mpr ⟨u, r.eraseIdx i, rfl, h2, rds_eraseIdx i h3⟩
theorem rds_reverse : ∀ {ds : List D} {vs : List V}, rds K F ds vs → rds K F ds.reverse vs.reverse
  | [], vs, h => by rw [rds_nil] at h; subst h; exact rds_nil.mpr rfl
  | d :: ds, vs, h => by
    rw [rds_cons] at h
    obtain ⟨v, r, rfl, h2, h3⟩ := h
    rw [List.reverse_cons, List.reverse_cons]
    exact rds_append (rds_reverse h3) (rds_one h2)
theorem rds_ints : ∀ {ns : List Int} {vs : List V}, rds K F (ns.map D.int) vs → vs = ns.map V.int
  | [], vs, h => by rw [List.map_nil, rds_nil] at h; exact h
  | n :: ns, vs, h => by
    rw [List.map_cons, rds_cons] at h
    obtain ⟨v, r, rfl, h2, h3⟩ := h
    rw [rd_v] at h2
    rw [List.map_cons, h2, rds_ints h3]
theorem ints_rds : ∀ (ns : List Int), rds K F (ns.map D.int) (ns.map V.int)
  | [] => rds_nil.mpr rfl
  | n :: ns => rds_cons.mpr ⟨_, _, rfl, rd_v.mpr rfl, ints_rds ns⟩
theorem rfs_cons {d : Str × D} {ds : List (Str × D)} {vs : List (Str × V)} : rfs K F (d :: ds) vs ↔ ∃ v r, vs = (d.1, v) :: r ∧ rd K F d.2 v ∧ rfs K F ds r := by
  constructor
  · intro h; unfold rfs at h; exact h
  · intro h; unfold rfs; exact h
theorem rfs_nil {vs : List (Str × V)} : rfs K F [] vs ↔ vs = [] := by unfold rfs; exact Iff.rfl
theorem rks_cons {d : Key × D} {ds : List (Key × D)} {vs : List (Key × V)} : rks K F (d :: ds) vs ↔ ∃ v r, vs = (d.1, v) :: r ∧ rd K F d.2 v ∧ rks K F ds r := by
  constructor
  · intro h; unfold rks at h; exact h
  · intro h; unfold rks; exact h
theorem rks_nil {vs : List (Key × V)} : rks K F [] vs ↔ vs = [] := by unfold rks; exact Iff.rfl
theorem rfs_lookup {f : Str} : ∀ {fs : List (Str × D)} {gs : List (Str × V)}, rfs K F fs gs → ∀ {d : D}, fs.lookup f = some d → ∃ v, gs.lookup f = some v ∧ rd K F d v
  | [], gs, h, d, e => by simp at e
  | (g, x) :: fs, gs, h, d, e => by
    rw [rfs_cons] at h
    obtain ⟨v, r, rfl, h2, h3⟩ := h
    rw [List.lookup_cons] at e ⊢
    cases hb : f == g with
    | true => rw [hb] at e; cases e; exact ⟨v, rfl, h2⟩
    | false => rw [hb] at e; exact rfs_lookup h3 e
theorem rfs_lookup_none {f : Str} : ∀ {fs : List (Str × D)} {gs : List (Str × V)}, rfs K F fs gs → fs.lookup f = none → gs.lookup f = none
  | [], gs, h, e => by rw [rfs_nil] at h; subst h; rfl
  | (g, x) :: fs, gs, h, e => by
    rw [rfs_cons] at h
    obtain ⟨v, r, rfl, h2, h3⟩ := h
    rw [List.lookup_cons] at e ⊢
    cases hb : f == g with
    | true => rw [hb] at e; cases e
    | false => rw [hb] at e; exact rfs_lookup_none h3 e
theorem rfs_len : ∀ {fs : List (Str × D)} {gs : List (Str × V)}, rfs K F fs gs → fs.length = gs.length
  | [], vs, h => by rw [rfs_nil] at h; subst h; rfl
  | d :: ds, vs, h => by
    rw [rfs_cons] at h
    obtain ⟨v, r, rfl, _, h3⟩ := h
    show ds.length + 1 = r.length + 1
    rw [rfs_len h3]
/-- an attribute stored -/
def putD (f : Str) (d : D) : List (Str × D) → List (Str × D)
  | [] => [(f, d)]
  | (g, x) :: r => if g = f then (f, d) :: r else (g, x) :: putD f d r
theorem rfs_put {f : Str} {d : D} {v : V} (hd : rd K F d v) : ∀ {fs : List (Str × D)} {gs : List (Str × V)}, rfs K F fs gs → rfs K F (putD f d fs) (putF f v gs)
  | [], gs, h => by rw [rfs_nil] at h; subst h; exact rfs_cons.mpr ⟨v, [], rfl, hd, rfs_nil.mpr rfl⟩
  | (g, x) :: fs, gs, h => by
    rw [rfs_cons] at h
    obtain ⟨u, r, rfl, h2, h3⟩ := h
    by_cases e : g = f
    · have e1 : putD f d ((g, x) :: fs) = (f, d) :: fs := by show (if g = f then _ else _) = _; rw [if_pos e]
      have e2 : putF f v ((g, u) :: r) = (f, v) :: r := by show (if g = f then (g, v) :: r else (g, u) :: putF f v r) = _; rw [if_pos e, e]
      show rfs K F _ (putF f v ((g, u) :: r))
      rw [e1, e2]
      exact rfs_cons.mpr ⟨v, r, rfl, hd, h3⟩
    · have e1 : putD f d ((g, x) :: fs) = (g, x) :: putD f d fs := by show (if g = f then _ else _) = _; rw [if_neg e]
      have e2 : putF f v ((g, u) :: r) = (g, u) :: putF f v r := by show (if g = f then (g, v) :: r else (g, u) :: putF f v r) = _; rw [if_neg e]
      show rfs K F _ (putF f v ((g, u) :: r))
      rw [e1, e2]
      exact rfs_cons.mpr ⟨u, putF f v r, rfl, h2, rfs_put hd h3⟩
theorem putD_len (f : Str) (d : D) : ∀ fs : List (Str × D), (putD f d fs).length ≤ fs.length + 1
  | [] => Nat.le_refl _
  | (g, x) :: r => by
    unfold putD
    by_cases e : g = f
    · rw [if_pos e]; exact Nat.le_succ _
    · rw [if_neg e]; exact Nat.succ_le_succ (putD_len f d r)
/-- a dict's value by a key; stored; taken away -/
def getK (kvs : List (Key × D)) (k : Key) : Option D := (kvs.find? fun kv => decide (kv.1 = k)).map (·.2)
def setK (kvs : List (Key × D)) (k : Key) (d : D) : List (Key × D) :=
  if (kvs.any fun kv => decide (kv.1 = k)) = true then kvs.map (fun kv => if kv.1 = k then (kv.1, d) else kv) else kvs ++ [(k, d)]
def delK (kvs : List (Key × D)) (k : Key) : List (Key × D) := kvs.filter fun kv => decide (kv.1 ≠ k)
theorem rks_len : ∀ {fs : List (Key × D)} {gs : List (Key × V)}, rks K F fs gs → fs.length = gs.length
  | [], vs, h => by rw [rks_nil] at h; subst h; rfl
  | d :: ds, vs, h => by
    rw [rks_cons] at h
    obtain ⟨v, r, rfl, _, h3⟩ := h
    show ds.length + 1 = r.length + 1
    rw [rks_len h3]
theorem rks_any {k : Key} : ∀ {fs : List (Key × D)} {gs : List (Key × V)}, rks K F fs gs → (fs.any fun kv => decide (kv.1 = k)) = (gs.any fun kv => decide (kv.1 = k))
  | [], vs, h => by rw [rks_nil] at h; subst h; rfl
  | d :: ds, vs, h => by
    rw [rks_cons] at h
    obtain ⟨v, r, rfl, _, h3⟩ := h
    rw [List.any_cons, List.any_cons, rks_any h3]
theorem rks_get {k : Key} : ∀ {fs : List (Key × D)} {gs : List (Key × V)}, rks K F fs gs → ∀ {d : D}, getK fs k = some d → ∃ v, valV gs k = some v ∧ rd K F d v
  | [], gs, h, d, e => by simp [getK] at e
  | (g, x) :: fs, gs, h, d, e => by
    rw [rks_cons] at h
    obtain ⟨v, r, rfl, h2, h3⟩ := h
    by_cases hb : g = k
    · have : getK ((g, x) :: fs) k = some x := by simp [getK, List.find?_cons, hb]
      rw [this] at e; cases e
      exact ⟨v, valV_pos hb, h2⟩
    · have : getK ((g, x) :: fs) k = getK fs k := by simp [getK, List.find?_cons, hb]
      rw [this] at e
      rw [valV_neg hb]
      exact rks_get h3 e
theorem rks_get_none {k : Key} : ∀ {fs : List (Key × D)} {gs : List (Key × V)}, rks K F fs gs → getK fs k = none → valV gs k = none
  | [], gs, h, e => by rw [rks_nil] at h; subst h; rfl
  | (g, x) :: fs, gs, h, e => by
    rw [rks_cons] at h
    obtain ⟨v, r, rfl, h2, h3⟩ := h
    by_cases hb : g = k
    · have : getK ((g, x) :: fs) k = some x := by simp [getK, List.find?_cons, hb]
      rw [this] at e; cases e
    · have : getK ((g, x) :: fs) k = getK fs k := by simp [getK, List.find?_cons, hb]
      rw [this] at e
      rw [valV_neg hb]
      exact rks_get_none h3 e
theorem rks_map {k : Key} {d : D} {v : V} (hd : rd K F d v) : ∀ {fs : List (Key × D)} {gs : List (Key × V)}, rks K F fs gs → rks K F (fs.map fun kv => if kv.1 = k then (kv.1, d) else kv) (gs.map fun kv => if kv.1 = k then (kv.1, v) else kv)
  | [], gs, h => by rw [rks_nil] at h; subst h; exact rks_nil.mpr rfl
  | (g, x) :: fs, gs, h => by
    rw [rks_cons] at h
    obtain ⟨u, r, rfl, h2, h3⟩ := h
    rw [List.map_cons, List.map_cons]
    by_cases e : g = k
    · rw [if_pos (show ((g, x) : Key × D).1 = k from e)]
      show rks K F _ ((if g = k then (g, v) else (g, u)) :: _)
      rw [if_pos e]
      exact rks_cons.mpr ⟨v, _, rfl, hd, rks_map hd h3⟩
    · rw [if_neg (show ¬ ((g, x) : Key × D).1 = k from e)]
      show rks K F _ ((if g = k then (g, v) else (g, u)) :: _)
      rw [if_neg e]
      exact rks_cons.mpr ⟨u, _, rfl, h2, rks_map hd h3⟩
theorem rks_append : ∀ {ds es : List (Key × D)} {vs us : List (Key × V)}, rks K F ds vs → rks K F es us → rks K F (ds ++ es) (vs ++ us)
  | [], es, vs, us, h, g => by rw [rks_nil] at h; subst h; exact g
  | d :: ds, es, vs, us, h, g => by
    rw [rks_cons] at h
    obtain ⟨v, r, rfl, h2, h3⟩ := h
    exact rks_cons.mpr ⟨v, r ++ us, rfl, h2, rks_append h3 g⟩
theorem rks_put {k : Key} {d : D} {v : V} (hd : rd K F d v) {fs : List (Key × D)} {gs : List (Key × V)} (h : rks K F fs gs) : rks K F (setK fs k d) (putK gs k v) := by
  unfold setK putK
  rw [rks_any h]
  by_cases e : (gs.any fun kv => decide (kv.1 = k)) = true
  · rw [if_pos e, if_pos e]
    exact rks_map hd h
  · rw [if_neg e, if_neg e]
    exact rks_append h (rks_cons.mpr ⟨v, [], rfl, hd, rks_nil.mpr rfl⟩)
theorem rks_del {k : Key} : ∀ {fs : List (Key × D)} {gs : List (Key × V)}, rks K F fs gs → rks K F (delK fs k) (dropK gs k)
  | [], gs, h => by rw [rks_nil] at h; subst h; exact rks_nil.mpr rfl
  | (g, x) :: fs, gs, h => by
    rw [rks_cons] at h
    obtain ⟨u, r, rfl, h2, h3⟩ := h
    unfold delK dropK
    rw [List.filter_cons, List.filter_cons]
    by_cases e : g = k
    · rw [if_neg (by simp [e]), if_neg (by simp [e])]
      exact rks_del h3
    · rw [if_pos (by simp [e]), if_pos (by simp [e])]
      exact rks_cons.mpr ⟨u, _, rfl, h2, rks_del h3⟩
theorem rks_keys : ∀ {fs : List (Key × D)} {gs : List (Key × V)}, rks K F fs gs → fs.map (·.1) = gs.map (·.1)
  | [], vs, h => by rw [rks_nil] at h; subst h; rfl
  | d :: ds, vs, h => by
    rw [rks_cons] at h
    obtain ⟨v, r, rfl, _, h3⟩ := h
    rw [List.map_cons, List.map_cons, rks_keys h3]
end

/-! ### chunks: objects that may change -/
structure Ck where
  ads : List Addr
  ok : PySem.W.Frag → Hp → Hp → Prop
  mono : ∀ {K F F' H H'}, Same F F' → (∀ a ∈ ads, H' a = H a) → ok K F H → ok K F' H'
  live : ∀ {K F H}, ok K F H → ∀ a ∈ ads, H a ≠ none
def ckL (a : Addr) (xs : List D) : Ck where
  ads := [a]
  ok := fun K F H => ∃ vs, H a = some (.lst vs) ∧ rds K F xs vs
  mono := fun e k ⟨vs, h1, h2⟩ => ⟨vs, by rw [k a (by simp)]; exact h1, rds_mono e _ _ h2⟩
  live := fun ⟨vs, h1, _⟩ b hb => by simp at hb; subst hb; rw [h1]; exact fun z => nomatch z
def ckD (a : Addr) (kvs : List (Key × D)) : Ck where
  ads := [a]
  ok := fun K F H => ∃ vs, H a = some (.dK vs) ∧ rks K F kvs vs
  mono := fun e k ⟨vs, h1, h2⟩ => ⟨vs, by rw [k a (by simp)]; exact h1, rks_mono e _ _ h2⟩
  live := fun ⟨vs, h1, _⟩ b hb => by simp at hb; subst hb; rw [h1]; exact fun z => nomatch z
def ckI (a : Addr) (C : Addr) (fs : List (Str × D)) : Ck where
  ads := [a]
  ok := fun K F H => ∃ dx gs, H a = some (.ins C dx gs) ∧ rfs K F fs gs
  mono := fun e k ⟨dx, vs, h1, h2⟩ => ⟨dx, vs, by rw [k a (by simp)]; exact h1, rfs_mono e _ _ h2⟩
  live := fun ⟨dx, vs, h1, _⟩ b hb => by simp at hb; subst hb; rw [h1]; exact fun z => nomatch z
abbrev Cks := List Ck
def ads (S : Cks) : List Addr := S.flatMap (·.ads)
theorem mem_ads {S : Cks} {a : Addr} : a ∈ ads S ↔ ∃ c ∈ S, a ∈ c.ads := List.mem_flatMap
theorem ads_cons {c : Ck} {S : Cks} : ads (c :: S) = c.ads ++ ads S := by simp [ads]
theorem ads_append {S T : Cks} : ads (S ++ T) = ads S ++ ads T := by simp [ads]
/-- where a body (or a call) began -/
structure Base where
  A : List Addr
  F : Hp
  H : Hp
abbrev Gm := List (Option D)
set_option linter.unusedVariables false
structure Hs (K : PySem.W.Frag) (B : Base) (S : Cks) (F H : Hp) : Prop where
  he : ∀ c ∈ S, c.ok K F H
  fz : Same F H
  dj : ∀ a ∈ ads S, F a = none
  nd : (ads S).Nodup
  f1 : ∀ a o, B.H a = some o → a ∉ B.A → H a = some o
  f2 : Same B.F F
  f3 : ∀ a, F a ≠ none → B.F a ≠ none ∨ B.H a = none ∨ a ∈ B.A
  f4 : ∀ a ∈ ads S, a ∈ B.A ∨ B.H a = none
  f5 : ∀ a, B.H a ≠ none → H a ≠ none
structure Ok (K : PySem.W.Frag) (B : Base) (G : Gm) (S : Cks) (F : Hp) (σ : St) (H : Hp) : Prop extends Hs K B S F H where
  len : G.length = σ.length
  sl : ∀ (i : Nat) (d : D), G[i]? = some (some d) → ∃ v, σ[i]? = some (some v) ∧ rd K F d v

section
variable {K : PySem.W.Frag} {B : Base} {G : Gm} {S : Cks} {F H : Hp} {σ : St}
theorem Hs.live (h : Hs K B S F H) {a : Addr} (ha : a ∈ ads S) : H a ≠ none := by
  obtain ⟨c, hc, hac⟩ := mem_ads.mp ha
  exact c.live (h.he c hc) a hac
theorem none_of_f5 {B : Base} {H : Hp} (f5 : ∀ a, B.H a ≠ none → H a ≠ none) {p : Addr} (hp : H p = none) : B.H p = none := by
  cases e : B.H p with
  | none => rfl
  | some o => exact absurd hp (f5 p (by rw [e]; exact fun z => nomatch z))
theorem same_upd_new {F : Hp} {p : Addr} {o : HO} (h : F p = none) : Same F (upd F p o) := fun b u e => by
  rw [upd_ne (ne_of_none e h)]
  exact e
/-- a new object, ours -/
theorem Hs.alloc (h : Hs K B S F H) {p : Addr} {o : HO} {c : Ck} (hp : H p = none) (hc : c.ads = [p]) (ok : c.ok K F (upd H p o)) : Hs K B (c :: S) F (upd H p o) where
  he := fun d hd => by
    rcases List.mem_cons.mp hd with rfl | hd
    · exact ok
    · exact d.mono (Same.refl F) (fun a ha => upd_ne (fun z => by subst z; exact d.live (h.he d hd) a ha hp)) (h.he d hd)
  fz := fun b u e => by
    rw [upd_ne (ne_of_none (h.fz b u e) hp)]
    exact h.fz b u e
  dj := fun a ha => by
    rw [ads_cons, hc] at ha
    rcases List.mem_append.mp ha with ha | ha
    · simp at ha; subst ha
      cases e : F a with
      | none => rfl
      | some u => rw [h.fz a u e] at hp; cases hp
    · exact h.dj a ha
  nd := by
    rw [ads_cons, hc]
    refine List.nodup_append.mpr ⟨by simp, h.nd, fun a ha b hb => ?_⟩
    simp at ha; subst ha
    rintro rfl
    exact h.live hb hp
  f1 := fun a u e hA => by
    have := h.f1 a u e hA
    rw [upd_ne (ne_of_none this hp)]
    exact this
  f2 := h.f2
  f3 := h.f3
  f4 := fun a ha => by
    rw [ads_cons, hc] at ha
    rcases List.mem_append.mp ha with ha | ha
    · simp at ha; subst ha
      exact .inr (none_of_f5 h.f5 hp)
    · exact h.f4 a ha
  f5 := fun a ha => by
    by_cases e : a = p
    · subst e; rw [upd_same]; exact fun z => nomatch z
    · rw [upd_ne e]; exact h.f5 a ha
/-- a new object that never changes -/
theorem Hs.allocF (h : Hs K B S F H) {p : Addr} {o : HO} (hp : H p = none) : Hs K B S (upd F p o) (upd H p o) ∧ Same F (upd F p o) := by
  have hF : F p = none := by
    cases e : F p with
    | none => rfl
    | some u => rw [h.fz p u e] at hp; cases hp
  refine ⟨⟨fun d hd => ?_, fun b u e => ?_, fun a ha => ?_, h.nd, fun a u e hA => ?_, fun b u e => ?_, fun a ha => ?_, h.f4, fun a ha => ?_⟩, same_upd_new hF⟩
  · exact d.mono (same_upd_new hF) (fun a ha => upd_ne (fun z => by subst z; exact d.live (h.he d hd) a ha hp)) (h.he d hd)
  · by_cases hb : b = p
    · subst hb; rw [upd_same] at e ⊢; exact e
    · rw [upd_ne hb] at e ⊢; exact h.fz b u e
  · rw [upd_ne (fun z => by subst z; exact h.live ha hp)]
    exact h.dj a ha
  · have := h.f1 a u e hA
    rw [upd_ne (ne_of_none this hp)]
    exact this
  · exact same_upd_new hF _ _ (h.f2 b u e)
  · by_cases e : a = p
    · subst e; exact .inr (.inl (none_of_f5 h.f5 hp))
    · rw [upd_ne e] at ha; exact h.f3 a ha
  · by_cases e : a = p
    · subst e; rw [upd_same]; exact fun z => nomatch z
    · rw [upd_ne e]; exact h.f5 a ha
theorem ads_set {c c' : Ck} (hc : c'.ads = c.ads) : ∀ {S : Cks} {i : Nat}, S[i]? = some c → ads (S.set i c') = ads S
  | [], i, h => by simp at h
  | d :: S, 0, h => by simp at h; subst h; rw [List.set_cons_zero, ads_cons, ads_cons, hc]
  | d :: S, i + 1, h => by rw [List.set_cons_succ, ads_cons, ads_cons, ads_set hc (by simpa using h)]
theorem nodup_other : ∀ {S : Cks} {i j : Nat} {c d : Ck} {a : Addr}, (ads S).Nodup → S[i]? = some c → S[j]? = some d → i ≠ j → a ∈ c.ads → a ∈ d.ads → False
  | [], i, j, c, d, a, _, h, _, _, _, _ => by simp at h
  | e :: S, i, j, c, d, a, nd, h1, h2, hij, ha, hb => by
    rw [ads_cons] at nd
    obtain ⟨n1, n2, n3⟩ := List.nodup_append.mp nd
    cases i with
    | zero =>
      cases j with
      | zero => exact hij rfl
      | succ j =>
        simp at h1 h2; subst h1
        exact n3 a ha a (mem_ads.mpr ⟨d, List.mem_of_getElem? h2, hb⟩) rfl
    | succ i =>
      cases j with
      | zero =>
        simp at h1 h2; subst h2
        exact n3 a hb a (mem_ads.mpr ⟨c, List.mem_of_getElem? h1, ha⟩) rfl
      | succ j =>
        simp at h1 h2
        exact nodup_other n2 h1 h2 (fun z => hij (by rw [z])) ha hb
/-- an object of ours is changed -/
theorem Hs.write (h : Hs K B S F H) {i : Nat} {c c' : Ck} {p : Addr} {o : HO} (hi : S[i]? = some c) (hp : p ∈ c.ads) (hc : c'.ads = c.ads) (ok : c'.ok K F (upd H p o)) : Hs K B (S.set i c') F (upd H p o) where
  he := fun d hd => by
    obtain ⟨j, hj, e⟩ := List.mem_iff_getElem.mp hd
    have hj' : j < S.length := by simpa using hj
    by_cases hij : i = j
    · subst hij
      rw [List.getElem_set_self] at e
      subst e; exact ok
    · rw [List.getElem_set_ne hij] at e
      have hdS : S[j]? = some d := by rw [List.getElem?_eq_getElem hj', e]
      exact d.mono (Same.refl F) (fun a ha => upd_ne (fun z => by subst z; exact nodup_other h.nd hi hdS hij hp ha)) (h.he d (List.mem_of_getElem? hdS))
  fz := fun b u e => by
    have hb : b ≠ p := fun z => by
      subst z
      rw [h.dj b (mem_ads.mpr ⟨c, List.mem_of_getElem? hi, hp⟩)] at e; cases e
    rw [upd_ne hb]; exact h.fz b u e
  dj := fun a ha => by rw [ads_set hc hi] at ha; exact h.dj a ha
  nd := by rw [ads_set hc hi]; exact h.nd
  f1 := fun a u e hA => by
    have hb : a ≠ p := fun z => by
      subst z
      rcases h.f4 a (mem_ads.mpr ⟨c, List.mem_of_getElem? hi, hp⟩) with q | q
      · exact hA q
      · rw [e] at q; cases q
    rw [upd_ne hb]; exact h.f1 a u e hA
  f2 := h.f2
  f3 := h.f3
  f4 := fun a ha => by rw [ads_set hc hi] at ha; exact h.f4 a ha
  f5 := fun a ha => by
    by_cases e : a = p
    · subst e; rw [upd_same]; exact fun z => nomatch z
    · rw [upd_ne e]; exact h.f5 a ha
theorem mem_eraseIdx {c : Ck} {S : Cks} {i : Nat} (h : c ∈ S.eraseIdx i) : c ∈ S := (List.eraseIdx_sublist S i).mem h
theorem ads_sub {S T : Cks} (h : S.Sublist T) : (ads S).Sublist (ads T) := by
  induction h with
  | slnil => exact List.Sublist.refl _
  | cons a _ ih => rw [ads_cons]; exact ih.trans (List.sublist_append_right _ _)
  | cons_cons a _ ih => rw [ads_cons, ads_cons]; exact (List.Sublist.refl _).append ih
theorem Hs.sub (h : Hs K B S F H) {T : Cks} (hs : T.Sublist S) : Hs K B T F H :=
  ⟨fun c hc => h.he c (hs.mem hc), h.fz, fun a ha => h.dj a ((ads_sub hs).mem ha), h.nd.sublist (ads_sub hs), h.f1, h.f2, h.f3, fun a ha => h.f4 a ((ads_sub hs).mem ha), h.f5⟩
theorem Hs.perm (h : Hs K B S F H) {T : Cks} (hs : T.Perm S) : Hs K B T F H := by
  have hp : (ads T).Perm (ads S) := List.Perm.flatMap_right _ hs
  exact ⟨fun c hc => h.he c (hs.mem_iff.mp hc), h.fz, fun a ha => h.dj a (hp.mem_iff.mp ha), hp.nodup_iff.mpr h.nd, h.f1, h.f2, h.f3, fun a ha => h.f4 a (hp.mem_iff.mp ha), h.f5⟩
/-- an object of ours will never change again -/
theorem Hs.freeze (h : Hs K B S F H) {i : Nat} {c : Ck} {p : Addr} {o : HO} (hi : S[i]? = some c) (hc : c.ads = [p]) (ho : H p = some o) : Hs K B (S.eraseIdx i) (upd F p o) H ∧ Same F (upd F p o) := by
  have hpc : p ∈ c.ads := by rw [hc]; simp
  have hpS : p ∈ ads S := mem_ads.mpr ⟨c, List.mem_of_getElem? hi, hpc⟩
  have hF : F p = none := h.dj p hpS
  have hs : (S.eraseIdx i).Sublist S := List.eraseIdx_sublist S i
  have g := h.sub hs
  refine ⟨⟨fun d hd => d.mono (same_upd_new hF) (fun _ _ => rfl) (h.he d (hs.mem hd)), fun b u e => ?_, fun a ha => ?_, g.nd, h.f1, fun b u e => same_upd_new hF _ _ (h.f2 b u e), fun a ha => ?_, g.f4, h.f5⟩, same_upd_new hF⟩
  · by_cases hb : b = p
    · subst hb; rw [upd_same] at e; rw [ho]; exact e
    · rw [upd_ne hb] at e; exact h.fz b u e
  · have hne : a ≠ p := by
      rintro rfl
      obtain ⟨d, hd, had⟩ := mem_ads.mp ha
      obtain ⟨j, hj, e⟩ := List.mem_eraseIdx_iff_getElem?.mp hd
      exact nodup_other h.nd hi e (Ne.symm hj) hpc had
    rw [upd_ne hne]
    exact h.dj a ((ads_sub hs).mem ha)
  · by_cases e : a = p
    · subst e
      rcases h.f4 a hpS with q | q
      · exact .inr (.inr q)
      · exact .inr (.inl q)
    · rw [upd_ne e] at ha; exact h.f3 a ha
/-- behind a call: what the callee was given, S1, became T; the rest stands -/
theorem Hs.after {S1 R T : Cks} {F' H' : Hp} (h : Hs K B (S1 ++ R) F H) (c : Hs K ⟨ads S1, F, H⟩ T F' H') : Hs K B (T ++ R) F' H' := by
  have nR : ∀ a ∈ ads R, a ∉ ads S1 := fun a ha hb => by
    have := h.nd
    rw [ads_append] at this
    exact (List.nodup_append.mp this).2.2 a hb a ha rfl
  have kR : ∀ a ∈ ads R, H' a = H a := fun a ha => by
    have hl : H a ≠ none := h.live (by rw [ads_append]; exact List.mem_append_right _ ha)
    cases e : H a with
    | none => exact absurd e hl
    | some o => exact c.f1 a o e (nR a ha)
  refine ⟨fun d hd => ?_, c.fz, fun a ha => ?_, ?_, fun a u e hA => ?_, fun b u e => c.f2 _ _ (h.f2 b u e), fun a ha => ?_, fun a ha => ?_, fun a ha => c.f5 a (h.f5 a ha)⟩
  · rcases List.mem_append.mp hd with hd | hd
    · exact c.he d hd
    · exact d.mono c.f2 (fun a ha => kR a (mem_ads.mpr ⟨d, hd, ha⟩)) (h.he d (List.mem_append_right _ hd))
  · rw [ads_append] at ha
    rcases List.mem_append.mp ha with ha | ha
    · exact c.dj a ha
    · have hl : H a ≠ none := h.live (by rw [ads_append]; exact List.mem_append_right _ ha)
      have hf : F a = none := h.dj a (by rw [ads_append]; exact List.mem_append_right _ ha)
      cases e : F' a with
      | none => rfl
      | some o =>
        rcases c.f3 a (by rw [e]; exact fun z => nomatch z) with q | q | q
        · exact absurd hf q
        · exact absurd q hl
        · exact absurd q (nR a ha)
  · rw [ads_append]
    have nd := h.nd
    rw [ads_append] at nd
    refine List.nodup_append.mpr ⟨c.nd, (List.nodup_append.mp nd).2.1, fun a ha b hb => ?_⟩
    rintro rfl
    rcases c.f4 a ha with q | q
    · exact nR a hb q
    · exact h.live (by rw [ads_append]; exact List.mem_append_right _ hb) q
  · by_cases ha : a ∈ ads S1
    · exfalso
      rcases h.f4 a (by rw [ads_append]; exact List.mem_append_left _ ha) with q | q
      · exact hA q
      · rw [e] at q; cases q
    · exact c.f1 a u (h.f1 a u e hA) ha
  · rcases c.f3 a ha with q | q | q
    · exact h.f3 a q
    · exact .inr (.inl (none_of_f5 h.f5 q))
    · rcases h.f4 a (by rw [ads_append]; exact List.mem_append_left _ q) with q | q
      · exact .inr (.inr q)
      · exact .inr (.inl q)
  · rw [ads_append] at ha
    rcases List.mem_append.mp ha with ha | ha
    · rcases c.f4 a ha with q | q
      · exact h.f4 a (by rw [ads_append]; exact List.mem_append_left _ q)
      · exact .inr (none_of_f5 h.f5 q)
    · exact h.f4 a (by rw [ads_append]; exact List.mem_append_right _ ha)
/-- what a callee begins with -/
theorem Hs.enter {S1 R : Cks} (h : Hs K B (S1 ++ R) F H) : Hs K ⟨ads S1, F, H⟩ S1 F H := by
  have g := h.sub (List.sublist_append_left S1 R)
  exact ⟨g.he, g.fz, g.dj, g.nd, fun a o e _ => e, Same.refl F, fun a ha => .inl ha, fun a ha => .inl ha, fun a ha => ha⟩
end
end Sy
set_option Elab.async false
set_option maxRecDepth 100000
set_option linter.unusedVariables false
namespace Sy
open PySem L2

/-- both are ints; one is; a condition ahead -/
def Two (x y : D) (k : Int → Int → Prop) : Prop := ∃ i j : Int, x = .int i ∧ y = .int j ∧ k i j
theorem two_mk {i j : Int} {k : Int → Int → Prop} (h : k i j) : Two (.int i) (.int j) k := ⟨i, j, rfl, rfl, h⟩
def One (x : D) (k : Int → Prop) : Prop := ∃ i : Int, x = .int i ∧ k i
theorem one_mk {i : Int} {k : Int → Prop} (h : k i) : One (.int i) k := ⟨i, rfl, h⟩
def Cnd (c k : Prop) : Prop := c ∧ k
theorem cnd_mk {c k : Prop} (hc : c) (hk : k) : Cnd c k := ⟨hc, hk⟩
/-! ### readings over the symbolic heap -/
def W (K : PySem.W.Frag) (B : Base) (t : TE) (k : D → Cks → Prop) (G : Gm) (S : Cks) : Prop :=
  ∀ F σ H Q, Ok K B G S F σ H → (∀ v F' H' d S', k d S' → Ok K B G S' F' σ H' → Same F F' → rd K F' d v → Q v H') → t σ H Q
def WT (K : PySem.W.Frag) (B : Base) (t : TT) (k : Bool → Cks → Prop) (G : Gm) (S : Cks) : Prop :=
  ∀ F σ H Q, Ok K B G S F σ H → (∀ b F' H' S', k b S' → Ok K B G S' F' σ H' → Same F F' → Q b H') → t σ H Q
def WA (K : PySem.W.Frag) (B : Base) (t : TA) (k : List D → Cks → Prop) (G : Gm) (S : Cks) : Prop :=
  ∀ F σ H Q, Ok K B G S F σ H → (∀ vs F' H' ds S', k ds S' → Ok K B G S' F' σ H' → Same F F' → rds K F' ds vs → Q vs H') → t σ H Q
/-- a two-place operation on values -/
def WR (K : PySem.W.Frag) (B : Base) (r : R2) (x y : D) (k : D → Cks → Prop) (G : Gm) (S : Cks) : Prop :=
  ∀ F σ H Q vx vy, Ok K B G S F σ H → rd K F x vx → rd K F y vy → (∀ v F' H' d S', k d S' → Ok K B G S' F' σ H' → Same F F' → rd K F' d v → Q v H') → r vx vy H Q
/-- a call of a built-in on values -/
def WC (K : PySem.W.Frag) (B : Base) (r : List V → Hp → VK → Prop) (xs : List D) (k : D → Cks → Prop) (G : Gm) (S : Cks) : Prop :=
  ∀ F σ H Q vs, Ok K B G S F σ H → rds K F xs vs → (∀ v F' H' d S', k d S' → Ok K B G S' F' σ H' → Same F F' → rd K F' d v → Q v H') → r vs H Q
/-- a method of a built-in -/
def WM (K : PySem.W.Frag) (B : Base) (r : V → List V → Hp → VK → Prop) (x : D) (xs : List D) (k : D → Cks → Prop) (G : Gm) (S : Cks) : Prop :=
  ∀ F σ H Q vx vs, Ok K B G S F σ H → rd K F x vx → rds K F xs vs → (∀ v F' H' d S', k d S' → Ok K B G S' F' σ H' → Same F F' → rd K F' d v → Q v H') → r vx vs H Q
structure En where
  nx : Gm → Cks → Prop
  rt : D → Cks → Prop
  bk : Gm → Cks → Prop := fun _ _ => False
  ct : Gm → Cks → Prop := fun _ _ => False
structure Re (K : PySem.W.Frag) (B : Base) (F : Hp) (N : En) (E : Ends) : Prop where
  nx : ∀ G' S' F' σ' H', N.nx G' S' → Ok K B G' S' F' σ' H' → Same F F' → E.nx σ' H'
  rt : ∀ d v G' S' F' σ' H', N.rt d S' → Ok K B G' S' F' σ' H' → Same F F' → rd K F' d v → E.rt v H'
  bk : ∀ G' S' F' σ' H', N.bk G' S' → Ok K B G' S' F' σ' H' → Same F F' → E.bk σ' H'
  ct : ∀ G' S' F' σ' H', N.ct G' S' → Ok K B G' S' F' σ' H' → Same F F' → E.ct σ' H'
def WS (K : PySem.W.Frag) (B : Base) (t : TS) (N : En) (G : Gm) (S : Cks) : Prop :=
  ∀ F σ H E, Ok K B G S F σ H → Re K B F N E → t E σ H
/-- a target of an assignment -/
def WG (K : PySem.W.Frag) (B : Base) (g : TG) (x : D) (k : Gm → Cks → Prop) (G : Gm) (S : Cks) : Prop :=
  ∀ F σ H Q vx, Ok K B G S F σ H → rd K F x vx → (∀ G' S' F' σ' H', k G' S' → Ok K B G' S' F' σ' H' → Same F F' → Q σ' H') → g vx σ H Q
def WGs (K : PySem.W.Frag) (B : Base) (g : TGs) (xs : List D) (k : Gm → Cks → Prop) (G : Gm) (S : Cks) : Prop :=
  ∀ F σ H Q vs, Ok K B G S F σ H → rds K F xs vs → (∀ G' S' F' σ' H', k G' S' → Ok K B G' S' F' σ' H' → Same F F' → Q σ' H') → g vs σ H Q

section
variable {K : PySem.W.Frag} {B : Base} {k : D → Cks → Prop} {kb : Bool → Cks → Prop} {ka : List D → Cks → Prop} {kg : Gm → Cks → Prop} {G : Gm} {S : Cks} {ta tb te : TE} {t u : TT} {tas : TA} {N : En} {s1 s2 : TS} {r : R2}

theorem Ok.to {F F' H H' : Hp} {σ : St} {S' : Cks} (ok : Ok K B G S F σ H) (h : Hs K B S' F' H') (e : Same F F') : Ok K B G S' F' σ H' :=
  ⟨h, ok.len, fun i d hi => let ⟨v, h1, h2⟩ := ok.sl i d hi; ⟨v, h1, rd_mono e _ _ h2⟩⟩
theorem Ok.set {F H : Hp} {σ : St} {d : D} {v : V} (ok : Ok K B G S F σ H) (h : rd K F d v) (i : Nat) : Ok K B (G.set i (some d)) S F (σ.set i (some v)) H := by
  refine ⟨ok.toHs, by rw [List.length_set, List.length_set]; exact ok.len, fun j e hj => ?_⟩
  by_cases hij : i = j
  · subst hij
    by_cases hl : i < G.length
    · rw [List.getElem?_set_self hl] at hj
      cases hj
      exact ⟨v, by rw [List.getElem?_set_self (by rw [← ok.len]; exact hl)], h⟩
    · rw [List.set_eq_of_length_le (Nat.not_lt.mp hl)] at hj
      rw [List.getElem?_eq_none (Nat.not_lt.mp hl)] at hj
      cases hj
  · rw [List.getElem?_set_ne hij] at hj
    obtain ⟨w, h1, h2⟩ := ok.sl j e hj
    exact ⟨w, by rw [List.getElem?_set_ne hij]; exact h1, h2⟩

/-! values -/
theorem W_var {i : Nat} {d : D} (h : G[i]? = some (some d)) (hk : k d S) : W K B (tVar i) k G S := fun F σ H Q ok q => by
  obtain ⟨v, h1, h2⟩ := ok.sl i d h
  exact ⟨v, h1, q v F H d S hk ok (Same.refl F) h2⟩
theorem W_c {v : V} (hk : k (.v v) S) : W K B (tC v) k G S := fun F σ H Q ok q => q v F H _ S hk ok (Same.refl F) (rd_v.mpr rfl)
theorem W_op (h : W K B ta (fun x S1 => W K B tb (fun y S2 => WR K B r x y k G S2) G S1) G S) : W K B (tOp r ta tb) k G S := fun F σ H Q ok q =>
  h F σ H _ ok fun vx F1 H1 x S1 h1 ok1 e1 r1 => h1 F1 σ H1 _ ok1 fun vy F2 H2 y S2 h2 ok2 e2 r2 =>
    h2 F2 σ H2 Q vx vy ok2 (rd_mono e2 _ _ r1) r2 fun v F3 H3 d S3 h3 ok3 e3 r3 => q v F3 H3 d S3 h3 ok3 ((e1.trans e2).trans e3) r3
theorem W_un {r : V → Hp → VK → Prop} (h : W K B ta (fun x S1 => ∀ F σ H Q vx, Ok K B G S1 F σ H → rd K F x vx → (∀ v F' H' d S', k d S' → Ok K B G S' F' σ H' → Same F F' → rd K F' d v → Q v H') → r vx H Q) G S) : W K B (tUn r ta) k G S := fun F σ H Q ok q =>
  h F σ H _ ok fun vx F1 H1 x S1 h1 ok1 e1 r1 => h1 F1 σ H1 Q vx ok1 r1 fun v F3 H3 d S3 h3 ok3 e3 r3 => q v F3 H3 d S3 h3 ok3 (e1.trans e3) r3
theorem WA_nil (hk : ka [] S) : WA K B tNil ka G S := fun F σ H Q ok q => q [] F H [] S hk ok (Same.refl F) (rds_nil.mpr rfl)
theorem WA_cons (h : W K B ta (fun x S1 => WA K B tas (fun xs S2 => ka (x :: xs) S2) G S1) G S) : WA K B (tCons ta tas) ka G S := fun F σ H Q ok q =>
  h F σ H _ ok fun vx F1 H1 x S1 h1 ok1 e1 r1 => h1 F1 σ H1 _ ok1 fun vs F2 H2 xs S2 h2 ok2 e2 r2 =>
    q (vx :: vs) F2 H2 (x :: xs) S2 h2 ok2 (e1.trans e2) (rds_cons.mpr ⟨vx, vs, rfl, rd_mono e2 _ _ r1, r2⟩)
theorem W_tup (h : WA K B tas (fun xs S1 => Cnd (xs.length ≤ 100000) (k (.tup xs) S1)) G S) : W K B (tTup tas) k G S := fun F σ H Q ok q =>
  h F σ H _ ok fun vs F1 H1 xs S1 ⟨hl, h1⟩ ok1 e1 r1 => ⟨by rw [← rds_len r1, sizeLine_eq]; omega, fun p hp => by
    obtain ⟨g1, g2⟩ := ok1.toHs.allocF (o := .tup vs) hp
    exact q (.ref p) _ _ (.tup xs) S1 h1 (ok1.to g1 g2) (e1.trans g2) (by unfold rd; exact ⟨p, vs, rfl, upd_same, rds_mono g2 _ _ r1⟩)⟩
theorem W_lst (h : WA K B tas (fun xs S1 => Cnd (xs.length ≤ 100000) (∀ p, k (.ref p) (ckL p xs :: S1))) G S) : W K B (tLst tas) k G S := fun F σ H Q ok q =>
  h F σ H _ ok fun vs F1 H1 xs S1 ⟨hl, h1⟩ ok1 e1 r1 => ⟨by rw [← rds_len r1, sizeLine_eq]; omega, fun p hp => by
    have g1 := ok1.toHs.alloc (o := .lst vs) (c := ckL p xs) hp rfl ⟨vs, upd_same, r1⟩
    exact q (.ref p) _ _ (.ref p) (ckL p xs :: S1) (h1 p) (ok1.to g1 (Same.refl F1)) e1 (rd_v.mpr rfl)⟩
theorem W_dnew (h : ∀ p, k (.ref p) (ckD p [] :: S)) : W K B tDNewK k G S := fun F σ H Q ok q p hp =>
  q (.ref p) _ _ (.ref p) _ (h p) (ok.to (ok.toHs.alloc (o := .dK []) (c := ckD p []) hp rfl ⟨[], upd_same, rks_nil.mpr rfl⟩) (Same.refl F)) (Same.refl F) (rd_v.mpr rfl)
theorem W_ifE (h : WT K B t (fun b S1 => (b = true → W K B ta k G S1) ∧ (b = false → W K B tb k G S1)) G S) : W K B (tIf t ta tb) k G S := fun F σ H Q ok q =>
  h F σ H _ ok fun b F1 H1 S1 h1 ok1 e1 => by
    cases b with
    | true => exact h1.1 rfl F1 σ H1 Q ok1 fun v F3 H3 d S3 h3 ok3 e3 r3 => q v F3 H3 d S3 h3 ok3 (e1.trans e3) r3
    | false => exact h1.2 rfl F1 σ H1 Q ok1 fun v F3 H3 d S3 h3 ok3 e3 r3 => q v F3 H3 d S3 h3 ok3 (e1.trans e3) r3
/-! tests -/
/-- an answer that is a truth -/
def toB (kb : Bool → Cks → Prop) : D → Cks → Prop := fun d S => ∃ c, d = .bl c ∧ kb c S
theorem toB_mk {b : Bool} (h : kb b S) : toB kb (.bl b) S := ⟨b, rfl, h⟩
theorem WT_test (h : W K B te (toB kb) G S) : WT K B (tTest te) kb G S := fun F σ H Q ok q =>
  h F σ H _ ok fun v F1 H1 d S1 ⟨c, ed, h1⟩ ok1 e1 r1 => by
    subst ed
    rw [rd_v] at r1
    exact ⟨c, r1, q c F1 H1 S1 h1 ok1 e1⟩
theorem WT_B (h : W K B te (toB kb) G S) : WT K B (tB te) kb G S := fun F σ H Q ok q =>
  h F σ H _ ok fun v F1 H1 d S1 ⟨c, ed, h1⟩ ok1 e1 r1 => by
    subst ed
    rw [rd_v] at r1
    exact ⟨c, r1, q c F1 H1 S1 h1 ok1 e1⟩
theorem WT_and (h : WT K B t (fun b S1 => (b = true → WT K B u kb G S1) ∧ (b = false → kb false S1)) G S) : WT K B (tAnd t u) kb G S := fun F σ H Q ok q =>
  h F σ H _ ok fun b F1 H1 S1 h1 ok1 e1 => by
    cases b with
    | true => exact h1.1 rfl F1 σ H1 Q ok1 fun c F3 H3 S3 h3 ok3 e3 => q c F3 H3 S3 h3 ok3 (e1.trans e3)
    | false => exact q false F1 H1 S1 (h1.2 rfl) ok1 e1
theorem WT_or (h : WT K B t (fun b S1 => (b = true → kb true S1) ∧ (b = false → WT K B u kb G S1)) G S) : WT K B (tOr t u) kb G S := fun F σ H Q ok q =>
  h F σ H _ ok fun b F1 H1 S1 h1 ok1 e1 => by
    cases b with
    | true => exact q true F1 H1 S1 (h1.1 rfl) ok1 e1
    | false => exact h1.2 rfl F1 σ H1 Q ok1 fun c F3 H3 S3 h3 ok3 e3 => q c F3 H3 S3 h3 ok3 (e1.trans e3)
theorem WT_not (h : WT K B t (fun b S1 => kb (!b) S1) G S) : WT K B (tNot t) kb G S := fun F σ H Q ok q =>
  h F σ H _ ok fun b F1 H1 S1 h1 ok1 e1 => q (!b) F1 H1 S1 h1 ok1 e1
theorem W_andV (h : W K B ta (toB fun b S1 => (b = true → W K B tb k G S1) ∧ (b = false → k (.bl false) S1)) G S) : W K B (tAndV ta tb) k G S := fun F σ H Q ok q =>
  h F σ H _ ok fun v F1 H1 d S1 ⟨c, ed, h1⟩ ok1 e1 r1 => by
    subst ed
    rw [rd_v] at r1
    refine ⟨c, r1, ?_⟩
    cases c with
    | true => exact h1.1 rfl F1 σ H1 Q ok1 fun v F3 H3 d S3 h3 ok3 e3 r3 => q v F3 H3 d S3 h3 ok3 (e1.trans e3) r3
    | false => exact q _ F1 H1 _ S1 (h1.2 rfl) ok1 e1 (rd_v.mpr rfl)
theorem W_orV (h : W K B ta (toB fun b S1 => (b = true → k (.bl true) S1) ∧ (b = false → W K B tb k G S1)) G S) : W K B (tOrV ta tb) k G S := fun F σ H Q ok q =>
  h F σ H _ ok fun v F1 H1 d S1 ⟨c, ed, h1⟩ ok1 e1 r1 => by
    subst ed
    rw [rd_v] at r1
    refine ⟨c, r1, ?_⟩
    cases c with
    | true => exact q _ F1 H1 _ S1 (h1.1 rfl) ok1 e1 (rd_v.mpr rfl)
    | false => exact h1.2 rfl F1 σ H1 Q ok1 fun v F3 H3 d S3 h3 ok3 e3 r3 => q v F3 H3 d S3 h3 ok3 (e1.trans e3) r3
theorem W_notV (h : W K B ta (toB fun b S1 => k (.bl (!b)) S1) G S) : W K B (tNotV ta) k G S := fun F σ H Q ok q =>
  h F σ H _ ok fun v F1 H1 d S1 ⟨c, ed, h1⟩ ok1 e1 r1 => by
    subst ed
    rw [rd_v] at r1
    exact ⟨c, r1, q _ F1 H1 _ S1 h1 ok1 e1 (rd_v.mpr rfl)⟩
/-! statements -/
theorem Re.of {F F' : Hp} {E : Ends} (h : Re K B F N E) (e : Same F F') : Re K B F' N E :=
  ⟨fun G' S' F2 σ' H' a b c => h.nx G' S' F2 σ' H' a b (e.trans c), fun d v G' S' F2 σ' H' a b c r => h.rt d v G' S' F2 σ' H' a b (e.trans c) r,
    fun G' S' F2 σ' H' a b c => h.bk G' S' F2 σ' H' a b (e.trans c), fun G' S' F2 σ' H' a b c => h.ct G' S' F2 σ' H' a b (e.trans c)⟩
theorem WS_seq (h : WS K B s1 { N with nx := fun G' S' => WS K B s2 N G' S' } G S) : WS K B (tSeq s1 s2) N G S := fun F σ H E ok re =>
  h F σ H { E with nx := s2 E } ok ⟨fun G' S' F' σ' H' w ok' e => w F' σ' H' E ok' (re.of e), re.rt, re.bk, re.ct⟩
theorem WS_next (h : N.nx G S) : WS K B tNext N G S := fun F σ H E ok re => re.nx G S F σ H h ok (Same.refl F)
theorem WS_brk (h : N.bk G S) : WS K B tBreak N G S := fun F σ H E ok re => re.bk G S F σ H h ok (Same.refl F)
theorem WS_cont (h : N.ct G S) : WS K B tCont N G S := fun F σ H E ok re => re.ct G S F σ H h ok (Same.refl F)
theorem WS_drop (h : W K B te (fun _ S1 => N.nx G S1) G S) : WS K B (tDrop te) N G S := fun F σ H E ok re =>
  h F σ H _ ok fun v F1 H1 d S1 h1 ok1 e1 _ => re.nx G S1 F1 σ H1 h1 ok1 e1
theorem WS_ret (h : W K B te N.rt G S) : WS K B (tRet te) N G S := fun F σ H E ok re =>
  h F σ H _ ok fun v F1 H1 d S1 h1 ok1 e1 r1 => re.rt d v G S1 F1 σ H1 h1 ok1 e1 r1
theorem WS_retN (h : N.rt .non S) : WS K B tRetN N G S := fun F σ H E ok re => re.rt _ _ G S F σ H h ok (Same.refl F) (rd_v.mpr rfl)
theorem WS_if (h : WT K B t (fun b S1 => (b = true → WS K B s1 N G S1) ∧ (b = false → WS K B s2 N G S1)) G S) : WS K B (tIfS t s1 s2) N G S := fun F σ H E ok re =>
  h F σ H _ ok fun b F1 H1 S1 h1 ok1 e1 => by
    cases b with
    | true => exact h1.1 rfl F1 σ H1 E ok1 (re.of e1)
    | false => exact h1.2 rfl F1 σ H1 E ok1 (re.of e1)
theorem WS_asg {g : TG} (h : W K B te (fun x S1 => WG K B g x N.nx G S1) G S) : WS K B (tAsg te g) N G S := fun F σ H E ok re =>
  h F σ H _ ok fun v F1 H1 d S1 h1 ok1 e1 r1 => h1 F1 σ H1 _ v ok1 r1 fun G' S' F' σ' H' n ok' e => re.nx G' S' F' σ' H' n ok' (e1.trans e)
theorem WG_name {i : Nat} {x : D} (h : kg (G.set i (some x)) S) : WG K B (gName i) x kg G S := fun F σ H Q vx ok rx q =>
  q _ S F _ H h (ok.set rx i) (Same.refl F)
theorem WGs_nil (h : kg G S) : WGs K B gNil [] kg G S := fun F σ H Q vs ok rx q => ⟨rds_nil.mp rx, q G S F σ H h ok (Same.refl F)⟩
theorem WGs_cons {g : TG} {gs : TGs} {x : D} {xs : List D} (h : WG K B g x (fun G1 S1 => WGs K B gs xs kg G1 S1) G S) : WGs K B (gCons g gs) (x :: xs) kg G S := fun F σ H Q vs ok rx q => by
  obtain ⟨v, r, rfl, r1, r2⟩ := rds_cons.mp rx
  exact ⟨v, r, rfl, h F σ H _ v ok r1 fun G' S' F' σ' H' n ok' e => n F' σ' H' Q r ok' (rds_mono e _ _ r2) fun G2 S2 F2 σ2 H2 n2 ok2 e2 => q G2 S2 F2 σ2 H2 n2 ok2 (e.trans e2)⟩
theorem sqT_sub {F H : Hp} (fz : Same F H) {a : Addr} {vs : List V} (h : SqT K F a vs) : SqT K H a vs := sqT_mono fz h
theorem WG_tup {gs : TGs} {xs : List D} (n : Nat) (hn : xs.length = n) (h : WGs K B gs xs kg G S) : WG K B (gTup K n gs) (.tup xs) kg G S := fun F σ H Q vx ok rx q => by
  unfold rd at rx
  obtain ⟨a, vs, rfl, h1, h2⟩ := rx
  exact ⟨a, vs, rfl, SqT.of (ok.fz _ _ h1), by rw [← rds_len h2, hn], h F σ H Q vs ok h2 q⟩
theorem WS_aug {i : Nat} {x : D} {ti : TIp} (hx : G[i]? = some (some x)) (h : W K B te (fun y S1 => WR K B ti x y (fun z S2 => N.nx (G.set i (some z)) S2) G S1) G S) : WS K B (tAug i te ti) N G S := fun F σ H E ok re => by
  obtain ⟨vx, h1, r1⟩ := ok.sl i x hx
  exact ⟨vx, h1, h F σ H _ ok fun vy F1 H1 y S1 h2 ok1 e1 r2 => h2 F1 σ H1 _ vx vy ok1 (rd_mono e1 _ _ r1) r2 fun v F2 H2 d S2 h3 ok2 e2 r3 => re.nx _ S2 F2 _ H2 h3 (ok2.set r3 i) (e1.trans e2)⟩
/-! fewer slots, fewer chunks, another order -/
inductive Wk : Gm → Gm → Prop
  | nil : Wk [] []
  | keep {d : Option D} {G G' : Gm} : Wk G G' → Wk (d :: G) (d :: G')
  | drop {d : Option D} {G G' : Gm} : Wk G G' → Wk (d :: G) (none :: G')
theorem Wk.len {G G' : Gm} (h : Wk G G') : G'.length = G.length := by
  induction h with
  | nil => rfl
  | keep _ ih => rw [List.length_cons, List.length_cons, ih]
  | drop _ ih => rw [List.length_cons, List.length_cons, ih]
theorem Wk.get {G G' : Gm} (h : Wk G G') : ∀ {i : Nat} {d : D}, G'[i]? = some (some d) → G[i]? = some (some d) := by
  induction h with
  | nil => intro i d e; exact e
  | keep _ ih =>
    intro i d e
    cases i with
    | zero => exact e
    | succ i => exact ih e
  | drop _ ih =>
    intro i d e
    cases i with
    | zero => cases e
    | succ i => exact ih e
theorem Wk.refl : ∀ G : Gm, Wk G G
  | [] => .nil
  | _ :: G => .keep (Wk.refl G)
/-- S' is picked out of S, R is what is left -/
def Pick (S S' R : Cks) : Prop := (S' ++ R).Perm S
theorem cons_erase_perm {c : Ck} : ∀ {S : Cks} {i : Nat}, S[i]? = some c → (c :: S.eraseIdx i).Perm S
  | [], i, h => by simp at h
  | d :: S, 0, h => by simp at h; subst h; exact List.Perm.refl _
  | d :: S, i + 1, h => by
    rw [List.eraseIdx_cons_succ]
    exact (List.Perm.swap d c _).trans (List.Perm.cons d (cons_erase_perm (by simpa using h)))
theorem Pick.perm {S S' R : Cks} (h : Pick S S' R) : (S' ++ R).Perm S := h
theorem Pick.nil {S : Cks} : Pick S [] S := List.Perm.refl _
theorem Pick.cons {S S' R : Cks} {c : Ck} (i : Nat) (hi : S[i]? = some c) (h : Pick (S.eraseIdx i) S' R) : Pick S (c :: S') R := (List.Perm.cons c h).trans (cons_erase_perm hi)
theorem Ok.weak {G' : Gm} {S' R : Cks} {F H : Hp} {σ : St} (ok : Ok K B G S F σ H) (hg : Wk G G') (hs : Pick S S' R) : Ok K B G' S' F σ H :=
  ⟨((ok.toHs.perm hs.perm).sub (List.sublist_append_left S' R)), by rw [hg.len]; exact ok.len, fun i d e => ok.sl i d (hg.get e)⟩
theorem Ok.perm {S' : Cks} {F H : Hp} {σ : St} (ok : Ok K B G S F σ H) (hs : S'.Perm S) : Ok K B G S' F σ H := ⟨ok.toHs.perm hs, ok.len, ok.sl⟩
theorem WS_weak {G' : Gm} {S' R : Cks} (hg : Wk G G') (hs : Pick S S' R) (h : WS K B s1 N G' S') : WS K B s1 N G S := fun F σ H E ok re => h F σ H E (ok.weak hg hs) re
theorem WS_end {G' : Gm} {S' R : Cks} (hg : Wk G G') (hs : Pick S S' R) (h : N.nx G' S') : WS K B tNext N G S := fun F σ H E ok re => re.nx G' S' F σ H h (ok.weak hg hs) (Same.refl F)
end
end Sy
set_option Elab.async false
set_option maxRecDepth 100000
set_option linter.unusedVariables false
namespace Sy
open PySem L2 PySem.Spec PyProof.Rows

/-! ### the syntax read over the symbolic heap -/
@[irreducible] def tE (X : Cx) (e : Expr) : TE := fun σ H Q => ∀ pins s, Inv X pins σ H s → wpAny (model X.prog X.w) X.A (eval e X.env) (EP X pins σ Q) X.xe s
@[irreducible] def tT (X : Cx) (e : Expr) : TT := fun σ H Q => ∀ pins s, Inv X pins σ H s → wpAny (model X.prog X.w) X.A (isTrue e X.env (eval e X.env)) (TP X pins σ Q) X.xe s
@[irreducible] def tW (X : Cx) (e : Expr) : TT := fun σ H Q => ∀ (whole : Sem Value) pins s, Inv X pins σ H s → wpAny (model X.prog X.w) X.A (isTrue e X.env whole) (TP X pins σ Q) X.xe s
@[irreducible] def tA (X : Cx) (es : List Expr) : TA := fun σ H Q => ∀ (pos : Pos) pins s, Inv X pins σ H s → wpAny (model X.prog X.w) X.A (spliced (backTo pos (starEach es X.env))) (AP X pins σ Q) X.xe s
@[irreducible] def tS (X : Cx) (st : Stmt) : TS := fun E σ H => ∀ pins s, Inv X pins σ H s → wpAny (model X.prog X.w) X.A (exec st X.env) (SP X pins E) X.xe s
@[irreducible] def tSs (X : Cx) (st : List Stmt) : TS := fun E σ H => ∀ pins s, Inv X pins σ H s → wpAny (model X.prog X.w) X.A (execs st X.env) (SP X pins E) X.xe s
theorem pe_t {X : Cx} {e : Expr} : PE X e (tE X e) := ⟨fun pins s _ _ _ I h => by unfold tE at h; exact h pins s I⟩
theorem pt_t {X : Cx} {e : Expr} : PT X e (tT X e) := ⟨fun pins s _ _ _ I h => by unfold tT at h; exact h pins s I⟩
theorem pw_t {X : Cx} {e : Expr} : PW X e (tW X e) := ⟨fun wh pins s _ _ _ I h => by unfold tW at h; exact h wh pins s I⟩
theorem pa_t {X : Cx} {es : List Expr} : PA X es (tA X es) := ⟨fun pos pins s _ _ _ I h => by unfold tA at h; exact h pos pins s I⟩
theorem ps_t {X : Cx} {st : Stmt} : PS X st (tS X st) := ⟨fun pins s _ _ _ I h => by unfold tS at h; exact h pins s I⟩
theorem pss_t {X : Cx} {st : List Stmt} : PSs X st (tSs X st) := ⟨fun pins s _ _ _ I h => by unfold tSs at h; exact h pins s I⟩
abbrev wE (X : Cx) (B : Base) (e : Expr) (k : D → Cks → Prop) (G : Gm) (S : Cks) : Prop := W X.K B (tE X e) k G S
abbrev wT (X : Cx) (B : Base) (e : Expr) (k : Bool → Cks → Prop) (G : Gm) (S : Cks) : Prop := WT X.K B (tT X e) k G S
abbrev wW (X : Cx) (B : Base) (e : Expr) (k : Bool → Cks → Prop) (G : Gm) (S : Cks) : Prop := WT X.K B (tW X e) k G S
abbrev wA (X : Cx) (B : Base) (es : List Expr) (k : List D → Cks → Prop) (G : Gm) (S : Cks) : Prop := WA X.K B (tA X es) k G S
abbrev wS (X : Cx) (B : Base) (st : Stmt) (N : En) (G : Gm) (S : Cks) : Prop := WS X.K B (tS X st) N G S
abbrev wSs (X : Cx) (B : Base) (st : List Stmt) (N : En) (G : Gm) (S : Cks) : Prop := WS X.K B (tSs X st) N G S
section
variable {X : Cx} {B : Base} {G : Gm} {S : Cks} {k : D → Cks → Prop} {kb : Bool → Cks → Prop} {ka : List D → Cks → Prop} {N : En}
theorem wE_of {e : Expr} {t : TE} (h : PE X e t) (w : W X.K B t k G S) : wE X B e k G S := fun F σ H Q ok q => by unfold tE; exact fun pins s I => h.run pins s σ H Q I (w F σ H Q ok q)
theorem wT_of {e : Expr} {t : TT} (h : PT X e t) (w : WT X.K B t kb G S) : wT X B e kb G S := fun F σ H Q ok q => by unfold tT; exact fun pins s I => h.run pins s σ H Q I (w F σ H Q ok q)
theorem wW_of {e : Expr} {t : TT} (h : PW X e t) (w : WT X.K B t kb G S) : wW X B e kb G S := fun F σ H Q ok q => by unfold tW; exact fun wh pins s I => h.run wh pins s σ H Q I (w F σ H Q ok q)
theorem wA_of {es : List Expr} {t : TA} (h : PA X es t) (w : WA X.K B t ka G S) : wA X B es ka G S := fun F σ H Q ok q => by unfold tA; exact fun pos pins s I => h.run pos pins s σ H Q I (w F σ H Q ok q)
theorem wS_of {st : Stmt} {t : TS} (h : PS X st t) (w : WS X.K B t N G S) : wS X B st N G S := fun F σ H E ok q => by unfold tS; exact fun pins s I => h.run pins s σ H E I (w F σ H E ok q)
theorem wSs_of {st : List Stmt} {t : TS} (h : PSs X st t) (w : WS X.K B t N G S) : wSs X B st N G S := fun F σ H E ok q => by unfold tSs; exact fun pins s I => h.run pins s σ H E I (w F σ H E ok q)

/-- a name's place among the slots -/
def Nm (Ns : List Str) (n : String) (i : Nat) : Prop := Ns[i]? = some (Str.ofString n)
variable {Ns : List Str} {n : String} {i : Nat} {d : D} {pos pos2 pos3 : Pos} {a b c : Expr} {es : List Expr} {op : CmpOp} {r : R2}
theorem w_name (hs : Nm Ns n i) (h : G[i]? = some (some d)) (hk : k d S) (hN : X.N = Ns := by rfl) (hv : Vis X.env.scope (Str.ofString n) := by first | exact Or.inl rfl | exact Or.inr (Or.inl rfl) | exact Or.inr (Or.inr rfl))
    (hd : ((Str.ofString n) == ("__debug__" : Str)) = false := by decide) (hcd : ((Str.ofString n) == ("__classdict__" : Str)) = false := by decide) : wE X B (.Name (Str.ofString n) pos) k G S :=
  wE_of (pe_var (i := i) (by rw [hN]; exact hs) hv hd hcd) (W_var h hk)
theorem w_int {i : Int} {j} (hk : k (.int i) S) : wE X B (.Constant (.int i) j pos) k G S := wE_of pe_int (W_c hk)
theorem w_str {x : Str} {j} (hk : k (.str x) S) : wE X B (.Constant (.str x) j pos) k G S := wE_of pe_str (W_c hk)
theorem w_bool {x : Bool} {j} (hk : k (.bl x) S) : wE X B (.Constant (.bool x) j pos) k G S := wE_of pe_bl (W_c hk)
theorem w_none {j} (hk : k .non S) : wE X B (.Constant .none j pos) k G S := wE_of pe_non (W_c hk)
theorem w_glob {x : Str} {v : V} {u : Value} (hm : X.mg x = some u) (hk : k (.v v) S) (hr : RelV v u) (hg : Gl X x := by rfl) (hd : (x == ("__debug__" : Str)) = false := by decide) : wE X B (.Name x pos) k G S := wE_of (pe_glob hg hm hr hd) (W_c hk)
theorem w_neg (h : wE X B a (fun x S1 => One x fun n => k (.int (-n)) S1) G S) : wE X B (.UnaryOp .USub a pos) k G S :=
  wE_of (pe_un un_neg pe_t) (W_un fun F σ H Q ok q => h F σ H Q ok fun v F' H' d S' ⟨n, e, hk⟩ ok' e' r' => by
    subst e
    exact q v F' H' _ S' (fun F1 σ1 H1 Q1 vx ok1 r1 q1 => by
      rw [rd_v] at r1
      exact ⟨n, r1, q1 _ F1 H1 _ S' hk ok1 (Same.refl F1) (rd_v.mpr rfl)⟩) ok' e' r')
theorem w_bin {op : Operator} (ho : OpR X (binaryOp op) r) (h : wE X B a (fun x S1 => wE X B b (fun y S2 => WR X.K B r x y k G S2) G S1) G S) : wE X B (.BinOp a op b pos) k G S :=
  wE_of (pe_op ho pe_t pe_t) (W_op h)
theorem w_cmp (ho : OpR X (compareOp op) r) (h : wE X B a (fun x S1 => wE X B b (fun y S2 => WR X.K B r x y k G S2) G S1) G S) (hm : behindInMarks op b = false := by first | exact nomark _ | rfl) : wE X B (.Compare a [op] [b] pos) k G S :=
  wE_of (pe_cmpR ho pe_t pe_t hm) (W_op h)
theorem wT_cmp (ho : OpR X (compareOp op) r) (h : wE X B a (fun x S1 => wE X B b (fun y S2 => WR X.K B r x y (toB kb) G S2) G S1) G S) (hm : behindInMarks op b = false := by first | exact nomark _ | rfl) : wT X B (.Compare a [op] [b] pos) kb G S :=
  wT_of (pt_cmpR ho pe_t pe_t hm) (WT_test (W_op h))
theorem W_chain {K : PySem.W.Frag} {r r' : R2} {ta tb tc : TE} (h : W K B ta (fun x S1 => W K B tb (fun y S2 => WR K B r x y (toB fun b S3 => (b = true → W K B tc (fun z S4 => WR K B r' y z k G S4) G S3) ∧ (b = false → k (.bl false) S3)) G S2) G S1) G S) : W K B (tChain r r' ta tb tc) k G S := fun F σ H Q ok q =>
  h F σ H _ ok fun vx F1 H1 x S1 h1 ok1 e1 r1 => h1 F1 σ H1 _ ok1 fun vy F2 H2 y S2 h2 ok2 e2 r2 =>
    h2 F2 σ H2 _ vx vy ok2 (rd_mono e2 _ _ r1) r2 fun v F3 H3 d S3 ⟨b, ed, h3⟩ ok3 e3 r3 => by
      subst ed
      rw [rd_v] at r3
      refine ⟨b, r3, ?_⟩
      cases b with
      | true =>
        exact h3.1 rfl F3 σ H3 _ ok3 fun vz F4 H4 z S4 h4 ok4 e4 r4 => h4 F4 σ H4 Q vy vz ok4 (rd_mono (e3.trans e4) _ _ r2) r4 fun v F5 H5 d S5 h5 ok5 e5 r5 => q v F5 H5 d S5 h5 ok5 ((((e1.trans e2).trans e3).trans e4).trans e5) r5
      | false => exact q _ F3 H3 _ S3 (h3.2 rfl) ok3 ((e1.trans e2).trans e3) (rd_v.mpr rfl)
theorem wT_chain {op op' : CmpOp} {r r' : R2} (ho : OpR X (compareOp op) r) (ho' : OpR X (compareOp op') r')
    (h : wE X B a (fun x S1 => wE X B b (fun y S2 => WR X.K B r x y (toB fun t S3 => (t = true → wE X B c (fun z S4 => WR X.K B r' y z (toB kb) G S4) G S3) ∧ (t = false → toB kb (.bl false) S3)) G S2) G S1) G S)
    (hm : lastMarks [op, op'] [b, c] = false := by with_unfolding_all rfl) : wT X B (.Compare a [op, op'] [b, c] pos) kb G S :=
  wT_of (pt_chain ho ho' pe_t pe_t pe_t hm) (WT_test (W_chain h))
/-- an expression whose value is a truth, as a test -/
theorem wT_val (h : wE X B a (toB kb) G S) (he : ∀ whole, isTrue a X.env whole = (do let v ← whole; standAt a.pos; holding [v] (truthy v)) := by intro _; rfl) : wT X B a kb G S :=
  wT_of (pt_val pe_t he) (WT_B h)
theorem wT_not (h : wT X B a (fun b S1 => kb (!b) S1) G S) : wT X B (.UnaryOp .Not a pos) kb G S := wT_of (pt_not pt_t) (WT_not h)
theorem wT_bool (h : wW X B (.BoolOp o es pos) kb G S) : wT X B (.BoolOp o es pos) kb G S := wT_of (PW.pt pw_t) h
theorem wW_and1 (h : wT X B a kb G S) : wW X B (.BoolOp .And [a] pos) kb G S := wW_of (pw_and1 pt_t) h
theorem wW_or1 (h : wT X B a kb G S) : wW X B (.BoolOp .Or [a] pos) kb G S := wW_of (pw_or1 pt_t) h
theorem wW_and (h : wT X B a (fun t S1 => (t = true → wW X B (.BoolOp .And (b :: es) pos) kb G S1) ∧ (t = false → kb false S1)) G S) : wW X B (.BoolOp .And (a :: b :: es) pos) kb G S := wW_of (pw_and pt_t pw_t) (WT_and h)
theorem wW_or (h : wT X B a (fun t S1 => (t = true → kb true S1) ∧ (t = false → wW X B (.BoolOp .Or (b :: es) pos) kb G S1)) G S) : wW X B (.BoolOp .Or (a :: b :: es) pos) kb G S := wW_of (pw_or pt_t pw_t) (WT_or h)
theorem w_one {o : BoolOp} (h : wE X B a k G S) : wE X B (.BoolOp o [a] pos) k G S := wE_of (pe_one pe_t) h
theorem w_and (h : wE X B a (toB fun t S1 => (t = true → wE X B (.BoolOp .And (b :: es) pos) k G S1) ∧ (t = false → k (.bl false) S1)) G S) : wE X B (.BoolOp .And (a :: b :: es) pos) k G S := wE_of (pe_and pe_t pe_t) (W_andV h)
theorem w_or (h : wE X B a (toB fun t S1 => (t = true → k (.bl true) S1) ∧ (t = false → wE X B (.BoolOp .Or (b :: es) pos) k G S1)) G S) : wE X B (.BoolOp .Or (a :: b :: es) pos) k G S := wE_of (pe_or pe_t pe_t) (W_orV h)
theorem w_not (h : wE X B a (toB fun t S1 => k (.bl (!t)) S1) G S) : wE X B (.UnaryOp .Not a pos) k G S := wE_of (pe_not pe_t) (W_notV h)
theorem w_ifE (h : wT X B c (fun t S1 => (t = true → wE X B a k G S1) ∧ (t = false → wE X B b k G S1)) G S) : wE X B (.IfExp c a b pos) k G S := wE_of (pe_ifExp pt_t pe_t pe_t) (W_ifE h)
theorem wA_nil (hk : ka [] S) : wA X B [] ka G S := wA_of pa_nil (WA_nil hk)
theorem wA_cons (h : wE X B a (fun x S1 => wA X B es (fun xs S2 => ka (x :: xs) S2) G S1) G S) (hs : starEach (a :: es) X.env = (false, eval a X.env) :: starEach es X.env := by rfl) : wA X B (a :: es) ka G S := wA_of (pa_cons pe_t pa_t hs) (WA_cons h)
theorem w_tup {x1} (h : wA X B es (fun xs S1 => Cnd (xs.length ≤ 100000) (k (.tup xs) S1)) G S) : wE X B (.Tuple es x1 pos) k G S := wE_of (pe_tup pa_t) (W_tup h)
theorem w_lst (h : wA X B es (fun xs S1 => Cnd (xs.length ≤ 100000) (∀ p, k (.ref p) (ckL p xs :: S1))) G S) : wE X B (.List es pos) k G S := wE_of (pe_lst pa_t) (W_lst h)
theorem w_dnew (h : ∀ p, k (.ref p) (ckD p [] :: S)) : wE X B (.Dict [] [] pos) k G S := wE_of pe_dnewK (W_dnew h)
/-! attributes -/
theorem W_fld {K : PySem.W.Frag} {ta : TE} {f : Str} (h : W K B ta (fun x S1 => (∃ C fs y, x = .ins C fs ∧ Cls K C ∧ NoAttr K C f ∧ fs.lookup f = some y ∧ k y S1) ∨ (∃ p C fs y, ∃ j : Nat, x = .ref p ∧ S1[j]? = some (ckI p C fs) ∧ Cls K C ∧ NoAttr K C f ∧ fs.lookup f = some y ∧ k y S1)) G S) : W K B (tFld K ta f) k G S := fun F σ H Q ok q =>
  h F σ H _ ok fun v F1 H1 d S1 h1 ok1 e1 r1 => by
    rcases h1 with ⟨C, fs, y, rfl, h2, h3, h4, h5⟩ | ⟨p, C, fs, y, j, rfl, hj, h2, h3, h4, h5⟩
    · unfold rd at r1
      obtain ⟨a, dx, gs, rfl, g1, g2⟩ := r1
      obtain ⟨w, g3, g4⟩ := rfs_lookup g2 h4
      exact ⟨a, C, dx, gs, w, rfl, ok1.fz _ _ g1, h2, h3, g3, q w F1 H1 y S1 h5 ok1 e1 g4⟩
    · rw [rd_v] at r1
      subst r1
      obtain ⟨dx, gs, g1, g2⟩ := ok1.he _ (List.mem_of_getElem? hj)
      obtain ⟨w, g3, g4⟩ := rfs_lookup g2 h4
      exact ⟨p, C, dx, gs, w, rfl, g1, h2, h3, g3, q w F1 H1 y S1 h5 ok1 e1 g4⟩
theorem w_fld {f : Str} (h : wE X B a (fun x S1 => (∃ C fs y, x = .ins C fs ∧ Cls X.K C ∧ NoAttr X.K C f ∧ fs.lookup f = some y ∧ k y S1) ∨ (∃ p C fs y, ∃ j : Nat, x = .ref p ∧ S1[j]? = some (ckI p C fs) ∧ Cls X.K C ∧ NoAttr X.K C f ∧ fs.lookup f = some y ∧ k y S1)) G S)
    (hb : attributeBase a f X.env (eval a X.env) = eval a X.env := by rfl) : wE X B (.Attribute a f pos) k G S := wE_of (pe_fld pe_t hb) (W_fld h)
theorem w_fldI {f : Str} (h : wE X B a (fun x S1 => ∃ C fs y, x = .ins C fs ∧ Cls X.K C ∧ NoAttr X.K C f ∧ fs.lookup f = some y ∧ k y S1) G S) (hb : attributeBase a f X.env (eval a X.env) = eval a X.env := by rfl) : wE X B (.Attribute a f pos) k G S :=
  w_fld (fun F σ H Q ok q => h F σ H Q ok fun v F' H' d S' h1 => q v F' H' d S' (.inl h1)) hb
theorem w_fldO {f : Str} (h : wE X B a (fun x S1 => ∃ p C fs y, ∃ j : Nat, x = .ref p ∧ S1[j]? = some (ckI p C fs) ∧ Cls X.K C ∧ NoAttr X.K C f ∧ fs.lookup f = some y ∧ k y S1) G S) (hb : attributeBase a f X.env (eval a X.env) = eval a X.env := by rfl) : wE X B (.Attribute a f pos) k G S :=
  w_fld (fun F σ H Q ok q => h F σ H Q ok fun v F' H' d S' h1 => q v F' H' d S' (.inr h1)) hb
theorem WS_fld {K : PySem.W.Frag} {ta tv : TE} {f : Str} (h : W K B tv (fun y S1 => W K B ta (fun x S2 => ∃ p C fs, ∃ j : Nat, x = .ref p ∧ S2[j]? = some (ckI p C fs) ∧ Cls K C ∧ NoAttr K C f ∧ fs.length < 1000 ∧ N.nx G (S2.set j (ckI p C (putD f y fs)))) G S1) G S) : WS K B (sFld K ta tv f) N G S := fun F σ H E ok re =>
  h F σ H _ ok fun vy F1 H1 y S1 h1 ok1 e1 r1 => h1 F1 σ H1 _ ok1 fun vx F2 H2 x S2 ⟨p, C, fs, j, ex, hj, g1, g2, g3, g4⟩ ok2 e2 r2 => by
    subst ex
    rw [rd_v] at r2
    subst r2
    obtain ⟨dx, gs, q1, q2⟩ := ok2.he _ (List.mem_of_getElem? hj)
    refine ⟨p, C, dx, gs, rfl, q1, g1, g2, by rw [← rfs_len q2]; exact g3, ?_⟩
    exact re.nx _ _ F2 σ _ g4 (ok2.to (ok2.toHs.write hj (p := p) (by simp [ckI]) rfl ⟨dx, _, upd_same, rfs_put (rd_mono e2 _ _ r1) q2⟩) (Same.refl F2)) (e1.trans e2)
theorem ws_fld {f : Str} {value : Expr} {pos' : Pos} (h : wE X B value (fun y S1 => wE X B a (fun x S2 => ∃ p C fs, ∃ j : Nat, x = .ref p ∧ S2[j]? = some (ckI p C fs) ∧ Cls X.K C ∧ NoAttr X.K C f ∧ fs.length < 1000 ∧ N.nx G (S2.set j (ckI p C (putD f y fs)))) G S1) G S)
    (hs : swapsWith value (some (.Attribute a f pos')) pos.line X.env = pure false := by rfl) : wS X B (.Assign [.Attribute a f pos'] value pos) N G S := wS_of (ps_fld pe_t pe_t hs) (WS_fld h)
/-! statements -/
theorem wss_nil (h : N.nx G S) : wSs X B [] N G S := wSs_of pss_nil (WS_next h)
theorem wss_end {G' : Gm} {S' R : Cks} (hg : Wk G G') (hs : Pick S S' R) (h : N.nx G' S') : wSs X B [] N G S := wSs_of pss_nil (WS_end hg hs h)
theorem wss_cons {st : Stmt} {rest : List Stmt} (h : wS X B st { N with nx := fun G' S' => wSs X B rest N G' S' } G S) : wSs X B (st :: rest) N G S := wSs_of (pss_cons ps_t pss_t) (WS_seq h)
/-- a word between two statements: what follows is shown once -/
theorem wss_cut (M : Gm → Cks → Prop) {st : Stmt} {rest : List Stmt} (h : wS X B st { N with nx := M } G S) (h2 : ∀ G' S', M G' S' → wSs X B rest N G' S') : wSs X B (st :: rest) N G S :=
  wss_cons fun F σ H E ok re => h F σ H E ok ⟨fun G' S' F' σ' H' m => re.nx G' S' F' σ' H' (h2 G' S' m), re.rt, re.bk, re.ct⟩
theorem ws_pass (h : N.nx G S) : wS X B (.Pass pos) N G S := wS_of ps_pass (WS_next h)
theorem ws_break (h : N.bk G S) : wS X B (.Break pos) N G S := wS_of ps_break (WS_brk h)
theorem ws_continue (h : N.ct G S) : wS X B (.Continue pos) N G S := wS_of ps_continue (WS_cont h)
theorem ws_expr (h : wE X B a (fun _ S1 => N.nx G S1) G S) (hs : swapsWith a none pos.line X.env = pure false := by rfl) : wS X B (.Expr a pos) N G S := wS_of (ps_expr pe_t hs) (WS_drop h)
theorem ws_ret (h : wE X B a N.rt G S) : wS X B (.Return (some a) pos) N G S := wS_of (ps_ret pe_t) (WS_ret h)
theorem ws_retN (h : N.rt .non S) : wS X B (.Return none pos) N G S := wS_of ps_retN (WS_retN h)
theorem ws_if {s1 s2 : List Stmt} (h : wT X B c (fun t S1 => (t = true → wSs X B s1 N G S1) ∧ (t = false → wSs X B s2 N G S1)) G S) : wS X B (.If c s1 s2 pos) N G S := wS_of (ps_if pt_t pss_t pss_t) (WS_if h)
theorem ws_set (hs : Nm Ns n i) (nd : Ns.Nodup) (h : wE X B a (fun x S1 => N.nx (G.set i (some x)) S1) G S) (hN : X.N = Ns := by rfl) (hl : Loc X.env.scope (Str.ofString n) := by first | exact Or.inl rfl | exact Or.inr rfl)
    (hsw : swapsWith a (some (.Name (Str.ofString n) pos2)) pos.line X.env = pure false := by rfl) (hf : X.fn (Str.ofString n) = true ∨ X.env.scope.names.lookup (Str.ofString n) = some .local := by first | exact .inl rfl | exact .inr rfl) :
    wS X B (.Assign [.Name (Str.ofString n) pos2] a pos) N G S :=
  wS_of (ps_set (i := i) (by rw [hN]; exact nd) (by rw [hN]; exact hs) hl pe_t hsw hf) (fun F σ H E ok re => WS_asg (g := gName i) (te := tE X a) (fun F σ H Q ok q => h F σ H Q ok fun v F' H' d S' hk => q v F' H' d S' (WG_name hk)) F σ H E ok re)
theorem ws_asg {tg : Expr} {g : TG} (hg : PG X tg g) (h : wE X B a (fun x S1 => WG X.K B g x N.nx G S1) G S) (hs : swapsWithSole [tg] a pos.line X.env = pure false := by rfl) (hw : swappedStores [tg] a X.env = pure none := by rfl) (h1 : List.map (fun x => x.snd) (assignEach [tg] X.env) = [assign tg X.env] := by rfl) :
    wS X B (.Assign [tg] a pos) N G S := wS_of (ps_asg pe_t hg hs hw h1) (WS_asg h)
theorem ws_aug {op : Operator} {ti : TIp} (hs : Nm Ns n i) (nd : Ns.Nodup) (ho : PIp X op ti) {x : D} (hx : G[i]? = some (some x)) (h : wE X B a (fun y S1 => WR X.K B ti x y (fun z S2 => N.nx (G.set i (some z)) S2) G S1) G S) (hN : X.N = Ns := by rfl)
    (hl : Loc X.env.scope (Str.ofString n) := by first | exact Or.inl rfl | exact Or.inr rfl) (hf : X.fn (Str.ofString n) = true ∨ X.env.scope.names.lookup (Str.ofString n) = some .local := by first | exact .inl rfl | exact .inr rfl) :
    wS X B (.AugAssign (.Name (Str.ofString n) pos2) op a pos) N G S := wS_of (ps_aug (i := i) (by rw [hN]; exact nd) (by rw [hN]; exact hs) hl pe_t ho hf) (WS_aug hx h)
end

/-! ### a def's promise and its call -/
/-- for every x of I that is asked for: the arguments' data, the chunks that are handed in; what comes back -/
def Spx (K : PySem.W.Frag) {I : Type} (req : I → Prop) (args : I → List D) (pre : I → Cks) (post : I → D → Cks → Prop) : Sp := fun vs H Q _ =>
  ∃ (x : I) (F : Hp), req x ∧ rds K F (args x) vs ∧ Hs K ⟨ads (pre x), F, H⟩ (pre x) F H ∧
    ∀ v F' H' d S', post x d S' → Hs K ⟨ads (pre x), F, H⟩ S' F' H' → rd K F' d v → Q v H'
section
variable {P : Program} {w : World} {K : PySem.W.Frag} {mg : Str → Option Value} {base : Heap}
theorem rds_slots {F : Hp} : ∀ {ds : List D} {vs : List V} {i : Nat} {d : D} {m : Nat}, rds K F ds vs → (ds.map some ++ List.replicate m none : Gm)[i]? = some (some d) → ∃ v, (vs.map some ++ List.replicate m none : L2.St)[i]? = some (some v) ∧ rd K F d v
  | [], vs, i, d, m, h, e => by
    simp [List.getElem?_replicate] at e
  | x :: ds, vs, i, d, m, h, e => by
    rw [rds_cons] at h
    obtain ⟨v, r, rfl, h2, h3⟩ := h
    cases i with
    | zero => simp at e; subst e; exact ⟨v, rfl, h2⟩
    | succ i =>
      obtain ⟨u, hu, ru⟩ := rds_slots (i := i) (m := m) h3 (by simpa using e)
      exact ⟨u, by simpa using hu, ru⟩
/-- THE RULE for a def from which nothing is let out -/
theorem fn_ok {x qual : Str} {st : Stmt} {f : Addr} {fd : FuncData} {N ps : List Str} {k : Nat} {I : Type} {req : I → Prop} {args : I → List D} {pre : I → Cks} {post : I → D → Cks → Prop}
    (F : Fun K x qual st f fd) (Sc : FnScope N ps (defScope st)) (hl : ∀ x, (args x).length = ps.length)
    (hb : ∀ (cdv : Value) (A : Around) (outer : List Env) (s : Shared) (H : Hp) (E : XK) (B : Base) (x : I), Room k (A.deeper (envOfC qual (defScope st) s.heap.objs.size f cdv)) → req x →
      wSs (cxOf CX0 P w K mg base N qual (defScope st) f cdv A outer s H E).nox B (defBody st) { nx := fun _ S' => post x .non S', rt := post x } ((args x).map some ++ List.replicate (N.length - ps.length) none) (pre x)) :
    FnOk P w K mg base CX0 (k + 1) f fd ps (Spx K req args pre post) := by
  refine F.ok Sc (fun vs H Q E h => ?_) (fun cdv A outer s H vs Q E hr h => ?_)
  · obtain ⟨x, F, hx, hrd, _⟩ := h
    rw [← rds_len hrd, hl]
  · obtain ⟨x, F, hx, hrd, hs, q⟩ := h
    refine ⟨tSs _ (defBody st), pss_t, ?_⟩
    have hlen : (args x).length = vs.length := rds_len hrd
    have ok : Ok K ⟨ads (pre x), F, H⟩ ((args x).map some ++ List.replicate (N.length - ps.length) none) (pre x) F (start N vs) H := by
      refine ⟨hs, ?_, fun i d e => ?_⟩
      · show _ = (vs.map some ++ List.replicate (N.length - vs.length) none).length
        rw [List.length_append, List.length_append, List.length_map, List.length_map, List.length_replicate, List.length_replicate, ← hlen, hl]
      · show ∃ v, (vs.map some ++ List.replicate (N.length - vs.length) none : L2.St)[i]? = some (some v) ∧ _
        rw [← hlen, hl]
        exact rds_slots hrd e
    refine hb cdv A outer s H E ⟨ads (pre x), F, H⟩ x hr hx F (start N vs) H _ ok ⟨fun G' S' F' σ' H' n ok' e => ?_, fun d v G' S' F' σ' H' n ok' e r => ?_, fun _ _ _ _ _ n => n.elim, fun _ _ _ _ _ n => n.elim⟩
    · exact q .non F' H' .non S' n ok'.toHs (rd_v.mpr rfl)
    · exact q v F' H' d S' n ok'.toHs r
end
section
variable {X : Cx} {B : Base} {G : Gm} {S : Cks} {k : D → Cks → Prop} {I : Type} {req : I → Prop} {args : I → List D} {pre : I → Cks} {post : I → D → Cks → Prop}
/-- what a callee that keeps such a promise gives -/
theorem sp_use {F H : Hp} {σ : L2.St} {Q : VK} {vs : List V} {ds : List D} {S1 R : Cks} {E : XK} (x : I) (ok : Ok X.K B G S1 F σ H) (hr : rds X.K F ds vs) (hx : req x) (ha : args x = ds) (hp : Pick S1 (pre x) R)
    (q : ∀ v F' H' d S', post x d S' → Ok X.K B G (S' ++ R) F' σ H' → Same F F' → rd X.K F' d v → Q v H') : Spx X.K req args pre post vs H Q E := by
  have h1 : Hs X.K B (pre x ++ R) F H := ok.toHs.perm hp.perm
  refine ⟨x, F, hx, by rw [ha]; exact hr, h1.enter, fun v F' H' d S' po hs rr => ?_⟩
  exact q v F' H' d S' po (ok.to (h1.after hs) hs.f2) hs.f2 rr
theorem w_call {kk : Nat} {f : Addr} {fd : FuncData} {ps : List Str} {x : Str} {p pos : Pos} {e : Expr} {es : List Expr} {dvs : List V} {ds : List Value}
    (F : FnOk X.prog X.w X.K X.mg X.base CX0 kk f fd ps (Spx X.K req args pre post)) (hr : Room kk X.A) (hm : X.mg x = some (.ref f)) (hk : PySem.W.keepIn X.K (.ref f) = true) (hb : Binds X.K fd ps ds) (hd : Vals dvs ds)
    (h : wA X B (e :: es) (fun xs S1 => ∃ (x : I) (R : Cks), req x ∧ args x = xs ++ dvs.map .v ∧ Pick S1 (pre x) R ∧ ∀ d S', post x d S' → k d (S' ++ R)) G S) (hg : Gl X x := by rfl)
    (hdb : (x == ("__debug__" : Str)) = false := by decide) (he : starEach (e :: es) X.env = (false, eval e X.env) :: starEach es X.env := by rfl) (hpl : (backTo pos (starEach es X.env)).any (·.1) = false := by rfl) :
    wE X B (.Call (.Name x p) (e :: es) [] pos) k G S :=
  wE_of (pe_call F hr hg hm hk hb hd pass0 pa_t hdb he hpl) fun F0 σ H Q ok q => h F0 σ H _ ok fun vs F1 H1 xs S1 ⟨x, R, hx, ha, hp, hk⟩ ok1 e1 r1 =>
    sp_use x ok1 (rds_append r1 (dvs_rds dvs)) hx ha hp fun v F' H' d S' po ok' e' rr => q v F' H' d _ (hk d S' po) ok' (e1.trans e') rr
where dvs_rds {K : PySem.W.Frag} {F : Hp} : ∀ dvs : List V, rds K F (dvs.map .v) dvs
  | [] => rds_nil.mpr rfl
  | v :: r => rds_cons.mpr ⟨v, r, rfl, rd_v.mpr rfl, dvs_rds r⟩
theorem w_call0 {kk : Nat} {f : Addr} {fd : FuncData} {ps : List Str} {x : Str} {p pos : Pos} {dvs : List V} {ds : List Value}
    (F : FnOk X.prog X.w X.K X.mg X.base CX0 kk f fd ps (Spx X.K req args pre post)) (hr : Room kk X.A) (hm : X.mg x = some (.ref f)) (hk : PySem.W.keepIn X.K (.ref f) = true) (hb : Binds X.K fd ps ds) (hd : Vals dvs ds)
    (h : ∃ (x : I) (R : Cks), req x ∧ args x = dvs.map .v ∧ Pick S (pre x) R ∧ ∀ d S', post x d S' → k d (S' ++ R)) (hg : Gl X x := by rfl) (hdb : (x == ("__debug__" : Str)) = false := by decide) : wE X B (.Call (.Name x p) [] [] pos) k G S :=
  wE_of (pe_call0 F hr hg hm hk hb hd pass0 hdb) fun F0 σ H Q ok q => by
    obtain ⟨x, R, hx, ha, hp, hk⟩ := h
    exact sp_use (E := E0) x ok (w_call.dvs_rds dvs) hx ha hp fun v F' H' d S' po ok' e' rr => q v F' H' d _ (hk d S' po) ok' e' rr
end
end Sy
set_option Elab.async false
set_option maxRecDepth 100000
set_option linter.unusedVariables false
namespace Sy
open PySem L2 PySem.Spec PyProof.Rows

/-! ### what is walked -/
/-- J yields item 0, item 1, .. item (n - 1), as long as gS holds of the chunks and what is known at F0 stands -/
structure Yl (K : PySem.W.Frag) (B : Base) (J : It) (n : Nat) (item : Nat → D) (gS : Cks → Prop) (F0 : Hp) : Prop where
  mn : ∀ c S, gS S → gS (c :: S)
  go : ∀ i G S F σ H, i < n → Ok K B G S F σ H → Same F0 F → gS S → J.go i H
  stop : ∀ G S F σ H, Ok K B G S F σ H → Same F0 F → gS S → J.stop n H
  yld : ∀ i G S F σ H x H', i < n → Ok K B G S F σ H → Same F0 F → gS S → J.yld i H x H' → ∃ F', Ok K B G S F' σ H' ∧ Same F F' ∧ rd K F' (item i) x
def WI (K : PySem.W.Frag) (B : Base) (wi : TI) (k : Nat → (Nat → D) → (Cks → Prop) → Cks → Prop) (G : Gm) (S : Cks) : Prop :=
  ∀ F σ H R, Ok K B G S F σ H → (∀ J F' H' n item gS S', k n item gS S' → Ok K B G S' F' σ H' → Same F F' → Yl K B J n item gS F' → R J H') → wi σ H R
@[irreducible] def tI (X : Cx) (tg e : Expr) : TI := fun σ H R => ∀ pins s, Inv X pins σ H s → wpAny (model X.prog X.w) X.A (eval e X.env) (fun v s1 => wpAny (model X.prog X.w) X.A (pyIter v) (PIE X pins σ tg R) X.xe s1) X.xe s
theorem pi_t {X : Cx} {tg e : Expr} : PI X tg e (tI X tg e) := ⟨fun pins s _ _ _ I h => by unfold tI at h; exact h pins s I⟩
abbrev wI (X : Cx) (B : Base) (tg e : Expr) (k : Nat → (Nat → D) → (Cks → Prop) → Cks → Prop) (G : Gm) (S : Cks) : Prop := WI X.K B (tI X tg e) k G S
section
variable {X : Cx} {B : Base} {G : Gm} {S : Cks} {k : D → Cks → Prop} {N : En} {ki : Nat → (Nat → D) → (Cks → Prop) → Cks → Prop}
theorem wI_of {tg e : Expr} {wi : TI} (h : PI X tg e wi) (w : WI X.K B wi ki G S) : wI X B tg e ki G S := fun F σ H R ok q => by unfold tI; exact fun pins s I => h.run pins s σ H R I (w F σ H R ok q)
/-- a list or a tuple, by its value -/
def iSeq (K : PySem.W.Frag) (tl : TE) : TI := fun σ H R => tl σ H fun x H1 => ∃ a, x = .ref a ∧ (((∃ xs, SqL K H1 a xs) ∧ R (Itl K a) H1) ∨ ((∃ xs, SqT K H1 a xs) ∧ R (Itt K a) H1))
theorem pi_seq {tg l : Expr} {tl : TE} (hl : PE X l tl) : PI X tg l (iSeq X.K tl) := by
  refine ⟨fun pins s σ H R I h => ?_⟩
  refine thn (hl.run pins s σ H _ I h) fun v s1 ⟨x, H1, I1, r1, q1⟩ => ?_
  obtain ⟨a, e, q1⟩ := q1
  subst e
  cases r1
  have fp : ∀ b ∈ [s1.heap.objs.size], FpOk X pins H1 b := fun b hb => by
    have e : b = s1.heap.objs.size := by simpa using hb
    subst e
    exact I1.fpOk (Nat.le_refl _) (I1.hok.fresh (Nat.le_refl _))
  rcases q1 with ⟨⟨xs, hq⟩, q⟩ | ⟨⟨xs, hq⟩, q⟩
  · obtain ⟨its, rv, p, hz⟩ := I1.list hq
    refine wpAny_pyIter_list p.isList ?_
    exact ⟨s1.heap.objs.size, [s1.heap.objs.size], _, _, H1, rfl, I1.kept (t' := s1.toks) fun b o e => Heap.get?_push_of_some _ e, turn_list a _, ⟨_, Heap.get?_push_size _ rfl, rfl, rfl⟩, fp, q⟩
  · obtain ⟨its, rv, p, hz⟩ := I1.tuple hq
    refine wpAny_pyIter_tuple (show s1.heap.IsTuple a its.toArray from p) ?_
    exact ⟨s1.heap.objs.size, [s1.heap.objs.size], _, _, H1, rfl, I1.kept (t' := s1.toks) fun b o e => Heap.get?_push_of_some _ e, turn_tuple a _, ⟨_, Heap.get?_push_size _ rfl, rfl, rfl⟩, fp, q⟩
/-- the item at a place, or nothing of worth -/
def at' (xs : List D) (i : Nat) : D := xs.getD i (.v .non)
theorem at'_of {xs : List D} {i : Nat} {d : D} (h : xs[i]? = some d) : at' xs i = d := by unfold at'; rw [List.getD_eq_getElem?_getD, h]; rfl
theorem rds_at {K : PySem.W.Frag} {F : Hp} {xs : List D} {vs : List V} {i : Nat} {x : V} (h : rds K F xs vs) (e : vs[i]? = some x) : rd K F (at' xs i) x := by
  obtain ⟨d, h1, h2⟩ := rds_get' h e
  rw [at'_of h1]
  exact h2
theorem get_of {α : Type} {xs : List α} {i : Nat} (h : i < xs.length) : ∃ x, xs[i]? = some x := ⟨xs[i], List.getElem?_eq_getElem h⟩
/-- a list or tuple that never changes; a list of ours -/
theorem yl_lst {K : PySem.W.Frag} {F : Hp} {xs : List D} {vs : List V} {a : Addr} (h1 : SqL K F a vs) (h2 : rds K F xs vs) : Yl K B (Itl K a) xs.length (at' xs) (fun _ => True) F where
  mn := fun _ _ h => h
  go := fun i G S F' σ H hi ok e _ => by
    obtain ⟨x, hx⟩ := get_of (xs := vs) (i := i) (by rw [← rds_len h2]; exact hi)
    exact ⟨vs, x, ok.fz.seq (e.seq h1), hx⟩
  stop := fun G S F' σ H ok e _ => ⟨vs, ok.fz.seq (e.seq h1), by rw [rds_len h2]; exact Nat.le_refl _⟩
  yld := fun i G S F' σ H x H' hi ok e _ ⟨eh, hx⟩ => by
    subst eh
    exact ⟨F', ok, Same.refl F', rds_at (rds_mono e _ _ h2) (hx vs (ok.fz.seq (e.seq h1)))⟩
theorem yl_tup {K : PySem.W.Frag} {F : Hp} {xs : List D} {vs : List V} {a : Addr} (h1 : F a = some (.tup vs)) (h2 : rds K F xs vs) : Yl K B (Itt K a) xs.length (at' xs) (fun _ => True) F where
  mn := fun _ _ h => h
  go := fun i G S F' σ H hi ok e _ => by
    obtain ⟨x, hx⟩ := get_of (xs := vs) (i := i) (by rw [← rds_len h2]; exact hi)
    exact ⟨vs, x, SqT.of (ok.fz _ _ (e _ _ h1)), hx⟩
  stop := fun G S F' σ H ok e _ => ⟨vs, SqT.of (ok.fz _ _ (e _ _ h1)), by rw [rds_len h2]; exact Nat.le_refl _⟩
  yld := fun i G S F' σ H x H' hi ok e _ ⟨eh, hx⟩ => by
    subst eh
    exact ⟨F', ok, Same.refl F', rds_at (rds_mono e _ _ h2) (hx vs (SqT.of (ok.fz _ _ (e _ _ h1))))⟩
theorem yl_own {K : PySem.W.Frag} {F : Hp} {xs : List D} {a : Addr} : Yl K B (Itl K a) xs.length (at' xs) (fun S => ckL a xs ∈ S) F where
  mn := fun _ _ h => List.mem_cons_of_mem _ h
  go := fun i G S F' σ H hi ok e hm => by
    obtain ⟨vs, h1, h2⟩ := ok.he _ hm
    obtain ⟨x, hx⟩ := get_of (xs := vs) (i := i) (by rw [← rds_len h2]; exact hi)
    exact ⟨vs, x, SqL.of h1, hx⟩
  stop := fun G S F' σ H ok e hm => by
    obtain ⟨vs, h1, h2⟩ := ok.he _ hm
    exact ⟨vs, SqL.of h1, by rw [rds_len h2]; exact Nat.le_refl _⟩
  yld := fun i G S F' σ H x H' hi ok e hm ⟨eh, hx⟩ => by
    subst eh
    obtain ⟨vs, h1, h2⟩ := ok.he _ hm
    exact ⟨F', ok, Same.refl F', rds_at h2 (hx vs (SqL.of h1))⟩
/-- which kind of thing is walked, and what it yields -/
inductive Sq : Cks → D → Nat → (Nat → D) → (Cks → Prop) → Prop
  | lst {S : Cks} {xs : List D} : Sq S (.lst xs) xs.length (at' xs) (fun _ => True)
  | tup {S : Cks} {xs : List D} : Sq S (.tup xs) xs.length (at' xs) (fun _ => True)
  | own {S : Cks} {a : Addr} {xs : List D} (j : Nat) : S[j]? = some (ckL a xs) → Sq S (.ref a) xs.length (at' xs) (fun T => ckL a xs ∈ T)
theorem wI_seq {tg e : Expr} (h : wE X B e (fun x S1 => ∃ n item gS, Sq S1 x n item gS ∧ ki n item gS S1) G S) : wI X B tg e ki G S :=
  wI_of (pi_seq pe_t) fun F σ H R ok q => h F σ H _ ok fun v F1 H1 d S1 ⟨n, item, gS, hq, hk⟩ ok1 e1 r1 => by
    cases hq with
    | @lst xs =>
      unfold rd at r1
      obtain ⟨a, vs, rfl, h1, h2⟩ := r1
      exact ⟨a, rfl, .inl ⟨⟨vs, ok1.fz.seq h1⟩, q _ F1 H1 _ _ _ S1 hk ok1 e1 (yl_lst h1 h2)⟩⟩
    | @tup xs =>
      unfold rd at r1
      obtain ⟨a, vs, rfl, h1, h2⟩ := r1
      exact ⟨a, rfl, .inr ⟨⟨vs, SqT.of (ok1.fz _ _ h1)⟩, q _ F1 H1 _ _ _ S1 hk ok1 e1 (yl_tup h1 h2)⟩⟩
    | @own a xs j hj =>
      rw [rd_v] at r1
      subst r1
      obtain ⟨vs, h1, h2⟩ := ok1.he _ (List.mem_of_getElem? hj)
      exact ⟨a, rfl, .inl ⟨⟨vs, SqL.of h1⟩, q _ F1 H1 _ _ _ S1 hk ok1 e1 yl_own⟩⟩
theorem yl_rng {K : PySem.W.Frag} {F : Hp} {lo : Int} {n : Nat} : Yl K B (Itr lo n) n (fun i => .int (lo + i)) (fun _ => True) F where
  mn := fun _ _ h => h
  go := fun i G S F' σ H hi ok e _ => hi
  stop := fun G S F' σ H ok e _ => Nat.le_refl _
  yld := fun i G S F' σ H x H' hi ok e _ ⟨eh, hx⟩ => by
    subst eh
    exact ⟨F', ok, Same.refl F', rd_v.mpr hx⟩
theorem wI_rng1 {tg a : Expr} {p pos : Pos} (hm : X.mg "range" = none) (h : wE X B a (fun x S1 => One x fun j => Cnd (-(2 ^ 62) ≤ j ∧ j < 2 ^ 62) (ki j.toNat (fun i => .int (0 + i)) (fun _ => True) S1)) G S)
    (hg : Gl X "range" := by rfl) (hs : starEach [a] X.env = [(false, eval a X.env)] := by rfl) : wI X B tg (.Call (.Name "range" p) [a] [] pos) ki G S :=
  wI_of (pi_range1 hg hm (pa_cons pe_t pa_nil hs) hs) fun F σ H R ok q => h F σ H _ ok fun v F1 H1 d S1 ⟨j, ed, ⟨h1, h2⟩, hk⟩ ok1 e1 r1 => by
    subst ed
    rw [rd_v] at r1
    subst r1
    exact ⟨j, rfl, h1, h2, q _ F1 H1 _ _ _ S1 hk ok1 e1 yl_rng⟩
theorem wI_rng2 {tg a b : Expr} {p pos : Pos} (hm : X.mg "range" = none)
    (h : wE X B a (fun x S1 => wE X B b (fun y S2 => Two x y fun i j => Cnd (-(2 ^ 62) ≤ i ∧ i < 2 ^ 62 ∧ -(2 ^ 62) ≤ j ∧ j < 2 ^ 62) (ki (j - i).toNat (fun t => .int (i + t)) (fun _ => True) S2)) G S1) G S)
    (hg : Gl X "range" := by rfl) (hs : starEach [a, b] X.env = [(false, eval a X.env), (false, eval b X.env)] := by rfl) (hs2 : starEach [b] X.env = [(false, eval b X.env)] := by rfl)
    (hs3 : starEach [a, b] X.env = (false, eval a X.env) :: starEach [b] X.env := by rfl) : wI X B tg (.Call (.Name "range" p) [a, b] [] pos) ki G S :=
  wI_of (pi_range2 hg hm (pa_cons pe_t (pa_cons pe_t pa_nil hs2) hs3) hs hs2) fun F σ H R ok q => h F σ H _ ok fun v F1 H1 d S1 h1 ok1 e1 r1 => h1 F1 σ H1 _ ok1 fun v2 F2 H2 d2 S2 ⟨i, j, ed, ed2, hb, hk⟩ ok2 e2 r2 => by
    subst ed
    subst ed2
    rw [rd_v] at r1 r2
    subst r1
    subst r2
    exact ⟨i, j, rfl, hb, q _ F2 H2 _ _ _ S2 hk ok2 (e1.trans e2) yl_rng⟩
/-! ### for -/
theorem WS_for {K : PySem.W.Frag} {wi : TI} {g : TG} {tb : TS} (h : WI K B wi (fun n item gS S1 => ∃ I : Nat → Gm → Cks → Prop, I 0 G S1 ∧ (∀ i G' S', I i G' S' → gS S') ∧
      (∀ i G' S', i < n → I i G' S' → WG K B g (item i) (fun G2 S2 => WS K B tb { N with nx := I (i + 1), ct := I (i + 1), bk := N.nx } G2 S2) G' S') ∧ ∀ G' S', I n G' S' → N.nx G' S') G S) : WS K B (tFor wi g tb) N G S := fun F σ H E ok re =>
  h F σ H _ ok fun J F1 H1 n item gS S1 ⟨I, h0, hg, hb, he⟩ ok1 e1 yl => by
    refine ⟨fun i m σ' H' => m = n - i ∧ i ≤ n ∧ ∃ G' S' F', I i G' S' ∧ Ok K B G' S' F' σ' H' ∧ Same F1 F', ⟨n - 0, rfl, Nat.zero_le _, G, S1, F1, h0, ok1, Same.refl F1⟩, ?_⟩
    rintro i m σ' H' ⟨rfl, hi, G', S', F', hI, ok', e'⟩
    by_cases hn : i < n
    · refine .inr ⟨yl.go i G' S' F' σ' H' hn ok' e' (hg _ _ _ hI), fun σ2 H2 => ∃ G2 S2 F2, I (i + 1) G2 S2 ∧ Ok K B G2 S2 F2 σ2 H2 ∧ Same F1 F2, fun σ2 H2 ⟨G2, S2, F2, a, b, c⟩ => ⟨n - (i + 1), by omega, rfl, by omega, G2, S2, F2, a, b, c⟩, fun x H2 hy => ?_⟩
      obtain ⟨F2, ok2, e2, r2⟩ := yl.yld i G' S' F' σ' H' x H2 hn ok' e' (hg _ _ _ hI) hy
      refine hb i G' S' hn hI F2 σ' H2 _ x ok2 r2 fun G3 S3 F3 σ3 H3 w ok3 e3 => w F3 σ3 H3 _ ok3 ?_
      have e13 : Same F1 F3 := (e'.trans e2).trans e3
      exact ⟨fun G4 S4 F4 σ4 H4 n4 ok4 e4 => ⟨G4, S4, F4, n4, ok4, e13.trans e4⟩, fun d v G4 S4 F4 σ4 H4 n4 ok4 e4 r4 => re.rt d v G4 S4 F4 σ4 H4 n4 ok4 ((e1.trans e13).trans e4) r4,
        fun G4 S4 F4 σ4 H4 n4 ok4 e4 => re.nx G4 S4 F4 σ4 H4 n4 ok4 ((e1.trans e13).trans e4), fun G4 S4 F4 σ4 H4 n4 ok4 e4 => ⟨G4, S4, F4, n4, ok4, e13.trans e4⟩⟩
    · have hin : i = n := Nat.le_antisymm hi (Nat.not_lt.mp hn)
      subst hin
      exact .inl ⟨yl.stop G' S' F' σ' H' ok' e' (hg _ _ _ hI), re.nx G' S' F' σ' H' (he _ _ hI) ok' (e1.trans e')⟩
theorem ws_for {tg iter : Expr} {body : List Stmt} {pos : Pos} {g : TG} (hp : PassesOwn (model X.prog X.w) X.A X.env X.xe) (hg : PG X tg g)
    (h : wI X B tg iter (fun n item gS S1 => ∃ I : Nat → Gm → Cks → Prop, I 0 G S1 ∧ (∀ i G' S', I i G' S' → gS S') ∧
      (∀ i G' S', i < n → I i G' S' → WG X.K B g (item i) (fun G2 S2 => wSs X B body { N with nx := I (i + 1), ct := I (i + 1), bk := N.nx } G2 S2) G' S') ∧ ∀ G' S', I n G' S' → N.nx G' S') G S) (hc : X.calm = true := by rfl) (hf : ∀ x, foldedSetIterable iter X.env x = pure x := by intro _; rfl) :
    wS X B (.For tg iter body [] pos) N G S := wS_of (ps_for hp hc pi_t hg pss_t hf) (WS_for h)
/-! ### while -/
theorem WS_while {K : PySem.W.Frag} {t : TT} {tb : TS} {I : Nat → Gm → Cks → Prop} {m0 : Nat} (h0 : I m0 G S)
    (h : ∀ m G' S', I m G' S' → WT K B t (fun b S1 => (b = true → WS K B tb { N with nx := fun G2 S2 => ∃ m', m' < m ∧ I m' G2 S2, ct := fun G2 S2 => ∃ m', m' < m ∧ I m' G2 S2, bk := N.nx } G' S1) ∧ (b = false → N.nx G' S1)) G' S') : WS K B (tWhile t tb) N G S := fun F σ H E ok re => by
  refine ⟨fun m σ' H' => ∃ G' S' F', I m G' S' ∧ Ok K B G' S' F' σ' H' ∧ Same F F', ⟨m0, G, S, F, h0, ok, Same.refl F⟩, ?_⟩
  rintro m σ' H' ⟨G', S', F', hI, ok', e'⟩
  refine h m G' S' hI F' σ' H' _ ok' fun b F1 H1 S1 h1 ok1 e1 => ?_
  cases b with
  | true =>
    refine ⟨fun σ2 H2 => ∃ m', m' < m ∧ ∃ G2 S2 F2, I m' G2 S2 ∧ Ok K B G2 S2 F2 σ2 H2 ∧ Same F F2, fun σ2 H2 ⟨m', a, b⟩ => ⟨m', a, b⟩, ?_⟩
    refine h1.1 rfl F1 σ' H1 _ ok1 ⟨fun G4 S4 F4 σ4 H4 ⟨m', hm, n4⟩ ok4 e4 => ⟨m', hm, G4, S4, F4, n4, ok4, (e'.trans e1).trans e4⟩, fun d v G4 S4 F4 σ4 H4 n4 ok4 e4 r4 => re.rt d v G4 S4 F4 σ4 H4 n4 ok4 ((e'.trans e1).trans e4) r4,
      fun G4 S4 F4 σ4 H4 n4 ok4 e4 => re.nx G4 S4 F4 σ4 H4 n4 ok4 ((e'.trans e1).trans e4), fun G4 S4 F4 σ4 H4 ⟨m', hm, n4⟩ ok4 e4 => ⟨m', hm, G4, S4, F4, n4, ok4, (e'.trans e1).trans e4⟩⟩
  | false => exact re.nx G' S1 F1 σ' H1 (h1.2 rfl) ok1 (e'.trans e1)
theorem ws_while {c : Expr} {body : List Stmt} {pos : Pos} (hp : PassesOwn (model X.prog X.w) X.A X.env X.xe) (I : Nat → Gm → Cks → Prop) (m0 : Nat) (h0 : I m0 G S)
    (h : ∀ m G' S', I m G' S' → wT X B c (fun b S1 => (b = true → wSs X B body { N with nx := fun G2 S2 => ∃ m', m' < m ∧ I m' G2 S2, ct := fun G2 S2 => ∃ m', m' < m ∧ I m' G2 S2, bk := N.nx } G' S1) ∧ (b = false → N.nx G' S1)) G' S') :
    wS X B (.While c body [] pos) N G S := wS_of (ps_while hp pt_t pss_t) (WS_while h0 h)
end
end Sy
set_option Elab.async false
set_option maxRecDepth 100000
set_option linter.unusedVariables false
namespace Sy
open PySem L2 PySem.Spec PyProof.Rows
section
variable {K : PySem.W.Frag} {B : Base} {k : D → Cks → Prop} {G : Gm} {S : Cks}
/-! ### operators on values -/
theorem WR_pure {r : R2} {x y : D} {z : V} (h : ∀ F H vx vy (Q : VK), rd K F x vx → rd K F y vy → Same F H → Q z H → r vx vy H Q) (hk : k (.v z) S) : WR K B r x y k G S := fun F σ H Q vx vy ok rx ry q =>
  h F H vx vy Q rx ry ok.fz (q z F H _ S hk ok (Same.refl F) (rd_v.mpr rfl))
theorem WR_or1 {r r' : R2} {x y : D} (h : WR K B r x y k G S) : WR K B (fun x y H Q => r x y H Q ∨ r' x y H Q) x y k G S := fun F σ H Q vx vy ok rx ry q => .inl (h F σ H Q vx vy ok rx ry q)
theorem WR_or2 {r r' : R2} {x y : D} (h : WR K B r' x y k G S) : WR K B (fun x y H Q => r x y H Q ∨ r' x y H Q) x y k G S := fun F σ H Q vx vy ok rx ry q => .inr (h F σ H Q vx vy ok rx ry q)
theorem WR_i0 {g : Int → Int → V} {i j : Int} (hk : k (.v (g i j)) S) : WR K B (rI0 g) (.int i) (.int j) k G S :=
  WR_pure (z := g i j) (fun F H vx vy Q rx ry _ q => ⟨i, j, rd_v.mp rx, rd_v.mp ry, q⟩) hk
theorem WR_i {C : Int → Int → Prop} {g : Int → Int → V} {i j : Int} (hc : C i j) (hk : k (.v (g i j)) S) : WR K B (rI C g) (.int i) (.int j) k G S :=
  WR_pure (z := g i j) (fun F H vx vy Q rx ry _ q => ⟨i, j, rd_v.mp rx, rd_v.mp ry, hc, q⟩) hk
end
section
variable {X : Cx} {B : Base} {k : D → Cks → Prop} {kb : Bool → Cks → Prop} {G : Gm} {S : Cks} {a b : Expr} {pos : Pos}
/-- each operator's rule, for whatever it is asked -/
def rAddU (K : PySem.W.Frag) : R2 := fun x y H Q => (∃ i j, x = .int i ∧ y = .int j ∧ Q (.int (i + j)) H) ∨ ((∃ i j, x = .str i ∧ y = .str j ∧ i.length + j.length ≤ sizeLine ∧ Q (.str (i ++ j)) H) ∨ (rCatT K x y H Q ∨ rCat x y H Q))
theorem op_addU : OpR X (binaryOp .Add) (rAddU X.K) := OpR.or (r := rI0 fun i j => .int (i + j)) op_add (OpR.or op_add_str (OpR.or op_catT op_cat))
def rMulU : R2 := fun x y H Q => (rI CMulW fun i j => .int (i * j)) x y H Q ∨ rRep x y H Q
theorem op_mulU : OpR X (binaryOp .Mult) rMulU := OpR.or op_mulW op_rep
theorem wr_addI {i j : Int} (hk : k (.int (i + j)) S) : WR X.K B (rAddU X.K) (.int i) (.int j) k G S := WR_or1 (r := rI0 fun i j => .int (i + j)) (WR_i0 (g := fun i j => .int (i + j)) hk)
theorem w_add (h : wE X B a (fun x S1 => wE X B b (fun y S2 => WR X.K B (rAddU X.K) x y k G S2) G S1) G S) : wE X B (.BinOp a .Add b pos) k G S := w_bin op_addU h
theorem w_sub (h : wE X B a (fun x S1 => wE X B b (fun y S2 => Two x y fun i j => k (.int (i - j)) S2) G S1) G S) : wE X B (.BinOp a .Sub b pos) k G S :=
  w_bin op_sub fun F σ H Q ok q => h F σ H Q ok fun v F1 H1 d S1 h1 ok1 e1 r1 => q v F1 H1 d S1 (fun F2 σ2 H2 Q2 ok2 q2 => h1 F2 σ2 H2 Q2 ok2 fun v3 F3 H3 d3 S3 ⟨i, j, e, e', hk⟩ ok3 e3 r3 => q2 v3 F3 H3 d3 S3 (by
    subst e e'
    exact WR_i0 (g := fun i j => .int (i - j)) hk) ok3 e3 r3) ok1 e1 r1
/-- an operator on two ints -/
theorem w_binI {op : Operator} {C : Int → Int → Prop} {g : Int → Int → Int} (ho : OpR X (binaryOp op) (rI C fun i j => .int (g i j)))
    (h : wE X B a (fun x S1 => wE X B b (fun y S2 => Two x y fun i j => Cnd (C i j) (k (.int (g i j)) S2)) G S1) G S) : wE X B (.BinOp a op b pos) k G S :=
  w_bin ho fun F σ H Q ok q => h F σ H Q ok fun v F1 H1 d S1 h1 ok1 e1 r1 => q v F1 H1 d S1 (fun F2 σ2 H2 Q2 ok2 q2 => h1 F2 σ2 H2 Q2 ok2 fun v3 F3 H3 d3 S3 ⟨i, j, e, e', hc, hk⟩ ok3 e3 r3 => q2 v3 F3 H3 d3 S3 (by
    subst e e'
    exact WR_i (g := fun i j => .int (g i j)) hc hk) ok3 e3 r3) ok1 e1 r1
theorem w_binI0 {op : Operator} {g : Int → Int → Int} (ho : OpR X (binaryOp op) (rI0 fun i j => .int (g i j)))
    (h : wE X B a (fun x S1 => wE X B b (fun y S2 => Two x y fun i j => k (.int (g i j)) S2) G S1) G S) : wE X B (.BinOp a op b pos) k G S :=
  w_bin ho fun F σ H Q ok q => h F σ H Q ok fun v F1 H1 d S1 h1 ok1 e1 r1 => q v F1 H1 d S1 (fun F2 σ2 H2 Q2 ok2 q2 => h1 F2 σ2 H2 Q2 ok2 fun v3 F3 H3 d3 S3 ⟨i, j, e, e', hk⟩ ok3 e3 r3 => q2 v3 F3 H3 d3 S3 (by
    subst e e'
    exact WR_i0 (g := fun i j => .int (g i j)) hk) ok3 e3 r3) ok1 e1 r1
theorem w_mod (h : wE X B a (fun x S1 => wE X B b (fun y S2 => Two x y fun i j => Cnd (0 < j) (k (.int (i % j)) S2)) G S1) G S) : wE X B (.BinOp a .Mod b pos) k G S := w_binI (C := fun _ j => 0 < j) (g := fun i j => i % j) op_mod h
theorem w_fdiv (h : wE X B a (fun x S1 => wE X B b (fun y S2 => Two x y fun i j => Cnd (CDivW i j) (k (.int (i / j)) S2)) G S1) G S) : wE X B (.BinOp a .FloorDiv b pos) k G S := w_binI (C := CDivW) (g := fun i j => i / j) op_fdivW h
theorem w_pow (h : wE X B a (fun x S1 => wE X B b (fun y S2 => Two x y fun i j => Cnd (CPow i j) (k (.int (i ^ j.toNat)) S2)) G S1) G S) : wE X B (.BinOp a .Pow b pos) k G S := w_binI (C := CPow) (g := fun i j => i ^ j.toNat) op_pow h
theorem w_shl (h : wE X B a (fun x S1 => wE X B b (fun y S2 => Two x y fun i j => Cnd (CPow i j) (k (.int (i * 2 ^ j.toNat)) S2)) G S1) G S) : wE X B (.BinOp a .LShift b pos) k G S := w_binI (C := CPow) (g := fun i j => i * 2 ^ j.toNat) op_shl h
theorem w_shr (h : wE X B a (fun x S1 => wE X B b (fun y S2 => Two x y fun i j => Cnd (0 ≤ j) (k (.int (i / 2 ^ j.toNat)) S2)) G S1) G S) : wE X B (.BinOp a .RShift b pos) k G S := w_binI (C := fun _ j => 0 ≤ j) (g := fun i j => i / 2 ^ j.toNat) op_shr h
theorem w_band (h : wE X B a (fun x S1 => wE X B b (fun y S2 => Two x y fun i j => k (.int (Builtin.bitAnd i j)) S2) G S1) G S) : wE X B (.BinOp a .BitAnd b pos) k G S := w_binI0 (g := Builtin.bitAnd) op_and h
theorem w_bor (h : wE X B a (fun x S1 => wE X B b (fun y S2 => Two x y fun i j => k (.int (Builtin.bitOr i j)) S2) G S1) G S) : wE X B (.BinOp a .BitOr b pos) k G S := w_binI0 (g := Builtin.bitOr) op_or h
theorem w_xor (h : wE X B a (fun x S1 => wE X B b (fun y S2 => Two x y fun i j => k (.int (Builtin.bitXor i j)) S2) G S1) G S) : wE X B (.BinOp a .BitXor b pos) k G S := w_binI0 (g := Builtin.bitXor) op_xor h
end
end Sy
set_option Elab.async false
set_option maxRecDepth 100000
set_option linter.unusedVariables false
namespace Sy
open PySem L2 PySem.Spec PyProof.Rows
section
variable {K : PySem.W.Frag} {B : Base} {G : Gm} {S : Cks} {F H : Hp} {σ : L2.St}
/-- a new object of which nothing is told -/
theorem Hs.junk (h : Hs K B S F H) {p : Addr} {o : HO} (hp : H p = none) : Hs K B S F (upd H p o) where
  he := fun d hd => d.mono (Same.refl F) (fun a ha => upd_ne (fun z => by subst z; exact d.live (h.he d hd) a ha hp)) (h.he d hd)
  fz := fun b u e => by
    rw [upd_ne (ne_of_none (h.fz b u e) hp)]
    exact h.fz b u e
  dj := h.dj
  nd := h.nd
  f1 := fun a u e hA => by
    have := h.f1 a u e hA
    rw [upd_ne (ne_of_none this hp)]
    exact this
  f2 := h.f2
  f3 := h.f3
  f4 := h.f4
  f5 := fun a ha => by
    by_cases e : a = p
    · subst e; rw [upd_same]; exact fun z => nomatch z
    · rw [upd_ne e]; exact h.f5 a ha
end
section
variable {K : PySem.W.Frag} {B : Base} {k : D → Cks → Prop} {G : Gm} {S : Cks}
/-- what comes of an expression, from now on never changed -/
theorem W_frzL {t : TE} (h : W K B t (fun d S1 => ∃ a xs, ∃ j : Nat, d = .ref a ∧ S1[j]? = some (ckL a xs) ∧ k (.lst xs) (S1.eraseIdx j)) G S) : W K B t k G S := fun F σ H Q ok q =>
  h F σ H Q ok fun v F1 H1 d S1 ⟨a, xs, j, ed, hj, hk⟩ ok1 e1 r1 => by
    subst ed
    rw [rd_v] at r1
    subst r1
    obtain ⟨vs, h1, h2⟩ := ok1.he _ (List.mem_of_getElem? hj)
    obtain ⟨g1, g2⟩ := ok1.toHs.freeze hj rfl h1
    refine q _ _ H1 _ _ hk (ok1.to g1 g2) (e1.trans g2) ?_
    unfold rd
    exact ⟨a, vs, rfl, .inl (.inl upd_same), rds_mono g2 _ _ h2⟩
theorem W_frzI {t : TE} (h : W K B t (fun d S1 => ∃ a C fs, ∃ j : Nat, d = .ref a ∧ S1[j]? = some (ckI a C fs) ∧ k (.ins C fs) (S1.eraseIdx j)) G S) : W K B t k G S := fun F σ H Q ok q =>
  h F σ H Q ok fun v F1 H1 d S1 ⟨a, C, fs, j, ed, hj, hk⟩ ok1 e1 r1 => by
    subst ed
    rw [rd_v] at r1
    subst r1
    obtain ⟨dx, gs, h1, h2⟩ := ok1.he _ (List.mem_of_getElem? hj)
    obtain ⟨g1, g2⟩ := ok1.toHs.freeze hj rfl h1
    refine q _ _ H1 _ _ hk (ok1.to g1 g2) (e1.trans g2) ?_
    unfold rd
    exact ⟨a, dx, gs, rfl, upd_same, rfs_mono g2 _ _ h2⟩
/-- a slot's list, from now on never changed -/
theorem WS_frz {t : TS} {N : En} {a : Addr} {xs : List D} (i j : Nat) (hi : G[i]? = some (some (.ref a))) (hj : S[j]? = some (ckL a xs)) (h : WS K B t N (G.set i (some (.lst xs))) (S.eraseIdx j)) : WS K B t N G S := fun F σ H E ok re => by
  obtain ⟨v, h1, h2⟩ := ok.sl i _ hi
  rw [rd_v] at h2
  subst h2
  obtain ⟨vs, g1, g2⟩ := ok.he _ (List.mem_of_getElem? hj)
  obtain ⟨f1, f2⟩ := ok.toHs.freeze hj rfl g1
  have ok1 := (ok.to f1 f2).set (d := .lst xs) (v := .ref a) (by unfold rd; exact ⟨a, vs, rfl, .inl (.inl upd_same), rds_mono f2 _ _ g2⟩) i
  have hs : σ.set i (some (.ref a)) = σ := by
    have hl := (List.getElem?_eq_some_iff.mp h1)
    obtain ⟨hl, he⟩ := hl
    exact List.ext_getElem (by simp) fun n h1 h2 => by
      by_cases hn : i = n
      · subst hn; rw [List.getElem_set_self, he]
      · rw [List.getElem_set_ne hn]
  rw [hs] at ok1
  exact h _ σ H E ok1 (re.of f2)
/-- a dict that is walked just now -/
def ckZ (a : Addr) (od : Obj) (ws : List (Key × V)) (kvs : List (Key × D)) : Ck where
  ads := [a]
  ok := fun K F H => H a = some (.frz od (.dK ws)) ∧ rks K F kvs ws
  mono := fun e k ⟨h1, h2⟩ => ⟨by rw [k a (by simp)]; exact h1, rks_mono e _ _ h2⟩
  live := fun ⟨h1, _⟩ b hb => by simp at hb; subst hb; rw [h1]; exact fun z => nomatch z
/-! ### an item by its place, by its key -/
def kD (k : Key) : D := .v (kV k)
inductive IxD (S : Cks) : D → D → D → Prop
  | lst {xs : List D} {i : Int} {d : D} : atI xs i = some d → IxD S (.lst xs) (.int i) d
  | tup {xs : List D} {i : Int} {d : D} : atI xs i = some d → IxD S (.tup xs) (.int i) d
  | own {a : Addr} {xs : List D} {i : Int} {d : D} (j : Nat) : S[j]? = some (ckL a xs) → atI xs i = some d → IxD S (.ref a) (.int i) d
  | dctI {a : Addr} {kvs : List (Key × D)} {n : Int} {d : D} (j : Nat) : S[j]? = some (ckD a kvs) → getK kvs (.inl n) = some d → IxD S (.ref a) (.int n) d
  | dctS {a : Addr} {kvs : List (Key × D)} {n : Str} {d : D} (j : Nat) : S[j]? = some (ckD a kvs) → getK kvs (.inr n) = some d → IxD S (.ref a) (.str n) d
  | dzI {a : Addr} {od : Obj} {ws : List (Key × V)} {kvs : List (Key × D)} {n : Int} {d : D} (j : Nat) : S[j]? = some (ckZ a od ws kvs) → getK kvs (.inl n) = some d → IxD S (.ref a) (.int n) d
  | dzS {a : Addr} {od : Obj} {ws : List (Key × V)} {kvs : List (Key × D)} {n : Str} {d : D} (j : Nat) : S[j]? = some (ckZ a od ws kvs) → getK kvs (.inr n) = some d → IxD S (.ref a) (.str n) d
  | str {z : Str} {i : Int} {c : Nat} : z.length ≤ sizeLine → atI z.cps.toList i = some c → IxD S (.str z) (.int i) (.str ⟨#[c]⟩)
theorem rds_atI {F : Hp} {xs : List D} {vs : List V} {i : Int} {d : D} (h : rds K F xs vs) (e : atI xs i = some d) : ∃ v, atI vs i = some v ∧ rd K F d v := by
  unfold atI at e ⊢
  rw [← rds_len h]
  obtain ⟨j, h1, h2⟩ := Option.bind_eq_some_iff.mp e
  obtain ⟨v, h3, h4⟩ := rds_get h h2
  exact ⟨v, Option.bind_eq_some_iff.mpr ⟨j, h1, h3⟩, h4⟩
def rIxU (K : PySem.W.Frag) : R2 := fun x y H Q => rIx K x y H Q ∨ ∃ a v, x = .ref a ∧ DGet H a y (some v) ∧ Q v H
theorem wr_ix {x y d : D} (h : IxD S x y d) (hk : k d S) : WR K B (rIxU K) x y k G S := fun F σ H Q vx vy ok rx ry q => by
  have fin : ∀ v, rd K F d v → Q v H := fun v r => q v F H d S hk ok (Same.refl F) r
  cases h with
  | @lst xs i d e =>
    unfold rd at rx
    obtain ⟨a, vs, rfl, h1, h2⟩ := rx
    obtain ⟨v, h3, h4⟩ := rds_atI h2 e
    exact .inl (.inl ⟨a, vs, i, v, rfl, rd_v.mp ry, ok.fz.seq h1, h3, fin v h4⟩)
  | @tup xs i d e =>
    unfold rd at rx
    obtain ⟨a, vs, rfl, h1, h2⟩ := rx
    obtain ⟨v, h3, h4⟩ := rds_atI h2 e
    exact .inl (.inr (.inl ⟨a, vs, i, v, rfl, rd_v.mp ry, SqT.of (ok.fz _ _ h1), h3, fin v h4⟩))
  | @own a xs i d j hj e =>
    obtain ⟨vs, h1, h2⟩ := ok.he _ (List.mem_of_getElem? hj)
    obtain ⟨v, h3, h4⟩ := rds_atI h2 e
    exact .inl (.inl ⟨a, vs, i, v, rd_v.mp rx, rd_v.mp ry, SqL.of h1, h3, fin v h4⟩)
  | @dctI a kvs n d j hj e =>
    obtain ⟨vs, h1, h2⟩ := ok.he _ (List.mem_of_getElem? hj)
    obtain ⟨v, h3, h4⟩ := rks_get h2 e
    refine .inr ⟨a, v, rd_v.mp rx, .inl ⟨vs, .inl n, .inl h1, rd_v.mp ry, h3.symm⟩, fin v h4⟩
  | @dctS a kvs n d j hj e =>
    obtain ⟨vs, h1, h2⟩ := ok.he _ (List.mem_of_getElem? hj)
    obtain ⟨v, h3, h4⟩ := rks_get h2 e
    refine .inr ⟨a, v, rd_v.mp rx, .inl ⟨vs, .inr n, .inl h1, rd_v.mp ry, h3.symm⟩, fin v h4⟩
  | @dzI a od ws kvs n d j hj e =>
    obtain ⟨h1, h2⟩ := ok.he _ (List.mem_of_getElem? hj)
    obtain ⟨v, h3, h4⟩ := rks_get h2 e
    refine .inr ⟨a, v, rd_v.mp rx, .inl ⟨ws, .inl n, .inr ⟨od, h1⟩, rd_v.mp ry, h3.symm⟩, fin v h4⟩
  | @dzS a od ws kvs n d j hj e =>
    obtain ⟨h1, h2⟩ := ok.he _ (List.mem_of_getElem? hj)
    obtain ⟨v, h3, h4⟩ := rks_get h2 e
    refine .inr ⟨a, v, rd_v.mp rx, .inl ⟨ws, .inr n, .inr ⟨od, h1⟩, rd_v.mp ry, h3.symm⟩, fin v h4⟩
  | @str z i c hz e => exact .inl (.inr (.inr ⟨z, i, c, rd_v.mp rx, rd_v.mp ry, hz, e, fin _ (rd_v.mpr rfl)⟩))
end
section
variable {X : Cx} {B : Base} {k : D → Cks → Prop} {kb : Bool → Cks → Prop} {ka : List D → Cks → Prop} {G : Gm} {S : Cks} {N : En} {a b e o c : Expr} {es : List Expr} {pos apos cpos pos2 : Pos}
theorem ix_dict (hu : X.A.units + 1 < cLine) : IxR X (fun x y H Q => ∃ a v, x = .ref a ∧ DGet H a y (some v) ∧ Q v H) := by
  intro value slice pins s σ H x y v u Q I rx ry ⟨a, w, ex, g, q⟩ hs
  subst ex
  obtain rfl : v = Value.ref a := rx
  exact tail_any (dict_typeIs I g) PySem.F.slot_dict_getitem.lookup (d_getItem hu I g ry fun w' s3 I3 rw' => ⟨w, H, I3, rw', q⟩) hs
theorem w_ix (hu : X.A.units + 1 < cLine) (h : wE X B a (fun x S1 => wE X B b (fun y S2 => WR X.K B (rIxU X.K) x y k G S2) G S1) G S) (hs : PlainIx b := by exact fun _ _ => rfl) : wE X B (.Subscript a b pos) k G S :=
  wE_of (pe_ix (IxR.or (IxR.or ix_list (IxR.or ix_tup ix_str)) (ix_dict hu)) pe_t pe_t hs) (W_op h)
/-! ### built-ins by their names -/
theorem w_callB {id : String} {r : List V → Hp → VK → Prop} {x : Str} {p : Pos} (hc : CallR X (.builtin id) r) (hm : X.mg x = none) (hv : bootBuiltins x = some (.builtin id)) (h : wA X B (e :: es) (fun xs S1 => WC X.K B r xs k G S1) G S) (hg : Gl X x := by rfl)
    (hn : x ≠ "__name__" := by decide) (hdb : (x == ("__debug__" : Str)) = false := by decide) (he : starEach (e :: es) X.env = (false, eval e X.env) :: starEach es X.env := by rfl) (hpl : (backTo pos (starEach es X.env)).any (·.1) = false := by rfl) :
    wE X B (.Call (.Name x p) (e :: es) [] pos) k G S := wE_of (pe_callB hc hg hm hv pa_t hn hdb he hpl) fun F σ H Q ok q => h F σ H _ ok fun vs F1 H1 xs S1 hw ok1 e1 r1 =>
      hw F1 σ H1 Q vs ok1 r1 fun v F2 H2 d S2 hk ok2 e2 r2 => q v F2 H2 d S2 hk ok2 (e1.trans e2) r2
theorem w_callTy {T : String} {r : List V → Hp → VK → Prop} {x : Str} {p : Pos} (hc : CallR X (.type T) r) (hm : X.mg x = none) (hv : bootBuiltins x = some (.type T)) (h : wA X B (e :: es) (fun xs S1 => WC X.K B r xs k G S1) G S) (hg : Gl X x := by rfl)
    (hn : x ≠ "__name__" := by decide) (hdb : (x == ("__debug__" : Str)) = false := by decide) (he : starEach (e :: es) X.env = (false, eval e X.env) :: starEach es X.env := by rfl) (hpl : (backTo pos (starEach es X.env)).any (·.1) = false := by rfl) :
    wE X B (.Call (.Name x p) (e :: es) [] pos) k G S := wE_of (pe_callTy hc hg hm hv pa_t hn hdb he hpl) fun F σ H Q ok q => h F σ H _ ok fun vs F1 H1 xs S1 hw ok1 e1 r1 =>
      hw F1 σ H1 Q vs ok1 r1 fun v F2 H2 d S2 hk ok2 e2 r2 => q v F2 H2 d S2 hk ok2 (e1.trans e2) r2
/-! len -/
def rLenU (K : PySem.W.Frag) : List V → Hp → VK → Prop := fun xs H Q => (∃ p ys, xs = [.ref p] ∧ (SqL K H p ys ∨ SqT K H p ys) ∧ Q (.int ys.length) H) ∨ ((∃ a kvs, xs = [V.ref a] ∧ H a = some (.dK kvs) ∧ Q (.int kvs.length) H) ∨ ∃ z, xs = [.str z] ∧ z.length ≤ sizeLine ∧ Q (.int z.length) H)
inductive LenD (S : Cks) : D → Nat → Prop
  | lst {xs : List D} : LenD S (.lst xs) xs.length
  | tup {xs : List D} : LenD S (.tup xs) xs.length
  | own {a : Addr} {xs : List D} (j : Nat) : S[j]? = some (ckL a xs) → LenD S (.ref a) xs.length
  | dct {a : Addr} {kvs : List (Key × D)} (j : Nat) : S[j]? = some (ckD a kvs) → LenD S (.ref a) kvs.length
  | str {z : Str} : z.length ≤ sizeLine → LenD S (.str z) z.length
theorem wc_one {r : List V → Hp → VK → Prop} {x : D} {K : PySem.W.Frag} (h : ∀ F σ H Q v, Ok K B G S F σ H → rd K F x v → (∀ v F' H' d S', k d S' → Ok K B G S' F' σ H' → Same F F' → rd K F' d v → Q v H') → r [v] H Q) : WC K B r [x] k G S := fun F σ H Q vs ok rx q => by
  obtain ⟨v, r', rfl, h1, h2⟩ := rds_cons.mp rx
  rw [rds_nil] at h2
  subst h2
  exact h F σ H Q v ok h1 q
theorem wc_len {x : D} {n : Nat} (h : LenD S x n) (hk : k (.int n) S) : WC X.K B (rLenU X.K) [x] k G S := wc_one fun F σ H Q v ok rx q => by
  have fin : Q (.int n) H := q _ F H _ S hk ok (Same.refl F) (rd_v.mpr rfl)
  cases h with
  | @lst xs =>
    unfold rd at rx
    obtain ⟨a, vs, rfl, h1, h2⟩ := rx
    exact .inl ⟨a, vs, rfl, .inl (ok.fz.seq h1), by rw [← rds_len h2]; exact fin⟩
  | @tup xs =>
    unfold rd at rx
    obtain ⟨a, vs, rfl, h1, h2⟩ := rx
    exact .inl ⟨a, vs, rfl, .inr (SqT.of (ok.fz _ _ h1)), by rw [← rds_len h2]; exact fin⟩
  | @own a xs j hj =>
    obtain ⟨vs, h1, h2⟩ := ok.he _ (List.mem_of_getElem? hj)
    exact .inl ⟨a, vs, by rw [rd_v.mp rx], .inl (SqL.of h1), by rw [← rds_len h2]; exact fin⟩
  | @dct a kvs j hj =>
    obtain ⟨vs, h1, h2⟩ := ok.he _ (List.mem_of_getElem? hj)
    exact .inr (.inl ⟨a, vs, by rw [rd_v.mp rx], h1, by rw [← rks_len h2]; exact fin⟩)
  | @str z hz => exact .inr (.inr ⟨z, by rw [rd_v.mp rx], hz, fin⟩)
theorem w_len {p : Pos} (hm : X.mg "len" = none) (h : wE X B a (fun x S1 => ∃ n, LenD S1 x n ∧ k (.int n) S1) G S) (hg : Gl X "len" := by rfl) (he : starEach (a :: []) X.env = (false, eval a X.env) :: starEach [] X.env := by rfl) (hpl : (backTo pos (starEach [] X.env)).any (·.1) = false := by rfl) :
    wE X B (.Call (.Name "len" p) [a] [] pos) k G S :=
  w_callB (CallR.or call_len_seq (CallR.or call_lenD call_len_str)) hm PySem.boot_len (wA_cons (fun F σ H Q ok q => h F σ H Q ok fun v F1 H1 d S1 ⟨n, hl, hk⟩ ok1 e1 r1 => q v F1 H1 d S1 (wA_nil (wc_len hl hk)) ok1 e1 r1) he) hg (by decide) (by decide) he hpl
/-! list(x), tuple(x) of a list or a tuple; list(d) of a dict -/
def rListU (K : PySem.W.Frag) : List V → Hp → VK → Prop := fun xs H Q => (∃ p ys, xs = [.ref p] ∧ (SqL K H p ys ∨ SqT K H p ys) ∧ ∀ l, H l = none → Q (.ref l) (upd H l (.lst ys))) ∨
  ∃ (a : Addr) (kvs : List (Key × V)), xs = [.ref a] ∧ Rd H a (.dK kvs) ∧ ∀ p, H p = none → Q (.ref p) (upd H p (.lst (kvs.map fun kv => kV kv.1)))
inductive ItD (S : Cks) : D → List D → Prop
  | lst {xs : List D} : ItD S (.lst xs) xs
  | tup {xs : List D} : ItD S (.tup xs) xs
  | own {a : Addr} {xs : List D} (j : Nat) : S[j]? = some (ckL a xs) → ItD S (.ref a) xs
  | dct {a : Addr} {kvs : List (Key × D)} (j : Nat) : S[j]? = some (ckD a kvs) → ItD S (.ref a) (kvs.map fun kv => kD kv.1)
theorem rks_keysD {K : PySem.W.Frag} {F : Hp} : ∀ {kvs : List (Key × D)} {vs : List (Key × V)}, rks K F kvs vs → rds K F (kvs.map fun kv => kD kv.1) (vs.map fun kv => kV kv.1)
  | [], vs, h => by rw [rks_nil] at h; subst h; exact rds_nil.mpr rfl
  | d :: ds, vs, h => by
    rw [rks_cons] at h
    obtain ⟨v, r, rfl, h2, h3⟩ := h
    exact rds_cons.mpr ⟨_, _, rfl, rd_v.mpr rfl, rks_keysD h3⟩
theorem wc_list {x : D} {xs : List D} (h : ItD S x xs) (hk : ∀ p, k (.ref p) (ckL p xs :: S)) : WC X.K B (rListU X.K) [x] k G S := wc_one fun F σ H Q v ok rx q => by
  have fin : ∀ vs, rds X.K F xs vs → ∀ l, H l = none → Q (.ref l) (upd H l (.lst vs)) := fun vs hv l hl =>
    q _ F _ _ _ (hk l) (ok.to (ok.toHs.alloc (c := ckL l xs) hl rfl ⟨vs, upd_same, hv⟩) (Same.refl F)) (Same.refl F) (rd_v.mpr rfl)
  cases h with
  | lst =>
    unfold rd at rx
    obtain ⟨a, vs, rfl, h1, h2⟩ := rx
    exact .inl ⟨a, vs, rfl, .inl (ok.fz.seq h1), fin vs h2⟩
  | tup =>
    unfold rd at rx
    obtain ⟨a, vs, rfl, h1, h2⟩ := rx
    exact .inl ⟨a, vs, rfl, .inr (SqT.of (ok.fz _ _ h1)), fin vs h2⟩
  | @own a xs j hj =>
    obtain ⟨vs, h1, h2⟩ := ok.he _ (List.mem_of_getElem? hj)
    exact .inl ⟨a, vs, by rw [rd_v.mp rx], .inl (SqL.of h1), fin vs h2⟩
  | @dct a kvs j hj =>
    obtain ⟨vs, h1, h2⟩ := ok.he _ (List.mem_of_getElem? hj)
    exact .inr ⟨a, vs, by rw [rd_v.mp rx], .inl h1, fin _ (rks_keysD h2)⟩
theorem w_list {p : Pos} (hm : X.mg "list" = none) (hc : X.calm = true) (h : wE X B a (fun x S1 => ∃ xs, ItD S1 x xs ∧ ∀ p, k (.ref p) (ckL p xs :: S1)) G S) (hg : Gl X "list" := by rfl) (he : starEach (a :: []) X.env = (false, eval a X.env) :: starEach [] X.env := by rfl) (hpl : (backTo pos (starEach [] X.env)).any (·.1) = false := by rfl) :
    wE X B (.Call (.Name "list" p) [a] [] pos) k G S :=
  w_callTy (CallR.or call_list_of (call_listD hc)) hm (by decide +kernel) (wA_cons (fun F σ H Q ok q => h F σ H Q ok fun v F1 H1 d S1 ⟨n, hl, hk⟩ ok1 e1 r1 => q v F1 H1 d S1 (wA_nil (wc_list hl hk)) ok1 e1 r1) he) hg (by decide) (by decide) he hpl
inductive SeqD (S : Cks) : D → List D → Prop
  | lst {xs : List D} : SeqD S (.lst xs) xs
  | tup {xs : List D} : SeqD S (.tup xs) xs
  | own {a : Addr} {xs : List D} (j : Nat) : S[j]? = some (ckL a xs) → SeqD S (.ref a) xs
theorem wc_tuple' {x : D} {xs : List D} (h : SeqD S x xs) (hk : k (.tup xs) S) : WC X.K B (fun xs H Q => ∃ p ys, xs = [.ref p] ∧ ((SqL X.K H p ys ∧ ∀ l, H l = none → Q (.ref l) (upd H l (.tup ys))) ∨ (SqT X.K H p ys ∧ Q (.ref p) H))) [x] k G S := wc_one fun F σ H Q v ok rx q => by
  have fin : ∀ vs, rds X.K F xs vs → ∀ l, H l = none → Q (.ref l) (upd H l (.tup vs)) := fun vs hv l hl => by
    obtain ⟨g1, g2⟩ := ok.toHs.allocF (o := .tup vs) hl
    exact q (.ref l) _ _ (.tup xs) S hk (ok.to g1 g2) g2 (by unfold rd; exact ⟨l, vs, rfl, upd_same, rds_mono g2 _ _ hv⟩)
  cases h with
  | lst =>
    unfold rd at rx
    obtain ⟨a, vs, rfl, h1, h2⟩ := rx
    exact ⟨a, vs, rfl, .inl ⟨ok.fz.seq h1, fin vs h2⟩⟩
  | tup =>
    have rx' := rx
    unfold rd at rx
    obtain ⟨a, vs, rfl, h1, h2⟩ := rx
    exact ⟨a, vs, rfl, .inr ⟨SqT.of (ok.fz _ _ h1), q _ F H _ S hk ok (Same.refl F) rx'⟩⟩
  | @own a xs j hj =>
    obtain ⟨vs, h1, h2⟩ := ok.he _ (List.mem_of_getElem? hj)
    exact ⟨a, vs, by rw [rd_v.mp rx], .inl ⟨SqL.of h1, fin vs h2⟩⟩
theorem w_tuple {p : Pos} (hm : X.mg "tuple" = none) (h : wE X B a (fun x S1 => ∃ xs, SeqD S1 x xs ∧ k (.tup xs) S1) G S) (hg : Gl X "tuple" := by rfl) (he : starEach (a :: []) X.env = (false, eval a X.env) :: starEach [] X.env := by rfl) (hpl : (backTo pos (starEach [] X.env)).any (·.1) = false := by rfl) :
    wE X B (.Call (.Name "tuple" p) [a] [] pos) k G S :=
  w_callTy call_tuple_of hm (by decide +kernel) (wA_cons (fun F σ H Q ok q => h F σ H Q ok fun v F1 H1 d S1 ⟨n, hl, hk⟩ ok1 e1 r1 => q v F1 H1 d S1 (wA_nil (wc_tuple' hl hk)) ok1 e1 r1) he) hg (by decide) (by decide) he hpl
/-! methods of lists -/
def rdTy (K : PySem.W.Frag) (B : Base) (G : Gm) (S : Cks) (T : String) (x : D) : Prop := ∀ F σ H v, Ok K B G S F σ H → rd K F x v → tyV K T v H
theorem w_bm {T id : String} {name : Str} {r : V → List V → Hp → VK → Prop} (pa : PlainAttrs T) (slot : Slot T name id) (hty : typeOf (.builtin id) = pure (.type "method_descriptor")) (hmt : MtR X id r)
    (h : wE X B o (fun x S1 => rdTy X.K B G S1 T x ∧ wA X B (e :: es) (fun xs S2 => WM X.K B r x xs k G S2) G S1) G S) (hbase : attributeBase o name X.env (eval o X.env) = eval o X.env := by rfl)
    (hfew : ((backTo cpos (starEach (e :: es) X.env)).all (fun x => !x.1) && (backToKw cpos (keywordEach [] X.env)).all (fun x => x.1.isSome)
      && decide ((e :: es).length + ([] : List Keyword).length + (if ([] : List Keyword).isEmpty then 0 else 1) < 30)) = true := by rfl)
    (hline : (apos.endLine == cpos.line) = true := by rfl) (hs : starEach (e :: es) X.env = (false, eval e X.env) :: starEach es X.env := by rfl) (hplain : (backTo cpos (starEach es X.env)).any (·.1) = false := by rfl) :
    wE X B (.Call (.Attribute o name apos) (e :: es) [] cpos) k G S := wE_of (pe_bm pa slot hty hmt pe_t pa_t hbase hfew hline hs hplain) fun F σ H Q ok q => h F σ H _ ok fun vx F1 H1 x S1 ⟨ty, hw⟩ ok1 e1 r1 =>
      ⟨ty F1 σ H1 vx ok1 r1, hw F1 σ H1 _ ok1 fun vs F2 H2 xs S2 hm ok2 e2 r2 => hm F2 σ H2 Q vx vs ok2 (rd_mono e2 _ _ r1) r2 fun v F3 H3 d S3 hk ok3 e3 r3 => q v F3 H3 d S3 hk ok3 ((e1.trans e2).trans e3) r3⟩
theorem w_bm0 {T id : String} {name : Str} {r : V → List V → Hp → VK → Prop} (pa : PlainAttrs T) (slot : Slot T name id) (hty : typeOf (.builtin id) = pure (.type "method_descriptor")) (hmt : MtR X id r)
    (h : wE X B o (fun x S1 => rdTy X.K B G S1 T x ∧ WM X.K B r x [] k G S1) G S) (hbase : attributeBase o name X.env (eval o X.env) = eval o X.env := by rfl) (hline : (apos.endLine == cpos.line) = true := by rfl) :
    wE X B (.Call (.Attribute o name apos) [] [] cpos) k G S := wE_of (pe_bm0 pa slot hty hmt pe_t hbase hline) fun F σ H Q ok q => h F σ H _ ok fun vx F1 H1 x S1 ⟨ty, hw⟩ ok1 e1 r1 =>
      ⟨ty F1 σ H1 vx ok1 r1, hw F1 σ H1 Q vx [] ok1 r1 (rds_nil.mpr rfl) fun v F3 H3 d S3 hk ok3 e3 r3 => q v F3 H3 d S3 hk ok3 (e1.trans e3) r3⟩
theorem rdTy_own {K : PySem.W.Frag} {a : Addr} {xs : List D} {j : Nat} (hj : S[j]? = some (ckL a xs)) : rdTy K B G S "list" (.ref a) := fun F σ H v ok r => by
  obtain ⟨vs, h1, h2⟩ := ok.he _ (List.mem_of_getElem? hj)
  rw [rd_v.mp r]
  exact .inl ⟨rfl, vs, SqL.of h1⟩
/-- a list of ours is changed -/
theorem Ok.writeL {K : PySem.W.Frag} {F H : Hp} {σ : L2.St} {p : Addr} {xs ys : List D} {us : List V} {j : Nat} (ok : Ok K B G S F σ H) (hj : S[j]? = some (ckL p xs)) (hy : rds K F ys us) : Ok K B G (S.set j (ckL p ys)) F σ (upd H p (.lst us)) :=
  ok.to (ok.toHs.write hj (p := p) (by simp [ckL]) rfl ⟨us, upd_same, hy⟩) (Same.refl F)
theorem Ok.writeD {K : PySem.W.Frag} {F H : Hp} {σ : L2.St} {p : Addr} {xs ys : List (Key × D)} {us : List (Key × V)} {j : Nat} (ok : Ok K B G S F σ H) (hj : S[j]? = some (ckD p xs)) (hy : rks K F ys us) : Ok K B G (S.set j (ckD p ys)) F σ (upd H p (.dK us)) :=
  ok.to (ok.toHs.write hj (p := p) (by simp [ckD]) rfl ⟨us, upd_same, hy⟩) (Same.refl F)
theorem wm_append {K : PySem.W.Frag} {p : Addr} {xs : List D} {y : D} {j : Nat} (hj : S[j]? = some (ckL p xs)) (hl : xs.length < 100000) (hk : k .non (S.set j (ckL p (xs ++ [y])))) : WM K B rAppend (.ref p) [y] k G S := fun F σ H Q vx vs ok rx rs q => by
  obtain ⟨v, r', rfl, h1, h2⟩ := rds_cons.mp rs
  rw [rds_nil] at h2
  subst h2
  obtain ⟨us, g1, g2⟩ := ok.he _ (List.mem_of_getElem? hj)
  exact ⟨p, us, v, rd_v.mp rx, rfl, g1, by rw [← rds_len g2, sizeLine_eq]; omega, q _ F _ _ _ hk (ok.writeL hj (rds_append g2 (rds_one h1))) (Same.refl F) (rd_v.mpr rfl)⟩
theorem w_append (h : wE X B o (fun x S1 => ∃ p, x = .ref p ∧ (∃ xs, ∃ j : Nat, S1[j]? = some (ckL p xs)) ∧ wE X B e (fun y S2 => ∃ xs, ∃ j : Nat, S2[j]? = some (ckL p xs) ∧ xs.length < 100000 ∧ k .non (S2.set j (ckL p (xs ++ [y])))) G S1) G S)
    (hbase : attributeBase o "append" X.env (eval o X.env) = eval o X.env := by rfl)
    (hfew : ((backTo cpos (starEach (e :: []) X.env)).all (fun x => !x.1) && (backToKw cpos (keywordEach [] X.env)).all (fun x => x.1.isSome)
      && decide ((e :: []).length + ([] : List Keyword).length + (if ([] : List Keyword).isEmpty then 0 else 1) < 30)) = true := by rfl)
    (hline : (apos.endLine == cpos.line) = true := by rfl) (hs : starEach (e :: []) X.env = (false, eval e X.env) :: starEach [] X.env := by rfl) (hplain : (backTo cpos (starEach [] X.env)).any (·.1) = false := by rfl) :
    wE X B (.Call (.Attribute o "append" apos) [e] [] cpos) k G S :=
  w_bm PySem.F.plainAttrs_list PySem.F.slot_list_append PySem.F.type_list_append mt_append (fun F σ H Q ok q => h F σ H Q ok fun v F1 H1 d S1 ⟨p, ed, ⟨xs, j, hj⟩, hw⟩ ok1 e1 r1 => q v F1 H1 d S1 ⟨by subst ed; exact rdTy_own hj, wA_cons (fun F σ H Q ok q =>
    hw F σ H Q ok fun v F1 H1 y S2 ⟨xs, j, hj, hl, hk⟩ ok2 e2 r2 => q v F1 H1 y S2 (wA_nil (by subst ed; exact wm_append hj hl hk)) ok2 e2 r2) hs⟩ ok1 e1 r1) hbase hfew hline hs hplain
/-! dicts -/
/-- d[k] = v -/
theorem ws_dput {value : Expr} {i : Expr} (hu : X.A.units + 1 < cLine) (h : wE X B value (fun y S1 => wE X B o (fun x S2 => wE X B i (fun kd S3 => ∃ p kvs key, ∃ j : Nat, x = .ref p ∧ kd = kD key ∧ S3[j]? = some (ckD p kvs) ∧ kvs.length < 100000 ∧ N.nx G (S3.set j (ckD p (setK kvs key y)))) G S2) G S1) G S)
    (hs : swapsWith value (some (.Subscript o i pos2)) pos.line X.env = pure false := by rfl) : wS X B (.Assign [.Subscript o i pos2] value pos) N G S :=
  wS_of (ps_dput hu pe_t pe_t pe_t hs) fun F σ H E ok re => h F σ H _ ok fun vy F1 H1 y S1 h1 ok1 e1 r1 => h1 F1 σ H1 _ ok1 fun vx F2 H2 x S2 h2 ok2 e2 r2 => h2 F2 σ H2 _ ok2 fun vk F3 H3 kd S3 ⟨p, kvs, key, j, ex, ek, hj, hl, hn⟩ ok3 e3 r3 => by
    subst ex ek
    obtain ⟨us, g1, g2⟩ := ok3.he _ (List.mem_of_getElem? hj)
    exact ⟨p, _, rd_v.mp r2, .inl ⟨us, key, g1, rd_v.mp r3, by rw [← rks_len g2, sizeLine_eq]; omega, rfl⟩, re.nx _ _ F3 σ _ hn (ok3.writeD hj (rks_put (rd_mono (e2.trans e3) _ _ r1) g2)) ((e1.trans e2).trans e3)⟩
/-- k in d -/
def rInU (K : PySem.W.Frag) (neg : Bool) : R2 := fun x y H Q => rIn K neg x y H Q ∨ ∃ a o, y = .ref a ∧ DGet H a x o ∧ Q (.bl (if neg then !o.isSome else o.isSome)) H
theorem op_inU (hu : X.A.units + 1 < cLine) : OpR X (compareOp .In) (rInU X.K false) := OpR.or op_in_seq fun pins s σ H x y v u Q I rx ry ⟨a, o, ey, g, q⟩ => by
  subst ey
  obtain rfl : u = Value.ref a := ry
  exact d_in hu I g rx fun s3 I3 => ⟨.bl o.isSome, H, I3, rfl, q⟩
theorem op_notInU (hu : X.A.units + 1 < cLine) : OpR X (compareOp .NotIn) (rInU X.K true) := OpR.or op_notIn_seq fun pins s σ H x y v u Q I rx ry ⟨a, o, ey, g, q⟩ => by
  subst ey
  obtain rfl : u = Value.ref a := ry
  exact d_notIn hu I g rx fun s3 I3 => ⟨.bl (!o.isSome), H, I3, rfl, q⟩
inductive InD (S : Cks) : D → D → Bool → Prop
  | dctI {a : Addr} {kvs : List (Key × D)} {n : Int} (j : Nat) : S[j]? = some (ckD a kvs) → InD S (.int n) (.ref a) (getK kvs (.inl n)).isSome
  | dctS {a : Addr} {kvs : List (Key × D)} {n : Str} (j : Nat) : S[j]? = some (ckD a kvs) → InD S (.str n) (.ref a) (getK kvs (.inr n)).isSome
  | lstI {ns : List Int} {n : Int} : InD S (.int n) (.lst (ns.map D.int)) (decide (n ∈ ns))
  | tupI {ns : List Int} {n : Int} : InD S (.int n) (.tup (ns.map D.int)) (decide (n ∈ ns))
  | ownI {a : Addr} {ns : List Int} {n : Int} (j : Nat) : S[j]? = some (ckL a (ns.map D.int)) → InD S (.int n) (.ref a) (decide (n ∈ ns))
theorem inV_ints {n : Int} : ∀ {ns : List Int}, inV (.int n) (ns.map V.int) = decide (n ∈ ns)
  | [] => rfl
  | m :: ns => by
    have ih := inV_ints (n := n) (ns := ns)
    unfold inV at ih ⊢
    rw [List.map_cons, List.any_cons, ih]
    have : eqV (V.int m) (V.int n) = decide (n = m) := by
      unfold eqV
      by_cases h : m = n
      · subst h; simp
      · have h' : ¬ n = m := fun z => h z.symm
        simp [h, h']
    rw [this]
    simp only [List.mem_cons, Bool.decide_or]
theorem flat_ints {ns : List Int} : (ns.map V.int).all flatV = true := by
  rw [List.all_map]
  exact List.all_eq_true.mpr fun _ _ => rfl
theorem getK_isSome {K : PySem.W.Frag} {F : Hp} {key : Key} {kvs : List (Key × D)} {vs : List (Key × V)} (h : rks K F kvs vs) : (valV vs key).isSome = (getK kvs key).isSome := by
  cases e : getK kvs key with
  | none => rw [rks_get_none h e]; rfl
  | some d =>
    obtain ⟨v, h1, _⟩ := rks_get h e
    rw [h1]
    rfl
theorem wr_in {x y : D} {b neg : Bool} {K : PySem.W.Frag} (h : InD S x y b) (hk : k (.bl (if neg then !b else b)) S) : WR K B (rInU K neg) x y k G S := fun F σ H Q vx vy ok rx ry q => by
  have fin : Q (.bl (if neg then !b else b)) H := q _ F H _ S hk ok (Same.refl F) (rd_v.mpr rfl)
  cases h with
  | @dctI a kvs n j hj =>
    obtain ⟨vs, h1, h2⟩ := ok.he _ (List.mem_of_getElem? hj)
    exact .inr ⟨a, _, rd_v.mp ry, .inl ⟨vs, .inl n, .inl h1, rd_v.mp rx, rfl⟩, by rw [getK_isSome h2]; exact fin⟩
  | @dctS a kvs n j hj =>
    obtain ⟨vs, h1, h2⟩ := ok.he _ (List.mem_of_getElem? hj)
    exact .inr ⟨a, _, rd_v.mp ry, .inl ⟨vs, .inr n, .inl h1, rd_v.mp rx, rfl⟩, by rw [getK_isSome h2]; exact fin⟩
  | @lstI ns n =>
    unfold rd at ry
    obtain ⟨a, vs, rfl, h1, h2⟩ := ry
    rw [rds_ints h2] at h1
    exact .inl ⟨a, _, rfl, .inl (ok.fz.seq h1), by rw [rd_v.mp rx]; rfl, flat_ints, by rw [rd_v.mp rx, inV_ints]; exact fin⟩
  | @tupI ns n =>
    unfold rd at ry
    obtain ⟨a, vs, rfl, h1, h2⟩ := ry
    rw [rds_ints h2] at h1
    exact .inl ⟨a, _, rfl, .inr (SqT.of (ok.fz _ _ h1)), by rw [rd_v.mp rx]; rfl, flat_ints, by rw [rd_v.mp rx, inV_ints]; exact fin⟩
  | @ownI a ns n j hj =>
    obtain ⟨vs, h1, h2⟩ := ok.he _ (List.mem_of_getElem? hj)
    rw [rds_ints h2] at h1
    exact .inl ⟨a, _, rd_v.mp ry, .inl (SqL.of h1), by rw [rd_v.mp rx]; rfl, flat_ints, by rw [rd_v.mp rx, inV_ints]; exact fin⟩
end
end Sy
set_option Elab.async false
set_option maxRecDepth 100000
set_option linter.unusedVariables false
namespace Sy
open PySem L2 PySem.Spec PyProof.Rows
/-! ### methods of own classes, the class known when the receiver is -/
structure MethB (X : Cx) (m : Str) where
  C : Addr
  f : Addr
  fd : FuncData
  ps : List Str
  k : Nat
  ds : List Value
  dvs : List V
  I : Type
  req : I → Prop
  args : I → List D
  pre : I → Cks
  post : I → D → Cks → Prop
  cls : Cls X.K C
  meth : Meth X.K C m f
  fn : FnOk X.prog X.w X.K X.mg X.base CX0 k f fd ps (Spx X.K req args pre post)
  room : Room k X.A
  binds : Binds X.K fd ps ds
  vals : Vals dvs ds
def tMethU (X : Cx) (m : Str) (ta : TE) (t : TA) : TE := fun σ H Q => ta σ H fun x H1 => ∃ (M : MethB X m) (a dx : Addr) (fs : List (Str × V)), x = .ref a ∧ H1 a = some (.ins M.C dx fs) ∧ fs.lookup m = none ∧
  t σ H1 fun vs H2 => Spx X.K M.req M.args M.pre M.post (x :: (vs ++ M.dvs)) H2 Q E0
section
variable {X : Cx} {B : Base} {k : D → Cks → Prop} {kb : Bool → Cks → Prop} {ka : List D → Cks → Prop} {G : Gm} {S : Cks} {N : En} {a b e o c : Expr} {es : List Expr} {pos apos cpos pos2 : Pos} {m : Str} {ta : TE} {t : TA}
theorem pe_methU {pl : Sem Bool} (he : PE X o ta) (ha : PA X (e :: es) t)
    (hst : starEach (e :: es) X.env = (false, eval e X.env) :: starEach es X.env := by rfl) (hpl : (backTo pos (starEach es X.env)).any (·.1) = false := by rfl)
    (ht : eval (.Call (.Attribute o m apos) (e :: es) [] pos) X.env = (do
      let ov ← eval o X.env
      standAt apos.atName
      let (f, first) ← holding [ov] (getMethod ov m pl)
      callWith pos f first (backTo pos (starEach (e :: es) X.env)) (backToKw pos (keywordEach [] X.env))) := by rfl) :
    PE X (.Call (.Attribute o m apos) (e :: es) [] pos) (tMethU X m ta t) := by
  refine ⟨fun pins s σ H Q I h => ?_⟩
  refine PySem.W.methodCall_KW (pl := pl) (thn (he.run pins s σ H _ I h) fun u s1 ⟨x, H1, I1, rx, M, a, dx, fs, ex, ea, l, q⟩ => ?_) ht
  subst ex
  obtain rfl : u = Value.ref a := rx
  refine getmeth_ok I1 ea M.cls M.meth l ?_
  refine PySem.W.callWith_K (first := [.ref a]) (h₀ := X.base) I.ok.mod.kin M.meth.kp (thn (ha.run pos pins s1 σ H1 _ I1 q) fun us s2 ⟨vs, H2, I2, r, q2⟩ => ⟨I2.kIn, ?_⟩) hst hpl
  exact run_fn (us := .ref a :: us) (vs := .ref a :: vs) M.fn M.room M.binds M.vals pass0 I2 (.cons rfl r) q2
theorem pe_methU0 {pl : Sem Bool} (he : PE X o ta)
    (ht : eval (.Call (.Attribute o m apos) [] [] pos) X.env = (do
      let ov ← eval o X.env
      standAt apos.atName
      let (f, first) ← holding [ov] (getMethod ov m pl)
      callWith pos f first (backTo pos (starEach [] X.env)) (backToKw pos (keywordEach [] X.env))) := by rfl) :
    PE X (.Call (.Attribute o m apos) [] [] pos) (tMethU X m ta tNil) := by
  refine ⟨fun pins s σ H Q I h => ?_⟩
  refine PySem.W.methodCall_KW (pl := pl) (thn (he.run pins s σ H _ I h) fun u s1 ⟨x, H1, I1, rx, M, a, dx, fs, ex, ea, l, q⟩ => ?_) ht
  subst ex
  obtain rfl : u = Value.ref a := rx
  refine getmeth_ok I1 ea M.cls M.meth l ?_
  exact PySem.W.callWith_K0 (first := [.ref a]) I1.kIn M.meth.kp (run_fn (us := [.ref a]) (vs := [.ref a]) M.fn M.room M.binds M.vals pass0 I1 (.cons rfl .nil) q)
/-- a chunk in which an instance of C stands at p, without an attribute m -/
def IsI (c : Ck) (p C : Addr) (m : Str) : Prop := ∀ K F H, c.ok K F H → ∃ dx fs, H p = some (.ins C dx fs) ∧ fs.lookup m = none
theorem isI_ins {p C : Addr} {fs : List (Str × D)} (h : fs.lookup m = none) : IsI (ckI p C fs) p C m := fun K F H ⟨dx, gs, h1, h2⟩ => ⟨dx, gs, h1, rfs_lookup_none h2 h⟩
inductive InsD (S : Cks) (m : Str) : D → Addr → Prop
  | ins {C : Addr} {fs : List (Str × D)} : fs.lookup m = none → InsD S m (.ins C fs) C
  | own {p C : Addr} {c : Ck} (j : Nat) : S[j]? = some c → IsI c p C m → InsD S m (.ref p) C
theorem insD_use {K : PySem.W.Frag} {F H : Hp} {σ : L2.St} {x : D} {C : Addr} {v : V} (h : InsD S m x C) (ok : Ok K B G S F σ H) (r : rd K F x v) : ∃ a dx fs, v = .ref a ∧ H a = some (.ins C dx fs) ∧ fs.lookup m = none := by
  cases h with
  | @ins C fs hl =>
    unfold rd at r
    obtain ⟨a, dx, gs, rfl, h1, h2⟩ := r
    exact ⟨a, dx, gs, rfl, ok.fz _ _ h1, rfs_lookup_none h2 hl⟩
  | @own p C c j hj hi =>
    obtain ⟨dx, fs, h1, h2⟩ := hi _ _ _ (ok.he _ (List.mem_of_getElem? hj))
    exact ⟨p, dx, fs, rd_v.mp r, h1, h2⟩
/-- what is asked behind the receiver and the arguments -/
def After {X : Cx} {m : Str} (M : MethB X m) (k : D → Cks → Prop) (x : D) (xs : List D) (S : Cks) : Prop := ∃ (i : M.I) (R : Cks), M.req i ∧ M.args i = x :: (xs ++ M.dvs.map .v) ∧ Pick S (M.pre i) R ∧ ∀ d S', M.post i d S' → k d (S' ++ R)
theorem w_meth {pl : Sem Bool} (h : wE X B o (fun x S1 => ∃ M : MethB X m, InsD S1 m x M.C ∧ wA X B (e :: es) (fun xs S2 => After M k x xs S2) G S1) G S)
    (hst : starEach (e :: es) X.env = (false, eval e X.env) :: starEach es X.env := by rfl) (hpl : (backTo pos (starEach es X.env)).any (·.1) = false := by rfl)
    (ht : eval (.Call (.Attribute o m apos) (e :: es) [] pos) X.env = (do
      let ov ← eval o X.env
      standAt apos.atName
      let (f, first) ← holding [ov] (getMethod ov m pl)
      callWith pos f first (backTo pos (starEach (e :: es) X.env)) (backToKw pos (keywordEach [] X.env))) := by rfl) : wE X B (.Call (.Attribute o m apos) (e :: es) [] pos) k G S :=
  wE_of (pe_methU (pl := pl) pe_t pa_t hst hpl ht) fun F0 σ H Q ok q => h F0 σ H _ ok fun vx F1 H1 x S1 ⟨M, hi, hw⟩ ok1 e1 r1 => by
    obtain ⟨a, dx, fs, rfl, g1, g2⟩ := insD_use hi ok1 r1
    refine ⟨M, a, dx, fs, rfl, g1, g2, hw F1 σ H1 _ ok1 fun vs F2 H2 xs S2 ⟨i, R, hx, ha, hp, hk⟩ ok2 e2 r2 => ?_⟩
    exact sp_use i ok2 (ds := x :: (xs ++ M.dvs.map .v)) (rds_cons.mpr ⟨_, _, rfl, rd_mono e2 _ _ r1, rds_append r2 (w_call.dvs_rds M.dvs)⟩) hx ha hp fun v F' H' d S' po ok' e' rr => q v F' H' d _ (hk d S' po) ok' ((e1.trans e2).trans e') rr
theorem w_meth0 {pl : Sem Bool} (h : wE X B o (fun x S1 => ∃ M : MethB X m, InsD S1 m x M.C ∧ After M k x [] S1) G S)
    (ht : eval (.Call (.Attribute o m apos) [] [] pos) X.env = (do
      let ov ← eval o X.env
      standAt apos.atName
      let (f, first) ← holding [ov] (getMethod ov m pl)
      callWith pos f first (backTo pos (starEach [] X.env)) (backToKw pos (keywordEach [] X.env))) := by rfl) : wE X B (.Call (.Attribute o m apos) [] [] pos) k G S :=
  wE_of (pe_methU0 (pl := pl) pe_t ht) fun F0 σ H Q ok q => h F0 σ H _ ok fun vx F1 H1 x S1 ⟨M, hi, i, R, hx, ha, hp, hk⟩ ok1 e1 r1 => by
    obtain ⟨a, dx, fs, rfl, g1, g2⟩ := insD_use hi ok1 r1
    refine ⟨M, a, dx, fs, rfl, g1, g2, ?_⟩
    show Spx X.K M.req M.args M.pre M.post (V.ref a :: ([] ++ M.dvs)) H1 Q E0
    exact sp_use i ok1 (ds := x :: ([] ++ M.dvs.map .v)) (rds_cons.mpr ⟨_, _, rfl, r1, rds_append (rds_nil.mpr rfl) (w_call.dvs_rds M.dvs)⟩) hx ha hp fun v F' H' d S' po ok' e' rr => q v F' H' d _ (hk d S' po) ok' (e1.trans e') rr
/-! ### a new instance -/
theorem W_make {K : PySem.W.Frag} {C : Addr} {I : Type} {req : I → Prop} {args : I → List D} {pre : I → Cks} {post : I → D → Cks → Prop} {dvs : List V}
    (h : WA K B t (fun xs S1 => ∀ p, ∃ (i : I) (R : Cks), req i ∧ args i = .ref p :: (xs ++ dvs.map .v) ∧ Pick (ckI p C [] :: S1) (pre i) R ∧ ∀ d S', post i d S' → d = .non ∧ k (.ref p) (S' ++ R)) G S) (hX : X.K = K) : W K B (tMake C (Spx K req args pre post) dvs E0 t) k G S := fun F σ H Q ok q =>
  h F σ H _ ok fun vs F1 H1 xs S1 hp ok1 e1 r1 x dx hx hdx hne => by
    obtain ⟨i, R, h1, h2, h3, h4⟩ := hp x
    have g1 := ok1.toHs.junk (o := .own x) hdx
    have g2 := g1.alloc (p := x) (o := .ins C dx []) (c := ckI x C []) (by rw [upd_ne (Ne.symm hne)]; exact hx) rfl ⟨dx, [], upd_same, rfs_nil.mpr rfl⟩
    subst hX
    refine sp_use i (ok1.to g2 (Same.refl F1)) (ds := .ref x :: (xs ++ dvs.map .v)) (rds_cons.mpr ⟨_, _, rfl, rd_v.mpr rfl, rds_append r1 (w_call.dvs_rds dvs)⟩) h1 h2 h3 fun v F' H' d S' po ok' e' rr => ?_
    obtain ⟨ed, hk⟩ := h4 d S' po
    subst ed
    exact ⟨rd_v.mp rr, q _ F' H' _ _ hk ok' (e1.trans e') (rd_v.mpr rfl)⟩
theorem w_make {kk : Nat} {f C : Addr} {fd : FuncData} {ps : List Str} {x : Str} {p : Pos} {dvs : List V} {ds : List Value} {I : Type} {req : I → Prop} {args : I → List D} {pre : I → Cks} {post : I → D → Cks → Prop}
    (M : Mk X.K C f) (F : FnOk X.prog X.w X.K X.mg X.base CX0 kk f fd ps (Spx X.K req args pre post)) (hr : Room (kk + 1) X.A) (hm : X.mg x = some (.ref C)) (hb : Binds X.K fd ps ds) (hd : Vals dvs ds)
    (h : wA X B (e :: es) (fun xs S1 => ∀ p, ∃ (i : I) (R : Cks), req i ∧ args i = .ref p :: (xs ++ dvs.map .v) ∧ Pick (ckI p C [] :: S1) (pre i) R ∧ ∀ d S', post i d S' → d = .non ∧ k (.ref p) (S' ++ R)) G S) (hg : Gl X x := by rfl)
    (hdb : (x == ("__debug__" : Str)) = false := by decide) (he : starEach (e :: es) X.env = (false, eval e X.env) :: starEach es X.env := by rfl) (hpl : (backTo pos (starEach es X.env)).any (·.1) = false := by rfl) :
    wE X B (.Call (.Name x p) (e :: es) [] pos) k G S := wE_of (pe_make M F hr hg hm hb hd pass0 pa_t hdb he hpl) (W_make (X := X) h rfl)
theorem w_make0 {kk : Nat} {f C : Addr} {fd : FuncData} {ps : List Str} {x : Str} {p : Pos} {dvs : List V} {ds : List Value} {I : Type} {req : I → Prop} {args : I → List D} {pre : I → Cks} {post : I → D → Cks → Prop}
    (M : Mk X.K C f) (F : FnOk X.prog X.w X.K X.mg X.base CX0 kk f fd ps (Spx X.K req args pre post)) (hr : Room (kk + 1) X.A) (hm : X.mg x = some (.ref C)) (hb : Binds X.K fd ps ds) (hd : Vals dvs ds)
    (h : ∀ p, ∃ (i : I) (R : Cks), req i ∧ args i = .ref p :: ([] ++ dvs.map .v) ∧ Pick (ckI p C [] :: S) (pre i) R ∧ ∀ d S', post i d S' → d = .non ∧ k (.ref p) (S' ++ R)) (hg : Gl X x := by rfl) (hdb : (x == ("__debug__" : Str)) = false := by decide) :
    wE X B (.Call (.Name x p) [] [] pos) k G S := wE_of (pe_make0 M F hr hg hm hb hd pass0 hdb) (W_make (X := X) (WA_nil h) rfl)
/-! ### C.m(e, ..): a def of a class, called by the class -/
structure ClsFn (K : PySem.W.Frag) (C : Addr) (m : Str) (f : Addr) : Prop where
  ex : ∃ mc, PySem.W.readsIn K C mc = true ∧ PySem.W.findCls K (.ref C) mc m = some (.val (.ref f))
  ga : PySem.W.specialIn K (.ref C) "__getattribute__" = some (some (.builtin "type.__getattribute__"))
  kp : PySem.W.keepIn K (.ref f) = true
theorem pe_clsfn {pl : Sem Bool} {x : Str} {C f : Addr} {kk : Nat} {fd : FuncData} {ps : List Str} {sp : Sp} {dvs : List V} {ds : List Value} {p1 p2 : Pos} (hm : X.mg x = some (.ref C)) (T : ClsFn X.K C m f)
    (F : FnOk X.prog X.w X.K X.mg X.base CX0 kk f fd ps sp) (hr : Room kk X.A) (hb : Binds X.K fd ps ds) (hd : Vals dvs ds) (ha : PA X (e :: es) t) (hg : Gl X x := by rfl) (hdb : (x == ("__debug__" : Str)) = false := by decide)
    (hc : eval (.Call (.Attribute (.Name x p1) m p2) (e :: es) [] pos) X.env = (do
      let ov ← eval (.Name x p1) X.env
      standAt p2.atName
      let (f, first) ← holding [ov] (getMethod ov m pl)
      callWith pos f first (backTo pos (starEach (e :: es) X.env)) (backToKw pos (keywordEach [] X.env))) := by rfl)
    (he : starEach (e :: es) X.env = (false, eval e X.env) :: starEach es X.env := by rfl) (hpl : (backTo pos (starEach es X.env)).any (·.1) = false := by rfl) :
    PE X (.Call (.Attribute (.Name x p1) m p2) (e :: es) [] pos) (tCall sp dvs E0 t) := by
  refine ⟨fun pins s σ H Q I h => ?_⟩
  obtain ⟨mc, h1, h2⟩ := T.ex
  refine PySem.W.methodCall_KW (ld_glob I hg hm ?_ hdb) hc
  refine PySem.W.method_cls I.kIn T.ga (PySem.W.cls_value I.kIn h1 h2 (handed_of (v := V.ref f) rfl) ?_)
  have I' : Inv X pins σ H { s with toks := s.toks + 1 } := I.tok _
  refine PySem.W.callWith_K (h₀ := X.base) I.ok.mod.kin T.kp (thn (ha.run pos pins _ σ H _ I' h) fun us s1 ⟨vs, H1, I1, r, q⟩ => ⟨I1.kIn, ?_⟩) he hpl
  exact run_fn F hr hb hd pass0 I1 r q
theorem w_clsfn {pl : Sem Bool} {x : Str} {C f : Addr} {kk : Nat} {fd : FuncData} {ps : List Str} {dvs : List V} {ds : List Value} {p1 p2 : Pos} {I : Type} {req : I → Prop} {args : I → List D} {pre : I → Cks} {post : I → D → Cks → Prop} (hm : X.mg x = some (.ref C)) (T : ClsFn X.K C m f)
    (F : FnOk X.prog X.w X.K X.mg X.base CX0 kk f fd ps (Spx X.K req args pre post)) (hr : Room kk X.A) (hb : Binds X.K fd ps ds) (hd : Vals dvs ds)
    (h : wA X B (e :: es) (fun xs S1 => ∃ (x : I) (R : Cks), req x ∧ args x = xs ++ dvs.map .v ∧ Pick S1 (pre x) R ∧ ∀ d S', post x d S' → k d (S' ++ R)) G S) (hg : Gl X x := by rfl) (hdb : (x == ("__debug__" : Str)) = false := by decide)
    (hc : eval (.Call (.Attribute (.Name x p1) m p2) (e :: es) [] pos) X.env = (do
      let ov ← eval (.Name x p1) X.env
      standAt p2.atName
      let (f, first) ← holding [ov] (getMethod ov m pl)
      callWith pos f first (backTo pos (starEach (e :: es) X.env)) (backToKw pos (keywordEach [] X.env))) := by rfl)
    (he : starEach (e :: es) X.env = (false, eval e X.env) :: starEach es X.env := by rfl) (hpl : (backTo pos (starEach es X.env)).any (·.1) = false := by rfl) :
    wE X B (.Call (.Attribute (.Name x p1) m p2) (e :: es) [] pos) k G S :=
  wE_of (pe_clsfn hm T F hr hb hd pa_t hg hdb hc he hpl) fun F0 σ H Q ok q => h F0 σ H _ ok fun vs F1 H1 xs S1 ⟨x, R, hx, ha, hp, hk⟩ ok1 e1 r1 =>
    sp_use x ok1 (rds_append r1 (w_call.dvs_rds dvs)) hx ha hp fun v F' H' d S' po ok' e' rr => q v F' H' d _ (hk d S' po) ok' (e1.trans e') rr
/-! ### comprehensions -/
def wipeG (G : Gm) : List Nat → Gm
  | [] => G
  | v :: vs => (wipeG G vs).set v none
theorem Ok.wipe {K : PySem.W.Frag} {F H : Hp} {σ : L2.St} (ok : Ok K B G S F σ H) : ∀ vs : List Nat, Ok K B (wipeG G vs) S F (L2.wipe σ vs) H
  | [] => ok
  | v :: vs => by
    have ih := ok.wipe vs
    refine ⟨ih.toHs, ?_, fun i d e => ?_⟩
    · show ((wipeG G vs).set v none).length = ((L2.wipe σ vs).set v none).length
      rw [List.length_set, List.length_set]; exact ih.len
    · have e' : ((wipeG G vs).set v none)[i]? = some (some d) := e
      show ∃ w, ((L2.wipe σ vs).set v none)[i]? = some (some w) ∧ _
      by_cases hi : v = i
      · subst hi
        by_cases hl : v < (wipeG G vs).length
        · rw [List.getElem?_set_self hl] at e'; cases e'
        · rw [List.set_eq_of_length_le (Nat.not_lt.mp hl), List.getElem?_eq_none (Nat.not_lt.mp hl)] at e'; cases e'
      · rw [List.getElem?_set_ne hi] at e' ⊢
        exact ih.sl i d e'
/-- a target that stores the block's own names alone -/
def TgOk (g : TG) (vs : List Nat) : Prop := ∀ x σ H Q, g x σ H Q → g x σ H (fun σ2 H2 => L2.wipe σ2 vs = L2.wipe σ vs ∧ Q σ2 H2)
theorem wipe_comm {σ : L2.St} {j : Nat} {x : Option V} : ∀ {vs : List Nat}, j ∈ vs → L2.wipe (σ.set j x) vs = L2.wipe σ vs
  | [], h => by cases h
  | v :: vs, h => by
    show (L2.wipe (σ.set j x) vs).set v none = (L2.wipe σ vs).set v none
    by_cases hv : j ∈ vs
    · rw [wipe_comm hv]
    · have : j = v := by
        rcases List.mem_cons.mp h with e | e
        · exact e
        · exact absurd e hv
      subst this
      have e2 : ∀ (σ : L2.St) (vs : List Nat), j ∉ vs → L2.wipe (σ.set j x) vs = (L2.wipe σ vs).set j x := by
        intro σ vs
        induction vs with
        | nil => intro _; rfl
        | cons w ws ih =>
          intro hn
          simp only [List.mem_cons, not_or] at hn
          show (L2.wipe (σ.set j x) ws).set w none = ((L2.wipe σ ws).set w none).set j x
          rw [ih hn.2, List.set_comm _ _ hn.1]
      rw [e2 σ vs hv, List.set_set]
theorem tgOk_name {j : Nat} {vs : List Nat} (h : j ∈ vs) : TgOk (gName j) vs := fun x σ H Q q => ⟨wipe_comm h, q⟩
def TgsOk (g : TGs) (vs : List Nat) : Prop := ∀ xs σ H Q, g xs σ H Q → g xs σ H (fun σ2 H2 => L2.wipe σ2 vs = L2.wipe σ vs ∧ Q σ2 H2)
theorem tgsOk_nil {vs : List Nat} : TgsOk gNil vs := fun xs σ H Q ⟨e, q⟩ => ⟨e, rfl, q⟩
theorem tgsOk_cons {j : Nat} {gs : TGs} {vs : List Nat} (h : j ∈ vs) (h2 : TgsOk gs vs) : TgsOk (gCons (gName j) gs) vs := fun xs σ H Q ⟨v, r, e, q⟩ => by
  refine ⟨v, r, e, ?_⟩
  have q' := h2 r (σ.set j (some v)) H Q q
  rw [wipe_comm h] at q'
  exact q'
theorem tgOk_tup {K : PySem.W.Frag} {n : Nat} {gs : TGs} {vs : List Nat} (h : TgsOk gs vs) : TgOk (gTup K n gs) vs := fun x σ H Q ⟨a, xs, e, h1, h2, q⟩ => ⟨a, xs, e, h1, h2, h xs σ H Q q⟩
theorem wipe_idem {σ : L2.St} {vs : List Nat} : L2.wipe (L2.wipe σ vs) vs = L2.wipe σ vs := by
  have gen : ∀ (ws : List Nat), (∀ w ∈ ws, w ∈ vs) → ∀ σ, L2.wipe (L2.wipe σ ws) vs = L2.wipe σ vs := by
    intro ws
    induction ws with
    | nil => intro _ σ; rfl
    | cons w ws ih =>
      intro hw σ
      show L2.wipe ((L2.wipe σ ws).set w none) vs = _
      rw [wipe_comm (hw w (by simp)), ih (fun x hx => hw x (by simp [hx]))]
  exact gen vs (fun w h => h) σ
theorem W_lc {K : PySem.W.Frag} {wi : TI} {g : TG} {tt : TT} {te : TE} {vs : List Nat} (hg : TgOk g vs)
    (h : WI K B wi (fun n item gS S1 => ∀ p, ∃ I : Nat → List D → Cks → Prop, I 0 [] S1 ∧ (∀ i acc S', I i acc S' → gS S' ∧ acc.length < 100000) ∧
      (∀ i acc S', i < n → I i acc S' → WG K B g (item i) (fun G2 S2 => WT K B tt (fun b S3 => (b = true → W K B te (fun y S4 => ∃ R S5, Pick S4 (ckL p acc :: S5) R ∧ I (i + 1) (acc ++ [y]) S5) G2 S3) ∧ (b = false → ∃ R S5, Pick S3 (ckL p acc :: S5) R ∧ I (i + 1) acc S5)) G2 S2) (wipeG G vs) (ckL p acc :: S')) ∧
      ∀ acc S', I n acc S' → k (.ref p) (ckL p acc :: S')) G S) : W K B (tLc wi g tt te vs) k G S := fun F σ H Q ok q =>
  h F σ H _ ok fun J F1 H1 n item gS S1 hp ok1 e1 yl p hnp => by
    obtain ⟨I, h0, hi, hb, he⟩ := hp p
    refine ⟨fun i m H' => m = n - i ∧ i ≤ n ∧ ∃ acc S' F', I i acc S' ∧ Ok K B G (ckL p acc :: S') F' σ H' ∧ Same F1 F', ⟨n - 0, rfl, Nat.zero_le _, [], S1, F1, h0, ok1.to (ok1.toHs.alloc (o := .lst []) (c := ckL p []) hnp rfl ⟨[], upd_same, rds_nil.mpr rfl⟩) (Same.refl F1), Same.refl F1⟩, ?_⟩
    rintro i m H' ⟨rfl, hin, acc, S', F', hI, ok', e'⟩
    have okS : Ok K B G S' F' σ H' := ⟨ok'.toHs.sub (List.sublist_cons_self _ _), ok'.len, ok'.sl⟩
    by_cases hn : i < n
    · refine .inr ⟨yl.go i G S' F' σ H' hn okS e' (hi _ _ _ hI).1, fun H2 => ∃ acc2 S2 F2, I (i + 1) acc2 S2 ∧ Ok K B G (ckL p acc2 :: S2) F2 σ H2 ∧ Same F1 F2, fun H2 ⟨acc2, S2, F2, a, b, c⟩ => ⟨n - (i + 1), by omega, rfl, by omega, acc2, S2, F2, a, b, c⟩, fun x H2 hy => ?_⟩
      obtain ⟨F2, ok2, e2, r2⟩ := yl.yld i G (ckL p acc :: S') F' σ H' x H2 hn ok' e' (yl.mn _ _ (hi _ _ _ hI).1) hy
      have main : g x (L2.wipe σ vs) H2 (fun σ2 H3 => tt σ2 H3 fun b H4 => if b = true then te σ2 H4 fun y H5 => ∃ acc', H5 p = some (.lst acc') ∧ acc'.length < sizeLine ∧ (∃ acc2 S2 F2, I (i + 1) acc2 S2 ∧ Ok K B G (ckL p acc2 :: S2) F2 σ (upd H5 p (.lst (acc' ++ [y]))) ∧ Same F1 F2) else ∃ acc2 S2 F2, I (i + 1) acc2 S2 ∧ Ok K B G (ckL p acc2 :: S2) F2 σ H4 ∧ Same F1 F2) := by
        refine hb i acc S' hn hI F2 (L2.wipe σ vs) H2 _ x (ok2.wipe vs) r2 fun G3 S3 F3 σ3 H3 hw ok3 e3 => hw F3 σ3 H3 _ ok3 fun b F4 H4 S4 hb4 ok4 e4 => ?_
        have e24 : Same F1 F4 := ((e'.trans e2).trans e3).trans e4
        cases b with
        | true =>
          refine hb4.1 rfl F4 σ3 H4 _ ok4 fun y F5 H5 d S5 ⟨R, S6, hpk, hI6⟩ ok5 e5 r5 => ?_
          have hs5 : Hs K B (ckL p acc :: S6) F5 H5 := (ok5.toHs.perm hpk.perm).sub (List.sublist_append_left _ _)
          obtain ⟨us, g1, g2⟩ := hs5.he (ckL p acc) List.mem_cons_self
          refine ⟨us, g1, by rw [← rds_len g2, sizeLine_eq]; have := (hi _ _ _ hI).2; omega, _, S6, F5, hI6, ?_, e24.trans e5⟩
          have hw5 := hs5.write (i := 0) (c' := ckL p (acc ++ [d])) (p := p) (o := .lst (us ++ [y])) rfl (by simp [ckL]) rfl ⟨_, upd_same, rds_append g2 (rds_one r5)⟩
          exact ok.to hw5 (e1.trans (e24.trans e5))
        | false =>
          obtain ⟨R, S6, hpk, hI6⟩ := hb4.2 rfl
          have hs5 : Hs K B (ckL p acc :: S6) F4 H4 := (ok4.toHs.perm hpk.perm).sub (List.sublist_append_left _ _)
          exact ⟨acc, S6, F4, hI6, ok.to hs5 (e1.trans e24), e24⟩
      have z := hg x (L2.wipe σ vs) H2 _ main
      rw [wipe_idem] at z
      exact z
    · have hin' : i = n := Nat.le_antisymm hin (Nat.not_lt.mp hn)
      subst hin'
      exact .inl ⟨yl.stop G S' F' σ H' okS e' (hi _ _ _ hI).1, q _ F' H' _ _ (he _ _ hI) ok' (e1.trans e') (rd_v.mpr rfl)⟩
theorem W_all {K : PySem.W.Frag} {ι : Type} {te : ι → TE} (h : ∀ i, W K B (te i) k G S) : W K B (fun σ H Q => ∀ i, te i σ H Q) k G S := fun F σ H Q ok q i => h i F σ H Q ok q
theorem WT_all {K : PySem.W.Frag} {ι : Type} {te : ι → TT} (h : ∀ i, WT K B (te i) kb G S) : WT K B (fun σ H Q => ∀ i, te i σ H Q) kb G S := fun F σ H Q ok q i => h i F σ H Q ok q
/-- where a block of a comprehension runs -/
structure Bk where
  s : Shared
  H : Hp
  C : Addr
  cl : List (Str × Addr)
  fp : List Addr
abbrev Bk.x (b : Bk) (X : Cx) (scope : Scope) : Cx := X.blk b.s b.H scope (compEnvC scope b.cl b.C X.env) b.fp
def tEb (X : Cx) (scope : Scope) (e : Expr) : TE := fun σ H Q => ∀ b : Bk, tE (b.x X scope) e σ H Q
def tTb (X : Cx) (scope : Scope) (ifs : List Expr) : TT := match ifs with
  | [] => tYes
  | [c] => fun σ H Q => ∀ b : Bk, tT (b.x X scope) c σ H Q
  | _ => fun _ _ _ => False
theorem pts_tb {scope : Scope} {ifs : List Expr} (b : Bk) : PTs (b.x X scope) ifs (tTb X scope ifs) := by
  match ifs with
  | [] => exact pts_nil
  | [c] => exact pts_one ⟨fun pins s σ H Q I h => pt_t.run pins s σ H Q I (h b)⟩
  | _ :: _ :: _ => exact ⟨fun pins s σ H Q I h => h.elim⟩
/-- the test of a comprehension -/
def wTb (X : Cx) (B : Base) (scope : Scope) (ifs : List Expr) (kb : Bool → Cks → Prop) (G : Gm) (S : Cks) : Prop := match ifs with
  | [] => kb true S
  | [c] => ∀ b : Bk, wT (b.x X scope) B c kb G S
  | _ => False
theorem WT_tb {scope : Scope} {ifs : List Expr} (h : wTb X B scope ifs kb G S) : WT X.K B (tTb X scope ifs) kb G S := by
  match ifs, h with
  | [], h => exact fun F σ H Q ok q => q true F H S h ok (Same.refl F)
  | [c], h => exact fun F σ H Q ok q b => h b F σ H Q ok q
/-- [elt for tg in iter if ..] -/
def LcK (X : Cx) (B : Base) (scope : Scope) (g : TG) (ifs : List Expr) (elt : Expr) (vs : List Nat) (k : D → Cks → Prop) (G : Gm) (n : Nat) (item : Nat → D) (gS : Cks → Prop) (S1 : Cks) : Prop :=
  ∀ p, ∃ I : Nat → List D → Cks → Prop, I 0 [] S1 ∧ (∀ i acc S', I i acc S' → gS S' ∧ acc.length < 100000) ∧
    (∀ i acc S', i < n → I i acc S' → WG X.K B g (item i) (fun G2 S2 => wTb X B scope ifs (fun b S3 => (b = true → ∀ b : Bk, wE (b.x X scope) B elt (fun y S4 => ∃ R S5, Pick S4 (ckL p acc :: S5) R ∧ I (i + 1) (acc ++ [y]) S5) G2 S3) ∧ (b = false → ∃ R S5, Pick S3 (ckL p acc :: S5) R ∧ I (i + 1) acc S5)) G2 S2) (wipeG G vs) (ckL p acc :: S')) ∧
    ∀ acc S', I n acc S' → k (.ref p) (ckL p acc :: S')
theorem WI_mono {K : PySem.W.Frag} {wi : TI} {k1 k2 : Nat → (Nat → D) → (Cks → Prop) → Cks → Prop} (h : WI K B wi k1 G S) (m : ∀ n item gS S', k1 n item gS S' → k2 n item gS S') : WI K B wi k2 G S := fun F σ H R ok q => h F σ H R ok fun J F' H' n item gS S' hk => q J F' H' n item gS S' (m n item gS S' hk)
theorem lc_W {tg iter elt : Expr} {ifs : List Expr} {scope : Scope} {own : List (Str × Nat)} {g : TG} (hg : TgOk g (own.map (·.2))) (h : wI X B tg iter (LcK X B scope g ifs elt (own.map (·.2)) k G) G S) : W X.K B (tLc (tI X tg iter) g (tTb X scope ifs) (tEb X scope elt) (own.map (·.2))) k G S :=
  W_lc hg (WI_mono h fun n item gS S1 hp p => by
    obtain ⟨I, h0, h1, h2, h3⟩ := hp p
    refine ⟨I, h0, h1, fun i acc S' hi hI => ?_, h3⟩
    exact fun F σ H Q vx ok rx q => h2 i acc S' hi hI F σ H Q vx ok rx fun G' S2 F' σ' H' hk ok' e' => q G' S2 F' σ' H' (WT_tb (kb := _) (by
      match ifs, hk with
      | [], hk => exact ⟨fun e => W_all (te := fun b : Bk => tE (b.x X scope) elt) (hk.1 e), hk.2⟩
      | [c], hk => exact fun b F σ H Q ok q => hk b F σ H Q ok fun t F' H' S3 h3 => q t F' H' S3 ⟨fun e => W_all (te := fun b : Bk => tE (b.x X scope) elt) (h3.1 e), h3.2⟩)) ok' e')
theorem w_lc {tg iter elt : Expr} {ifs : List Expr} {scope : Scope} {g : TG} {Ns : List Str} (sc : Scope) (own : List (Str × Nat)) (nd : Ns.Nodup) (hpg : ∀ b : Bk, PG (b.x X scope) tg g) (hg : TgOk g (own.map (·.2))) (h : wI X B tg iter (LcK X B scope g ifs elt (own.map (·.2)) k G) G S)
    (ok : blkC Ns sc scope own = true := by decide +kernel) (hsc : X.env.scope = sc := by rfl) (hN : X.N = Ns := by rfl) (hc : X.calm = true := by rfl) (hs : ∀ x, foldedSetIterable iter X.env x = pure x := by intro _; rfl) : wE X B (.ListComp elt [⟨tg, iter, ifs, 0⟩] scope pos) k G S :=
  wE_of (pe_lc hc (by rw [hN]; exact nd) pi_t (by rw [hN, hsc]; exact blkOk_by ok) (fun s H C cl fp => hpg ⟨s, H, C, cl, fp⟩) (fun s H C cl fp => pts_tb ⟨s, H, C, cl, fp⟩) (fun s H C cl fp => ⟨fun pins s' σ H' Q I h => pe_t.run pins s' σ H' Q I (h ⟨s, H, C, cl, fp⟩)⟩) hs) (lc_W hg h)
theorem ws_setLc {tg iter elt : Expr} {ifs : List Expr} {scope : Scope} {g : TG} {Ns : List Str} {n : String} {i : Nat} (sc : Scope) (own : List (Str × Nat)) (hsn : Nm Ns n i) (nd : Ns.Nodup) (hpg : ∀ b : Bk, PG (b.x X scope) tg g) (hg : TgOk g (own.map (·.2)))
    (h : wI X B tg iter (LcK X B scope g ifs elt (own.map (·.2)) (fun x S1 => N.nx (G.set i (some x)) S1) G) G S) (hN : X.N = Ns := by rfl) (hyl : X.env.scope.names.lookup (Str.ofString n) = some .local := by rfl)
    (hsw : swapsWith (.ListComp elt [⟨tg, iter, ifs, 0⟩] scope apos) (some (.Name (Str.ofString n) pos2)) pos.line X.env = pure true := by exact sw_true rfl rfl rfl (by decide +kernel))
    (ok : blkC Ns sc scope own = true := by decide +kernel) (hsc : X.env.scope = sc := by rfl) (hc : X.calm = true := by rfl) (hs : ∀ x, foldedSetIterable iter X.env x = pure x := by intro _; rfl) : wS X B (.Assign [.Name (Str.ofString n) pos2] (.ListComp elt [⟨tg, iter, ifs, 0⟩] scope apos) pos) N G S :=
  wS_of (ps_setLc (i := i) hc (by rw [hN]; exact nd) (by rw [hN]; exact hsn) hyl hsw pi_t (by rw [hN, hsc]; exact blkOk_by ok) (fun s H C cl fp => hpg ⟨s, H, C, cl, fp⟩) (fun s H C cl fp => pts_tb ⟨s, H, C, cl, fp⟩) (fun s H C cl fp => ⟨fun pins s' σ H' Q I h => pe_t.run pins s' σ H' Q I (h ⟨s, H, C, cl, fp⟩)⟩) hs)
    (WS_asg (fun F σ H Q ok q => lc_W hg h F σ H Q ok fun v F' H' d S' hk => q v F' H' d S' (WG_name hk)))
end
end Sy
set_option Elab.async false
set_option maxRecDepth 100000
set_option linter.unusedVariables false
namespace Sy
open PySem L2 PySem.Spec PyProof.Rows
/-! ### data compared as a whole -/
mutual
inductive Eqb (S : Cks) : Nat → D → PyData → Prop
  | non {n : Nat} : Eqb S n .non .none
  | bl {n : Nat} {b : Bool} : Eqb S n (.bl b) (.bool b)
  | int {n : Nat} {i : Int} : Eqb S n (.int i) (.int i)
  | str {n : Nat} {x : Str} : PyData.strOk x = true → Eqb S n (.str x) (.str x)
  | tup {n : Nat} {ds : List D} {es : List PyData} : Eqbs S n ds es → Eqb S (n + 1) (.tup ds) (.tuple es)
  | lst {n : Nat} {ds : List D} {es : List PyData} : Eqbs S n ds es → Eqb S (n + 1) (.lst ds) (.list es)
  | own {n : Nat} {a : Addr} {ds : List D} {es : List PyData} (j : Nat) : S[j]? = some (ckL a ds) → Eqbs S n ds es → Eqb S (n + 1) (.ref a) (.list es)
inductive Eqbs (S : Cks) : Nat → List D → List PyData → Prop
  | nil {n : Nat} : Eqbs S n [] []
  | cons {n : Nat} {d : D} {e : PyData} {ds : List D} {es : List PyData} : Eqb S n d e → Eqbs S n ds es → Eqbs S n (d :: ds) (e :: es)
end
theorem Eqbs.map {S : Cks} {α : Type} {n : Nat} {f : α → D} {g : α → PyData} (h : ∀ a, Eqb S n (f a) (g a)) : ∀ xs : List α, Eqbs S n (xs.map f) (xs.map g)
  | [] => .nil
  | x :: xs => .cons (h x) (Eqbs.map h xs)
mutual
theorem Eqb.lay {S : Cks} : ∀ {n : Nat} {d : D} {e : PyData}, Eqb S n d e → e.canLay0 = true ∧ e.depth ≤ n
  | _, _, _, .non => ⟨rfl, Nat.zero_le _⟩
  | _, _, _, .bl => ⟨rfl, Nat.zero_le _⟩
  | _, _, _, .int => ⟨rfl, Nat.zero_le _⟩
  | _, _, _, .str h => ⟨by unfold PyData.canLay0; exact h, Nat.zero_le _⟩
  | _, _, _, .tup h => by
    obtain ⟨h1, h2⟩ := Eqbs.lay h
    exact ⟨by unfold PyData.canLay0; exact h1, by unfold PyData.depth; omega⟩
  | _, _, _, .lst h => by
    obtain ⟨h1, h2⟩ := Eqbs.lay h
    exact ⟨by unfold PyData.canLay0; exact h1, by unfold PyData.depth; omega⟩
  | _, _, _, .own j _ h => by
    obtain ⟨h1, h2⟩ := Eqbs.lay h
    exact ⟨by unfold PyData.canLay0; exact h1, by unfold PyData.depth; omega⟩
theorem Eqbs.lay {S : Cks} : ∀ {n : Nat} {d : List D} {e : List PyData}, Eqbs S n d e → PyData.canLayAll0 e = true ∧ PyData.depthAll e ≤ n
  | _, _, _, .nil => ⟨rfl, Nat.zero_le _⟩
  | _, _, _, .cons h t => by
    obtain ⟨h1, h2⟩ := Eqb.lay h
    obtain ⟨h3, h4⟩ := Eqbs.lay t
    exact ⟨by unfold PyData.canLayAll0; rw [h1, h3]; rfl, by unfold PyData.depthAll; omega⟩
end
mutual
theorem Eqb.dp {K : PySem.W.Frag} {B : Base} {G : Gm} {S : Cks} {F H : Hp} {σ : L2.St} (ok : Ok K B G S F σ H) : ∀ {n : Nat} {d : D} {e : PyData} {v : V}, Eqb S n d e → rd K F d v → Dp K H v e
  | _, _, _, _, .non, r => by rw [rd_v.mp r]; exact .non
  | _, _, _, _, .bl, r => by rw [rd_v.mp r]; exact .bl _
  | _, _, _, _, .int, r => by rw [rd_v.mp r]; exact .int _
  | _, _, _, _, .str _, r => by rw [rd_v.mp r]; exact .str _
  | _, _, _, _, .tup h, r => by
    unfold rd at r
    obtain ⟨a, vs, rfl, h1, h2⟩ := r
    exact .tup (SqT.of (ok.fz _ _ h1)) (Eqbs.dp ok h h2)
  | _, _, _, _, .lst h, r => by
    unfold rd at r
    obtain ⟨a, vs, rfl, h1, h2⟩ := r
    exact .lst (ok.fz.seq h1) (Eqbs.dp ok h h2)
  | _, _, _, _, .own j hj h, r => by
    obtain ⟨vs, h1, h2⟩ := ok.he _ (List.mem_of_getElem? hj)
    rw [rd_v.mp r]
    exact .lst (SqL.of h1) (Eqbs.dp ok h h2)
theorem Eqbs.dp {K : PySem.W.Frag} {B : Base} {G : Gm} {S : Cks} {F H : Hp} {σ : L2.St} (ok : Ok K B G S F σ H) : ∀ {n : Nat} {d : List D} {e : List PyData} {v : List V}, Eqbs S n d e → rds K F d v → DpAll K H v e
  | _, _, _, _, .nil, r => by rw [rds_nil.mp r]; exact .nil
  | _, _, _, _, .cons h t, r => by
    obtain ⟨v, r', rfl, h1, h2⟩ := rds_cons.mp r
    exact .cons (Eqb.dp ok h h1) (Eqbs.dp ok t h2)
end
theorem Eqb.shaped {S : Cks} {d : D} {e : PyData} (h : Eqb S 60 d e) : SeqAt.shaped e = true := by
  obtain ⟨h1, h2⟩ := h.lay
  unfold SeqAt.shaped
  rw [h1, decide_eq_true (show e.depth ≤ 64 by omega)]
  rfl
section
variable {K : PySem.W.Frag} {X : Cx} {B : Base} {k : D → Cks → Prop} {kb : Bool → Cks → Prop} {ka : List D → Cks → Prop} {G : Gm} {S : Cks} {N : En} {a b e o c i : Expr} {es : List Expr} {pos apos cpos pos2 tpos : Pos} {ki : Nat → (Nat → D) → (Cks → Prop) → Cks → Prop}
theorem wr_eq {x y : D} {d e : PyData} (hx : Eqb S 60 x d) (hy : Eqb S 60 y e) (hk : k (.bl (PyData.eqv d e)) S) : WR K B (rEqD K) x y k G S := fun F σ H Q vx vy ok rx ry q =>
  ⟨d, e, hx.dp ok rx, hy.dp ok ry, hx.shaped, hy.shaped, q _ F H _ S hk ok (Same.refl F) (rd_v.mpr rfl)⟩
theorem wr_ne {x y : D} {d e : PyData} (hx : Eqb S 60 x d) (hy : Eqb S 60 y e) (hk : k (.bl (!PyData.eqv d e)) S) : WR K B (rNeD K) x y k G S := fun F σ H Q vx vy ok rx ry q =>
  ⟨d, e, hx.dp ok rx, hy.dp ok ry, hx.shaped, hy.shaped, q _ F H _ S hk ok (Same.refl F) (rd_v.mpr rfl)⟩
/-- two ints, two truths compared -/
theorem wr_eqI {x y : Int} (hk : k (.bl (decide (x = y))) S) : WR K B (rEqD K) (.int x) (.int y) k G S := wr_eq .int .int (by unfold PyData.eqv; rw [show (x == y) = decide (x = y) from rfl]; exact hk)
theorem wr_neI {x y : Int} (hk : k (.bl (!decide (x = y))) S) : WR K B (rNeD K) (.int x) (.int y) k G S := wr_ne .int .int (by unfold PyData.eqv; rw [show (x == y) = decide (x = y) from rfl]; exact hk)
theorem wr_ltI {g : Int → Int → V} {x y : Int} (hk : k (.v (g x y)) S) : WR K B (rI0 g) (.int x) (.int y) k G S := WR_i0 hk
/-- x is None -/
theorem wr_isN {x : V} (hk : k (.bl (decide (x = .non))) S) : WR K B (fun x y H Q => y = .non ∧ Q (.bl (decide (x = .non))) H) (.v x) .non k G S := fun F σ H Q vx vy ok rx ry q =>
  ⟨rd_v.mp ry, by rw [rd_v.mp rx]; exact q _ F H _ S hk ok (Same.refl F) (rd_v.mpr rfl)⟩
theorem rd_notnon {F : Hp} {d : D} {v : V} (r : rd K F d v) (h : ∀ x, d ≠ .v x) : decide (v = .non) = false := by
  cases d with
  | v x => exact absurd rfl (h x)
  | tup xs => unfold rd at r; obtain ⟨a, vs, rfl, _⟩ := r; rfl
  | lst xs => unfold rd at r; obtain ⟨a, vs, rfl, _⟩ := r; rfl
  | ins C fs => unfold rd at r; obtain ⟨a, dx, gs, rfl, _⟩ := r; rfl
  | dct kvs => unfold rd at r; obtain ⟨a, ws, rfl, _⟩ := r; rfl
theorem wr_isN' {d : D} (h : ∀ x, d ≠ .v x) (hk : k (.bl false) S) : WR K B (fun x y H Q => y = .non ∧ Q (.bl (decide (x = .non))) H) d .non k G S := fun F σ H Q vx vy ok rx ry q =>
  ⟨rd_v.mp ry, by rw [rd_notnon rx h]; exact q _ F H _ S hk ok (Same.refl F) (rd_v.mpr rfl)⟩
theorem wr_notN {x : V} (hk : k (.bl (!decide (x = .non))) S) : WR K B (fun x y H Q => y = .non ∧ Q (.bl (!decide (x = .non))) H) (.v x) .non k G S := fun F σ H Q vx vy ok rx ry q =>
  ⟨rd_v.mp ry, by rw [rd_v.mp rx]; exact q _ F H _ S hk ok (Same.refl F) (rd_v.mpr rfl)⟩
theorem wr_notN' {d : D} (h : ∀ x, d ≠ .v x) (hk : k (.bl true) S) : WR K B (fun x y H Q => y = .non ∧ Q (.bl (!decide (x = .non))) H) d .non k G S := fun F σ H Q vx vy ok rx ry q =>
  ⟨rd_v.mp ry, by rw [rd_notnon rx h]; exact q _ F H _ S hk ok (Same.refl F) (rd_v.mpr rfl)⟩
/-! ### isinstance with a built-in type -/
inductive TyD (S : Cks) : D → String → Prop
  | non : TyD S .non "NoneType"
  | bl {b : Bool} : TyD S (.bl b) "bool"
  | int {i : Int} : TyD S (.int i) "int"
  | str {x : Str} : TyD S (.str x) "str"
  | tup {xs : List D} : TyD S (.tup xs) "tuple"
  | lst {xs : List D} : TyD S (.lst xs) "list"
  | own {p : Addr} {xs : List D} (j : Nat) : S[j]? = some (ckL p xs) → TyD S (.ref p) "list"
  | dct {p : Addr} {kvs : List (Key × D)} (j : Nat) : S[j]? = some (ckD p kvs) → TyD S (.ref p) "dict"
theorem tyX_frz {H : Hp} {p : Addr} {vs : List V} (h : SqL K H p vs) : TyX K H (.ref p) (.type "list") := by
  rcases h with (h | ⟨o, h⟩) | ⟨o, its, n, h1, h2, _⟩
  · exact .base (.lst h)
  · exact .base (.frz h)
  · exact .kList h1 h2
theorem tyX_use {F H : Hp} {σ : L2.St} {x : D} {t : String} {v : V} (h : TyD S x t) (ok : Ok K B G S F σ H) (r : rd K F x v) : TyX K H v (.type t) := by
  cases h with
  | non => rw [rd_v.mp r]; exact .base .non
  | bl => rw [rd_v.mp r]; exact .base (.bl _)
  | int => rw [rd_v.mp r]; exact .base (.int _)
  | str => rw [rd_v.mp r]; exact .base (.str _)
  | tup =>
    unfold rd at r
    obtain ⟨p, vs, rfl, h1, h2⟩ := r
    exact .base (.tup (ok.fz _ _ h1))
  | lst =>
    unfold rd at r
    obtain ⟨p, vs, rfl, h1, h2⟩ := r
    exact tyX_frz (ok.fz.seq h1)
  | @own p xs j hj =>
    obtain ⟨vs, h1, h2⟩ := ok.he _ (List.mem_of_getElem? hj)
    rw [rd_v.mp r]
    exact .base (.lst h1)
  | @dct p xs j hj =>
    obtain ⟨vs, h1, h2⟩ := ok.he _ (List.mem_of_getElem? hj)
    rw [rd_v.mp r]
    exact .base (.dK h1)
end
end Sy
set_option Elab.async false
set_option maxRecDepth 100000
set_option linter.unusedVariables false
namespace Sy
open PySem L2 PySem.Spec PyProof.Rows
section
variable {X : Cx} {B : Base} {k : D → Cks → Prop} {kb : Bool → Cks → Prop} {ka : List D → Cks → Prop} {G : Gm} {S : Cks} {N : En} {a b e o c i f : Expr} {es : List Expr} {pos apos cpos pos2 tpos : Pos} {ki : Nat → (Nat → D) → (Cks → Prop) → Cks → Prop}
/-! ### isinstance -/
theorem w_bltn {x : Str} {v : V} {u : Value} (hm : X.mg x = none) (hv : bootBuiltins x = some u) (hr : RelV v u) (hk : k (.v v) S) (hg : Gl X x := by rfl) (hn : x ≠ "__name__" := by decide) (hd : (x == ("__debug__" : Str)) = false := by decide) : wE X B (.Name x pos) k G S :=
  wE_of (pe_bltn hg hm hv hr hn hd) (W_c hk)
theorem wc_two {r : List V → Hp → VK → Prop} {x y : D} {K : PySem.W.Frag} (h : ∀ F σ H Q v u, Ok K B G S F σ H → rd K F x v → rd K F y u → (∀ v F' H' d S', k d S' → Ok K B G S' F' σ H' → Same F F' → rd K F' d v → Q v H') → r [v, u] H Q) : WC K B r [x, y] k G S := fun F σ H Q vs ok rx q => by
  obtain ⟨v, r', rfl, h1, h2⟩ := rds_cons.mp rx
  obtain ⟨u, r'', rfl, h3, h4⟩ := rds_cons.mp h2
  rw [rds_nil] at h4
  subst h4
  exact h F σ H Q v u ok h1 h3 q
theorem wc_isi {x : D} {t T : String} {b : Bool} (h : TyD S x t) (hb : kitB t T = some b) (hk : k (.bl b) S) : WC X.K B (rIsi X.K) [x, .v (.ty T)] k G S := wc_two fun F σ H Q v u ok rx ry q =>
  ⟨v, u, .type t, .type T, b, rfl, by rw [rd_v.mp ry]; exact .ty T, tyX_use h ok rx, kit_ty hb, q _ F H _ S hk ok (Same.refl F) (rd_v.mpr rfl)⟩
/-- isinstance(a, T), T a built-in type -/
theorem w_isi {T : String} {p p2 : Pos} (hm : X.mg "isinstance" = none) (hmT : X.mg (Str.ofString T) = none) (hvT : bootBuiltins (Str.ofString T) = some (.type T)) (h : wE X B a (fun x S1 => ∃ t b, TyD S1 x t ∧ kitB t T = some b ∧ k (.bl b) S1) G S) (hg : Gl X "isinstance" := by rfl) (hgT : Gl X (Str.ofString T) := by rfl)
    (hnT : (Str.ofString T) ≠ "__name__" := by decide) (hdT : ((Str.ofString T) == ("__debug__" : Str)) = false := by decide)
    (he : starEach (a :: [.Name (Str.ofString T) p2]) X.env = (false, eval a X.env) :: starEach [.Name (Str.ofString T) p2] X.env := by rfl) (he2 : starEach (.Name (Str.ofString T) p2 :: []) X.env = (false, eval (.Name (Str.ofString T) p2) X.env) :: starEach [] X.env := by rfl)
    (hpl : (backTo pos (starEach [.Name (Str.ofString T) p2] X.env)).any (·.1) = false := by rfl) :
    wE X B (.Call (.Name "isinstance" p) [a, .Name (Str.ofString T) p2] [] pos) k G S :=
  w_callB call_isi hm (by decide +kernel) (wA_cons (fun F σ H Q ok q => h F σ H Q ok fun v F1 H1 d S1 ⟨t, b, hl, hb, hk⟩ ok1 e1 r1 => q v F1 H1 d S1 (wA_cons (w_bltn hmT hvT (v := .ty T) rfl (wA_nil (wc_isi hl hb hk)) hgT hnT hdT) he2) ok1 e1 r1) he) hg (by decide) (by decide) he hpl
/-! ### min, max of two ints -/
theorem w_min2 {p : Pos} (hm : X.mg "min" = none) (h : wE X B a (fun x S1 => wE X B b (fun y S2 => Two x y fun i j => k (.int (if j < i then j else i)) S2) G S1) G S) (hg : Gl X "min" := by rfl)
    (he : starEach (a :: [b]) X.env = (false, eval a X.env) :: starEach [b] X.env := by rfl) (he2 : starEach (b :: []) X.env = (false, eval b X.env) :: starEach [] X.env := by rfl) (hpl : (backTo pos (starEach [b] X.env)).any (·.1) = false := by rfl) (hc : X.calm = true := by rfl) :
    wE X B (.Call (.Name "min" p) [a, b] [] pos) k G S :=
  w_callB (call_min2 hc) hm (by decide +kernel) (wA_cons (fun F σ H Q ok q => h F σ H Q ok fun v F1 H1 d S1 hw ok1 e1 r1 => q v F1 H1 d S1 (wA_cons (fun F σ H Q ok q => hw F σ H Q ok fun v F2 H2 y S2 ⟨i, j, ex, ey, hk⟩ ok2 e2 r2 => q v F2 H2 y S2 (wA_nil (by
    subst ex ey
    exact wc_two fun F σ H Q v u ok rx ry q => ⟨i, j, by rw [rd_v.mp rx, rd_v.mp ry], q _ F H _ _ hk ok (Same.refl F) (rd_v.mpr rfl)⟩)) ok2 e2 r2) he2) ok1 e1 r1) he) hg (by decide) (by decide) he hpl
theorem w_max2 {p : Pos} (hm : X.mg "max" = none) (h : wE X B a (fun x S1 => wE X B b (fun y S2 => Two x y fun i j => k (.int (if j > i then j else i)) S2) G S1) G S) (hg : Gl X "max" := by rfl)
    (he : starEach (a :: [b]) X.env = (false, eval a X.env) :: starEach [b] X.env := by rfl) (he2 : starEach (b :: []) X.env = (false, eval b X.env) :: starEach [] X.env := by rfl) (hpl : (backTo pos (starEach [b] X.env)).any (·.1) = false := by rfl) (hc : X.calm = true := by rfl) :
    wE X B (.Call (.Name "max" p) [a, b] [] pos) k G S :=
  w_callB (call_max2 hc) hm (by decide +kernel) (wA_cons (fun F σ H Q ok q => h F σ H Q ok fun v F1 H1 d S1 hw ok1 e1 r1 => q v F1 H1 d S1 (wA_cons (fun F σ H Q ok q => hw F σ H Q ok fun v F2 H2 y S2 ⟨i, j, ex, ey, hk⟩ ok2 e2 r2 => q v F2 H2 y S2 (wA_nil (by
    subst ex ey
    exact wc_two fun F σ H Q v u ok rx ry q => ⟨i, j, by rw [rd_v.mp rx, rd_v.mp ry], q _ F H _ _ hk ok (Same.refl F) (rd_v.mpr rfl)⟩)) ok2 e2 r2) he2) ok1 e1 r1) he) hg (by decide) (by decide) he hpl
/-! ### sorted: a list of ints (any length), a dict of int keys (below 64) -/
def rSortU (K : PySem.W.Frag) : List V → Hp → VK → Prop := fun xs H Q => rSortedI K xs H Q ∨ ∃ (a : Addr) (kvs : List (Key × V)) (ks : List Int), xs = [.ref a] ∧ Rd H a (.dK kvs) ∧ kvs.map (·.1) = ks.map Sum.inl ∧ ks.length < 64 ∧
    ∀ (ys : List Int) (p : Addr), ys.Perm ks → ys.Pairwise (· ≤ ·) → H p = none → Q (.ref p) (upd H p (.lst (ys.map V.int)))
/-- ns in their order -/
def srt (ns : List Int) : List Int := ns.mergeSort (fun a b => decide (a ≤ b))
theorem srt_perm (ns : List Int) : (srt ns).Perm ns := List.mergeSort_perm ns _
theorem srt_pair (ns : List Int) : (srt ns).Pairwise (· ≤ ·) := by
  have := List.pairwise_mergeSort (le := fun a b : Int => decide (a ≤ b)) (by intro a b c; simp only [decide_eq_true_eq]; omega) (by intro a b; simp only [Bool.or_eq_true, decide_eq_true_eq]; omega) ns
  exact this.imp fun h => of_decide_eq_true h
theorem sorted_unique : ∀ {xs ys : List Int}, xs.Perm ys → xs.Pairwise (· ≤ ·) → ys.Pairwise (· ≤ ·) → xs = ys := fun {xs ys} hp h1 h2 => hp.eq_of_pairwise (fun a b _ _ h h' => by omega) h1 h2
inductive IntsD (S : Cks) : D → List Int → Prop
  | lst {ns : List Int} : IntsD S (.lst (ns.map D.int)) ns
  | own {p : Addr} {ns : List Int} (j : Nat) : S[j]? = some (ckL p (ns.map D.int)) → IntsD S (.ref p) ns
  | dct {p : Addr} {kvs : List (Key × D)} {ns : List Int} (j : Nat) : S[j]? = some (ckD p kvs) → kvs.map (·.1) = ns.map Sum.inl → ns.length < 64 → IntsD S (.ref p) ns
theorem wc_sorted {x : D} {ns : List Int} (h : IntsD S x ns) (hk : ∀ p, k (.ref p) (ckL p ((srt ns).map D.int) :: S)) : WC X.K B (rSortU X.K) [x] k G S := wc_one fun F σ H Q v ok rx q => by
  have fin : ∀ (ys : List Int) (p : Addr), ys.Perm ns → ys.Pairwise (· ≤ ·) → H p = none → Q (.ref p) (upd H p (.lst (ys.map V.int))) := fun ys p h1 h2 hp => by
    have e : ys = srt ns := sorted_unique (h1.trans (srt_perm ns).symm) h2 (srt_pair ns)
    subst e
    exact q _ F _ _ _ (hk p) (ok.to (ok.toHs.alloc (c := ckL p _) hp rfl ⟨_, upd_same, ints_rds _⟩) (Same.refl F)) (Same.refl F) (rd_v.mpr rfl)
  cases h with
  | lst =>
    unfold rd at rx
    obtain ⟨p, vs, rfl, h1, h2⟩ := rx
    rw [rds_ints h2] at h1
    exact .inl ⟨p, ns, rfl, ok.fz.seq h1, fin⟩
  | @own p ns j hj =>
    obtain ⟨vs, h1, h2⟩ := ok.he _ (List.mem_of_getElem? hj)
    rw [rds_ints h2] at h1
    exact .inl ⟨p, ns, by rw [rd_v.mp rx], SqL.of h1, fin⟩
  | @dct p kvs ns j hj hkeys hl =>
    obtain ⟨vs, h1, h2⟩ := ok.he _ (List.mem_of_getElem? hj)
    exact .inr ⟨p, vs, ns, by rw [rd_v.mp rx], .inl h1, by rw [← rks_keys h2]; exact hkeys, hl, fin⟩
theorem w_sorted {p : Pos} (hm : X.mg "sorted" = none) (h : wE X B a (fun x S1 => ∃ ns, IntsD S1 x ns ∧ ∀ p, k (.ref p) (ckL p ((srt ns).map D.int) :: S1)) G S) (hc : X.calm = true := by rfl) (hg : Gl X "sorted" := by rfl) (he : starEach (a :: []) X.env = (false, eval a X.env) :: starEach [] X.env := by rfl) (hpl : (backTo pos (starEach [] X.env)).any (·.1) = false := by rfl) :
    wE X B (.Call (.Name "sorted" p) [a] [] pos) k G S :=
  w_callB (CallR.or cr_sortedI (call_sortedDI hc)) hm (by decide +kernel) (wA_cons (fun F σ H Q ok q => h F σ H Q ok fun v F1 H1 d S1 ⟨n, hl, hk⟩ ok1 e1 r1 => q v F1 H1 d S1 (wA_nil (wc_sorted hl hk)) ok1 e1 r1) he) hg (by decide) (by decide) he hpl
/-! ### parts -/
def cutD (xs : List D) (lo hi : Option Int) : List D := (xs.drop (HT.sIx xs.length 0 lo)).take (HT.sIx xs.length xs.length hi - HT.sIx xs.length 0 lo)
theorem rds_cut {K : PySem.W.Frag} {F : Hp} {xs : List D} {vs : List V} (h : rds K F xs vs) (lo hi : Option Int) : rds K F (cutD xs lo hi) (cutV vs lo hi) := by
  unfold cutD cutV
  rw [← rds_len h]
  exact rds_take _ (rds_drop _ h)
/-- an end of a part: nothing, or an int -/
def wP (X : Cx) (B : Base) (e : Option Expr) (k : Option Int → Cks → Prop) (G : Gm) (S : Cks) : Prop := match e with
  | none => k none S
  | some e => wE X B e (fun d S1 => ∃ i : Int, d = .int i ∧ k (some i) S1) G S
def tP (X : Cx) (e : Option Expr) : TO := match e with
  | none => tNoPart
  | some e => tPart (tE X e)
theorem po_t {e : Option Expr} : PO X e (tP X e) := by
  cases e with
  | none => exact po_none
  | some e => exact po_some pe_t
theorem wP_use {e : Option Expr} {kp : Option Int → Cks → Prop} (h : wP X B e kp G S) {F H : Hp} {σ : L2.St} {Q : Option Int → Hp → Prop} (ok : Ok X.K B G S F σ H) (q : ∀ o F' H' S', kp o S' → Ok X.K B G S' F' σ H' → Same F F' → Q o H') : tP X e σ H Q := by
  cases e with
  | none => exact q none F H S h ok (Same.refl F)
  | some e => exact h F σ H _ ok fun v F' H' d S' ⟨i, ed, hk⟩ ok' e' r' => ⟨i, by subst ed; exact rd_v.mp r', q _ F' H' S' hk ok' e'⟩
/-- x[lo:hi] of a list -/
theorem w_slice {lo hi : Option Expr} {p2 : Pos} (h : wE X B a (fun x S1 => wP X B lo (fun l S2 => wP X B hi (fun u S3 => ∃ xs, ((x = .lst xs) ∨ ∃ p, ∃ j : Nat, x = .ref p ∧ S3[j]? = some (ckL p xs)) ∧ ∀ p, k (.ref p) (ckL p (cutD xs l u) :: S3)) G S2) G S1) G S) :
    wE X B (.Subscript a (.Slice lo hi none p2) pos) k G S := wE_of (pe_slice sl_list pe_t po_t po_t) fun F σ H Q ok q => h F σ H _ ok fun v F1 H1 x S1 h1 ok1 e1 r1 => wP_use h1 ok1 fun l F2 H2 S2 h2 ok2 e2 => wP_use h2 ok2 fun u F3 H3 S3 ⟨xs, hx, hk⟩ ok3 e3 => by
  have fin : ∀ vs, rds X.K F3 xs vs → ∀ p, H3 p = none → Q (.ref p) (upd H3 p (.lst (cutV vs l u))) := fun vs hv p hp =>
    q _ F3 _ _ _ (hk p) (ok3.to (ok3.toHs.alloc (c := ckL p _) hp rfl ⟨_, upd_same, rds_cut hv l u⟩) (Same.refl F3)) ((e1.trans e2).trans e3) (rd_v.mpr rfl)
  rcases hx with rfl | ⟨p, j, rfl, hj⟩
  · have r3 := rd_mono (e2.trans e3) _ _ r1
    unfold rd at r3
    obtain ⟨p, vs, rfl, g1, g2⟩ := r3
    exact ⟨p, vs, rfl, ok3.fz.seq g1, fin vs g2⟩
  · obtain ⟨vs, g1, g2⟩ := ok3.he _ (List.mem_of_getElem? hj)
    exact ⟨p, vs, by rw [rd_v.mp r1], SqL.of g1, fin vs g2⟩
/-! ### methods of dicts -/
theorem isD_own {K : PySem.W.Frag} {F H : Hp} {σ : L2.St} {p : Addr} {kvs : List (Key × D)} {j : Nat} (ok : Ok K B G S F σ H) (hj : S[j]? = some (ckD p kvs)) : IsD H p := by
  obtain ⟨vs, h1, h2⟩ := ok.he _ (List.mem_of_getElem? hj)
  exact .inl ⟨vs, .inl h1⟩
theorem w_dpop (h : wE X B o (fun x S1 => ∃ p, x = .ref p ∧ (∃ kvs, ∃ j : Nat, S1[j]? = some (ckD p kvs)) ∧ wE X B e (fun y S2 => ∃ kvs key d, ∃ j : Nat, y = kD key ∧ S2[j]? = some (ckD p kvs) ∧ getK kvs key = some d ∧ k d (S2.set j (ckD p (delK kvs key)))) G S1) G S)
    (m : M1 X o "pop" apos e cpos := by exact ⟨rfl, rfl, rfl, rfl⟩) : wE X B (.Call (.Attribute o "pop" apos) [e] [] cpos) k G S :=
  wE_of (pe_dpop1 pe_t pe_t m) fun F σ H Q ok q => h F σ H _ ok fun v F1 H1 x S1 ⟨p, ex, ⟨kvs, j, hj⟩, h1⟩ ok1 e1 r1 => by
    subst ex
    refine ⟨p, rd_v.mp r1, isD_own ok1 hj, h1 F1 σ H1 _ ok1 fun u F2 H2 y S2 ⟨kvs, key, d, j, ey, hj, hg, hk⟩ ok2 e2 r2 => ?_⟩
    subst ey
    obtain ⟨vs, g1, g2⟩ := ok2.he _ (List.mem_of_getElem? hj)
    obtain ⟨w, g3, g4⟩ := rks_get g2 hg
    exact ⟨vs, key, w, g1, rd_v.mp r2, g3, q w F2 _ d _ hk (ok2.writeD hj (rks_del g2)) (e1.trans e2) g4⟩
/-! ### a dict walked: the whole statement stands under a lock -/
theorem rks_pairs {K : PySem.W.Frag} {F : Hp} : ∀ {kvs : List (Key × D)} {ws : List (Key × V)} {i : Nat} {kk : Key} {w : V}, rks K F kvs ws → ws[i]? = some (kk, w) → ∃ d, kvs[i]? = some (kk, d) ∧ rd K F d w
  | [], ws, i, kk, w, h, e => by rw [rks_nil] at h; subst h; simp at e
  | x :: kvs, ws, i, kk, w, h, e => by
    rw [rks_cons] at h
    obtain ⟨v, r, rfl, h2, h3⟩ := h
    cases i with
    | zero => simp at e; obtain ⟨rfl, rfl⟩ := e; exact ⟨x.2, rfl, h2⟩
    | succ i =>
      obtain ⟨d, hd, rd'⟩ := rks_pairs (i := i) h3 (by simpa using e)
      exact ⟨d, by simpa using hd, rd'⟩
def itemD (kvs : List (Key × D)) (i : Nat) : D := at' (kvs.map fun kv => .tup [kD kv.1, kv.2]) i
def keyD (kvs : List (Key × D)) (i : Nat) : D := at' (kvs.map fun kv => kD kv.1) i
def valD (kvs : List (Key × D)) (i : Nat) : D := at' (kvs.map fun kv => kv.2) i
theorem yl_items {K : PySem.W.Frag} {F : Hp} {d : Addr} {od : Obj} {ws : List (Key × V)} {kvs : List (Key × D)} (hl : kvs.length = ws.length) : Yl K B (Iti d od ws) kvs.length (itemD kvs) (fun S => ckZ d od ws kvs ∈ S) F where
  mn := fun _ _ h => List.mem_cons_of_mem _ h
  go := fun i G S F' σ H hi ok e hm => ⟨(ok.he _ hm).1, by omega⟩
  stop := fun G S F' σ H ok e hm => ⟨(ok.he _ hm).1, by omega⟩
  yld := fun i G S F' σ H x H' hi ok e hm ⟨T, kk, v, h1, h2, h3, h4⟩ => by
    subst h4 h2
    obtain ⟨d', hd, hr⟩ := rks_pairs (ok.he _ hm).2 h1
    obtain ⟨g1, g2⟩ := ok.toHs.allocF (o := .tup [kV kk, v]) h3
    refine ⟨_, ok.to g1 g2, g2, ?_⟩
    have : itemD kvs i = .tup [kD kk, d'] := at'_of (by rw [List.getElem?_map, hd]; rfl)
    rw [this]
    unfold rd
    exact ⟨T, _, rfl, upd_same, rds_cons.mpr ⟨_, _, rfl, rd_v.mpr rfl, rds_one (rd_mono g2 _ _ hr)⟩⟩
theorem yl_keys {K : PySem.W.Frag} {F : Hp} {d : Addr} {od : Obj} {ws : List (Key × V)} {kvs : List (Key × D)} (hl : kvs.length = ws.length) : Yl K B (Itk d od ws) kvs.length (keyD kvs) (fun S => ckZ d od ws kvs ∈ S) F where
  mn := fun _ _ h => List.mem_cons_of_mem _ h
  go := fun i G S F' σ H hi ok e hm => ⟨(ok.he _ hm).1, by omega⟩
  stop := fun G S F' σ H ok e hm => ⟨(ok.he _ hm).1, by omega⟩
  yld := fun i G S F' σ H x H' hi ok e hm ⟨eh, kk, v, h1, h2⟩ => by
    subst eh h2
    obtain ⟨d', hd, hr⟩ := rks_pairs (ok.he _ hm).2 h1
    refine ⟨F', ok, Same.refl F', ?_⟩
    have : keyD kvs i = kD kk := at'_of (by rw [List.getElem?_map, hd]; rfl)
    rw [this]
    exact rd_v.mpr rfl
theorem yl_vals {K : PySem.W.Frag} {F : Hp} {d : Addr} {od : Obj} {ws : List (Key × V)} {kvs : List (Key × D)} (hl : kvs.length = ws.length) : Yl K B (Itd d od ws) kvs.length (valD kvs) (fun S => ckZ d od ws kvs ∈ S) F where
  mn := fun _ _ h => List.mem_cons_of_mem _ h
  go := fun i G S F' σ H hi ok e hm => ⟨(ok.he _ hm).1, by omega⟩
  stop := fun G S F' σ H ok e hm => ⟨(ok.he _ hm).1, by omega⟩
  yld := fun i G S F' σ H x H' hi ok e hm ⟨eh, kk, h1⟩ => by
    subst eh
    obtain ⟨d', hd, hr⟩ := rks_pairs (ok.he _ hm).2 h1
    refine ⟨F', ok, Same.refl F', ?_⟩
    have : valD kvs i = d' := at'_of (by rw [List.getElem?_map, hd]; rfl)
    rw [this]
    exact hr
theorem wI_items {elts : List Expr} {kk : Nat} (h : wE X B e (fun x S1 => ∃ p od ws kvs, ∃ j : Nat, x = .ref p ∧ S1[j]? = some (ckZ p od ws kvs) ∧ ki kvs.length (itemD kvs) (fun S => ckZ p od ws kvs ∈ S) S1) G S) (hbase : attributeBase e "items" X.env (eval e X.env) = eval e X.env := by rfl) (hline : (apos.endLine == cpos.line) = true := by rfl) :
    wI X B (.Tuple elts kk tpos) (.Call (.Attribute e "items" apos) [] [] cpos) ki G S := wI_of (pi_items pe_t hbase hline) fun F σ H R ok q => h F σ H _ ok fun v F1 H1 x S1 ⟨p, od, ws, kvs, j, ex, hj, hk⟩ ok1 e1 r1 => by
  subst ex
  have hm := List.mem_of_getElem? hj
  exact ⟨p, od, ws, rd_v.mp r1, (ok1.he _ hm).1, q _ F1 H1 _ _ _ S1 hk ok1 e1 (yl_items (rks_len (ok1.he _ hm).2))⟩
theorem wI_vals {tg : Expr} (h : wE X B e (fun x S1 => ∃ p od ws kvs, ∃ j : Nat, x = .ref p ∧ S1[j]? = some (ckZ p od ws kvs) ∧ ki kvs.length (valD kvs) (fun S => ckZ p od ws kvs ∈ S) S1) G S) (hbase : attributeBase e "values" X.env (eval e X.env) = eval e X.env := by rfl) (hline : (apos.endLine == cpos.line) = true := by rfl) :
    wI X B tg (.Call (.Attribute e "values" apos) [] [] cpos) ki G S := wI_of (pi_values pe_t hbase hline) fun F σ H R ok q => h F σ H _ ok fun v F1 H1 x S1 ⟨p, od, ws, kvs, j, ex, hj, hk⟩ ok1 e1 r1 => by
  subst ex
  have hm := List.mem_of_getElem? hj
  exact ⟨p, od, ws, rd_v.mp r1, (ok1.he _ hm).1, q _ F1 H1 _ _ _ S1 hk ok1 e1 (yl_vals (rks_len (ok1.he _ hm).2))⟩
theorem wI_keys {tg : Expr} (h : wE X B e (fun x S1 => ∃ p od ws kvs, ∃ j : Nat, x = .ref p ∧ S1[j]? = some (ckZ p od ws kvs) ∧ ki kvs.length (keyD kvs) (fun S => ckZ p od ws kvs ∈ S) S1) G S) : wI X B tg e ki G S := wI_of (pi_keys pe_t) fun F σ H R ok q => h F σ H _ ok fun v F1 H1 x S1 ⟨p, od, ws, kvs, j, ex, hj, hk⟩ ok1 e1 r1 => by
  subst ex
  have hm := List.mem_of_getElem? hj
  exact ⟨p, od, rd_v.mp r1, .inl ⟨ws, (ok1.he _ hm).1, q _ F1 H1 _ _ _ S1 hk ok1 e1 (yl_keys (rks_len (ok1.he _ hm).2))⟩⟩
/-- the same ends, each behind the dict's unlocking -/
def unZ (d : Addr) (od : Obj) (ws : List (Key × V)) (kvs : List (Key × D)) (n : Gm → Cks → Prop) : Gm → Cks → Prop := fun G' S' => ∃ j : Nat, S'[j]? = some (ckZ d od ws kvs) ∧ n G' (S'.set j (ckD d kvs))
theorem unlock {K : PySem.W.Frag} {F H : Hp} {σ : L2.St} {d : Addr} {od : Obj} {ws : List (Key × V)} {kvs : List (Key × D)} {j : Nat} (ok : Ok K B G S F σ H) (hj : S[j]? = some (ckZ d od ws kvs)) : H d = some (.frz od (.dK ws)) ∧ Ok K B G (S.set j (ckD d kvs)) F σ (upd H d (.dK ws)) := by
  obtain ⟨h1, h2⟩ := ok.he _ (List.mem_of_getElem? hj)
  exact ⟨h1, ok.to (ok.toHs.write hj (p := d) (by simp [ckZ]) rfl ⟨ws, upd_same, h2⟩) (Same.refl F)⟩
theorem ws_lock {st : Stmt} {d : Addr} {kvs : List (Key × D)} (j : Nat) (hj : S[j]? = some (ckD d kvs))
    (h : ∀ od ws, wS X B st { nx := unZ d od ws kvs N.nx, rt := fun r S' => ∃ j : Nat, S'[j]? = some (ckZ d od ws kvs) ∧ N.rt r (S'.set j (ckD d kvs)), bk := unZ d od ws kvs N.bk, ct := unZ d od ws kvs N.ct } G (S.set j (ckZ d od ws kvs))) : wS X B st N G S :=
  wS_of (ps_lock ps_t) fun F σ H E ok re => by
    obtain ⟨ws, h1, h2⟩ := ok.he _ (List.mem_of_getElem? hj)
    refine ⟨d, .dK ws, h1, trivial, fun od => ?_⟩
    have ok1 : Ok X.K B G (S.set j (ckZ d od ws kvs)) F σ (upd H d (.frz od (.dK ws))) := ok.to (ok.toHs.write hj (p := d) (c' := ckZ d od ws kvs) (by simp [ckD]) rfl ⟨upd_same, h2⟩) (Same.refl F)
    refine h od ws F σ _ _ ok1 ⟨fun G' S' F' σ' H' ⟨j', hj', n⟩ ok' e' => ?_, fun dd v G' S' F' σ' H' ⟨j', hj', n⟩ ok' e' r' => ?_, fun G' S' F' σ' H' ⟨j', hj', n⟩ ok' e' => ?_, fun G' S' F' σ' H' ⟨j', hj', n⟩ ok' e' => ?_⟩
    · obtain ⟨g1, g2⟩ := unlock ok' hj'
      exact ⟨g1, re.nx _ _ F' σ' _ n g2 e'⟩
    · obtain ⟨g1, g2⟩ := unlock ok' hj'
      exact ⟨g1, re.rt dd v _ _ F' σ' _ n g2 e' r'⟩
    · obtain ⟨g1, g2⟩ := unlock ok' hj'
      exact ⟨g1, re.bk _ _ F' σ' _ n g2 e'⟩
    · obtain ⟨g1, g2⟩ := unlock ok' hj'
      exact ⟨g1, re.ct _ _ F' σ' _ n g2 e'⟩
theorem w_lock {d : Addr} {kvs : List (Key × D)} (j : Nat) (hj : S[j]? = some (ckD d kvs)) (h : ∀ od ws, wE X B e (fun r S' => ∃ j : Nat, S'[j]? = some (ckZ d od ws kvs) ∧ k r (S'.set j (ckD d kvs))) G (S.set j (ckZ d od ws kvs))) : wE X B e k G S :=
  wE_of (pe_lock pe_t) fun F σ H Q ok q => by
    obtain ⟨ws, h1, h2⟩ := ok.he _ (List.mem_of_getElem? hj)
    refine ⟨d, .dK ws, h1, trivial, fun od => ?_⟩
    have ok1 : Ok X.K B G (S.set j (ckZ d od ws kvs)) F σ (upd H d (.frz od (.dK ws))) := ok.to (ok.toHs.write hj (p := d) (c' := ckZ d od ws kvs) (by simp [ckD]) rfl ⟨upd_same, h2⟩) (Same.refl F)
    refine h od ws F σ _ _ ok1 fun v F' H' dd S' ⟨j', hj', n⟩ ok' e' r' => ?_
    obtain ⟨g1, g2⟩ := unlock ok' hj'
    exact ⟨g1, q v F' _ dd _ n g2 e' r'⟩
/-! ### zip, enumerate of lists -/
inductive LsD (S : Cks) : D → List D → (Cks → Prop) → Prop
  | lst {xs : List D} : LsD S (.lst xs) xs (fun _ => True)
  | own {p : Addr} {xs : List D} (j : Nat) : S[j]? = some (ckL p xs) → LsD S (.ref p) xs (fun T => ckL p xs ∈ T)
theorem lsD_use {K : PySem.W.Frag} {F H : Hp} {σ : L2.St} {x : D} {xs : List D} {gS : Cks → Prop} {v : V} (h : LsD S x xs gS) (ok : Ok K B G S F σ H) (r : rd K F x v) : ∃ p vs, v = .ref p ∧ SqL K H p vs ∧ vs.length = xs.length ∧
    (∀ T F' σ' H' G', Ok K B G' T F' σ' H' → Same F F' → gS T → ∃ us, SqL K H' p us ∧ rds K F' xs us) ∧ (∀ c T, gS T → gS (c :: T)) := by
  cases h with
  | lst =>
    unfold rd at r
    obtain ⟨p, vs, rfl, h1, h2⟩ := r
    exact ⟨p, vs, rfl, ok.fz.seq h1, (rds_len h2).symm, fun T F' σ' H' G' ok' e' _ => ⟨vs, ok'.fz.seq (e'.seq h1), rds_mono e' _ _ h2⟩, fun _ _ h => h⟩
  | @own p xs j hj =>
    obtain ⟨vs, h1, h2⟩ := ok.he _ (List.mem_of_getElem? hj)
    exact ⟨p, vs, rd_v.mp r, SqL.of h1, (rds_len h2).symm, fun T F' σ' H' G' ok' e' hT => let ⟨us, g1, g2⟩ := ok'.he _ hT; ⟨us, SqL.of g1, g2⟩, fun _ _ h => List.mem_cons_of_mem _ h⟩
theorem wI_enum {elts : List Expr} {kk : Nat} {p : Pos} (hm : X.mg "enumerate" = none) (h : wE X B a (fun x S1 => ∃ xs gS, LsD S1 x xs gS ∧ ki xs.length (fun i => .tup [.int i, at' xs i]) gS S1) G S) (hg : Gl X "enumerate" := by rfl) (hs : starEach [a] X.env = [(false, eval a X.env)] := by rfl) :
    wI X B (.Tuple elts kk tpos) (.Call (.Name "enumerate" p) [a] [] pos) ki G S :=
  wI_of (pi_enum hg hm (pa_cons pe_t pa_nil hs) hs) fun F σ H R ok q => h F σ H _ ok fun v F1 H1 x S1 ⟨xs, gS, hx, hk⟩ ok1 e1 r1 => by
    obtain ⟨p, vs, rfl, h1, h2, h3, h4⟩ := lsD_use hx ok1 r1
    refine ⟨p, vs, rfl, h1, q _ F1 H1 _ _ _ S1 hk ok1 e1 ⟨h4, fun i G S F' σ H hi ok e hm => ?_, fun G S F' σ H ok e hm => ?_, fun i G S F' σ H x H' hi ok e hm hy => ?_⟩⟩
    · obtain ⟨us, g1, g2⟩ := h3 _ _ _ _ _ ok e hm
      obtain ⟨x, hx⟩ := get_of (xs := us) (i := i) (by rw [← rds_len g2]; exact hi)
      exact ⟨us, x, g1, hx⟩
    · obtain ⟨us, g1, g2⟩ := h3 _ _ _ _ _ ok e hm
      exact ⟨us, g1, by rw [rds_len g2]; exact Nat.le_refl _⟩
    · obtain ⟨T, y, rfl, hT, rfl, hy⟩ := hy
      obtain ⟨us, g1, g2⟩ := h3 _ _ _ _ _ ok e hm
      obtain ⟨f1, f2⟩ := ok.toHs.allocF (o := .tup [.int (i : Nat), y]) hT
      refine ⟨_, ok.to f1 f2, f2, ?_⟩
      unfold rd
      exact ⟨T, _, rfl, upd_same, rds_cons.mpr ⟨_, _, rfl, rd_v.mpr rfl, rds_one (rd_mono f2 _ _ (rds_at g2 (hy us g1)))⟩⟩
theorem wI_zip {elts : List Expr} {kk : Nat} {p : Pos} (hm : X.mg "zip" = none) (h : wE X B a (fun x S1 => wE X B b (fun y S2 => ∃ xs ys gS gT, LsD S2 x xs gS ∧ LsD S2 y ys gT ∧ ki (min xs.length ys.length) (fun i => .tup [at' xs i, at' ys i]) (fun T => gS T ∧ gT T) S2) G S1) G S) (hg : Gl X "zip" := by rfl)
    (hs : starEach [a, b] X.env = (false, eval a X.env) :: starEach [b] X.env := by rfl) (hs2 : starEach [b] X.env = (false, eval b X.env) :: starEach [] X.env := by rfl) (hpl : (backTo pos (starEach [b] X.env)).any (·.1) = false := by rfl) :
    wI X B (.Tuple elts kk tpos) (.Call (.Name "zip" p) [a, b] [] pos) ki G S :=
  wI_of (pi_zip hg hm (pa_cons pe_t (pa_cons pe_t pa_nil hs2) hs) hs hpl) fun F σ H R ok q => h F σ H _ ok fun v F1 H1 x S1 hw ok1 e1 r1 => hw F1 σ H1 _ ok1 fun u F2 H2 y S2 ⟨xs, ys, gS, gT, hx, hy, hk⟩ ok2 e2 r2 => by
    obtain ⟨p, vs, rfl, h1, h2, h3, h4⟩ := lsD_use hx ok2 (rd_mono e2 _ _ r1)
    obtain ⟨p', vs', rfl, h1', h2', h3', h4'⟩ := lsD_use hy ok2 r2
    refine ⟨p, p', vs, vs', rfl, h1, h1', q _ F2 H2 _ _ _ S2 hk ok2 (e1.trans e2) ⟨fun c T hT => ⟨h4 c T hT.1, h4' c T hT.2⟩, fun i G S F' σ H hi ok e hm => ?_, fun G S F' σ H ok e hm => ?_, fun i G S F' σ H x H' hi ok e hm hz => ?_⟩⟩
    · obtain ⟨us, g1, g2⟩ := h3 _ _ _ _ _ ok e hm.1
      obtain ⟨us', g1', g2'⟩ := h3' _ _ _ _ _ ok e hm.2
      obtain ⟨x, hx⟩ := get_of (xs := us) (i := i) (by rw [← rds_len g2]; omega)
      obtain ⟨x', hx'⟩ := get_of (xs := us') (i := i) (by rw [← rds_len g2']; omega)
      exact ⟨us, us', x, x', g1, g1', hx, hx'⟩
    · obtain ⟨us, g1, g2⟩ := h3 _ _ _ _ _ ok e hm.1
      obtain ⟨us', g1', g2'⟩ := h3' _ _ _ _ _ ok e hm.2
      exact ⟨us, us', g1, g1', by rw [← rds_len g2, ← rds_len g2']; omega⟩
    · obtain ⟨T, y, y', rfl, hT, rfl, hz, hz'⟩ := hz
      obtain ⟨us, g1, g2⟩ := h3 _ _ _ _ _ ok e hm.1
      obtain ⟨us', g1', g2'⟩ := h3' _ _ _ _ _ ok e hm.2
      obtain ⟨f1, f2⟩ := ok.toHs.allocF (o := .tup [y, y']) hT
      refine ⟨_, ok.to f1 f2, f2, ?_⟩
      unfold rd
      exact ⟨T, _, rfl, upd_same, rds_cons.mpr ⟨_, _, rfl, rd_mono f2 _ _ (rds_at g2 (hz us g1)), rds_one (rd_mono f2 _ _ (rds_at g2' (hz' us' g1')))⟩⟩
end
end Sy
set_option Elab.async false
set_option maxRecDepth 100000
set_option linter.unusedVariables false
namespace Sy
open PySem L2 PySem.Spec PyProof.Rows
section
variable {X : Cx} {B : Base} {k : D → Cks → Prop} {kb : Bool → Cks → Prop} {ka : List D → Cks → Prop} {G : Gm} {S : Cks} {N : En} {a b e o c i f : Expr} {es : List Expr} {pos apos cpos pos2 tpos : Pos} {ki : Nat → (Nat → D) → (Cks → Prop) → Cks → Prop}
theorem W_mono {K : PySem.W.Frag} {t : TE} {k1 k2 : D → Cks → Prop} (h : W K B t k1 G S) (m : ∀ d S', k1 d S' → k2 d S') : W K B t k2 G S := fun F σ H Q ok q => h F σ H Q ok fun v F' H' d S' hk => q v F' H' d S' (m d S' hk)
theorem wT_i2 {op : CmpOp} {g : Int → Int → Bool} (ho : OpR X (compareOp op) (rI0 fun i j => .bl (g i j))) (h : wE X B a (fun x S1 => wE X B b (fun y S2 => Two x y fun i j => kb (g i j) S2) G S1) G S) (hm : behindInMarks op b = false := by first | exact nomark _ | rfl) : wT X B (.Compare a [op] [b] pos) kb G S :=
  wT_cmp ho (W_mono h fun x S1 h1 => W_mono h1 fun y S2 ⟨i, j, ex, ey, hk⟩ => by subst ex ey; exact WR_i0 (g := fun i j => .bl (g i j)) (toB_mk hk)) hm
theorem wT_lt (h : wE X B a (fun x S1 => wE X B b (fun y S2 => Two x y fun i j => kb (decide (i < j)) S2) G S1) G S) : wT X B (.Compare a [.Lt] [b] pos) kb G S := wT_i2 (g := fun i j => decide (i < j)) op_lt h
theorem wT_le (h : wE X B a (fun x S1 => wE X B b (fun y S2 => Two x y fun i j => kb (decide (i ≤ j)) S2) G S1) G S) : wT X B (.Compare a [.LtE] [b] pos) kb G S := wT_i2 (g := fun i j => decide (i ≤ j)) op_le h
theorem wT_gt (h : wE X B a (fun x S1 => wE X B b (fun y S2 => Two x y fun i j => kb (decide (j < i)) S2) G S1) G S) : wT X B (.Compare a [.Gt] [b] pos) kb G S := wT_i2 (g := fun i j => decide (j < i)) op_gt h
theorem wT_ge (h : wE X B a (fun x S1 => wE X B b (fun y S2 => Two x y fun i j => kb (decide (j ≤ i)) S2) G S1) G S) : wT X B (.Compare a [.GtE] [b] pos) kb G S := wT_i2 (g := fun i j => decide (j ≤ i)) op_ge h
theorem wT_eq (hu : X.A.units + 64 < cLine) (h : wE X B a (fun x S1 => wE X B b (fun y S2 => WR X.K B (rEqD X.K) x y (toB kb) G S2) G S1) G S) : wT X B (.Compare a [.Eq] [b] pos) kb G S := wT_cmp (op_eqD hu) h
theorem wT_ne (hu : X.A.units + 64 < cLine) (h : wE X B a (fun x S1 => wE X B b (fun y S2 => WR X.K B (rNeD X.K) x y (toB kb) G S2) G S1) G S) : wT X B (.Compare a [.NotEq] [b] pos) kb G S := wT_cmp (op_neD hu) h
theorem w_eq (hu : X.A.units + 64 < cLine) (h : wE X B a (fun x S1 => wE X B b (fun y S2 => WR X.K B (rEqD X.K) x y k G S2) G S1) G S) : wE X B (.Compare a [.Eq] [b] pos) k G S := w_cmp (op_eqD hu) h
theorem w_ne (hu : X.A.units + 64 < cLine) (h : wE X B a (fun x S1 => wE X B b (fun y S2 => WR X.K B (rNeD X.K) x y k G S2) G S1) G S) : wE X B (.Compare a [.NotEq] [b] pos) k G S := w_cmp (op_neD hu) h
theorem wT_in (hu : X.A.units + 1 < cLine) (h : wE X B a (fun x S1 => wE X B b (fun y S2 => ∃ t, InD S2 x y t ∧ kb t S2) G S1) G S) (hm : behindInMarks .In b = false := by rfl) : wT X B (.Compare a [.In] [b] pos) kb G S :=
  wT_cmp (op_inU hu) (W_mono h fun x S1 h1 => W_mono h1 fun y S2 ⟨t, h2, hk⟩ => wr_in (neg := false) h2 (toB_mk hk)) hm
theorem wT_notin (hu : X.A.units + 1 < cLine) (h : wE X B a (fun x S1 => wE X B b (fun y S2 => ∃ t, InD S2 x y t ∧ kb (!t) S2) G S1) G S) (hm : behindInMarks .NotIn b = false := by rfl) : wT X B (.Compare a [.NotIn] [b] pos) kb G S :=
  wT_cmp (op_notInU hu) (W_mono h fun x S1 h1 => W_mono h1 fun y S2 ⟨t, h2, hk⟩ => wr_in (neg := true) h2 (toB_mk hk)) hm
theorem wT_is (h : wE X B a (fun x S1 => (∃ y, x = .v y ∧ kb (decide (y = .non)) S1) ∨ ((∀ y, x ≠ .v y) ∧ kb false S1)) G S) {j : Nat} : wT X B (.Compare a [.Is] [.Constant .none j pos2] pos) kb G S :=
  wT_cmp op_isN (W_mono h fun x S1 h1 => w_none (by
    rcases h1 with ⟨y, rfl, hk⟩ | ⟨hn, hk⟩
    · exact wr_isN (toB_mk hk)
    · exact wr_isN' hn (toB_mk hk)))
theorem wT_isnot (h : wE X B a (fun x S1 => (∃ y, x = .v y ∧ kb (!decide (y = .non)) S1) ∨ ((∀ y, x ≠ .v y) ∧ kb true S1)) G S) {j : Nat} : wT X B (.Compare a [.IsNot] [.Constant .none j pos2] pos) kb G S :=
  wT_cmp op_notN (W_mono h fun x S1 h1 => w_none (by
    rcases h1 with ⟨y, rfl, hk⟩ | ⟨hn, hk⟩
    · exact wr_notN (toB_mk hk)
    · exact wr_notN' hn (toB_mk hk)))
/-- a <= b < c over ints -/
theorem wT_lelt (h : wE X B a (fun x S1 => wE X B b (fun y S2 => Two x y fun i j => (decide (i ≤ j) = true → wE X B c (fun z S3 => One z fun n => kb (decide (j < n)) S3) G S2) ∧ (decide (i ≤ j) = false → kb false S2)) G S1) G S)
    (hm : lastMarks [.LtE, .Lt] [b, c] = false := by with_unfolding_all rfl) : wT X B (.Compare a [.LtE, .Lt] [b, c] pos) kb G S :=
  wT_chain (r := rI0 fun i j => .bl (decide (i ≤ j))) (r' := rI0 fun i j => .bl (decide (i < j))) op_le op_lt (W_mono h fun x S1 h1 => W_mono h1 fun y S2 ⟨i, j, ex, ey, h2, h3⟩ => by
    subst ex ey
    exact WR_i0 (g := fun i j => .bl (decide (i ≤ j))) (toB_mk ⟨fun e => W_mono (h2 e) fun z S3 ⟨n, ez, hk⟩ => by subst ez; exact WR_i0 (g := fun i j => .bl (decide (i < j))) (toB_mk hk), fun e => toB_mk (h3 e)⟩)) hm
theorem w_mul (h : wE X B a (fun x S1 => wE X B b (fun y S2 => WR X.K B rMulU x y k G S2) G S1) G S) : wE X B (.BinOp a .Mult b pos) k G S := w_bin op_mulU h
theorem wr_mulI {i j : Int} (hc : CMulW i j) (hk : k (.int (i * j)) S) : WR X.K B rMulU (.int i) (.int j) k G S := WR_or1 (r := rI CMulW fun i j => .int (i * j)) (WR_i (g := fun i j => .int (i * j)) hc hk)
/-- two ints of fewer than a million bits together -/
theorem mulW_of {i j : Int} {a b : Nat} (ha : i.natAbs < 2 ^ a) (hb : j.natAbs < 2 ^ b) (h0 : 0 < a := by decide) (h1 : 0 < b := by decide) (h : a + b ≤ 1000000 := by decide) : CMulW i j := wide_mul ha hb h0 h1 h
theorem divW_of {i j : Int} {b : Nat} (h : 0 < j) (hb : j.natAbs < 2 ^ b) (h0 : 0 < b := by decide) (h9 : b ≤ 9000 := by decide) : CDivW i j := wide_div h hb h0 h9
/-- a call whose promise tells one value and leaves the chunks as they are -/
theorem w_callE {kk : Nat} {f : Addr} {fd : FuncData} {ps : List Str} {x : Str} {p : Pos} {dvs : List V} {ds : List Value} {I : Type} {req : I → Prop} {args : I → List D} {pre : I → Cks} {post : I → D → Cks → Prop}
    (F : FnOk X.prog X.w X.K X.mg X.base CX0 kk f fd ps (Spx X.K req args pre post)) (hr : Room kk X.A) (hm : X.mg x = some (.ref f)) (hk : PySem.W.keepIn X.K (.ref f) = true) (hb : Binds X.K fd ps ds) (hd : Vals dvs ds)
    (h : wA X B (e :: es) (fun xs S1 => ∃ (x : I) (R : Cks), req x ∧ args x = xs ++ dvs.map .v ∧ Pick S1 (pre x) R ∧ ∀ d S', post x d S' → k d (S' ++ R)) G S) (hg : Gl X x := by rfl)
    (hdb : (x == ("__debug__" : Str)) = false := by decide) (he : starEach (e :: es) X.env = (false, eval e X.env) :: starEach es X.env := by rfl) (hpl : (backTo pos (starEach es X.env)).any (·.1) = false := by rfl) :
    wE X B (.Call (.Name x p) (e :: es) [] pos) k G S := w_call F hr hm hk hb hd h hg hdb he hpl
/-- a def with defaults -/
theorem fnD_ok {P : Program} {w : World} {K : PySem.W.Frag} {mg : Str → Option Value} {base : Heap} {x qual : Str} {params : Arguments} {body : List Stmt} {scope : Scope} {dvs : List V} {kws : List (Str × V)} {f : Addr} {fd : FuncData} {N ps : List Str} {k : Nat} {I : Type} {req : I → Prop} {args : I → List D} {pre : I → Cks} {post : I → D → Cks → Prop}
    (F : FunD K x qual params body scope dvs kws f fd) (Sc : FnScope N ps scope) (hl : ∀ x, (args x).length = ps.length)
    (hb : ∀ (cdv : Value) (A : Around) (outer : List Env) (s : Shared) (H : Hp) (E : XK) (B : Base) (x : I), Room k (A.deeper (envOfC qual scope s.heap.objs.size f cdv)) → req x →
      wSs (cxOf CX0 P w K mg base N qual scope f cdv A outer s H E).nox B body { nx := fun _ S' => post x .non S', rt := post x } ((args x).map some ++ List.replicate (N.length - ps.length) none) (pre x)) :
    FnOk P w K mg base CX0 (k + 1) f fd ps (Spx K req args pre post) := by
  refine F.ok Sc (fun vs H Q E h => ?_) (fun cdv A outer s H vs Q E hr h => ?_)
  · obtain ⟨x, F, hx, hrd, _⟩ := h
    rw [← rds_len hrd, hl]
  · obtain ⟨x, F, hx, hrd, hs, q⟩ := h
    have hlen : (args x).length = vs.length := rds_len hrd
    refine ⟨tSs (cxOf CX0 P w K mg base N qual scope f cdv A outer s H E).nox body, (pss_t (X := (cxOf CX0 P w K mg base N qual scope f cdv A outer s H E).nox)).nox, ?_⟩
    have ok : Ok K ⟨ads (pre x), F, H⟩ ((args x).map some ++ List.replicate (N.length - ps.length) none) (pre x) F (start N vs) H := by
      refine ⟨hs, ?_, fun i d e => ?_⟩
      · show _ = (vs.map some ++ List.replicate (N.length - vs.length) none).length
        rw [List.length_append, List.length_append, List.length_map, List.length_map, List.length_replicate, List.length_replicate, ← hlen, hl]
      · show ∃ v, (vs.map some ++ List.replicate (N.length - vs.length) none : L2.St)[i]? = some (some v) ∧ _
        rw [← hlen, hl]
        exact rds_slots hrd e
    refine hb cdv A outer s H E ⟨ads (pre x), F, H⟩ x hr hx F (start N vs) H _ ok ⟨fun G' S' F' σ' H' n ok' e => ?_, fun d v G' S' F' σ' H' n ok' e r => ?_, fun _ _ _ _ _ n => n.elim, fun _ _ _ _ _ n => n.elim⟩
    · exact q .non F' H' .non S' n ok'.toHs (rd_v.mpr rfl)
    · exact q v F' H' d S' n ok'.toHs r
/-- another order of the chunks -/
theorem W_perm {K : PySem.W.Frag} {t : TE} {S' : Cks} (hp : S'.Perm S) (h : W K B t k G S') : W K B t k G S := fun F σ H Q ok q => h F σ H Q (ok.perm hp) q
theorem WS_perm {K : PySem.W.Frag} {t : TS} {S' : Cks} (hp : S'.Perm S) (h : WS K B t N G S') : WS K B t N G S := fun F σ H E ok re => h F σ H E (ok.perm hp) re
/-- a chunk that nothing asks for any more -/
theorem WS_forget {K : PySem.W.Frag} {t : TS} {G' : Gm} {S' R : Cks} (hg : Wk G G') (hs : Pick S S' R) (h : WS K B t N G' S') : WS K B t N G S := WS_weak hg hs h
end
end Sy
set_option Elab.async false
set_option maxRecDepth 100000
set_option linter.unusedVariables false
namespace Sy
open PySem L2 PySem.Spec PyProof.Rows
section
variable {X : Cx} {B : Base} {k : D → Cks → Prop} {kb : Bool → Cks → Prop} {ka : List D → Cks → Prop} {kg : Gm → Cks → Prop} {G : Gm} {S : Cks} {N : En} {a b e o c i f : Expr} {es : List Expr} {pos apos cpos pos2 tpos : Pos} {ki : Nat → (Nat → D) → (Cks → Prop) → Cks → Prop} {Ns : List Str}
theorem pg_nm {n : String} {i : Nat} (hs : Nm Ns n i) (nd : Ns.Nodup) (hN : X.N = Ns := by rfl) (hl : Loc X.env.scope (Str.ofString n) := by first | exact Or.inl rfl | exact Or.inr rfl)
    (hf : X.fn (Str.ofString n) = true ∨ X.env.scope.names.lookup (Str.ofString n) = some .local := by first | exact .inl rfl | exact .inr rfl) : PG X (.Name (Str.ofString n) pos) (gName i) := pg_name (by rw [hN]; exact nd) (by rw [hN]; exact hs) hl hf
theorem pg_t2 {n1 n2 : String} {i1 i2 : Nat} {p1 p2 : Pos} {kk : Nat} (h1 : Nm Ns n1 i1) (h2 : Nm Ns n2 i2) (nd : Ns.Nodup) (hN : X.N = Ns := by rfl) (l1 : Loc X.env.scope (Str.ofString n1) := by first | exact Or.inl rfl | exact Or.inr rfl) (f1 : X.fn (Str.ofString n1) = true ∨ X.env.scope.names.lookup (Str.ofString n1) = some .local := by first | exact .inl rfl | exact .inr rfl) (l2 : Loc X.env.scope (Str.ofString n2) := by first | exact Or.inl rfl | exact Or.inr rfl) (f2 : X.fn (Str.ofString n2) = true ∨ X.env.scope.names.lookup (Str.ofString n2) = some .local := by first | exact .inl rfl | exact .inr rfl)
    (e1 : (assignEach ([.Name (Str.ofString n1) p1, .Name (Str.ofString n2) p2]) X.env).map (·.2) = assign (.Name (Str.ofString n1) p1) X.env :: (assignEach [.Name (Str.ofString n2) p2] X.env).map (·.2) := by rfl) (e2 : (assignEach ([.Name (Str.ofString n2) p2]) X.env).map (·.2) = assign (.Name (Str.ofString n2) p2) X.env :: (assignEach [] X.env).map (·.2) := by rfl) (hc : X.calm = true := by rfl) (hn : (assignEach [.Name (Str.ofString n1) p1, .Name (Str.ofString n2) p2] X.env).length = 2 := by rfl) (hst : (assignEach [.Name (Str.ofString n1) p1, .Name (Str.ofString n2) p2] X.env).findIdx? (·.1) = none := by rfl) :
    PG X (.Tuple [.Name (Str.ofString n1) p1, .Name (Str.ofString n2) p2] kk pos) (gTup X.K 2 (gCons (gName i1) (gCons (gName i2) gNil))) := pg_tup hc (pgs_cons (pg_nm h1 nd hN l1 f1) (pgs_cons (pg_nm h2 nd hN l2 f2) pgs_nil e2) e1) hn hst
theorem pg_t3 {n1 n2 n3 : String} {i1 i2 i3 : Nat} {p1 p2 p3 : Pos} {kk : Nat} (h1 : Nm Ns n1 i1) (h2 : Nm Ns n2 i2) (h3 : Nm Ns n3 i3) (nd : Ns.Nodup) (hN : X.N = Ns := by rfl) (l1 : Loc X.env.scope (Str.ofString n1) := by first | exact Or.inl rfl | exact Or.inr rfl) (f1 : X.fn (Str.ofString n1) = true ∨ X.env.scope.names.lookup (Str.ofString n1) = some .local := by first | exact .inl rfl | exact .inr rfl) (l2 : Loc X.env.scope (Str.ofString n2) := by first | exact Or.inl rfl | exact Or.inr rfl) (f2 : X.fn (Str.ofString n2) = true ∨ X.env.scope.names.lookup (Str.ofString n2) = some .local := by first | exact .inl rfl | exact .inr rfl) (l3 : Loc X.env.scope (Str.ofString n3) := by first | exact Or.inl rfl | exact Or.inr rfl) (f3 : X.fn (Str.ofString n3) = true ∨ X.env.scope.names.lookup (Str.ofString n3) = some .local := by first | exact .inl rfl | exact .inr rfl)
    (e1 : (assignEach ([.Name (Str.ofString n1) p1, .Name (Str.ofString n2) p2, .Name (Str.ofString n3) p3]) X.env).map (·.2) = assign (.Name (Str.ofString n1) p1) X.env :: (assignEach [.Name (Str.ofString n2) p2, .Name (Str.ofString n3) p3] X.env).map (·.2) := by rfl) (e2 : (assignEach ([.Name (Str.ofString n2) p2, .Name (Str.ofString n3) p3]) X.env).map (·.2) = assign (.Name (Str.ofString n2) p2) X.env :: (assignEach [.Name (Str.ofString n3) p3] X.env).map (·.2) := by rfl) (e3 : (assignEach ([.Name (Str.ofString n3) p3]) X.env).map (·.2) = assign (.Name (Str.ofString n3) p3) X.env :: (assignEach [] X.env).map (·.2) := by rfl) (hc : X.calm = true := by rfl) (hn : (assignEach [.Name (Str.ofString n1) p1, .Name (Str.ofString n2) p2, .Name (Str.ofString n3) p3] X.env).length = 3 := by rfl) (hst : (assignEach [.Name (Str.ofString n1) p1, .Name (Str.ofString n2) p2, .Name (Str.ofString n3) p3] X.env).findIdx? (·.1) = none := by rfl) :
    PG X (.Tuple [.Name (Str.ofString n1) p1, .Name (Str.ofString n2) p2, .Name (Str.ofString n3) p3] kk pos) (gTup X.K 3 (gCons (gName i1) (gCons (gName i2) (gCons (gName i3) gNil)))) := pg_tup hc (pgs_cons (pg_nm h1 nd hN l1 f1) (pgs_cons (pg_nm h2 nd hN l2 f2) (pgs_cons (pg_nm h3 nd hN l3 f3) pgs_nil e3) e2) e1) hn hst
theorem pg_t4 {n1 n2 n3 n4 : String} {i1 i2 i3 i4 : Nat} {p1 p2 p3 p4 : Pos} {kk : Nat} (h1 : Nm Ns n1 i1) (h2 : Nm Ns n2 i2) (h3 : Nm Ns n3 i3) (h4 : Nm Ns n4 i4) (nd : Ns.Nodup) (hN : X.N = Ns := by rfl) (l1 : Loc X.env.scope (Str.ofString n1) := by first | exact Or.inl rfl | exact Or.inr rfl) (f1 : X.fn (Str.ofString n1) = true ∨ X.env.scope.names.lookup (Str.ofString n1) = some .local := by first | exact .inl rfl | exact .inr rfl) (l2 : Loc X.env.scope (Str.ofString n2) := by first | exact Or.inl rfl | exact Or.inr rfl) (f2 : X.fn (Str.ofString n2) = true ∨ X.env.scope.names.lookup (Str.ofString n2) = some .local := by first | exact .inl rfl | exact .inr rfl) (l3 : Loc X.env.scope (Str.ofString n3) := by first | exact Or.inl rfl | exact Or.inr rfl) (f3 : X.fn (Str.ofString n3) = true ∨ X.env.scope.names.lookup (Str.ofString n3) = some .local := by first | exact .inl rfl | exact .inr rfl) (l4 : Loc X.env.scope (Str.ofString n4) := by first | exact Or.inl rfl | exact Or.inr rfl) (f4 : X.fn (Str.ofString n4) = true ∨ X.env.scope.names.lookup (Str.ofString n4) = some .local := by first | exact .inl rfl | exact .inr rfl)
    (e1 : (assignEach ([.Name (Str.ofString n1) p1, .Name (Str.ofString n2) p2, .Name (Str.ofString n3) p3, .Name (Str.ofString n4) p4]) X.env).map (·.2) = assign (.Name (Str.ofString n1) p1) X.env :: (assignEach [.Name (Str.ofString n2) p2, .Name (Str.ofString n3) p3, .Name (Str.ofString n4) p4] X.env).map (·.2) := by rfl) (e2 : (assignEach ([.Name (Str.ofString n2) p2, .Name (Str.ofString n3) p3, .Name (Str.ofString n4) p4]) X.env).map (·.2) = assign (.Name (Str.ofString n2) p2) X.env :: (assignEach [.Name (Str.ofString n3) p3, .Name (Str.ofString n4) p4] X.env).map (·.2) := by rfl) (e3 : (assignEach ([.Name (Str.ofString n3) p3, .Name (Str.ofString n4) p4]) X.env).map (·.2) = assign (.Name (Str.ofString n3) p3) X.env :: (assignEach [.Name (Str.ofString n4) p4] X.env).map (·.2) := by rfl) (e4 : (assignEach ([.Name (Str.ofString n4) p4]) X.env).map (·.2) = assign (.Name (Str.ofString n4) p4) X.env :: (assignEach [] X.env).map (·.2) := by rfl) (hc : X.calm = true := by rfl) (hn : (assignEach [.Name (Str.ofString n1) p1, .Name (Str.ofString n2) p2, .Name (Str.ofString n3) p3, .Name (Str.ofString n4) p4] X.env).length = 4 := by rfl) (hst : (assignEach [.Name (Str.ofString n1) p1, .Name (Str.ofString n2) p2, .Name (Str.ofString n3) p3, .Name (Str.ofString n4) p4] X.env).findIdx? (·.1) = none := by rfl) :
    PG X (.Tuple [.Name (Str.ofString n1) p1, .Name (Str.ofString n2) p2, .Name (Str.ofString n3) p3, .Name (Str.ofString n4) p4] kk pos) (gTup X.K 4 (gCons (gName i1) (gCons (gName i2) (gCons (gName i3) (gCons (gName i4) gNil))))) := pg_tup hc (pgs_cons (pg_nm h1 nd hN l1 f1) (pgs_cons (pg_nm h2 nd hN l2 f2) (pgs_cons (pg_nm h3 nd hN l3 f3) (pgs_cons (pg_nm h4 nd hN l4 f4) pgs_nil e4) e3) e2) e1) hn hst
theorem pg_t5 {n1 n2 n3 n4 n5 : String} {i1 i2 i3 i4 i5 : Nat} {p1 p2 p3 p4 p5 : Pos} {kk : Nat} (h1 : Nm Ns n1 i1) (h2 : Nm Ns n2 i2) (h3 : Nm Ns n3 i3) (h4 : Nm Ns n4 i4) (h5 : Nm Ns n5 i5) (nd : Ns.Nodup) (hN : X.N = Ns := by rfl) (l1 : Loc X.env.scope (Str.ofString n1) := by first | exact Or.inl rfl | exact Or.inr rfl) (f1 : X.fn (Str.ofString n1) = true ∨ X.env.scope.names.lookup (Str.ofString n1) = some .local := by first | exact .inl rfl | exact .inr rfl) (l2 : Loc X.env.scope (Str.ofString n2) := by first | exact Or.inl rfl | exact Or.inr rfl) (f2 : X.fn (Str.ofString n2) = true ∨ X.env.scope.names.lookup (Str.ofString n2) = some .local := by first | exact .inl rfl | exact .inr rfl) (l3 : Loc X.env.scope (Str.ofString n3) := by first | exact Or.inl rfl | exact Or.inr rfl) (f3 : X.fn (Str.ofString n3) = true ∨ X.env.scope.names.lookup (Str.ofString n3) = some .local := by first | exact .inl rfl | exact .inr rfl) (l4 : Loc X.env.scope (Str.ofString n4) := by first | exact Or.inl rfl | exact Or.inr rfl) (f4 : X.fn (Str.ofString n4) = true ∨ X.env.scope.names.lookup (Str.ofString n4) = some .local := by first | exact .inl rfl | exact .inr rfl) (l5 : Loc X.env.scope (Str.ofString n5) := by first | exact Or.inl rfl | exact Or.inr rfl) (f5 : X.fn (Str.ofString n5) = true ∨ X.env.scope.names.lookup (Str.ofString n5) = some .local := by first | exact .inl rfl | exact .inr rfl)
    (e1 : (assignEach ([.Name (Str.ofString n1) p1, .Name (Str.ofString n2) p2, .Name (Str.ofString n3) p3, .Name (Str.ofString n4) p4, .Name (Str.ofString n5) p5]) X.env).map (·.2) = assign (.Name (Str.ofString n1) p1) X.env :: (assignEach [.Name (Str.ofString n2) p2, .Name (Str.ofString n3) p3, .Name (Str.ofString n4) p4, .Name (Str.ofString n5) p5] X.env).map (·.2) := by rfl) (e2 : (assignEach ([.Name (Str.ofString n2) p2, .Name (Str.ofString n3) p3, .Name (Str.ofString n4) p4, .Name (Str.ofString n5) p5]) X.env).map (·.2) = assign (.Name (Str.ofString n2) p2) X.env :: (assignEach [.Name (Str.ofString n3) p3, .Name (Str.ofString n4) p4, .Name (Str.ofString n5) p5] X.env).map (·.2) := by rfl) (e3 : (assignEach ([.Name (Str.ofString n3) p3, .Name (Str.ofString n4) p4, .Name (Str.ofString n5) p5]) X.env).map (·.2) = assign (.Name (Str.ofString n3) p3) X.env :: (assignEach [.Name (Str.ofString n4) p4, .Name (Str.ofString n5) p5] X.env).map (·.2) := by rfl) (e4 : (assignEach ([.Name (Str.ofString n4) p4, .Name (Str.ofString n5) p5]) X.env).map (·.2) = assign (.Name (Str.ofString n4) p4) X.env :: (assignEach [.Name (Str.ofString n5) p5] X.env).map (·.2) := by rfl) (e5 : (assignEach ([.Name (Str.ofString n5) p5]) X.env).map (·.2) = assign (.Name (Str.ofString n5) p5) X.env :: (assignEach [] X.env).map (·.2) := by rfl) (hc : X.calm = true := by rfl) (hn : (assignEach [.Name (Str.ofString n1) p1, .Name (Str.ofString n2) p2, .Name (Str.ofString n3) p3, .Name (Str.ofString n4) p4, .Name (Str.ofString n5) p5] X.env).length = 5 := by rfl) (hst : (assignEach [.Name (Str.ofString n1) p1, .Name (Str.ofString n2) p2, .Name (Str.ofString n3) p3, .Name (Str.ofString n4) p4, .Name (Str.ofString n5) p5] X.env).findIdx? (·.1) = none := by rfl) :
    PG X (.Tuple [.Name (Str.ofString n1) p1, .Name (Str.ofString n2) p2, .Name (Str.ofString n3) p3, .Name (Str.ofString n4) p4, .Name (Str.ofString n5) p5] kk pos) (gTup X.K 5 (gCons (gName i1) (gCons (gName i2) (gCons (gName i3) (gCons (gName i4) (gCons (gName i5) gNil)))))) := pg_tup hc (pgs_cons (pg_nm h1 nd hN l1 f1) (pgs_cons (pg_nm h2 nd hN l2 f2) (pgs_cons (pg_nm h3 nd hN l3 f3) (pgs_cons (pg_nm h4 nd hN l4 f4) (pgs_cons (pg_nm h5 nd hN l5 f5) pgs_nil e5) e4) e3) e2) e1) hn hst
theorem pg_t6 {n1 n2 n3 n4 n5 n6 : String} {i1 i2 i3 i4 i5 i6 : Nat} {p1 p2 p3 p4 p5 p6 : Pos} {kk : Nat} (h1 : Nm Ns n1 i1) (h2 : Nm Ns n2 i2) (h3 : Nm Ns n3 i3) (h4 : Nm Ns n4 i4) (h5 : Nm Ns n5 i5) (h6 : Nm Ns n6 i6) (nd : Ns.Nodup) (hN : X.N = Ns := by rfl) (l1 : Loc X.env.scope (Str.ofString n1) := by first | exact Or.inl rfl | exact Or.inr rfl) (f1 : X.fn (Str.ofString n1) = true ∨ X.env.scope.names.lookup (Str.ofString n1) = some .local := by first | exact .inl rfl | exact .inr rfl) (l2 : Loc X.env.scope (Str.ofString n2) := by first | exact Or.inl rfl | exact Or.inr rfl) (f2 : X.fn (Str.ofString n2) = true ∨ X.env.scope.names.lookup (Str.ofString n2) = some .local := by first | exact .inl rfl | exact .inr rfl) (l3 : Loc X.env.scope (Str.ofString n3) := by first | exact Or.inl rfl | exact Or.inr rfl) (f3 : X.fn (Str.ofString n3) = true ∨ X.env.scope.names.lookup (Str.ofString n3) = some .local := by first | exact .inl rfl | exact .inr rfl) (l4 : Loc X.env.scope (Str.ofString n4) := by first | exact Or.inl rfl | exact Or.inr rfl) (f4 : X.fn (Str.ofString n4) = true ∨ X.env.scope.names.lookup (Str.ofString n4) = some .local := by first | exact .inl rfl | exact .inr rfl) (l5 : Loc X.env.scope (Str.ofString n5) := by first | exact Or.inl rfl | exact Or.inr rfl) (f5 : X.fn (Str.ofString n5) = true ∨ X.env.scope.names.lookup (Str.ofString n5) = some .local := by first | exact .inl rfl | exact .inr rfl) (l6 : Loc X.env.scope (Str.ofString n6) := by first | exact Or.inl rfl | exact Or.inr rfl) (f6 : X.fn (Str.ofString n6) = true ∨ X.env.scope.names.lookup (Str.ofString n6) = some .local := by first | exact .inl rfl | exact .inr rfl)
    (e1 : (assignEach ([.Name (Str.ofString n1) p1, .Name (Str.ofString n2) p2, .Name (Str.ofString n3) p3, .Name (Str.ofString n4) p4, .Name (Str.ofString n5) p5, .Name (Str.ofString n6) p6]) X.env).map (·.2) = assign (.Name (Str.ofString n1) p1) X.env :: (assignEach [.Name (Str.ofString n2) p2, .Name (Str.ofString n3) p3, .Name (Str.ofString n4) p4, .Name (Str.ofString n5) p5, .Name (Str.ofString n6) p6] X.env).map (·.2) := by rfl) (e2 : (assignEach ([.Name (Str.ofString n2) p2, .Name (Str.ofString n3) p3, .Name (Str.ofString n4) p4, .Name (Str.ofString n5) p5, .Name (Str.ofString n6) p6]) X.env).map (·.2) = assign (.Name (Str.ofString n2) p2) X.env :: (assignEach [.Name (Str.ofString n3) p3, .Name (Str.ofString n4) p4, .Name (Str.ofString n5) p5, .Name (Str.ofString n6) p6] X.env).map (·.2) := by rfl) (e3 : (assignEach ([.Name (Str.ofString n3) p3, .Name (Str.ofString n4) p4, .Name (Str.ofString n5) p5, .Name (Str.ofString n6) p6]) X.env).map (·.2) = assign (.Name (Str.ofString n3) p3) X.env :: (assignEach [.Name (Str.ofString n4) p4, .Name (Str.ofString n5) p5, .Name (Str.ofString n6) p6] X.env).map (·.2) := by rfl) (e4 : (assignEach ([.Name (Str.ofString n4) p4, .Name (Str.ofString n5) p5, .Name (Str.ofString n6) p6]) X.env).map (·.2) = assign (.Name (Str.ofString n4) p4) X.env :: (assignEach [.Name (Str.ofString n5) p5, .Name (Str.ofString n6) p6] X.env).map (·.2) := by rfl) (e5 : (assignEach ([.Name (Str.ofString n5) p5, .Name (Str.ofString n6) p6]) X.env).map (·.2) = assign (.Name (Str.ofString n5) p5) X.env :: (assignEach [.Name (Str.ofString n6) p6] X.env).map (·.2) := by rfl) (e6 : (assignEach ([.Name (Str.ofString n6) p6]) X.env).map (·.2) = assign (.Name (Str.ofString n6) p6) X.env :: (assignEach [] X.env).map (·.2) := by rfl) (hc : X.calm = true := by rfl) (hn : (assignEach [.Name (Str.ofString n1) p1, .Name (Str.ofString n2) p2, .Name (Str.ofString n3) p3, .Name (Str.ofString n4) p4, .Name (Str.ofString n5) p5, .Name (Str.ofString n6) p6] X.env).length = 6 := by rfl) (hst : (assignEach [.Name (Str.ofString n1) p1, .Name (Str.ofString n2) p2, .Name (Str.ofString n3) p3, .Name (Str.ofString n4) p4, .Name (Str.ofString n5) p5, .Name (Str.ofString n6) p6] X.env).findIdx? (·.1) = none := by rfl) :
    PG X (.Tuple [.Name (Str.ofString n1) p1, .Name (Str.ofString n2) p2, .Name (Str.ofString n3) p3, .Name (Str.ofString n4) p4, .Name (Str.ofString n5) p5, .Name (Str.ofString n6) p6] kk pos) (gTup X.K 6 (gCons (gName i1) (gCons (gName i2) (gCons (gName i3) (gCons (gName i4) (gCons (gName i5) (gCons (gName i6) gNil))))))) := pg_tup hc (pgs_cons (pg_nm h1 nd hN l1 f1) (pgs_cons (pg_nm h2 nd hN l2 f2) (pgs_cons (pg_nm h3 nd hN l3 f3) (pgs_cons (pg_nm h4 nd hN l4 f4) (pgs_cons (pg_nm h5 nd hN l5 f5) (pgs_cons (pg_nm h6 nd hN l6 f6) pgs_nil e6) e5) e4) e3) e2) e1) hn hst
theorem at'_map {α : Type} {f : α → D} {xs : List α} {i : Nat} {x : α} (h : xs[i]? = some x) : at' (xs.map f) i = f x := at'_of (by rw [List.getElem?_map, h]; rfl)
theorem WI_mono' {K : PySem.W.Frag} {wi : TI} {k1 k2 : Nat → (Nat → D) → (Cks → Prop) → Cks → Prop} (h : WI K B wi k1 G S) (m : ∀ n item gS S', k1 n item gS S' → k2 n item gS S') : WI K B wi k2 G S := WI_mono h m
theorem WG_mono {K : PySem.W.Frag} {g : TG} {x : D} {k1 k2 : Gm → Cks → Prop} (h : WG K B g x k1 G S) (m : ∀ G' S', k1 G' S' → k2 G' S') : WG K B g x k2 G S := fun F σ H Q vx ok rx q => h F σ H Q vx ok rx fun G' S' F' σ' H' hk => q G' S' F' σ' H' (m G' S' hk)
theorem WS_mono {K : PySem.W.Frag} {t : TS} {N' : En} (h : WS K B t N G S) (nx : ∀ G' S', N.nx G' S' → N'.nx G' S') (rt : ∀ d S', N.rt d S' → N'.rt d S' := by intro _ _ h; exact h) (bk : ∀ G' S', N.bk G' S' → N'.bk G' S' := by intro _ _ h; exact h) (ct : ∀ G' S', N.ct G' S' → N'.ct G' S' := by intro _ _ h; exact h) : WS K B t N' G S := fun F σ H E ok re =>
  h F σ H E ok ⟨fun G' S' F' σ' H' n => re.nx G' S' F' σ' H' (nx G' S' n), fun d v G' S' F' σ' H' n => re.rt d v G' S' F' σ' H' (rt d S' n), fun G' S' F' σ' H' n => re.bk G' S' F' σ' H' (bk G' S' n), fun G' S' F' σ' H' n => re.ct G' S' F' σ' H' (ct G' S' n)⟩
theorem take_split {α : Type} {xs : List α} {i : Nat} (h : i < xs.length) : ∃ x, xs[i]? = some x ∧ xs = xs.take i ++ x :: xs.drop (i + 1) ∧ xs.take (i + 1) = xs.take i ++ [x] := by
  refine ⟨xs[i], List.getElem?_eq_getElem h, ?_, ?_⟩
  · rw [← List.drop_eq_getElem_cons h, List.take_append_drop]
  · rw [List.take_succ_eq_append_getElem h]
/-- a loop over the data of xs, by what stands behind the part that is done -/
structure ForM (X : Cx) (B : Base) (N : En) (g : TG) (body : List Stmt) {α : Type} (enc : α → D) (xs : List α) (gS : Cks → Prop) (C : List α → Gm → Cks → Prop) : Prop where
  stay : ∀ pre G' S', C pre G' S' → gS S'
  turn : ∀ pre x post G' S', xs = pre ++ x :: post → C pre G' S' → WG X.K B g (enc x) (fun G2 S2 => wSs X B body { N with nx := C (pre ++ [x]), ct := C (pre ++ [x]), bk := N.nx } G2 S2) G' S'
  done : ∀ G' S', C xs G' S' → N.nx G' S'
theorem for_use {g : TG} {body : List Stmt} {α : Type} {enc : α → D} {xs : List α} {gS : Cks → Prop} {C : List α → Gm → Cks → Prop} {n : Nat} {item : Nat → D} {S1 : Cks} (M : ForM X B N g body enc xs gS C) (h0 : C [] G S1) (hn : n = xs.length) (hi : ∀ (i : Nat) (x : α), xs[i]? = some x → item i = enc x) :
    ∃ I : Nat → Gm → Cks → Prop, I 0 G S1 ∧ (∀ i G' S', I i G' S' → gS S') ∧ (∀ i G' S', i < n → I i G' S' → WG X.K B g (item i) (fun G2 S2 => wSs X B body { N with nx := I (i + 1), ct := I (i + 1), bk := N.nx } G2 S2) G' S') ∧ ∀ G' S', I n G' S' → N.nx G' S' := by
  subst hn
  refine ⟨fun i => C (xs.take i), h0, fun i G' S' h => M.stay _ G' S' h, fun i G' S' hl h => ?_, fun G' S' h => M.done G' S' (by have h : C (xs.take xs.length) G' S' := h; rw [List.take_length] at h; exact h)⟩
  obtain ⟨x, h1, h2, h3⟩ := take_split hl
  dsimp only
  rw [hi i x h1, h3]
  exact M.turn (xs.take i) x (xs.drop (i + 1)) G' S' h2 h
/-- over a list or a tuple -/
theorem ws_forM {tg iter : Expr} {body : List Stmt} {g : TG} {α : Type} (enc : α → D) (C : List α → Gm → Cks → Prop) (hg : PG X tg g)
    (h : wE X B iter (fun d S1 => ∃ (xs : List α) (gS : Cks → Prop), Sq S1 d xs.length (at' (xs.map enc)) gS ∧ C [] G S1 ∧ ForM X B N g body enc xs gS C) G S) (hp : PassesOwn (model X.prog X.w) X.A X.env X.xe := by exact PassesOwn.never) (hc : X.calm = true := by rfl) (hf : ∀ x, foldedSetIterable iter X.env x = pure x := by intro _; rfl) :
    wS X B (.For tg iter body [] pos) N G S :=
  ws_for hp hg (wI_seq (W_mono h fun d S1 ⟨xs, gS, h1, h2, h3⟩ => ⟨_, _, gS, h1, for_use h3 h2 rfl fun i x hx => at'_map hx⟩)) hc hf
theorem sq_lst {α : Type} {enc : α → D} {xs : List α} : Sq S (.lst (xs.map enc)) xs.length (at' (xs.map enc)) (fun _ => True) := by
  have := @Sq.lst S (xs.map enc)
  rw [List.length_map] at this
  exact this
theorem sq_tup {α : Type} {enc : α → D} {xs : List α} : Sq S (.tup (xs.map enc)) xs.length (at' (xs.map enc)) (fun _ => True) := by
  have := @Sq.tup S (xs.map enc)
  rw [List.length_map] at this
  exact this
theorem sq_own {α : Type} {enc : α → D} {xs : List α} {p : Addr} (j : Nat) (hj : S[j]? = some (ckL p (xs.map enc))) : Sq S (.ref p) xs.length (at' (xs.map enc)) (fun T => ckL p (xs.map enc) ∈ T) := by
  have := @Sq.own S p (xs.map enc) j hj
  rw [List.length_map] at this
  exact this
/-- over range(n), over range(lo, hi): by the number of turns that are done -/
structure ForR (X : Cx) (B : Base) (N : En) (g : TG) (body : List Stmt) (lo : Int) (n : Nat) (C : Nat → Gm → Cks → Prop) : Prop where
  turn : ∀ i G' S', i < n → C i G' S' → WG X.K B g (.int (lo + i)) (fun G2 S2 => wSs X B body { N with nx := C (i + 1), ct := C (i + 1), bk := N.nx } G2 S2) G' S'
  done : ∀ G' S', C n G' S' → N.nx G' S'
theorem forR_use {g : TG} {body : List Stmt} {lo : Int} {n : Nat} {C : Nat → Gm → Cks → Prop} {S1 : Cks} (M : ForR X B N g body lo n C) (h0 : C 0 G S1) :
    ∃ I : Nat → Gm → Cks → Prop, I 0 G S1 ∧ (∀ i G' S', I i G' S' → (fun _ : Cks => True) S') ∧ (∀ i G' S', i < n → I i G' S' → WG X.K B g ((fun i : Nat => D.int (lo + i)) i) (fun G2 S2 => wSs X B body { N with nx := I (i + 1), ct := I (i + 1), bk := N.nx } G2 S2) G' S') ∧ ∀ G' S', I n G' S' → N.nx G' S' :=
  ⟨C, h0, fun _ _ _ _ => trivial, M.turn, M.done⟩
theorem ws_forR {tg : Expr} {p : Pos} {body : List Stmt} {g : TG} (C : Nat → Gm → Cks → Prop) (hm : X.mg "range" = none) (hg : PG X tg g)
    (h : wE X B a (fun x S1 => One x fun j => Cnd (-(2 ^ 62) ≤ j ∧ j < 2 ^ 62) (C 0 G S1 ∧ ForR X B N g body 0 j.toNat C)) G S) (hgl : Gl X "range" := by rfl) (hs : starEach [a] X.env = [(false, eval a X.env)] := by rfl) (hp : PassesOwn (model X.prog X.w) X.A X.env X.xe := by exact PassesOwn.never) (hc : X.calm = true := by rfl) (hf : ∀ x, foldedSetIterable (.Call (.Name "range" p) [a] [] apos) X.env x = pure x := by intro _; rfl) :
    wS X B (.For tg (.Call (.Name "range" p) [a] [] apos) body [] pos) N G S :=
  ws_for hp hg (wI_rng1 hm (W_mono h fun d S1 ⟨j, hj, hc, h0, hM⟩ => ⟨j, hj, hc, forR_use hM h0⟩) hgl hs) hc hf
theorem ws_forR2 {tg : Expr} {p : Pos} {body : List Stmt} {g : TG} (C : Nat → Gm → Cks → Prop) (hm : X.mg "range" = none) (hg : PG X tg g)
    (h : wE X B a (fun x S1 => wE X B b (fun y S2 => Two x y fun i j => Cnd (-(2 ^ 62) ≤ i ∧ i < 2 ^ 62 ∧ -(2 ^ 62) ≤ j ∧ j < 2 ^ 62) (C 0 G S2 ∧ ForR X B N g body i (j - i).toNat C)) G S1) G S) (hgl : Gl X "range" := by rfl) (hs : starEach [a, b] X.env = [(false, eval a X.env), (false, eval b X.env)] := by rfl)
    (hs2 : starEach [b] X.env = [(false, eval b X.env)] := by rfl) (hs3 : starEach [a, b] X.env = (false, eval a X.env) :: starEach [b] X.env := by rfl) (hp : PassesOwn (model X.prog X.w) X.A X.env X.xe := by exact PassesOwn.never) (hc : X.calm = true := by rfl)
    (hf : ∀ x, foldedSetIterable (.Call (.Name "range" p) [a, b] [] apos) X.env x = pure x := by intro _; rfl) : wS X B (.For tg (.Call (.Name "range" p) [a, b] [] apos) body [] pos) N G S :=
  ws_for hp hg (wI_rng2 hm (W_mono h fun d S1 h1 => W_mono h1 fun d2 S2 ⟨i, j, hi, hj, hc, h0, hM⟩ => ⟨i, j, hi, hj, hc, forR_use hM h0⟩) hgl hs hs2 hs3) hc hf
/-! ### comprehensions whose elements are told one by one -/
/-- [f x for x in xs], all data that never changes -/
theorem lcK_map {α : Type} {scope : Scope} {g : TG} {elt : Expr} {vs : List Nat} {enc : α → D} {f : α → D} {xs : List α} {gS : Cks → Prop} {S1 : Cks} (hgS : gS S1) (hl : xs.length < 100000)
    (h : ∀ x ∈ xs, ∀ p acc, WG X.K B g (enc x) (fun G2 S2 => ∀ b : Bk, wE (b.x X scope) B elt (fun y S4 => y = f x ∧ S4 = ckL p acc :: S1) G2 S2) (wipeG G vs) (ckL p acc :: S1)) (hk : ∀ p, k (.ref p) (ckL p (xs.map f) :: S1)) :
    LcK X B scope g [] elt vs k G xs.length (at' (xs.map enc)) gS S1 := fun p => by
  refine ⟨fun i acc S' => acc = (xs.take i).map f ∧ S' = S1 ∧ i ≤ xs.length, ⟨rfl, rfl, Nat.zero_le _⟩, fun i acc S' ⟨h1, h2, h3⟩ => ⟨by rw [h2]; exact hgS, by rw [h1, List.length_map, List.length_take]; omega⟩, fun i acc S' hi ⟨h1, h2, h3⟩ => ?_, fun acc S' ⟨h1, h2, h3⟩ => by rw [h1, h2, List.take_length]; exact hk p⟩
  obtain ⟨x, g1, g2, g3⟩ := take_split hi
  rw [at'_map g1, h2]
  refine WG_mono (h x (List.mem_of_getElem? g1) p acc) fun G2 S2 hw => ?_
  refine ⟨fun _ b => W_mono (hw b) fun y S4 ⟨e1, e2⟩ => ⟨[], S1, by rw [e2]; show ((ckL p acc :: S1) ++ []).Perm _; rw [List.append_nil], ?_, rfl, hi⟩, fun z => nomatch z⟩
  rw [g3, e1, h1, List.map_append]
  rfl
/-- .. with one test -/
theorem lcK_filter {α : Type} {scope : Scope} {g : TG} {elt c : Expr} {vs : List Nat} {enc : α → D} {f : α → D} {t : α → Bool} {xs : List α} {gS : Cks → Prop} {S1 : Cks} (hgS : gS S1) (hl : xs.length < 100000)
    (h : ∀ x ∈ xs, ∀ p acc, WG X.K B g (enc x) (fun G2 S2 => ∀ b : Bk, wT (b.x X scope) B c (fun r S3 => r = t x ∧ S3 = ckL p acc :: S1 ∧ (t x = true → ∀ b : Bk, wE (b.x X scope) B elt (fun y S4 => y = f x ∧ S4 = ckL p acc :: S1) G2 S3)) G2 S2) (wipeG G vs) (ckL p acc :: S1)) (hk : ∀ p, k (.ref p) (ckL p ((xs.filter t).map f) :: S1)) :
    LcK X B scope g [c] elt vs k G xs.length (at' (xs.map enc)) gS S1 := fun p => by
  refine ⟨fun i acc S' => acc = ((xs.take i).filter t).map f ∧ S' = S1 ∧ i ≤ xs.length, ⟨rfl, rfl, Nat.zero_le _⟩, fun i acc S' ⟨h1, h2, h3⟩ => ⟨by rw [h2]; exact hgS, by have := List.length_filter_le t (xs.take i); rw [h1, List.length_map]; rw [List.length_take] at this; omega⟩, fun i acc S' hi ⟨h1, h2, h3⟩ => ?_, fun acc S' ⟨h1, h2, h3⟩ => by rw [h1, h2, List.take_length]; exact hk p⟩
  obtain ⟨x, g1, g2, g3⟩ := take_split hi
  rw [at'_map g1, h2]
  refine WG_mono (h x (List.mem_of_getElem? g1) p acc) fun G2 S2 hw => ?_
  intro b F σ H Q ok q
  refine hw b F σ H Q ok fun r F' H' S3 ⟨e1, e2, e3⟩ => q r F' H' S3 ⟨fun er => ?_, fun er => ?_⟩
  · have et : t x = true := by rw [← e1]; exact er
    intro b
    refine W_mono (e3 et b) fun y S4 ⟨e4, e5⟩ => ⟨[], S1, by rw [e5]; show ((ckL p acc :: S1) ++ []).Perm _; rw [List.append_nil], ?_, rfl, hi⟩
    rw [g3, e4, h1, List.filter_append, List.map_append, List.filter_cons, if_pos et]
    rfl
  · have et : t x = false := by rw [← e1]; exact er
    refine ⟨[], S1, by rw [e2]; show ((ckL p acc :: S1) ++ []).Perm _; rw [List.append_nil], ?_, rfl, hi⟩
    rw [g3, h1, List.filter_append, List.filter_cons, if_neg (by rw [et]; decide)]
    show _ = (List.filter t (List.take i xs) ++ []).map f
    rw [List.append_nil]
/-- over range(n): the elements by their numbers -/
theorem lcK_range {scope : Scope} {g : TG} {elt : Expr} {vs : List Nat} {f : Nat → D} {lo : Int} {n : Nat} {S1 : Cks} (hl : n < 100000)
    (h : ∀ i < n, ∀ p acc, WG X.K B g (.int (lo + (i : Nat))) (fun G2 S2 => ∀ b : Bk, wE (b.x X scope) B elt (fun y S4 => y = f i ∧ S4 = ckL p acc :: S1) G2 S2) (wipeG G vs) (ckL p acc :: S1)) (hk : ∀ p, k (.ref p) (ckL p ((List.range n).map f) :: S1)) :
    LcK X B scope g [] elt vs k G n (fun i => .int (lo + i)) (fun _ => True) S1 := fun p => by
  refine ⟨fun i acc S' => acc = (List.range i).map f ∧ S' = S1 ∧ i ≤ n, ⟨rfl, rfl, Nat.zero_le _⟩, fun i acc S' ⟨h1, h2, h3⟩ => ⟨trivial, by rw [h1, List.length_map, List.length_range]; omega⟩, fun i acc S' hi ⟨h1, h2, h3⟩ => ?_, fun acc S' ⟨h1, h2, h3⟩ => by rw [h1, h2]; exact hk p⟩
  rw [h2]
  refine WG_mono (h i hi p acc) fun G2 S2 hw => ?_
  refine ⟨fun _ b => W_mono (hw b) fun y S4 ⟨e1, e2⟩ => ⟨[], S1, by rw [e2]; show ((ckL p acc :: S1) ++ []).Perm _; rw [List.append_nil], ?_, rfl, hi⟩, fun z => nomatch z⟩
  rw [List.range_succ, e1, h1, List.map_append]
  rfl
end
end Sy
set_option Elab.async false
set_option maxRecDepth 100000
set_option linter.unusedVariables false
namespace Sy
open PySem L2 PySem.Spec PyProof.Rows
/-! ### dicts with int keys, as lists of pairs -/
section
variable {α : Type} {enc : α → D}
def getI (m : List (Int × α)) (n : Int) : Option α := (m.find? fun kv => decide (kv.1 = n)).map (·.2)
def setI (m : List (Int × α)) (n : Int) (x : α) : List (Int × α) := if (m.any fun kv => decide (kv.1 = n)) = true then m.map (fun kv => if kv.1 = n then (kv.1, x) else kv) else m ++ [(n, x)]
def delI (m : List (Int × α)) (n : Int) : List (Int × α) := m.filter fun kv => decide (kv.1 ≠ n)
def kvI (enc : α → D) (m : List (Int × α)) : List (Key × D) := m.map fun kv => (Sum.inl kv.1, enc kv.2)
theorem inl_iff {a b : Int} : ((Sum.inl a : Key) = Sum.inl b) = (a = b) := by simp
theorem kvI_get (m : List (Int × α)) (n : Int) : getK (kvI enc m) (.inl n) = (getI m n).map enc := by
  unfold getK getI kvI
  rw [List.find?_map]
  have : ((fun kv : Key × D => decide (kv.1 = Sum.inl n)) ∘ fun kv : Int × α => ((Sum.inl kv.1 : Key), enc kv.2)) = fun kv => decide (kv.1 = n) := by
    funext kv; simp
  rw [this]
  cases m.find? fun kv => decide (kv.1 = n) <;> rfl
theorem kvI_set (m : List (Int × α)) (n : Int) (x : α) : setK (kvI enc m) (.inl n) (enc x) = kvI enc (setI m n x) := by
  unfold setK setI
  have e : ((kvI enc m).any fun kv => decide (kv.1 = Sum.inl n)) = (m.any fun kv => decide (kv.1 = n)) := by
    unfold kvI
    rw [List.any_map]
    congr 1
    funext kv; simp
  rw [e]
  by_cases h : (m.any fun kv => decide (kv.1 = n)) = true
  · rw [if_pos h, if_pos h]
    unfold kvI
    rw [List.map_map, List.map_map]
    congr 1
    funext kv
    by_cases hk : kv.1 = n <;> simp [hk]
  · rw [if_neg h, if_neg h]
    unfold kvI
    rw [List.map_append]
    rfl
theorem kvI_del (m : List (Int × α)) (n : Int) : delK (kvI enc m) (.inl n) = kvI enc (delI m n) := by
  unfold delK delI kvI
  rw [List.filter_map]
  congr 1
  congr 1
  funext kv; simp
theorem kvI_keys (m : List (Int × α)) : (kvI enc m).map (·.1) = (m.map (·.1)).map Sum.inl := by unfold kvI; rw [List.map_map, List.map_map]; rfl
theorem kvI_len (m : List (Int × α)) : (kvI enc m).length = m.length := by unfold kvI; rw [List.length_map]
theorem getI_nil (n : Int) : getI ([] : List (Int × α)) n = none := rfl
theorem getI_cons (a : Int × α) (m : List (Int × α)) (n : Int) : getI (a :: m) n = if a.1 = n then some a.2 else getI m n := by
  unfold getI
  rw [List.find?_cons]
  by_cases h : a.1 = n <;> simp [h]
theorem getI_some_mem {m : List (Int × α)} {n : Int} {x : α} (h : getI m n = some x) : (n, x) ∈ m := by
  induction m with
  | nil => cases h
  | cons a m ih =>
    rw [getI_cons] at h
    by_cases e : a.1 = n
    · rw [if_pos e] at h; cases h
      subst e
      exact List.mem_cons_self
    · rw [if_neg e] at h
      exact List.mem_cons_of_mem _ (ih h)
theorem getI_none_iff {m : List (Int × α)} {n : Int} : getI m n = none ↔ n ∉ m.map (·.1) := by
  induction m with
  | nil => simp [getI_nil]
  | cons a m ih =>
    rw [getI_cons, List.map_cons, List.mem_cons]
    by_cases e : a.1 = n
    · rw [if_pos e]
      constructor
      · intro h; cases h
      · intro h; exact absurd (Or.inl e.symm) h
    · rw [if_neg e, ih]
      constructor
      · intro h z
        rcases z with z | z
        · exact e z.symm
        · exact h z
      · intro h z; exact h (Or.inr z)
theorem any_iff {m : List (Int × α)} {n : Int} : (m.any fun kv => decide (kv.1 = n)) = true ↔ n ∈ m.map (·.1) := by
  rw [List.any_eq_true]
  constructor
  · rintro ⟨a, h1, h2⟩
    exact List.mem_map.mpr ⟨a, h1, of_decide_eq_true h2⟩
  · intro h
    obtain ⟨a, h1, h2⟩ := List.mem_map.mp h
    exact ⟨a, h1, decide_eq_true h2⟩
theorem setI_keys (m : List (Int × α)) (n : Int) (x : α) : (setI m n x).map (·.1) = if n ∈ m.map (·.1) then m.map (·.1) else m.map (·.1) ++ [n] := by
  unfold setI
  by_cases h : n ∈ m.map (·.1)
  · rw [if_pos (any_iff.mpr h), if_pos h, List.map_map]
    congr 1
    funext kv
    by_cases hk : kv.1 = n <;> simp [hk]
  · rw [if_neg (fun z => h (any_iff.mp z)), if_neg h, List.map_append]
    rfl
theorem setI_nodup {m : List (Int × α)} {n : Int} {x : α} (h : (m.map (·.1)).Nodup) : ((setI m n x).map (·.1)).Nodup := by
  rw [setI_keys]
  by_cases e : n ∈ m.map (·.1)
  · rw [if_pos e]; exact h
  · rw [if_neg e]
    refine List.nodup_append.mpr ⟨h, by simp, fun a ha b hb => ?_⟩
    simp only [List.mem_singleton] at hb
    subst hb
    rintro rfl
    exact e ha
theorem setI_mem_keys {m : List (Int × α)} {n k : Int} {x : α} : k ∈ (setI m n x).map (·.1) ↔ k = n ∨ k ∈ m.map (·.1) := by
  rw [setI_keys]
  by_cases e : n ∈ m.map (·.1)
  · rw [if_pos e]
    constructor
    · exact Or.inr
    · rintro (rfl | h)
      · exact e
      · exact h
  · rw [if_neg e, List.mem_append, List.mem_singleton]
    exact Or.comm
theorem getI_append (m m' : List (Int × α)) (n : Int) : getI (m ++ m') n = (getI m n).or (getI m' n) := by
  induction m with
  | nil => rw [getI_nil]; rfl
  | cons a m ih =>
    rw [List.cons_append, getI_cons, getI_cons]
    by_cases e : a.1 = n
    · rw [if_pos e, if_pos e]; rfl
    · rw [if_neg e, if_neg e, ih]
theorem getI_map {m : List (Int × α)} {n k : Int} {x : α} : getI (m.map fun kv => if kv.1 = n then (kv.1, x) else kv) k = if k = n then (getI m n).map fun _ => x else getI m k := by
  induction m with
  | nil => simp [getI_nil]
  | cons a m ih =>
    rw [List.map_cons, getI_cons, ih, getI_cons, getI_cons]
    by_cases e : a.1 = n
    · rw [if_pos e]
      by_cases e2 : k = n
      · subst e2; simp [e]
      · rw [if_neg e2, if_neg e2, if_neg (fun z => e2 (z.symm.trans e)), if_neg (fun z => e2 (z.symm.trans e))]
    · rw [if_neg e]
      by_cases e2 : k = n
      · subst e2; simp [e]
      · rw [if_neg e2, if_neg e2]
theorem getI_set (m : List (Int × α)) (n k : Int) (x : α) : getI (setI m n x) k = if k = n then some x else getI m k := by
  unfold setI
  by_cases h : n ∈ m.map (·.1)
  · rw [if_pos (any_iff.mpr h), getI_map]
    by_cases e : k = n
    · rw [if_pos e, if_pos e]
      cases q : getI m n with
      | none => exact absurd h (getI_none_iff.mp q)
      | some y => rfl
    · rw [if_neg e, if_neg e]
  · rw [if_neg (fun z => h (any_iff.mp z)), getI_append, getI_cons, getI_nil]
    by_cases e : k = n
    · subst e
      rw [if_pos rfl, getI_none_iff.mpr h, if_pos rfl]
      rfl
    · rw [if_neg e, if_neg (Ne.symm e)]
      cases getI m k <;> rfl
theorem getI_del (m : List (Int × α)) (n k : Int) : getI (delI m n) k = if k = n then none else getI m k := by
  induction m with
  | nil => simp [delI, getI_nil]
  | cons a m ih =>
    unfold delI at ih ⊢
    rw [List.filter_cons]
    by_cases e : a.1 = n
    · rw [if_neg (by simp [e]), ih, getI_cons]
      by_cases e2 : k = n
      · rw [if_pos e2, if_pos e2]
      · rw [if_neg e2, if_neg e2, if_neg (fun z => e2 (z.symm.trans e))]
    · rw [if_pos (by simp [e]), getI_cons, ih, getI_cons]
      by_cases e2 : k = n
      · subst e2
        rw [if_neg e, if_pos rfl, if_pos rfl]
      · rw [if_neg e2, if_neg e2]
theorem delI_keys (m : List (Int × α)) (n : Int) : (delI m n).map (·.1) = (m.map (·.1)).filter fun k => decide (k ≠ n) := by
  unfold delI
  rw [List.filter_map]
  congr 1
theorem setI_len (m : List (Int × α)) (n : Int) (x : α) : (setI m n x).length ≤ m.length + 1 := by
  unfold setI
  split
  · rw [List.length_map]; omega
  · rw [List.length_append]; exact Nat.le_refl _
end
section
variable {X : Cx} {B : Base} {G : Gm} {S : Cks} {N : En} {o e i value : Expr} {pos pos2 : Pos}
/-- xs[i] = v, a list of ours -/
theorem ws_lput (h : wE X B value (fun y S1 => wE X B o (fun x S2 => wE X B i (fun z S3 => ∃ p xs n m, ∃ j : Nat, x = .ref p ∧ z = .int n ∧ S3[j]? = some (ckL p xs) ∧ ixN xs.length n = some m ∧ N.nx G (S3.set j (ckL p (xs.set m y)))) G S2) G S1) G S)
    (hs : swapsWithSole [.Subscript o i pos2] value pos.line X.env = pure false := by rfl) (hw : swappedStores [.Subscript o i pos2] value X.env = pure none := by rfl) (h1 : List.map (fun x => x.snd) (assignEach [.Subscript o i pos2] X.env) = [assign (.Subscript o i pos2) X.env] := by rfl)
    (ha : ∀ v, assign (.Subscript o i pos2) X.env v = (do
      let ov ← holding [v] (eval o X.env)
      let iv ← holding [v, ov] (eval i X.env)
      standAt pos2
      holding [v, ov, iv] (setItem ov iv v)
      release [v, ov, iv] []) := by intro _; rfl) : wS X B (.Assign [.Subscript o i pos2] value pos) N G S :=
  wS_of (ps_asg pe_t (pg_sub pe_t pe_t set_list ha) hs hw h1) fun F σ H E ok re => h F σ H _ ok fun vy F1 H1 y S1 h1 ok1 e1 r1 => h1 F1 σ H1 _ ok1 fun vx F2 H2 x S2 h2 ok2 e2 r2 => h2 F2 σ H2 _ ok2 fun vz F3 H3 z S3 ⟨p, xs, n, m, j, ex, ez, hj, hm, hn⟩ ok3 e3 r3 => by
    subst ex ez
    obtain ⟨us, g1, g2⟩ := ok3.he _ (List.mem_of_getElem? hj)
    exact ⟨p, us, n, m, rd_v.mp r2, rd_v.mp r3, g1, by rw [← rds_len g2]; exact hm, re.nx _ _ F3 σ _ hn (ok3.writeL hj (rds_set m g2 (rd_mono (e2.trans e3) _ _ r1))) ((e1.trans e2).trans e3)⟩
end
end Sy
set_option Elab.async false
set_option maxRecDepth 100000
set_option linter.unusedVariables false
/-! ### set(xs) of a list of ints, sorted(set) -/
namespace L2
open PySem PySem.Spec PyProof.Rows
section
variable {P : Program} {w : World} {A : Around} {E : Value → Shared → Prop} {s : Shared}
set_option maxHeartbeats 3200000 in
theorem call_set_listI {l : Addr} {items : Array Value} (ns : List Int) {Q : Value → Shared → Prop} (hh : A.handled = none) (hl : s.heap.IsList l items) (hit : IntsAre items.toList ns) (hb : ns.length + 1 < scanBound)
    (h : ∀ (h' : Heap) (tk c : Nat), SetR w h' s.heap.objs.size (fun j => decide (j ∈ ns)) c → c ≤ ns.length → (∀ b o, s.heap.get? b = some o → h'.get? b = some o) → Q (.ref s.heap.objs.size) { s with heap := h', toks := tk }) :
    wpAny (model P w) A (call (.type "set") [.ref l]) Q E s := by
  have hisz : items.size = ns.length := by
    have q := IntsAre.length hit
    rw [Array.length_toList] at q
    exact q
  obtain ⟨c, tl, hmro⟩ := F.called_set.mro
  have hmade := F.called_set.made
  have hsub := F.called_set.sub
  refine wpAny_call (codeAny_of_tree ?_)
  show wpAny _ _ (callAny (.type "set") _) _ _ _
  refine wpAny_pure ⟨Code.quiet_builtin _ (by decide +kernel), codeAny_builtin F.entry_type_call ?_⟩
  rw [Around.under_plain (weight_type_call_type "set" [.ref l] []) rfl]
  have h1 := F.called_set.notType
  have h2 := F.called_set.canCreate
  have hct := F.typeCall_set_1 (.ref l)
  repeat (any_goals (first | assumption | wp_step))
  generalize hob : ({ cls := .type "set", dict := none, data := .set #[] 0 (.fresh 0 0 (!w.params.followText "set-order")) } : Obj) = ob
  refine codeAny_mono (code_set_led1 (.ref l) (E := E) (Q₁ := fun obj s₁ => obj = .ref s.heap.objs.size ∧ s₁ = { s with heap := s.heap.push ob }) (by rw [hob]; exact ⟨rfl, rfl⟩)) fun r s₁ hr => ?_
  cases r with
  | error e => exact hr
  | ok fl =>
    cases fl with
    | ret obj =>
      obtain ⟨rfl, rfl⟩ := hr
      have hS : (s.heap.push ob).get? s.heap.objs.size = some ob := by subst hob; exact Heap.get?_push_size _ rfl
      have hT : Shared.TypeIs { s with heap := s.heap.push ob } (.ref s.heap.objs.size) "set" := by subst hob; exact ⟨_, hS, rfl⟩
      have hli := F.called_set.init.lookup
      have hbi := F.called_set.init.bind (.ref s.heap.objs.size)
      repeat (any_goals (first | assumption | wp_step))
      refine codeAny_mono (codeAny_call_builtin (R := wants (fun r s₂ => r = .none ∧ ∃ h' tk c, s₂ = { s with heap := h', toks := tk } ∧ SetR w h' s.heap.objs.size (fun j => decide (j ∈ ns)) c ∧ c ≤ ns.length ∧
          (∀ b o, s.heap.get? b = some o → h'.get? b = some o)) E) F.called_set.init.plain F.entry_set_init (check_set_init_1 hT ?_)) fun r₂ s₂ hr₂ => ?_
      · obtain ⟨⟨ocls, odict, odata, oslots⟩, hol, hcl, nl, hdl⟩ := hl
        simp only at hcl hdl
        subst hcl; subst hdl
        have hol' : (s.heap.push ob).get? l = some { cls := .type "list", dict := odict, data := .seq items nl, slots := oslots } := Heap.get?_push_of_some _ hol
        have hsls := F.sub_list_set
        have hslf := F.sub_list_frozenset
        have hne : (Value.type "list" == Value.type "dict") = false := by decide
        have hl1 : (s.heap.push ob).IsList l items := ⟨_, hol', rfl, nl, rfl⟩
        have hlS : l < s.heap.objs.size := Heap.lt_size hol
        have hh3 : A.in1.in1.in1.handled = none := by simp [hh]
        have hneI : l ≠ (s.heap.push ob).objs.size := by rw [Heap.size_push]; exact Nat.ne_of_lt (Nat.lt_succ_of_lt hlS)
        have hSf : s.heap.objs.size ∉ [(s.heap.push ob).objs.size, l] := by
          rw [Heap.size_push]; simp only [List.mem_cons, List.mem_singleton, List.not_mem_nil, or_false, not_or]
          exact ⟨Nat.ne_of_lt (Nat.lt_succ_self _), Nat.ne_of_gt hlS⟩
        have hpz : ∀ b, b < s.heap.objs.size → b ≠ (s.heap.push ob).objs.size := fun b hb => by rw [Heap.size_push]; exact Nat.ne_of_lt (Nat.lt_succ_of_lt hb)
        subst hob
        unfold Builtin.«set.__init__» noKeywords Builtin.Frozenset.updateFrom
        generalize hPI : pyIter = PI
        wp_walk
        subst hPI
        refine wpAny_pyIter_list hl1 ?_
        refine wpAny_bind (wpAny_runValue ?_)
        have hval : ∀ (i : Nat) (v : Value), items[i]? = some v → ∃ k t, ns[i]? = some k ∧ v = .int k t := fun i v hv => by
          have hi : i < ns.length := by rw [← hisz]; exact (Array.getElem?_eq_some_iff.mp hv).1
          obtain ⟨t, e⟩ := PyProof.Rows.IntsAre.int_at hit i v (by rw [Array.getElem?_toList]; exact hv)
          refine ⟨ns[i], t, List.getElem?_eq_getElem hi, ?_⟩
          rw [e, List.getD_eq_getElem?_getD, List.getElem?_eq_getElem hi] <;> rfl
        refine set_update_ints ((Walks.list hh3 _ l hneI items).toS) s.heap.objs.size hSf ns hisz hb hval (items.size - 0) 0 _ (by omega) (Nat.zero_le _)
          ⟨⟨_, Heap.get?_push_size _ rfl, rfl, rfl⟩, (hl1.push _)⟩ ⟨0, Nat.le_refl 0, setR_new_at (Heap.get?_push_of_some _ hS)⟩ ?_
        rintro ⟨h', g2, d', tk', os'⟩ c' hm hc' hS'
        have eg : g2 = s.gens := hm.gens
        have ed : d' = s.drawn := hm.drawn
        have eo : os' = s.os := hm.os
        subst eg; subst ed; subst eo
        show wpAny _ _ _ _ _ _
        refine wpAny_pure ?_
        show wpAny _ _ (ret Value.none) _ _ _
        rw [hisz] at hc'
        refine wpAny_pure ⟨rfl, h', tk', c', rfl, hS', hc', fun b o e => ?_⟩
        have hb0 : b < s.heap.objs.size := Heap.lt_size e
        have hb1 : b ≠ s.heap.objs.size := Nat.ne_of_lt hb0
        have hb2 := hpz b hb0
        exact hm.heap b o (by simp only [List.mem_cons, List.mem_singleton, List.not_mem_nil, or_false, not_or]; exact ⟨hb1, hb2⟩) (Heap.get?_push_of_some _ (Heap.get?_push_of_some _ e))
      · cases r₂ with
        | error e => exact hr₂
        | ok fl₂ =>
          cases fl₂ with
          | ret r =>
            obtain ⟨rfl, h', tk, c', rfl, hS', hc', hk'⟩ := hr₂
            repeat (any_goals (first | assumption | wp_step))
            exact h _ _ _ hS' hc' hk'
          | _ => exact hr₂.elim
    | _ => exact hr.elim
end
section
variable {X : Cx}
def rSetLI (K : PySem.W.Frag) (w : World) : List V → Hp → VK → Prop := fun xs H Q => ∃ (l : Addr) (ns : List Int), xs = [V.ref l] ∧ SqL K H l (ns.map V.int) ∧ ns.length < 1000 ∧ ∀ a c, H a = none → c ≤ ns.length → Q (.ref a) (upd H a (SetO w a (fun j => decide (j ∈ ns)) c))
theorem cr_setLI (hc : X.calm = true) : CallR X (.type "set") (rSetLI X.K X.w) := by
  intro pins s σ H xs us Q I r h
  obtain ⟨l, ns, rfl, hq, hl, q⟩ := h
  rw [Vals.ref1 r]
  obtain ⟨its, rv, pl, hz⟩ := I.list hq
  refine call_set_listI ns (I.ok.hd hc) pl.isList (by simpa using rv.ints) (by unfold scanBound; omega) fun h' tk c R hcn k => ?_
  exact ⟨.ref _, upd H s.heap.objs.size (SetO X.w s.heap.objs.size (fun j => decide (j ∈ ns)) c), I.laid (t' := tk) k (Nat.le_refl _) (setO_new R), rfl, q _ c (I.hok.fresh (Nat.le_refl _)) hcn⟩
end
end L2
namespace Sy
open PySem L2 PySem.Spec PyProof.Rows
/-- a set of ints -/
def ckS (w : World) (a : Addr) (ns : List Int) : Ck where
  ads := [a]
  ok := fun K F H => ∃ c, c ≤ ns.length ∧ H a = some (SetO w a (fun j => decide (j ∈ ns)) c)
  mono := fun e k ⟨c, hc, h1⟩ => ⟨c, hc, by rw [k a (by simp)]; exact h1⟩
  live := fun ⟨c, hc, h1⟩ b hb => by simp at hb; subst hb; rw [h1]; exact fun z => nomatch z
section
variable {X : Cx} {B : Base} {k : D → Cks → Prop} {G : Gm} {S : Cks} {N : En} {a : Expr} {pos : Pos}
theorem W_drop {K : PySem.W.Frag} {t : TE} (h : W K B t (fun d S1 => ∃ S' R, Pick S1 S' R ∧ k d S') G S) : W K B t k G S := fun F σ H Q ok q =>
  h F σ H Q ok fun v F' H' d S1 ⟨S', R, hp, hk⟩ ok' e' r' => q v F' H' d S' hk (ok'.weak (Wk.refl G) hp) e' r'
theorem w_setL {p : Pos} (hm : X.mg "set" = none) (h : wE X B a (fun x S1 => ∃ (p : Addr) (ns : List Int), ∃ j : Nat, x = .ref p ∧ S1[j]? = some (ckL p (ns.map D.int)) ∧ ns.length < 1000 ∧ ∀ q, k (.ref q) (ckS X.w q ns :: S1)) G S) (hc : X.calm = true := by rfl) (hg : Gl X "set" := by rfl) (he : starEach (a :: []) X.env = (false, eval a X.env) :: starEach [] X.env := by rfl) (hpl : (backTo pos (starEach [] X.env)).any (·.1) = false := by rfl) :
    wE X B (.Call (.Name "set" p) [a] [] pos) k G S :=
  w_callTy (cr_setLI hc) hm (by decide +kernel) (wA_cons (fun F σ H Q ok q => h F σ H Q ok fun v F1 H1 d S1 ⟨p, ns, j, ed, hj, hl, hk⟩ ok1 e1 r1 => q v F1 H1 d S1 (wA_nil (wc_one fun F σ H Q v ok rx q => by
    subst ed
    obtain ⟨vs, h1, h2⟩ := ok.he _ (List.mem_of_getElem? hj)
    rw [rds_ints h2] at h1
    exact ⟨p, ns, by rw [rd_v.mp rx], SqL.of h1, hl, fun a c hn hcn => q _ F _ _ _ (hk a) (ok.to (ok.toHs.alloc (o := SetO X.w a (fun j => decide (j ∈ ns)) c) (c := ckS X.w a ns) hn rfl ⟨c, hcn, upd_same⟩) (Same.refl F)) (Same.refl F) (rd_v.mpr rfl)⟩)) ok1 e1 r1) he) hg (by decide) (by decide) he hpl
/-- the members in their order, each once -/
def srtU (ns : List Int) : List Int := srt (ns.eraseDups)
theorem w_sortedS {p : Pos} (hm : X.mg "sorted" = none) (h : wE X B a (fun x S1 => ∃ (p : Addr) (ns : List Int), ∃ j : Nat, x = .ref p ∧ S1[j]? = some (ckS X.w p ns) ∧ ns.length < 64 ∧ ∀ (q : Addr) (ms : List Int), ms.Pairwise (· < ·) → (∀ n, n ∈ ms ↔ n ∈ ns) → k (.ref q) (ckL q (ms.map D.int) :: S1)) G S) (hc : X.calm = true := by rfl) (hg : Gl X "sorted" := by rfl) (he : starEach (a :: []) X.env = (false, eval a X.env) :: starEach [] X.env := by rfl) (hpl : (backTo pos (starEach [] X.env)).any (·.1) = false := by rfl) :
    wE X B (.Call (.Name "sorted" p) [a] [] pos) k G S :=
  w_callB (cr_sortedSet hc) hm (by decide +kernel) (wA_cons (fun F σ H Q ok q => h F σ H Q ok fun v F1 H1 d S1 ⟨p, ns, j, ed, hj, hl, hk⟩ ok1 e1 r1 => q v F1 H1 d S1 (wA_nil (wc_one fun F σ H Q v ok rx q => by
    subst ed
    obtain ⟨c, hcn, h1⟩ := ok.he _ (List.mem_of_getElem? hj)
    refine ⟨p, _, c, by rw [rd_v.mp rx], h1, by omega, fun ms q' hs hm' _ hn => ?_⟩
    exact q _ F _ _ _ (hk q' ms hs fun n => by rw [hm' n, decide_eq_true_eq]) (ok.to (ok.toHs.alloc (o := .lst (ms.map V.int)) (c := ckL q' (ms.map D.int)) hn rfl ⟨_, upd_same, ints_rds _⟩) (Same.refl F)) (Same.refl F) (rd_v.mpr rfl))) ok1 e1 r1) he) hg (by decide) (by decide) he hpl
end
end Sy
set_option Elab.async false
set_option maxRecDepth 100000
set_option linter.unusedVariables false
namespace Sy
open PySem L2 PySem.Spec PyProof.Rows
section
variable {X : Cx} {B : Base} {G : Gm} {S : Cks} {N : En} {e : Expr} {pos apos cpos tpos : Pos}
/-- for a, b in d.items(), d locked -/
theorem ws_forItems {elts : List Expr} {kk : Nat} {body : List Stmt} {g : TG} {α : Type} (enc : α → D) (C : List α → Gm → Cks → Prop) (hg : PG X (.Tuple elts kk tpos) g)
    (h : wE X B e (fun x S1 => ∃ p od ws kvs, ∃ j : Nat, ∃ xs : List α, x = .ref p ∧ S1[j]? = some (ckZ p od ws kvs) ∧ (kvs.map fun kv => D.tup [kD kv.1, kv.2]) = xs.map enc ∧ C [] G S1 ∧ ForM X B N g body enc xs (fun S => ckZ p od ws kvs ∈ S) C) G S)
    (hbase : attributeBase e "items" X.env (eval e X.env) = eval e X.env := by rfl) (hline : (apos.endLine == cpos.line) = true := by rfl)
    (hp : PassesOwn (model X.prog X.w) X.A X.env X.xe := by exact PassesOwn.never) (hc : X.calm = true := by rfl) (hf : ∀ x, foldedSetIterable (.Call (.Attribute e "items" apos) [] [] cpos) X.env x = pure x := by intro _; rfl) :
    wS X B (.For (.Tuple elts kk tpos) (.Call (.Attribute e "items" apos) [] [] cpos) body [] pos) N G S :=
  ws_for hp hg (wI_items (W_mono h fun d S1 ⟨p, od, ws, kvs, j, xs, h1, h2, h3, h4, h5⟩ => ⟨p, od, ws, kvs, j, h1, h2, for_use h5 h4 (by rw [← List.length_map (f := enc), ← h3, List.length_map]) fun i x hx => by
    show at' (kvs.map fun kv => D.tup [kD kv.1, kv.2]) i = enc x
    rw [h3]
    exact at'_map hx⟩) hbase hline) hc hf
theorem wr_neSame {K : PySem.W.Frag} {k : D → Cks → Prop} {x y : D} {d : PyData} (hx : Eqb S 60 x d) (hy : Eqb S 60 y d) (hk : k (.bl false) S) : WR K B (rNeD K) x y k G S := wr_ne hx hy (by rw [PySem.SeqAt.eqv_refl d hx.lay.1]; exact hk)
theorem wr_eqSame {K : PySem.W.Frag} {k : D → Cks → Prop} {x y : D} {d : PyData} (hx : Eqb S 60 x d) (hy : Eqb S 60 y d) (hk : k (.bl true) S) : WR K B (rEqD K) x y k G S := wr_eq hx hy (by rw [PySem.SeqAt.eqv_refl d hx.lay.1]; exact hk)
theorem wss_weak {ss : List Stmt} {G' : Gm} {S' R : Cks} (hg : Wk G G') (hs : Pick S S' R) (h : wSs X B ss N G' S') : wSs X B ss N G S := WS_weak hg hs h
theorem wss_drop {ss : List Stmt} {S' R : Cks} (hs : Pick S S' R) (h : wSs X B ss N G S') : wSs X B ss N G S := WS_weak (Wk.refl G) hs h
theorem eqbs_ints {n : Nat} (ns : List Int) : Eqbs S n (ns.map D.int) (ns.map PyData.int) := Eqbs.map (fun _ => .int) ns
end
end Sy
set_option Elab.async false
set_option maxRecDepth 100000
set_option linter.unusedVariables false
namespace Sy
open PySem L2 PySem.Spec PyProof.Rows
section
variable {X : Cx} {B : Base} {G : Gm} {S : Cks} {N : En} {a b e : Expr} {pos apos cpos tpos : Pos} {k : D → Cks → Prop}
/-- for x, y in zip(p, q), the lists as images of one list -/
theorem ws_forZip {elts : List Expr} {kk : Nat} {p : Pos} {body : List Stmt} {g : TG} {α : Type} (f1 f2 : α → D) (C : List α → Gm → Cks → Prop) (hm : X.mg "zip" = none) (hg : PG X (.Tuple elts kk tpos) g)
    (h : wE X B a (fun x S1 => wE X B b (fun y S2 => ∃ (xs : List α) (gS gT : Cks → Prop), LsD S2 x (xs.map f1) gS ∧ LsD S2 y (xs.map f2) gT ∧ C [] G S2 ∧ ForM X B N g body (fun c => .tup [f1 c, f2 c]) xs (fun T => gS T ∧ gT T) C) G S1) G S) (hgl : Gl X "zip" := by rfl)
    (hs : starEach [a, b] X.env = (false, eval a X.env) :: starEach [b] X.env := by rfl) (hs2 : starEach [b] X.env = (false, eval b X.env) :: starEach [] X.env := by rfl) (hpl : (backTo apos (starEach [b] X.env)).any (·.1) = false := by rfl)
    (hp : PassesOwn (model X.prog X.w) X.A X.env X.xe := by exact PassesOwn.never) (hc : X.calm = true := by rfl) (hf : ∀ x, foldedSetIterable (.Call (.Name "zip" p) [a, b] [] apos) X.env x = pure x := by intro _; rfl) :
    wS X B (.For (.Tuple elts kk tpos) (.Call (.Name "zip" p) [a, b] [] apos) body [] pos) N G S :=
  ws_for hp hg (wI_zip hm (W_mono h fun d S1 h1 => W_mono h1 fun d2 S2 ⟨xs, gS, gT, h1, h2, h3, h4⟩ => ⟨_, _, gS, gT, h1, h2, for_use h4 h3 (by rw [List.length_map, List.length_map, Nat.min_self]) fun i x hx => by
    show D.tup [at' (xs.map f1) i, at' (xs.map f2) i] = D.tup [f1 x, f2 x]
    rw [at'_map hx, at'_map hx]⟩) hgl hs hs2 hpl) hc hf
/-- xs + ys, two lists of ours -/
theorem wr_catL {p q : Addr} {xs ys : List D} (i j : Nat) (hi : S[i]? = some (ckL p xs)) (hj : S[j]? = some (ckL q ys)) (hl : xs.length + ys.length ≤ 100000) (hk : ∀ r, k (.ref r) (ckL r (xs ++ ys) :: S)) : WR X.K B (rAddU X.K) (.ref p) (.ref q) k G S := fun F σ H Q vx vy ok rx ry q' => by
  obtain ⟨us, h1, h2⟩ := ok.he _ (List.mem_of_getElem? hi)
  obtain ⟨vs, g1, g2⟩ := ok.he _ (List.mem_of_getElem? hj)
  refine .inr (.inr (.inr ⟨_, _, us, vs, rd_v.mp rx, rd_v.mp ry, h1, g1, by rw [← rds_len h2, ← rds_len g2, sizeLine_eq]; omega, fun r hr => ?_⟩))
  exact q' _ F _ _ _ (hk r) (ok.to (ok.toHs.alloc (o := .lst (us ++ vs)) (c := ckL r (xs ++ ys)) hr rfl ⟨_, upd_same, rds_append h2 g2⟩) (Same.refl F)) (Same.refl F) (rd_v.mpr rfl)
end
end Sy
set_option Elab.async false
set_option maxRecDepth 100000
set_option linter.unusedVariables false
namespace Sy
open PySem L2 PySem.Spec PyProof.Rows
/-- a law's promise, as the end asks for it -/
def spLawE (K : PySem.W.Frag) : Sp := fun vs H Q _ => ∃ (a : Addr) (ns : List Int), vs = [.ref a] ∧ SqL K H a (ns.map V.int) ∧ ns.length ≤ 63 ∧ ∀ H', Q (.bl true) H'
abbrev spLawS (K : PySem.W.Frag) : Sp := Spx K (I := List Int) (fun ns => ns.length ≤ 63) (fun ns => [.lst (ns.map D.int)]) (fun _ => []) (fun _ d _ => d = .bl true)
theorem spLaw_use {K : PySem.W.Frag} {vs : List V} {H : Hp} {Q : VK} {E : XK} (h : spLawE K vs H Q E) : spLawS K vs H Q E := by
  obtain ⟨a, ns, rfl, hs, hl, q⟩ := h
  have hF : SqL K (fun x => if x = a then H a else none) a (ns.map V.int) := by
    rcases hs with (h | ⟨o, h⟩) | h
    · exact .inl (.inl (by rw [← h]; exact if_pos rfl))
    · exact .inl (.inr ⟨o, by rw [← h]; exact if_pos rfl⟩)
    · exact .inr h
  refine ⟨ns, fun x => if x = a then H a else none, hl, ?_, ?_, ?_⟩
  · refine rds_cons.mpr ⟨.ref a, [], rfl, ?_, rds_nil.mpr rfl⟩
    unfold rd
    exact ⟨a, ns.map V.int, rfl, hF, ints_rds _⟩
  · refine ⟨(by intro c hc; cases hc), fun x o hx => ?_, (by intro x hx; cases hx), List.nodup_nil, fun x o hx _ => hx, fun x o hx => hx, fun x hx => Or.inl hx, (by intro x hx; cases hx), fun x hx => hx⟩
    by_cases e : x = a
    · subst e
      have hx : (if x = x then H x else none) = some o := hx
      rwa [if_pos rfl] at hx
    · have hx : (if x = a then H a else none) = some o := hx
      rw [if_neg e] at hx
      cases hx
  · intro v F' H' d S' e _ r
    subst e
    rw [rd_v.mp r]
    exact q H'
end Sy
set_option Elab.async false
set_option maxRecDepth 100000
set_option linter.unusedVariables false
set_option maxHeartbeats 4000000
namespace K63
open PySem L2 PySem.Spec PyProof.Rows Sy
def top (i : Nat) : Stmt := PySem.Challenge.pw_keepsakes_k63_joined_shelves.main.body.getD i (.Pass ⟨0, 0, 0, 0⟩)
abbrev s_Shelf_init : Stmt := inClass (top 6) 0
abbrev n_Shelf_init : List Str := ["self"]
theorem sc_Shelf_init : FnScope n_Shelf_init ["self"] (defScope s_Shelf_init) := ⟨rfl, rfl, rfl, by decide +kernel, rfl, by decide +kernel, by decide +kernel⟩
abbrev s_Shelf_lay : Stmt := inClass (top 6) 2
abbrev n_Shelf_lay : List Str := ["self", "number", "piece"]
theorem sc_Shelf_lay : FnScope n_Shelf_lay ["self", "number", "piece"] (defScope s_Shelf_lay) := ⟨rfl, rfl, rfl, by decide +kernel, rfl, by decide +kernel, by decide +kernel⟩
abbrev s_Shelf_piece : Stmt := inClass (top 6) 3
abbrev n_Shelf_piece : List Str := ["self", "number"]
theorem sc_Shelf_piece : FnScope n_Shelf_piece ["self", "number"] (defScope s_Shelf_piece) := ⟨rfl, rfl, rfl, by decide +kernel, rfl, by decide +kernel, by decide +kernel⟩
abbrev s_Shelf_drop : Stmt := inClass (top 6) 4
abbrev n_Shelf_drop : List Str := ["self", "number"]
theorem sc_Shelf_drop : FnScope n_Shelf_drop ["self", "number"] (defScope s_Shelf_drop) := ⟨rfl, rfl, rfl, by decide +kernel, rfl, by decide +kernel, by decide +kernel⟩
abbrev s_Shelf_numbers : Stmt := inClass (top 6) 5
abbrev n_Shelf_numbers : List Str := ["self"]
theorem sc_Shelf_numbers : FnScope n_Shelf_numbers ["self"] (defScope s_Shelf_numbers) := ⟨rfl, rfl, rfl, by decide +kernel, rfl, by decide +kernel, by decide +kernel⟩
abbrev s_joined : Stmt := top 8
abbrev n_joined : List Str := ["shelves", "best", "shelf", "number", "piece", "together"]
theorem sc_joined : FnScope n_joined ["shelves"] (defScope s_joined) := ⟨rfl, rfl, rfl, by decide +kernel, rfl, by decide +kernel, by decide +kernel⟩
abbrev s_turned : Stmt := top 11
abbrev n_turned : List Str := ["number"]
theorem sc_turned : FnScope n_turned ["number"] (defScope s_turned) := ⟨rfl, rfl, rfl, by decide +kernel, rfl, by decide +kernel, by decide +kernel⟩
abbrev s_check_of : Stmt := top 12
abbrev n_check_of : List Str := ["start", "day", "rows", "total", "place", "block"]
theorem sc_check_of : FnScope n_check_of ["start", "day", "rows"] (defScope s_check_of) := ⟨rfl, rfl, rfl, by decide +kernel, rfl, by decide +kernel, by decide +kernel⟩
abbrev s_Piece_init : Stmt := inClass (top 14) 0
abbrev n_Piece_init : List Str := ["self", "day", "rows", "check", "place", "block"]
theorem sc_Piece_init : FnScope n_Piece_init ["self", "day", "rows", "check"] (defScope s_Piece_init) := ⟨rfl, rfl, rfl, by decide +kernel, rfl, by decide +kernel, by decide +kernel⟩
abbrev s_Piece_start : Stmt := inClass (top 14) 1
abbrev n_Piece_start : List Str := ["self"]
theorem sc_Piece_start : FnScope n_Piece_start ["self"] (defScope s_Piece_start) := ⟨rfl, rfl, rfl, by decide +kernel, rfl, by decide +kernel, by decide +kernel⟩
abbrev s_Piece_kind : Stmt := inClass (top 14) 2
abbrev n_Piece_kind : List Str := ["self"]
theorem sc_Piece_kind : FnScope n_Piece_kind ["self"] (defScope s_Piece_kind) := ⟨rfl, rfl, rfl, by decide +kernel, rfl, by decide +kernel, by decide +kernel⟩
abbrev s_Piece_size : Stmt := inClass (top 14) 3
abbrev n_Piece_size : List Str := ["self"]
theorem sc_Piece_size : FnScope n_Piece_size ["self"] (defScope s_Piece_size) := ⟨rfl, rfl, rfl, by decide +kernel, rfl, by decide +kernel, by decide +kernel⟩
abbrev s_Piece_is_good : Stmt := inClass (top 14) 4
abbrev n_Piece_is_good : List Str := ["self"]
theorem sc_Piece_is_good : FnScope n_Piece_is_good ["self"] (defScope s_Piece_is_good) := ⟨rfl, rfl, rfl, by decide +kernel, rfl, by decide +kernel, by decide +kernel⟩
abbrev s_Piece_laid : Stmt := inClass (top 14) 5
abbrev n_Piece_laid : List Str := ["self", "table", "found", "place", "block"]
theorem sc_Piece_laid : FnScope n_Piece_laid ["self", "table"] (defScope s_Piece_laid) := ⟨rfl, rfl, rfl, by decide +kernel, rfl, by decide +kernel, by decide +kernel⟩
abbrev s_Piece_again : Stmt := inClass (top 14) 6
abbrev n_Piece_again : List Str := ["self", "rows"]
theorem sc_Piece_again : FnScope n_Piece_again ["self", "rows"] (defScope s_Piece_again) := ⟨rfl, rfl, rfl, by decide +kernel, rfl, by decide +kernel, by decide +kernel⟩
abbrev s_Piece_harmed : Stmt := inClass (top 14) 7
abbrev n_Piece_harmed : List Str := ["self", "at", "bits", "rows", "place", "block"]
theorem sc_Piece_harmed : FnScope n_Piece_harmed ["self", "at", "bits"] (defScope s_Piece_harmed) := ⟨rfl, rfl, rfl, by decide +kernel, rfl, by decide +kernel, by decide +kernel⟩
abbrev s_Whole_kind : Stmt := inClass (top 15) 0
abbrev n_Whole_kind : List Str := ["self"]
theorem sc_Whole_kind : FnScope n_Whole_kind ["self"] (defScope s_Whole_kind) := ⟨rfl, rfl, rfl, by decide +kernel, rfl, by decide +kernel, by decide +kernel⟩
abbrev s_Whole_laid : Stmt := inClass (top 15) 1
abbrev n_Whole_laid : List Str := ["self", "table", "place", "block"]
theorem sc_Whole_laid : FnScope n_Whole_laid ["self", "table"] (defScope s_Whole_laid) := ⟨rfl, rfl, rfl, by decide +kernel, rfl, by decide +kernel, by decide +kernel⟩
abbrev s_Whole_again : Stmt := inClass (top 15) 2
abbrev n_Whole_again : List Str := ["self", "rows"]
theorem sc_Whole_again : FnScope n_Whole_again ["self", "rows"] (defScope s_Whole_again) := ⟨rfl, rfl, rfl, by decide +kernel, rfl, by decide +kernel, by decide +kernel⟩
abbrev s_Gain_init : Stmt := inClass (top 16) 0
abbrev n_Gain_init : List Str := ["self", "base", "day", "rows", "check"]
theorem sc_Gain_init : FnScope n_Gain_init ["self", "base", "day", "rows", "check"] (defScope s_Gain_init) := ⟨rfl, rfl, rfl, by decide +kernel, rfl, by decide +kernel, by decide +kernel⟩
abbrev s_Gain_start : Stmt := inClass (top 16) 1
abbrev n_Gain_start : List Str := ["self"]
theorem sc_Gain_start : FnScope n_Gain_start ["self"] (defScope s_Gain_start) := ⟨rfl, rfl, rfl, by decide +kernel, rfl, by decide +kernel, by decide +kernel⟩
abbrev s_Gain_kind : Stmt := inClass (top 16) 2
abbrev n_Gain_kind : List Str := ["self"]
theorem sc_Gain_kind : FnScope n_Gain_kind ["self"] (defScope s_Gain_kind) := ⟨rfl, rfl, rfl, by decide +kernel, rfl, by decide +kernel, by decide +kernel⟩
abbrev s_Gain_again : Stmt := inClass (top 16) 3
abbrev n_Gain_again : List Str := ["self", "rows"]
theorem sc_Gain_again : FnScope n_Gain_again ["self", "rows"] (defScope s_Gain_again) := ⟨rfl, rfl, rfl, by decide +kernel, rfl, by decide +kernel, by decide +kernel⟩
abbrev s__law_cell_at : Stmt := top 18
abbrev n__law_cell_at : List Str := ["_law_script", "_law_k"]
theorem sc__law_cell_at : FnScope n__law_cell_at ["_law_script", "_law_k"] (defScope s__law_cell_at) := ⟨rfl, rfl, rfl, by decide +kernel, rfl, by decide +kernel, by decide +kernel⟩
abbrev s__law_whole : Stmt := top 19
abbrev n__law_whole : List Str := ["_law_found"]
theorem sc__law_whole : FnScope n__law_whole ["_law_found"] (defScope s__law_whole) := ⟨rfl, rfl, rfl, by decide +kernel, rfl, by decide +kernel, by decide +kernel⟩
abbrev s__law_mix : Stmt := top 20
abbrev n__law_mix : List Str := ["_law_cell", "_law_k", "_law_m"]
theorem sc__law_mix : FnScope n__law_mix ["_law_cell", "_law_k"] (defScope s__law_mix) := ⟨rfl, rfl, rfl, by decide +kernel, rfl, by decide +kernel, by decide +kernel⟩
abbrev s__law_piece : Stmt := top 21
abbrev n__law_piece : List Str := ["_law_m", "_law_number", "_law_alike_here", "_law_rows", "_law_base", "_law_place"]
theorem sc__law_piece : FnScope n__law_piece ["_law_m", "_law_number", "_law_alike_here"] (defScope s__law_piece) := ⟨rfl, rfl, rfl, by decide +kernel, rfl, by decide +kernel, by decide +kernel⟩
abbrev s__law_spoilt : Stmt := top 22
abbrev n__law_spoilt : List Str := ["_law_piece_here", "_law_m", "_law_check"]
theorem sc__law_spoilt : FnScope n__law_spoilt ["_law_piece_here", "_law_m"] (defScope s__law_spoilt) := ⟨rfl, rfl, rfl, by decide +kernel, rfl, by decide +kernel, by decide +kernel⟩
abbrev s__law_shown : Stmt := top 23
abbrev n__law_shown : List Str := ["_law_piece_here"]
theorem sc__law_shown : FnScope n__law_shown ["_law_piece_here"] (defScope s__law_shown) := ⟨rfl, rfl, rfl, by decide +kernel, rfl, by decide +kernel, by decide +kernel⟩
abbrev s__law_laid : Stmt := top 24
abbrev n__law_laid : List Str := ["_law_script", "_law_some", "_law_models", "_law_alike_here", "_law_k", "_law_m", "_law_number", "_law_piece_here", "_law_good", "_law_side"]
theorem sc__law_laid : FnScope n__law_laid ["_law_script", "_law_some", "_law_models"] (defScope s__law_laid) := ⟨rfl, rfl, rfl, by decide +kernel, rfl, by decide +kernel, by decide +kernel⟩
abbrev s__law_due : Stmt := top 25
abbrev n__law_due : List Str := ["_law_models", "_law_due_here", "_law_row", "_law_number", "_law_told"]
theorem sc__law_due : FnScope n__law_due ["_law_models"] (defScope s__law_due) := ⟨rfl, rfl, rfl, by decide +kernel, rfl, by decide +kernel, by decide +kernel⟩
abbrev s__law_alike : Stmt := top 26
abbrev n__law_alike : List Str := ["_law_shelf", "_law_row", "_law_numbers", "_law_number"]
theorem sc__law_alike : FnScope n__law_alike ["_law_shelf", "_law_row"] (defScope s__law_alike) := ⟨rfl, rfl, rfl, by decide +kernel, rfl, by decide +kernel, by decide +kernel⟩
abbrev s_law : Stmt := top 27
abbrev n_law : List Str := ["_law_script", "_law_many", "_law_some", "_law_models", "_law_due_here", "_law_handed", "_law_found", "_law_shelf", "_law_row", "_law_number", "_law_k"]
theorem sc_law : FnScope n_law ["_law_script"] (defScope s_law) := ⟨rfl, rfl, rfl, by decide +kernel, rfl, by decide +kernel, by decide +kernel⟩
/-- what the top has written -/
structure Txt (K : PySem.W.Frag) (mg : Str → Option Value) where
  f_Shelf_init : Addr
  fd_Shelf_init : FuncData
  F_Shelf_init : Fun K "__init__" "Shelf.__init__" s_Shelf_init f_Shelf_init fd_Shelf_init
  f_Shelf_lay : Addr
  fd_Shelf_lay : FuncData
  F_Shelf_lay : Fun K "lay" "Shelf.lay" s_Shelf_lay f_Shelf_lay fd_Shelf_lay
  f_Shelf_piece : Addr
  fd_Shelf_piece : FuncData
  F_Shelf_piece : Fun K "piece" "Shelf.piece" s_Shelf_piece f_Shelf_piece fd_Shelf_piece
  f_Shelf_drop : Addr
  fd_Shelf_drop : FuncData
  F_Shelf_drop : Fun K "drop" "Shelf.drop" s_Shelf_drop f_Shelf_drop fd_Shelf_drop
  f_Shelf_numbers : Addr
  fd_Shelf_numbers : FuncData
  F_Shelf_numbers : Fun K "numbers" "Shelf.numbers" s_Shelf_numbers f_Shelf_numbers fd_Shelf_numbers
  f_joined : Addr
  fd_joined : FuncData
  F_joined : Fun K "joined" "joined" s_joined f_joined fd_joined
  m_joined : mg "joined" = some (.ref f_joined)
  f_turned : Addr
  fd_turned : FuncData
  F_turned : Fun K "turned" "turned" s_turned f_turned fd_turned
  m_turned : mg "turned" = some (.ref f_turned)
  f_check_of : Addr
  fd_check_of : FuncData
  F_check_of : Fun K "check_of" "check_of" s_check_of f_check_of fd_check_of
  m_check_of : mg "check_of" = some (.ref f_check_of)
  f_Piece_init : Addr
  fd_Piece_init : FuncData
  F_Piece_init : FunD K "__init__" "Piece.__init__" (defArgs s_Piece_init) (defBody s_Piece_init) (defScope s_Piece_init) [.non] [] f_Piece_init fd_Piece_init
  f_Piece_start : Addr
  fd_Piece_start : FuncData
  F_Piece_start : Fun K "start" "Piece.start" s_Piece_start f_Piece_start fd_Piece_start
  f_Piece_kind : Addr
  fd_Piece_kind : FuncData
  F_Piece_kind : Fun K "kind" "Piece.kind" s_Piece_kind f_Piece_kind fd_Piece_kind
  f_Piece_size : Addr
  fd_Piece_size : FuncData
  F_Piece_size : Fun K "size" "Piece.size" s_Piece_size f_Piece_size fd_Piece_size
  f_Piece_is_good : Addr
  fd_Piece_is_good : FuncData
  F_Piece_is_good : Fun K "is_good" "Piece.is_good" s_Piece_is_good f_Piece_is_good fd_Piece_is_good
  f_Piece_laid : Addr
  fd_Piece_laid : FuncData
  F_Piece_laid : Fun K "laid" "Piece.laid" s_Piece_laid f_Piece_laid fd_Piece_laid
  f_Piece_again : Addr
  fd_Piece_again : FuncData
  F_Piece_again : Fun K "again" "Piece.again" s_Piece_again f_Piece_again fd_Piece_again
  f_Piece_harmed : Addr
  fd_Piece_harmed : FuncData
  F_Piece_harmed : Fun K "harmed" "Piece.harmed" s_Piece_harmed f_Piece_harmed fd_Piece_harmed
  f_Whole_kind : Addr
  fd_Whole_kind : FuncData
  F_Whole_kind : Fun K "kind" "Whole.kind" s_Whole_kind f_Whole_kind fd_Whole_kind
  f_Whole_laid : Addr
  fd_Whole_laid : FuncData
  F_Whole_laid : Fun K "laid" "Whole.laid" s_Whole_laid f_Whole_laid fd_Whole_laid
  f_Whole_again : Addr
  fd_Whole_again : FuncData
  F_Whole_again : Fun K "again" "Whole.again" s_Whole_again f_Whole_again fd_Whole_again
  f_Gain_init : Addr
  fd_Gain_init : FuncData
  F_Gain_init : FunD K "__init__" "Gain.__init__" (defArgs s_Gain_init) (defBody s_Gain_init) (defScope s_Gain_init) [.non] [] f_Gain_init fd_Gain_init
  f_Gain_start : Addr
  fd_Gain_start : FuncData
  F_Gain_start : Fun K "start" "Gain.start" s_Gain_start f_Gain_start fd_Gain_start
  f_Gain_kind : Addr
  fd_Gain_kind : FuncData
  F_Gain_kind : Fun K "kind" "Gain.kind" s_Gain_kind f_Gain_kind fd_Gain_kind
  f_Gain_again : Addr
  fd_Gain_again : FuncData
  F_Gain_again : Fun K "again" "Gain.again" s_Gain_again f_Gain_again fd_Gain_again
  f__law_cell_at : Addr
  fd__law_cell_at : FuncData
  F__law_cell_at : Fun K "_law_cell_at" "_law_cell_at" s__law_cell_at f__law_cell_at fd__law_cell_at
  m__law_cell_at : mg "_law_cell_at" = some (.ref f__law_cell_at)
  f__law_whole : Addr
  fd__law_whole : FuncData
  F__law_whole : Fun K "_law_whole" "_law_whole" s__law_whole f__law_whole fd__law_whole
  m__law_whole : mg "_law_whole" = some (.ref f__law_whole)
  f__law_mix : Addr
  fd__law_mix : FuncData
  F__law_mix : Fun K "_law_mix" "_law_mix" s__law_mix f__law_mix fd__law_mix
  m__law_mix : mg "_law_mix" = some (.ref f__law_mix)
  f__law_piece : Addr
  fd__law_piece : FuncData
  F__law_piece : Fun K "_law_piece" "_law_piece" s__law_piece f__law_piece fd__law_piece
  m__law_piece : mg "_law_piece" = some (.ref f__law_piece)
  f__law_spoilt : Addr
  fd__law_spoilt : FuncData
  F__law_spoilt : Fun K "_law_spoilt" "_law_spoilt" s__law_spoilt f__law_spoilt fd__law_spoilt
  m__law_spoilt : mg "_law_spoilt" = some (.ref f__law_spoilt)
  f__law_shown : Addr
  fd__law_shown : FuncData
  F__law_shown : Fun K "_law_shown" "_law_shown" s__law_shown f__law_shown fd__law_shown
  m__law_shown : mg "_law_shown" = some (.ref f__law_shown)
  f__law_laid : Addr
  fd__law_laid : FuncData
  F__law_laid : Fun K "_law_laid" "_law_laid" s__law_laid f__law_laid fd__law_laid
  m__law_laid : mg "_law_laid" = some (.ref f__law_laid)
  f__law_due : Addr
  fd__law_due : FuncData
  F__law_due : Fun K "_law_due" "_law_due" s__law_due f__law_due fd__law_due
  m__law_due : mg "_law_due" = some (.ref f__law_due)
  f__law_alike : Addr
  fd__law_alike : FuncData
  F__law_alike : Fun K "_law_alike" "_law_alike" s__law_alike f__law_alike fd__law_alike
  m__law_alike : mg "_law_alike" = some (.ref f__law_alike)
  f_law : Addr
  fd_law : FuncData
  F_law : Fun K "law" "law" s_law f_law fd_law
  m_law : mg "law" = some (.ref f_law)
  C_Shelf : Addr
  c_Shelf : Cls K C_Shelf
  m_Shelf : mg "Shelf" = some (.ref C_Shelf)
  mk_Shelf : Mk K C_Shelf f_Shelf_init
  me_Shelf_lay : Meth K C_Shelf "lay" f_Shelf_lay
  me_Shelf_piece : Meth K C_Shelf "piece" f_Shelf_piece
  me_Shelf_drop : Meth K C_Shelf "drop" f_Shelf_drop
  me_Shelf_numbers : Meth K C_Shelf "numbers" f_Shelf_numbers
  na_Shelf_kept : NoAttr K C_Shelf "kept"
  na_Shelf_onward : NoAttr K C_Shelf "onward"
  C_Piece : Addr
  c_Piece : Cls K C_Piece
  m_Piece : mg "Piece" = some (.ref C_Piece)
  mk_Piece : Mk K C_Piece f_Piece_init
  me_Piece_start : Meth K C_Piece "start" f_Piece_start
  me_Piece_kind : Meth K C_Piece "kind" f_Piece_kind
  me_Piece_size : Meth K C_Piece "size" f_Piece_size
  me_Piece_is_good : Meth K C_Piece "is_good" f_Piece_is_good
  me_Piece_laid : Meth K C_Piece "laid" f_Piece_laid
  me_Piece_again : Meth K C_Piece "again" f_Piece_again
  me_Piece_harmed : Meth K C_Piece "harmed" f_Piece_harmed
  na_Piece_day : NoAttr K C_Piece "day"
  na_Piece_rows : NoAttr K C_Piece "rows"
  na_Piece_check : NoAttr K C_Piece "check"
  C_Whole : Addr
  c_Whole : Cls K C_Whole
  m_Whole : mg "Whole" = some (.ref C_Whole)
  mk_Whole : Mk K C_Whole f_Piece_init
  me_Whole_start : Meth K C_Whole "start" f_Piece_start
  me_Whole_kind : Meth K C_Whole "kind" f_Whole_kind
  me_Whole_size : Meth K C_Whole "size" f_Piece_size
  me_Whole_is_good : Meth K C_Whole "is_good" f_Piece_is_good
  me_Whole_laid : Meth K C_Whole "laid" f_Whole_laid
  me_Whole_again : Meth K C_Whole "again" f_Whole_again
  me_Whole_harmed : Meth K C_Whole "harmed" f_Piece_harmed
  na_Whole_day : NoAttr K C_Whole "day"
  na_Whole_rows : NoAttr K C_Whole "rows"
  na_Whole_check : NoAttr K C_Whole "check"
  C_Gain : Addr
  c_Gain : Cls K C_Gain
  m_Gain : mg "Gain" = some (.ref C_Gain)
  mk_Gain : Mk K C_Gain f_Gain_init
  me_Gain_start : Meth K C_Gain "start" f_Gain_start
  me_Gain_kind : Meth K C_Gain "kind" f_Gain_kind
  me_Gain_size : Meth K C_Gain "size" f_Piece_size
  me_Gain_is_good : Meth K C_Gain "is_good" f_Piece_is_good
  me_Gain_laid : Meth K C_Gain "laid" f_Piece_laid
  me_Gain_again : Meth K C_Gain "again" f_Gain_again
  me_Gain_harmed : Meth K C_Gain "harmed" f_Piece_harmed
  na_Gain_base : NoAttr K C_Gain "base"
  na_Gain_day : NoAttr K C_Gain "day"
  na_Gain_rows : NoAttr K C_Gain "rows"
  na_Gain_check : NoAttr K C_Gain "check"
  cf_Piece_init : ClsFn K C_Piece "__init__" f_Piece_init
  g_FULL : ∃ t, mg "FULL" = some (.int 18446744073709551615 t)
  z_bool : mg "bool" = none
  z_int : mg "int" = none
  z_isinstance : mg "isinstance" = none
  z_len : mg "len" = none
  z_list : mg "list" = none
  z_min : mg "min" = none
  z_range : mg "range" = none
  z_set : mg "set" = none
  z_sorted : mg "sorted" = none
  z_tuple : mg "tuple" = none
  z_zip : mg "zip" = none
section
variable {K : PySem.W.Frag} {mg : Str → Option Value}
theorem b_Shelf_init (T : Txt K mg) : Binds K T.fd_Shelf_init ["self"] [] := T.F_Shelf_init.binds (ps := ["self"]) fun _ _ _ _ _ _ us hl => match us, hl with | [_], _ => rfl
theorem b_Shelf_lay (T : Txt K mg) : Binds K T.fd_Shelf_lay ["self", "number", "piece"] [] := T.F_Shelf_lay.binds (ps := ["self", "number", "piece"]) fun _ _ _ _ _ _ us hl => match us, hl with | [_, _, _], _ => rfl
theorem b_Shelf_piece (T : Txt K mg) : Binds K T.fd_Shelf_piece ["self", "number"] [] := T.F_Shelf_piece.binds (ps := ["self", "number"]) fun _ _ _ _ _ _ us hl => match us, hl with | [_, _], _ => rfl
theorem b_Shelf_drop (T : Txt K mg) : Binds K T.fd_Shelf_drop ["self", "number"] [] := T.F_Shelf_drop.binds (ps := ["self", "number"]) fun _ _ _ _ _ _ us hl => match us, hl with | [_, _], _ => rfl
theorem b_Shelf_numbers (T : Txt K mg) : Binds K T.fd_Shelf_numbers ["self"] [] := T.F_Shelf_numbers.binds (ps := ["self"]) fun _ _ _ _ _ _ us hl => match us, hl with | [_], _ => rfl
theorem b_joined (T : Txt K mg) : Binds K T.fd_joined ["shelves"] [] := T.F_joined.binds (ps := ["shelves"]) fun _ _ _ _ _ _ us hl => match us, hl with | [_], _ => rfl
theorem b_turned (T : Txt K mg) : Binds K T.fd_turned ["number"] [] := T.F_turned.binds (ps := ["number"]) fun _ _ _ _ _ _ us hl => match us, hl with | [_], _ => rfl
theorem b_check_of (T : Txt K mg) : Binds K T.fd_check_of ["start", "day", "rows"] [] := T.F_check_of.binds (ps := ["start", "day", "rows"]) fun _ _ _ _ _ _ us hl => match us, hl with | [_, _, _], _ => rfl
theorem b_Piece_init (T : Txt K mg) : ∃ ds, Vals [] ds ∧ Binds K T.fd_Piece_init ["self", "day", "rows", "check"] ds := T.F_Piece_init.binds1 (ps := ["self", "day", "rows", "check"]) 4 1 (by simp) (by rfl) fun _ _ _ _ _ _ _ us its hu hi => match us, hu, its, hi with | [_, _, _, _], _, [_], _ => ⟨_, rfl, rfl⟩
theorem bd_Piece_init (T : Txt K mg) : ∃ ds, Vals [.non] ds ∧ Binds K T.fd_Piece_init ["self", "day", "rows", "check"] ds := T.F_Piece_init.binds1 (ps := ["self", "day", "rows", "check"]) 3 0 (by simp) (by rfl) fun _ _ _ _ _ _ _ us its hu hi => match us, hu, its, hi with | [_, _, _], _, [_], _ => ⟨_, rfl, rfl⟩
theorem b_Piece_start (T : Txt K mg) : Binds K T.fd_Piece_start ["self"] [] := T.F_Piece_start.binds (ps := ["self"]) fun _ _ _ _ _ _ us hl => match us, hl with | [_], _ => rfl
theorem b_Piece_kind (T : Txt K mg) : Binds K T.fd_Piece_kind ["self"] [] := T.F_Piece_kind.binds (ps := ["self"]) fun _ _ _ _ _ _ us hl => match us, hl with | [_], _ => rfl
theorem b_Piece_size (T : Txt K mg) : Binds K T.fd_Piece_size ["self"] [] := T.F_Piece_size.binds (ps := ["self"]) fun _ _ _ _ _ _ us hl => match us, hl with | [_], _ => rfl
theorem b_Piece_is_good (T : Txt K mg) : Binds K T.fd_Piece_is_good ["self"] [] := T.F_Piece_is_good.binds (ps := ["self"]) fun _ _ _ _ _ _ us hl => match us, hl with | [_], _ => rfl
theorem b_Piece_laid (T : Txt K mg) : Binds K T.fd_Piece_laid ["self", "table"] [] := T.F_Piece_laid.binds (ps := ["self", "table"]) fun _ _ _ _ _ _ us hl => match us, hl with | [_, _], _ => rfl
theorem b_Piece_again (T : Txt K mg) : Binds K T.fd_Piece_again ["self", "rows"] [] := T.F_Piece_again.binds (ps := ["self", "rows"]) fun _ _ _ _ _ _ us hl => match us, hl with | [_, _], _ => rfl
theorem b_Piece_harmed (T : Txt K mg) : Binds K T.fd_Piece_harmed ["self", "at", "bits"] [] := T.F_Piece_harmed.binds (ps := ["self", "at", "bits"]) fun _ _ _ _ _ _ us hl => match us, hl with | [_, _, _], _ => rfl
theorem b_Whole_kind (T : Txt K mg) : Binds K T.fd_Whole_kind ["self"] [] := T.F_Whole_kind.binds (ps := ["self"]) fun _ _ _ _ _ _ us hl => match us, hl with | [_], _ => rfl
theorem b_Whole_laid (T : Txt K mg) : Binds K T.fd_Whole_laid ["self", "table"] [] := T.F_Whole_laid.binds (ps := ["self", "table"]) fun _ _ _ _ _ _ us hl => match us, hl with | [_, _], _ => rfl
theorem b_Whole_again (T : Txt K mg) : Binds K T.fd_Whole_again ["self", "rows"] [] := T.F_Whole_again.binds (ps := ["self", "rows"]) fun _ _ _ _ _ _ us hl => match us, hl with | [_, _], _ => rfl
theorem b_Gain_init (T : Txt K mg) : ∃ ds, Vals [] ds ∧ Binds K T.fd_Gain_init ["self", "base", "day", "rows", "check"] ds := T.F_Gain_init.binds1 (ps := ["self", "base", "day", "rows", "check"]) 5 1 (by simp) (by rfl) fun _ _ _ _ _ _ _ us its hu hi => match us, hu, its, hi with | [_, _, _, _, _], _, [_], _ => ⟨_, rfl, rfl⟩
theorem bd_Gain_init (T : Txt K mg) : ∃ ds, Vals [.non] ds ∧ Binds K T.fd_Gain_init ["self", "base", "day", "rows", "check"] ds := T.F_Gain_init.binds1 (ps := ["self", "base", "day", "rows", "check"]) 4 0 (by simp) (by rfl) fun _ _ _ _ _ _ _ us its hu hi => match us, hu, its, hi with | [_, _, _, _], _, [_], _ => ⟨_, rfl, rfl⟩
theorem b_Gain_start (T : Txt K mg) : Binds K T.fd_Gain_start ["self"] [] := T.F_Gain_start.binds (ps := ["self"]) fun _ _ _ _ _ _ us hl => match us, hl with | [_], _ => rfl
theorem b_Gain_kind (T : Txt K mg) : Binds K T.fd_Gain_kind ["self"] [] := T.F_Gain_kind.binds (ps := ["self"]) fun _ _ _ _ _ _ us hl => match us, hl with | [_], _ => rfl
theorem b_Gain_again (T : Txt K mg) : Binds K T.fd_Gain_again ["self", "rows"] [] := T.F_Gain_again.binds (ps := ["self", "rows"]) fun _ _ _ _ _ _ us hl => match us, hl with | [_, _], _ => rfl
theorem b__law_cell_at (T : Txt K mg) : Binds K T.fd__law_cell_at ["_law_script", "_law_k"] [] := T.F__law_cell_at.binds (ps := ["_law_script", "_law_k"]) fun _ _ _ _ _ _ us hl => match us, hl with | [_, _], _ => rfl
theorem b__law_whole (T : Txt K mg) : Binds K T.fd__law_whole ["_law_found"] [] := T.F__law_whole.binds (ps := ["_law_found"]) fun _ _ _ _ _ _ us hl => match us, hl with | [_], _ => rfl
theorem b__law_mix (T : Txt K mg) : Binds K T.fd__law_mix ["_law_cell", "_law_k"] [] := T.F__law_mix.binds (ps := ["_law_cell", "_law_k"]) fun _ _ _ _ _ _ us hl => match us, hl with | [_, _], _ => rfl
theorem b__law_piece (T : Txt K mg) : Binds K T.fd__law_piece ["_law_m", "_law_number", "_law_alike_here"] [] := T.F__law_piece.binds (ps := ["_law_m", "_law_number", "_law_alike_here"]) fun _ _ _ _ _ _ us hl => match us, hl with | [_, _, _], _ => rfl
theorem b__law_spoilt (T : Txt K mg) : Binds K T.fd__law_spoilt ["_law_piece_here", "_law_m"] [] := T.F__law_spoilt.binds (ps := ["_law_piece_here", "_law_m"]) fun _ _ _ _ _ _ us hl => match us, hl with | [_, _], _ => rfl
theorem b__law_shown (T : Txt K mg) : Binds K T.fd__law_shown ["_law_piece_here"] [] := T.F__law_shown.binds (ps := ["_law_piece_here"]) fun _ _ _ _ _ _ us hl => match us, hl with | [_], _ => rfl
theorem b__law_laid (T : Txt K mg) : Binds K T.fd__law_laid ["_law_script", "_law_some", "_law_models"] [] := T.F__law_laid.binds (ps := ["_law_script", "_law_some", "_law_models"]) fun _ _ _ _ _ _ us hl => match us, hl with | [_, _, _], _ => rfl
theorem b__law_due (T : Txt K mg) : Binds K T.fd__law_due ["_law_models"] [] := T.F__law_due.binds (ps := ["_law_models"]) fun _ _ _ _ _ _ us hl => match us, hl with | [_], _ => rfl
theorem b__law_alike (T : Txt K mg) : Binds K T.fd__law_alike ["_law_shelf", "_law_row"] [] := T.F__law_alike.binds (ps := ["_law_shelf", "_law_row"]) fun _ _ _ _ _ _ us hl => match us, hl with | [_, _], _ => rfl
theorem b_law (T : Txt K mg) : Binds K T.fd_law ["_law_script"] [] := T.F_law.binds (ps := ["_law_script"]) fun _ _ _ _ _ _ us hl => match us, hl with | [_], _ => rfl
end
end K63
set_option Elab.async false
set_option maxRecDepth 100000
set_option linter.unusedVariables false
set_option maxHeartbeats 4000000
namespace K63
open PySem L2 PySem.Spec PyProof.Rows Sy Bits
local macro_rules | `(tactic| walk_at "cnd") => `(tactic| first | decide | omega | assumption | (simp only [List.length_cons, List.length_nil]; omega) | (refine ⟨?_, ?_⟩ <;> omega))
local macro_rules | `(tactic| walk_at "y") => `(tactic| first
  | refine two_mk ?_ | refine one_mk ?_
  | refine cnd_mk (by walk_at "cnd") ?_
  | refine toB_mk ?_
  | refine wss_cons ?_
  | refine ws_ret ?_ | refine ws_retN ?_ | refine ws_if ?_ | refine ws_expr ?_
  | refine ws_set (by assumption) (by assumption) ?_
  | refine ws_fld ?_
  | refine ws_continue ?_ | refine ws_break ?_ | refine ws_pass ?_
  | refine w_name (by assumption) (by rfl) ?_
  | refine w_int ?_ | refine w_str ?_ | refine w_bool ?_ | refine w_none ?_
  | refine wA_nil ?_ | refine wA_cons ?_
  | refine w_add ?_ | refine w_sub ?_ | refine w_mul ?_ | refine w_mod ?_ | refine w_fdiv ?_ | refine w_pow ?_ | refine w_shl ?_ | refine w_shr ?_ | refine w_band ?_ | refine w_bor ?_ | refine w_xor ?_
  | refine w_tup ?_ | refine w_lst ?_ | refine w_dnew ?_ | refine w_neg ?_
  | refine w_ix (by assumption) ?_
  | refine wT_lt ?_ | refine wT_le ?_ | refine wT_gt ?_ | refine wT_ge ?_ | refine wT_lelt ?_
  | refine wT_eq (by assumption) ?_ | refine wT_ne (by assumption) ?_
  | refine wT_in (by assumption) ?_ | refine wT_notin (by assumption) ?_
  | refine wT_is ?_ | refine wT_isnot ?_
  | refine w_eq (by assumption) ?_ | refine w_ne (by assumption) ?_
  | refine wT_bool ?_ | refine wW_and ?_ | refine wW_and1 ?_ | refine wW_or ?_ | refine wW_or1 ?_ | refine wT_not ?_
  | refine w_not ?_ | refine w_and ?_ | refine w_or ?_ | refine w_one ?_
  | refine w_fld ?_
  | refine wr_addI ?_
  | refine wr_eqI ?_ | refine wr_neI ?_)
local macro_rules | `(tactic| walk_at "g") => `(tactic| first | refine WG_name ?_ | refine WG_tup _ rfl ?_ | refine WGs_cons ?_ | refine WGs_nil ?_)
local macro_rules | `(tactic| walk_at "wk") => `(tactic| first | exact Wk.nil | (first | refine Wk.keep ?_ | refine Wk.drop ?_); walk_at "wk")
local macro_rules | `(tactic| walk_at "pk") => `(tactic| first
  | exact Pick.nil
  | (refine Pick.cons 0 rfl ?_; walk_at "pk") | (refine Pick.cons 1 rfl ?_; walk_at "pk") | (refine Pick.cons 2 rfl ?_; walk_at "pk") | (refine Pick.cons 3 rfl ?_; walk_at "pk")
  | (refine Pick.cons 4 rfl ?_; walk_at "pk") | (refine Pick.cons 5 rfl ?_; walk_at "pk") | (refine Pick.cons 6 rfl ?_; walk_at "pk") | (refine Pick.cons 7 rfl ?_; walk_at "pk"))
/-! ### checks -/
def turned (n : Int) : Int := Builtin.bitOr (Builtin.bitAnd (n * 2 ^ 7) 18446744073709551615) (n / 2 ^ 57)
def dRow (p : Int × Int) : D := .tup [.int p.1, .int p.2]
def stepC (t : Int) (p : Int × Int) : Int := Builtin.bitXor (turned (Builtin.bitXor (turned t) p.1)) p.2
def checkOf (start day : Int) (rows : List (Int × Int)) : Int := rows.foldl stepC (Builtin.bitXor (turned (start + 1)) day)
/-- a number of 64 bits -/
def B64 (n : Int) : Prop := 0 ≤ n ∧ n < 2 ^ 64
theorem B64.abs {n : Int} (h : B64 n) : n.natAbs < 2 ^ 64 := by unfold B64 at h; omega
theorem turned_eq {n : Int} (h : B64 n) : turned n = n / 144115188075855872 + n % 144115188075855872 * 128 := by
  obtain ⟨h0, h1⟩ := h
  unfold turned
  have e1 : Builtin.bitAnd (n * 2 ^ 7) 18446744073709551615 = n * 2 ^ 7 % 2 ^ 64 := bitAnd_mask 64 (by omega)
  have e2 : n * 2 ^ 7 % 2 ^ 64 = n % 144115188075855872 * 2 ^ 7 := by omega
  rw [e1, e2, bitOr_join' (k := 7) (by omega) (by omega) (by omega)]
  omega
theorem turned_b {n : Int} (h : B64 n) : B64 (turned n) := by
  rw [turned_eq h]
  obtain ⟨h0, h1⟩ := h
  exact ⟨by omega, by omega⟩
theorem top_b {m : Int} (h : B64 m) : 0 ≤ m / 144115188075855872 ∧ m / 144115188075855872 < 128 := by
  obtain ⟨h0, h1⟩ := h
  exact ⟨by omega, by omega⟩
theorem low_b (m : Int) : 0 ≤ m % 144115188075855872 := by omega
theorem two_parts {q1 r1 q2 r2 : Int} (h1 : 0 ≤ q1) (h2 : q1 < 128) (h3 : 0 ≤ q2) (h4 : q2 < 128) (e : q1 + r1 * 128 = q2 + r2 * 128) : q1 = q2 ∧ r1 = r2 := by omega
theorem turned_inj {m n : Int} (h : B64 m) (h' : B64 n) (e : turned m = turned n) : m = n := by
  rw [turned_eq h, turned_eq h'] at e
  have b1 := top_b h
  have b2 := top_b h'
  obtain ⟨e1, e2⟩ := two_parts b1.1 b1.2 b2.1 b2.2 e
  rw [← Int.emod_add_mul_ediv m 144115188075855872, ← Int.emod_add_mul_ediv n 144115188075855872, e1, e2]
theorem xor_b {m n : Int} (h : B64 m) (h' : B64 n) : B64 (Builtin.bitXor m n) := by
  obtain ⟨h0, h1⟩ := h
  obtain ⟨h2, h3⟩ := h'
  rw [bitXor_pp h0 h2]
  have := Nat.xor_lt_two_pow (x := m.toNat) (y := n.toNat) (n := 64) (by omega) (by omega)
  exact ⟨by omega, by omega⟩
theorem xor_inj {a b c : Int} (ha : 0 ≤ a) (hb : 0 ≤ b) (hc : 0 ≤ c) (e : Builtin.bitXor a c = Builtin.bitXor b c) : a = b := by
  rw [bitXor_pp ha hc, bitXor_pp hb hc] at e
  have e2 : a.toNat ^^^ c.toNat = b.toNat ^^^ c.toNat := by omega
  have e3 := congrArg (· ^^^ c.toNat) e2
  simp only [Nat.xor_assoc, Nat.xor_self, Nat.xor_zero] at e3
  omega
theorem xor_inj2 {a b c : Int} (ha : 0 ≤ a) (hb : 0 ≤ b) (hc : 0 ≤ c) (e : Builtin.bitXor c a = Builtin.bitXor c b) : a = b := by
  rw [bitXor_pp hc ha, bitXor_pp hc hb] at e
  have e2 : c.toNat ^^^ a.toNat = c.toNat ^^^ b.toNat := by omega
  have e3 := congrArg (c.toNat ^^^ ·) e2
  simp only [← Nat.xor_assoc, Nat.xor_self, Nat.zero_xor] at e3
  omega
section
variable {P : Program} {w : World} {K : PySem.W.Frag} {mg : Str → Option Value} {base : Heap}
abbrev spTurned (K : PySem.W.Frag) : Sp := Spx K (I := Int) (fun n => B64 n) (fun n => [.int n]) (fun _ => []) (fun n d S => d = .int (turned n) ∧ S = [])
theorem ok_turned (T : Txt K mg) : FnOk P w K mg base CX0 1 T.f_turned T.fd_turned ["number"] (spTurned K) := by
  refine fn_ok T.F_turned sc_turned (fun x => rfl) (fun cdv A outer s H E B n hr hn => ?_)
  have q0 : Nm n_turned "number" 0 := rfl
  have nd := sc_turned.nd
  obtain ⟨t, hF⟩ := T.g_FULL
  repeat walk_at "y"
  refine cnd_mk ⟨by decide, by decide, hn.abs⟩ ?_
  refine w_glob (v := .int 18446744073709551615) hF ?_ ⟨_, rfl⟩
  repeat walk_at "y"
  exact ⟨rfl, rfl⟩
def RowsOk (rows : List (Int × Int)) : Prop := ∀ p ∈ rows, B64 p.1 ∧ B64 p.2
theorem checkOf_snoc (s d : Int) (pre : List (Int × Int)) (x : Int × Int) : checkOf s d (pre ++ [x]) = stepC (checkOf s d pre) x := by unfold checkOf; rw [List.foldl_append]; rfl
theorem stepC_b {t : Int} {p : Int × Int} (ht : B64 t) (h1 : B64 p.1) (h2 : B64 p.2) : B64 (stepC t p) := xor_b (turned_b (xor_b (turned_b ht) h1)) h2
theorem fold_b : ∀ {rows : List (Int × Int)} {t : Int}, B64 t → RowsOk rows → B64 (rows.foldl stepC t)
  | [], _, ht, _ => ht
  | p :: rows, _, ht, h => fold_b (rows := rows) (stepC_b ht (h p List.mem_cons_self).1 (h p List.mem_cons_self).2) fun q hq => h q (List.mem_cons_of_mem _ hq)
theorem checkOf_b {s d : Int} (hs : B64 (s + 1)) (hd : B64 d) {rows : List (Int × Int)} (h : RowsOk rows) : B64 (checkOf s d rows) := fold_b (xor_b (turned_b hs) hd) h
theorem fold_inj : ∀ {rows : List (Int × Int)} {t u : Int}, B64 t → B64 u → RowsOk rows → rows.foldl stepC t = rows.foldl stepC u → t = u
  | [], _, _, _, _, _, e => e
  | p :: rows, t, u, ht, hu, h, e => by
    have h1 := (h p List.mem_cons_self).1
    have h2 := (h p List.mem_cons_self).2
    have e2 : stepC t p = stepC u p := fold_inj (rows := rows) (stepC_b ht h1 h2) (stepC_b hu h1 h2) (fun q hq => h q (List.mem_cons_of_mem _ hq)) e
    have at1 := xor_b (turned_b ht) h1
    have au1 := xor_b (turned_b hu) h1
    have e3 := xor_inj (turned_b at1).1 (turned_b au1).1 h2.1 e2
    have e4 := turned_inj at1 au1 e3
    exact turned_inj ht hu (xor_inj (turned_b ht).1 (turned_b hu).1 h1.1 e4)
/-- another block in one row: another check -/
theorem check_other {s d a b c : Int} (hs : B64 (s + 1)) (hd : B64 d) {pre post : List (Int × Int)} (h : RowsOk (pre ++ (a, b) :: post)) (hc : B64 c) (hn : b ≠ c) : checkOf s d (pre ++ (a, b) :: post) ≠ checkOf s d (pre ++ (a, c) :: post) := by
  intro e
  unfold checkOf at e
  rw [List.foldl_append, List.foldl_append, List.foldl_cons, List.foldl_cons] at e
  have hp : RowsOk pre := fun q hq => h q (by simp [hq])
  have hq : RowsOk post := fun q hq => h q (by simp [hq])
  have hab := h (a, b) (by simp)
  have ht := fold_b (xor_b (turned_b hs) hd) hp
  have e2 := fold_inj (stepC_b (p := (a, b)) ht hab.1 hab.2) (stepC_b (p := (a, c)) ht hab.1 hc) hq e
  exact hn (xor_inj2 hab.2.1 hc.1 (turned_b (xor_b (turned_b ht) hab.1)).1 e2)
theorem xor_ne {b x : Int} (hb : 0 ≤ b) (hx : 0 < x) : b ≠ Builtin.bitXor b x := by
  intro e
  have e0 : Builtin.bitXor b 0 = Builtin.bitXor b x := by
    rw [bitXor_pp hb (Int.le_refl 0)]
    simp only [Int.toNat_zero, Nat.xor_zero]
    omega
  have := xor_inj2 (Int.le_refl 0) (Int.le_of_lt hx) hb e0
  omega
def dRows (rs : List (Int × Int)) : D := .tup (rs.map dRow)
abbrev spCheck (K : PySem.W.Frag) : Sp := Spx K (I := Int × Int × List (Int × Int)) (fun x => B64 (x.1 + 1) ∧ B64 x.2.1 ∧ RowsOk x.2.2) (fun x => [.int x.1, .int x.2.1, dRows x.2.2]) (fun _ => []) (fun x d S => d = .int (checkOf x.1 x.2.1 x.2.2) ∧ S = [])
theorem ok_check_of (T : Txt K mg) : FnOk P w K mg base CX0 2 T.f_check_of T.fd_check_of ["start", "day", "rows"] (spCheck K) := by
  refine fn_ok T.F_check_of sc_check_of (fun x => rfl) (fun cdv A outer s H E B x hr hx => ?_)
  obtain ⟨st, day, rows⟩ := x
  obtain ⟨h1, h2, h3⟩ := hx
  dsimp only at h1 h2 h3
  have q0 : Nm n_check_of "start" 0 := rfl; have q1 : Nm n_check_of "day" 1 := rfl; have q2 : Nm n_check_of "rows" 2 := rfl; have q3 : Nm n_check_of "total" 3 := rfl; have q4 : Nm n_check_of "place" 4 := rfl; have q5 : Nm n_check_of "block" 5 := rfl
  have nd := sc_check_of.nd
  have ct : ∀ {G : Gm} {S : Cks} {k : D → Cks → Prop} {es : List Expr} {e : Expr} {p pos : Pos}, True := fun {_ _ _ _ _ _ _} => trivial
  repeat walk_at "y"
  refine w_call (ok_turned T) (hr.mono (by decide)) T.m_turned T.F_turned.kp (b_turned T) .nil ?_
  repeat walk_at "y"
  refine ⟨_, _, h1, rfl, .nil, ?_⟩
  rintro _ _ ⟨rfl, rfl⟩
  repeat walk_at "y"
  refine ws_forM dRow (fun pre G' S' => G' = [some (.int st), some (.int day), some (dRows rows), some (.int (checkOf st day pre)), none, none] ∧ S' = []) (pg_t2 (by assumption) (by assumption) (by assumption)) ?_
  repeat walk_at "y"
  refine ⟨rows, _, sq_tup, ⟨rfl, rfl⟩, fun _ _ _ _ => trivial, ?_, ?_⟩
  · rintro pre ⟨pl, bl⟩ post _ _ hsp ⟨rfl, rfl⟩
    have hb : B64 (checkOf st day pre) := checkOf_b h1 h2 fun p hp => h3 p (by rw [hsp]; simp [hp])
    have hpl : B64 pl ∧ B64 bl := h3 (pl, bl) (by rw [hsp]; simp)
    repeat walk_at "g"
    repeat walk_at "y"
    refine w_call (ok_turned T) (hr.mono (by decide)) T.m_turned T.F_turned.kp (b_turned T) .nil ?_
    repeat walk_at "y"
    refine ⟨_, _, hb, rfl, .nil, ?_⟩
    rintro _ _ ⟨rfl, rfl⟩
    repeat walk_at "y"
    refine w_call (ok_turned T) (hr.mono (by decide)) T.m_turned T.F_turned.kp (b_turned T) .nil ?_
    repeat walk_at "y"
    refine ⟨_, _, xor_b (turned_b hb) hpl.1, rfl, .nil, ?_⟩
    rintro _ _ ⟨rfl, rfl⟩
    repeat walk_at "y"
    rw [checkOf_snoc]
    exact wss_end (by walk_at "wk") .nil ⟨rfl, rfl⟩
  · rintro _ _ ⟨rfl, rfl⟩
    repeat walk_at "y"
    exact ⟨rfl, rfl⟩
/-! ### pieces -/
inductive Pc where
  | whole (day : Int) (rows : List (Int × Int)) (check : Int)
  | gain (base day : Int) (rows : List (Int × Int)) (check : Int)
def Pc.start : Pc → Int | .whole _ _ _ => -1 | .gain b _ _ _ => b
def Pc.day : Pc → Int | .whole d _ _ => d | .gain _ d _ _ => d
def Pc.rows : Pc → List (Int × Int) | .whole _ r _ => r | .gain _ _ r _ => r
def Pc.check : Pc → Int | .whole _ _ c => c | .gain _ _ _ c => c
def Pc.good (p : Pc) : Bool := decide (p.check = checkOf p.start p.day p.rows)
structure Pc.Ok (p : Pc) : Prop where
  s : B64 (p.start + 1)
  d : B64 p.day
  r : RowsOk p.rows
  n : p.rows.length < 1000
def wF (d : Int) (r : List (Int × Int)) (c : Int) : List (Str × D) := [("day", .int d), ("rows", dRows r), ("check", .int c)]
def gF (b d : Int) (r : List (Int × Int)) (c : Int) : List (Str × D) := [("base", .int b), ("day", .int d), ("rows", dRows r), ("check", .int c)]
def dPc (T : Txt K mg) : Pc → D
  | .whole d r c => .ins T.C_Whole (wF d r c)
  | .gain b d r c => .ins T.C_Gain (gF b d r c)
theorem hu1_of {A : Around} {k : Nat} (hr : Room k A) : A.units + 1 < cLine := hu_of hr
/-- where rows come from: a tuple, a list -/
inductive Src : D → Cks → List (Int × Int) → Prop
  | tup {rows : List (Int × Int)} : Src (dRows rows) [] rows
  | lst {rows : List (Int × Int)} : Src (.lst (rows.map dRow)) [] rows
  | own {p : Addr} {rows : List (Int × Int)} : Src (.ref p) [ckL p (rows.map dRow)] rows
/-! start, kind -/
abbrev spStart0 (K : PySem.W.Frag) : Sp := Spx K (I := D) (fun _ => True) (fun x => [x]) (fun _ => []) (fun _ d S => d = .int (-1) ∧ S = [])
theorem ok_Piece_start (T : Txt K mg) : FnOk P w K mg base CX0 1 T.f_Piece_start T.fd_Piece_start ["self"] (spStart0 K) := by
  refine fn_ok T.F_Piece_start sc_Piece_start (fun x => rfl) (fun cdv A outer s H E B x hr hx => ?_)
  repeat walk_at "y"
  exact ⟨rfl, rfl⟩
abbrev spStartG (K : PySem.W.Frag) (C : Addr) : Sp := Spx K (I := Int × Int × List (Int × Int) × Int) (fun _ => True) (fun x => [.ins C (gF x.1 x.2.1 x.2.2.1 x.2.2.2)]) (fun _ => []) (fun x d S => d = .int x.1 ∧ S = [])
theorem ok_Gain_start (T : Txt K mg) : FnOk P w K mg base CX0 1 T.f_Gain_start T.fd_Gain_start ["self"] (spStartG K T.C_Gain) := by
  refine fn_ok T.F_Gain_start sc_Gain_start (fun x => rfl) (fun cdv A outer s H E B x hr hx => ?_)
  have q0 : Nm n_Gain_start "self" 0 := rfl
  repeat walk_at "y"
  exact .inl ⟨_, _, _, rfl, T.c_Gain, T.na_Gain_base, rfl, rfl, rfl⟩
abbrev spStartO (K : PySem.W.Frag) (C : Addr) : Sp := Spx K (I := Addr × List (Str × D) × Int) (fun x => List.lookup ("base" : Str) x.2.1 = some (D.int x.2.2)) (fun x => [.ref x.1]) (fun x => [ckI x.1 C x.2.1]) (fun x d S => d = .int x.2.2 ∧ S = [ckI x.1 C x.2.1])
theorem ok_Gain_startO (T : Txt K mg) : FnOk P w K mg base CX0 1 T.f_Gain_start T.fd_Gain_start ["self"] (spStartO K T.C_Gain) := by
  refine fn_ok T.F_Gain_start sc_Gain_start (fun x => rfl) (fun cdv A outer s H E B x hr hx => ?_)
  have q0 : Nm n_Gain_start "self" 0 := rfl
  repeat walk_at "y"
  exact .inr ⟨_, _, _, _, 0, rfl, rfl, T.c_Gain, T.na_Gain_base, hx, rfl, rfl⟩
abbrev spKind (K : PySem.W.Frag) (z : Str) : Sp := Spx K (I := D) (fun _ => True) (fun x => [x]) (fun _ => []) (fun _ d S => d = .str z ∧ S = [])
theorem ok_Whole_kind (T : Txt K mg) : FnOk P w K mg base CX0 1 T.f_Whole_kind T.fd_Whole_kind ["self"] (spKind K "whole") := by
  refine fn_ok T.F_Whole_kind sc_Whole_kind (fun x => rfl) (fun cdv A outer s H E B x hr hx => ?_)
  repeat walk_at "y"
  exact ⟨rfl, rfl⟩
theorem ok_Gain_kind (T : Txt K mg) : FnOk P w K mg base CX0 1 T.f_Gain_kind T.fd_Gain_kind ["self"] (spKind K "gain") := by
  refine fn_ok T.F_Gain_kind sc_Gain_kind (fun x => rfl) (fun cdv A outer s H E B x hr hx => ?_)
  repeat walk_at "y"
  exact ⟨rfl, rfl⟩
section
variable {X : Cx}
def mbStartW (T : Txt X.K X.mg) (hr : Room 1 X.A) : MethB X "start" := ⟨T.C_Whole, _, _, _, 1, [], [], _, _, _, _, _, T.c_Whole, T.me_Whole_start, ok_Piece_start T, hr, b_Piece_start T, .nil⟩
def mbStartG (T : Txt X.K X.mg) (hr : Room 1 X.A) : MethB X "start" := ⟨T.C_Gain, _, _, _, 1, [], [], _, _, _, _, _, T.c_Gain, T.me_Gain_start, ok_Gain_start T, hr, b_Gain_start T, .nil⟩
def mbStartO (T : Txt X.K X.mg) (hr : Room 1 X.A) : MethB X "start" := ⟨T.C_Gain, _, _, _, 1, [], [], _, _, _, _, _, T.c_Gain, T.me_Gain_start, ok_Gain_startO T, hr, b_Gain_start T, .nil⟩
def mbKindW (T : Txt X.K X.mg) (hr : Room 1 X.A) : MethB X "kind" := ⟨T.C_Whole, _, _, _, 1, [], [], _, _, _, _, _, T.c_Whole, T.me_Whole_kind, ok_Whole_kind T, hr, b_Whole_kind T, .nil⟩
def mbKindG (T : Txt X.K X.mg) (hr : Room 1 X.A) : MethB X "kind" := ⟨T.C_Gain, _, _, _, 1, [], [], _, _, _, _, _, T.c_Gain, T.me_Gain_kind, ok_Gain_kind T, hr, b_Gain_kind T, .nil⟩
variable {B : Base} {G : Gm} {S : Cks} {k : D → Cks → Prop} {o : Expr} {apos pos : Pos}
/-- piece.start(), piece.kind() -/
theorem w_start {pl : Sem Bool} (T : Txt X.K X.mg) (hr : Room 1 X.A) (h : wE X B o (fun x S1 => ∃ p, x = dPc T p ∧ k (.int p.start) S1) G S)
    (ht : eval (.Call (.Attribute o "start" apos) [] [] pos) X.env = (do
      let ov ← eval o X.env
      standAt apos.atName
      let (f, first) ← holding [ov] (getMethod ov "start" pl)
      callWith pos f first (backTo pos (starEach [] X.env)) (backToKw pos (keywordEach [] X.env))) := by rfl) : wE X B (.Call (.Attribute o "start" apos) [] [] pos) k G S :=
  w_meth0 (W_mono h fun x S1 ⟨p, ex, hk⟩ => by
    subst ex
    cases p with
    | whole d r c => exact ⟨mbStartW T hr, .ins rfl, _, _, trivial, rfl, .nil, fun d S' ⟨e1, e2⟩ => by subst e1 e2; exact hk⟩
    | gain b d r c => exact ⟨mbStartG T hr, .ins rfl, (b, d, r, c), _, trivial, rfl, .nil, fun d S' ⟨e1, e2⟩ => by subst e1 e2; exact hk⟩) ht
end
end
end K63
set_option Elab.async false
set_option maxRecDepth 100000
set_option linter.unusedVariables false
set_option maxHeartbeats 4000000
namespace K63
open PySem L2 PySem.Spec PyProof.Rows Sy
local macro_rules | `(tactic| walk_at "cnd") => `(tactic| first | decide | omega | assumption | (simp only [List.length_cons, List.length_nil]; omega) | (refine ⟨?_, ?_⟩ <;> omega))
local macro_rules | `(tactic| walk_at "y") => `(tactic| first
  | refine two_mk ?_ | refine one_mk ?_
  | refine cnd_mk (by walk_at "cnd") ?_
  | refine toB_mk ?_
  | refine wss_cons ?_
  | refine ws_ret ?_ | refine ws_retN ?_ | refine ws_if ?_ | refine ws_expr ?_
  | refine ws_set (by assumption) (by assumption) ?_
  | refine ws_fld ?_
  | refine ws_continue ?_ | refine ws_break ?_ | refine ws_pass ?_
  | refine w_name (by assumption) (by rfl) ?_
  | refine w_int ?_ | refine w_str ?_ | refine w_bool ?_ | refine w_none ?_
  | refine wA_nil ?_ | refine wA_cons ?_
  | refine w_add ?_ | refine w_sub ?_ | refine w_mul ?_ | refine w_mod ?_ | refine w_fdiv ?_ | refine w_pow ?_ | refine w_shl ?_ | refine w_shr ?_ | refine w_band ?_ | refine w_bor ?_ | refine w_xor ?_
  | refine w_tup ?_ | refine w_lst ?_ | refine w_dnew ?_ | refine w_neg ?_
  | refine w_ix (by assumption) ?_
  | refine wT_lt ?_ | refine wT_le ?_ | refine wT_gt ?_ | refine wT_ge ?_ | refine wT_lelt ?_
  | refine wT_eq (by assumption) ?_ | refine wT_ne (by assumption) ?_
  | refine wT_in (by assumption) ?_ | refine wT_notin (by assumption) ?_
  | refine wT_is ?_ | refine wT_isnot ?_
  | refine w_eq (by assumption) ?_ | refine w_ne (by assumption) ?_
  | refine wT_bool ?_ | refine wW_and ?_ | refine wW_and1 ?_ | refine wW_or ?_ | refine wW_or1 ?_ | refine wT_not ?_
  | refine w_not ?_ | refine w_and ?_ | refine w_or ?_ | refine w_one ?_
  | refine w_fld ?_
  | refine wr_addI ?_
  | refine wr_eqI ?_ | refine wr_neI ?_)
local macro_rules | `(tactic| walk_at "g") => `(tactic| first | refine WG_name ?_ | refine WG_tup _ rfl ?_ | refine WGs_cons ?_ | refine WGs_nil ?_)
local macro_rules | `(tactic| walk_at "wk") => `(tactic| first | exact Wk.nil | (first | refine Wk.keep ?_ | refine Wk.drop ?_); walk_at "wk")
local macro_rules | `(tactic| walk_at "pk") => `(tactic| first
  | exact Pick.nil
  | (refine Pick.cons 0 rfl ?_; walk_at "pk") | (refine Pick.cons 1 rfl ?_; walk_at "pk") | (refine Pick.cons 2 rfl ?_; walk_at "pk") | (refine Pick.cons 3 rfl ?_; walk_at "pk")
  | (refine Pick.cons 4 rfl ?_; walk_at "pk") | (refine Pick.cons 5 rfl ?_; walk_at "pk") | (refine Pick.cons 6 rfl ?_; walk_at "pk") | (refine Pick.cons 7 rfl ?_; walk_at "pk"))
section
variable {P : Program} {w : World} {K : PySem.W.Frag} {mg : Str → Option Value} {base : Heap}
theorem Src.sq {S : Cks} {d : D} {sc : Cks} {rows : List (Int × Int)} (h : Src d sc rows) (hs : ∀ p, sc = [ckL p (rows.map dRow)] → S[0]? = some (ckL p (rows.map dRow)) ∨ S[1]? = some (ckL p (rows.map dRow))) :
    ∃ gS, Sq S d rows.length (at' (rows.map dRow)) gS ∧ (∀ T, (∀ c ∈ sc, c ∈ T) → gS T) := by
  cases h with
  | tup => exact ⟨_, sq_tup, fun _ _ => trivial⟩
  | lst => exact ⟨_, sq_lst, fun _ _ => trivial⟩
  | @own p rows =>
    rcases hs p rfl with h | h
    · exact ⟨_, sq_own 0 h, fun T hT => hT _ (by simp)⟩
    · exact ⟨_, sq_own 1 h, fun T hT => hT _ (by simp)⟩
def bF (b : Int) : List (Str × D) := [("base", .int b)]
def aF (d : Int) : List (Str × D) := [("day", .int d)]
def rF (d : Int) (r : List (Int × Int)) : List (Str × D) := [("day", .int d), ("rows", dRows r)]
def cF (d : Int) (r : List (Int × Int)) (c : D) : List (Str × D) := [("day", .int d), ("rows", dRows r), ("check", c)]
structure PIn where
  p : Addr
  C : Addr
  f0 : List (Str × D)
  start : Int
  day : Int
  src : D
  sc : Cks
  rows : List (Int × Int)
  chk : Option Int
def PIn.cd (x : PIn) : D := match x.chk with | some c => .int c | none => .non
def PIn.c (x : PIn) : Int := x.chk.getD (checkOf x.start x.day x.rows)
abbrev spPInit (K : PySem.W.Frag) (W G : Addr) : Sp := Spx K (I := PIn)
  (fun x => ((x.C = W ∧ x.f0 = [] ∧ x.start = -1) ∨ (x.C = G ∧ x.f0 = bF x.start)) ∧ Src x.src x.sc x.rows ∧ x.rows.length < 1000 ∧ B64 (x.start + 1) ∧ B64 x.day ∧ RowsOk x.rows)
  (fun x => [.ref x.p, .int x.day, x.src, x.cd]) (fun x => ckI x.p x.C x.f0 :: x.sc) (fun x d S => d = .non ∧ S = ckI x.p x.C (x.f0 ++ cF x.day x.rows (.int x.c)) :: x.sc)
theorem ok_Piece_init (T : Txt K mg) : FnOk P w K mg base CX0 3 T.f_Piece_init T.fd_Piece_init ["self", "day", "rows", "check"] (spPInit K T.C_Whole T.C_Gain) := by
  refine fnD_ok T.F_Piece_init sc_Piece_init (fun x => rfl) (fun cdv A outer s H E B x hr hx => ?_)
  obtain ⟨p, C, f0, st, day, src, sc, rows, chk⟩ := x
  obtain ⟨hC, hs, hn, h1, h2, h3⟩ := hx
  dsimp only at hC hs hn h1 h2 h3
  have q0 : Nm n_Piece_init "self" 0 := rfl; have q1 : Nm n_Piece_init "day" 1 := rfl; have q2 : Nm n_Piece_init "rows" 2 := rfl; have q3 : Nm n_Piece_init "check" 3 := rfl; have q4 : Nm n_Piece_init "place" 4 := rfl; have q5 : Nm n_Piece_init "block" 5 := rfl
  have nd := sc_Piece_init.nd
  have hu := hu1_of hr
  have cl : Cls K C := by rcases hC with ⟨e, _⟩ | ⟨e, _⟩ <;> subst e <;> first | exact T.c_Whole | exact T.c_Gain
  have na1 : NoAttr K C "day" := by rcases hC with ⟨e, _⟩ | ⟨e, _⟩ <;> subst e <;> first | exact T.na_Whole_day | exact T.na_Gain_day
  have na2 : NoAttr K C "rows" := by rcases hC with ⟨e, _⟩ | ⟨e, _⟩ <;> subst e <;> first | exact T.na_Whole_rows | exact T.na_Gain_rows
  have na3 : NoAttr K C "check" := by rcases hC with ⟨e, _⟩ | ⟨e, _⟩ <;> subst e <;> first | exact T.na_Whole_check | exact T.na_Gain_check
  have hf : f0 = [] ∨ f0 = bF st := by rcases hC with ⟨_, e, _⟩ | ⟨_, e⟩ <;> first | exact .inl e | exact .inr e
  have e1 : putD "day" (.int day) f0 = f0 ++ aF day := by rcases hf with e | e <;> subst e <;> rfl
  have e2 : putD "rows" (dRows rows) (f0 ++ aF day) = f0 ++ rF day rows := by rcases hf with e | e <;> subst e <;> rfl
  have e3 : ∀ c, putD "check" c (f0 ++ rF day rows) = f0 ++ cF day rows c := by rcases hf with e | e <;> subst e <;> intro c <;> rfl
  have e4 : ∀ c c', putD "check" c (f0 ++ cF day rows c') = f0 ++ cF day rows c := by rcases hf with e | e <;> subst e <;> intro c c' <;> rfl
  have l0 : f0.length ≤ 1 := by rcases hf with e | e <;> subst e <;> simp [bF]
  repeat walk_at "y"
  refine ⟨_, _, _, 0, rfl, rfl, cl, na1, by show f0.length < 1000; omega, ?_⟩
  dsimp only [List.set]
  rw [e1]
  -- self.rows
  repeat walk_at "y"
  refine w_tuple T.z_tuple ?_
  refine w_lc (g := gTup _ 2 (gCons (gName 4) (gCons (gName 5) gNil))) (defScope s_Piece_init) [("place", 4), ("block", 5)] nd (fun b => pg_t2 (Ns := n_Piece_init) rfl rfl nd) (tgOk_tup (tgsOk_cons (by decide) (tgsOk_cons (by decide) tgsOk_nil))) ?_
  refine wI_seq ?_
  repeat walk_at "y"
  obtain ⟨gS, hq, hg⟩ := hs.sq (S := ckI p C (f0 ++ aF day) :: sc) fun q e => .inr (by rw [e]; rfl)
  refine ⟨_, _, gS, hq, lcK_map (enc := dRow) (f := dRow) (hg _ fun c hc => List.mem_cons_of_mem _ hc) (by omega) ?_ ?_⟩
  · rintro ⟨pl, bl⟩ hmem q acc
    repeat walk_at "g"
    intro b
    repeat walk_at "y"
    exact ⟨rfl, rfl⟩
  intro q
  refine ⟨_, .own 0 rfl, ?_⟩
  repeat walk_at "y"
  refine ⟨_, _, _, 1, rfl, rfl, cl, na2, by rw [List.length_append]; show f0.length + 1 < 1000; omega, ?_⟩
  dsimp only [List.set]
  show wSs _ _ _ _ _ (ckL q (rows.map dRow) :: ckI p C (putD "rows" (dRows rows) (f0 ++ aF day)) :: sc)
  rw [e2]
  -- self.check
  repeat walk_at "y"
  refine ⟨_, _, _, 1, rfl, rfl, cl, na3, by rw [List.length_append]; show f0.length + 2 < 1000; omega, ?_⟩
  dsimp only [List.set]
  rw [e3]
  repeat walk_at "y"
  cases chk with
  | some c =>
    refine .inl ⟨_, rfl, ?_⟩
    refine ⟨fun e => absurd e (by simp), fun _ => ?_⟩
    refine wss_nil ?_
    refine wss_end (Wk.refl _) (S' := ckI p C (f0 ++ cF day rows (.int c)) :: sc) (R := [ckL q (rows.map dRow)]) ?_ ⟨rfl, rfl⟩
    exact List.perm_append_comm
  | none =>
    refine .inl ⟨_, rfl, ?_⟩
    refine ⟨fun _ => ?_, fun e => absurd e (by simp)⟩
    repeat walk_at "y"
    refine w_call (ok_check_of T) (hr.mono (by decide)) T.m_check_of T.F_check_of.kp (b_check_of T) .nil ?_
    refine wA_cons ?_
    refine w_meth0 ?_
    repeat walk_at "y"
    have lk : ∀ {y : D} {f : Str}, List.lookup f (cF day rows .non) = some y → f ≠ "base" → List.lookup f (f0 ++ cF day rows .non) = some y := fun {y f} h hne => by
      rcases hf with e | e
      · subst e; exact h
      · subst e
        show List.lookup f (("base", D.int st) :: cF day rows .non) = some y
        rw [List.lookup_cons, show (f == ("base" : Str)) = false from by simpa using hne]
        exact h
    have ls : List.lookup ("start" : Str) (f0 ++ cF day rows .non) = none := by rcases hf with e | e <;> subst e <;> rfl
    have fin : ∀ (n1 : Int), n1 = st → checkOf n1 day rows = PIn.c ⟨p, C, f0, st, day, src, sc, rows, none⟩ := fun n1 e => by subst e; rfl
    rcases hC with ⟨eC, e0, es⟩ | ⟨eC, e0⟩
    · subst eC es
      refine ⟨mbStartW T (hr.mono (by decide)), .own 1 rfl (isI_ins ls), ?_⟩
      refine ⟨_, _, trivial, rfl, .nil, ?_⟩
      rintro _ _ ⟨rfl, rfl⟩
      repeat walk_at "y"
      refine .inr ⟨_, _, _, _, 1, rfl, rfl, cl, na2, lk rfl (by decide), ?_⟩
      repeat walk_at "y"
      refine ⟨(-1, day, rows), _, ⟨h1, h2, h3⟩, rfl, .nil, ?_⟩
      rintro _ _ ⟨rfl, rfl⟩
      repeat walk_at "y"
      refine ⟨_, _, _, 1, rfl, rfl, cl, na3, by show (f0 ++ cF day rows .non).length < 1000; rw [List.length_append]; show f0.length + 3 < 1000; omega, ?_⟩
      dsimp only [List.set]
      show wSs _ _ _ _ _ (ckL q (rows.map dRow) :: ckI p _ (putD "check" _ (f0 ++ cF day rows .non)) :: sc)
      rw [e4]
      refine wss_nil ?_
      exact wss_end (Wk.refl _) (S' := ckI p T.C_Whole (f0 ++ cF day rows _) :: sc) (R := [ckL q (rows.map dRow)]) List.perm_append_comm ⟨rfl, rfl⟩
    · subst eC
      have lb : List.lookup ("base" : Str) (f0 ++ cF day rows .non) = some (.int st) := by subst e0; rfl
      refine ⟨mbStartO T (hr.mono (by decide)), .own 1 rfl (isI_ins ls), ?_⟩
      refine ⟨(p, f0 ++ cF day rows .non, st), _, lb, rfl, .cons 1 rfl .nil, ?_⟩
      rintro _ _ ⟨rfl, rfl⟩
      repeat walk_at "y"
      refine .inr ⟨_, _, _, _, 0, rfl, rfl, cl, na2, lk rfl (by decide), ?_⟩
      repeat walk_at "y"
      refine ⟨(st, day, rows), _, ⟨h1, h2, h3⟩, rfl, .nil, ?_⟩
      rintro _ _ ⟨rfl, rfl⟩
      repeat walk_at "y"
      refine ⟨_, _, _, 0, rfl, rfl, cl, na3, by show (f0 ++ cF day rows .non).length < 1000; rw [List.length_append]; show f0.length + 3 < 1000; omega, ?_⟩
      show wSs _ _ _ _ _ (ckI p _ (putD "check" _ (f0 ++ cF day rows .non)) :: ckL q (rows.map dRow) :: sc)
      rw [e4]
      refine wss_nil ?_
      exact wss_end (Wk.refl _) (S' := ckI p T.C_Gain (f0 ++ cF day rows _) :: sc) (R := [ckL q (rows.map dRow)]) ((List.Perm.cons _ List.perm_append_comm).trans (by exact List.Perm.refl _)) ⟨rfl, rfl⟩
/-! Gain.__init__ -/
structure GIn where
  p : Addr
  base : Int
  day : Int
  src : D
  sc : Cks
  rows : List (Int × Int)
  chk : Option Int
def GIn.cd (x : GIn) : D := match x.chk with | some c => .int c | none => .non
def GIn.c (x : GIn) : Int := x.chk.getD (checkOf x.base x.day x.rows)
abbrev spGInit (K : PySem.W.Frag) (G : Addr) : Sp := Spx K (I := GIn)
  (fun x => Src x.src x.sc x.rows ∧ x.rows.length < 1000 ∧ B64 (x.base + 1) ∧ B64 x.day ∧ RowsOk x.rows)
  (fun x => [.ref x.p, .int x.base, .int x.day, x.src, x.cd]) (fun x => ckI x.p G [] :: x.sc) (fun x d S => d = .non ∧ S = ckI x.p G (gF x.base x.day x.rows x.c) :: x.sc)
theorem ok_Gain_init (T : Txt K mg) : FnOk P w K mg base CX0 4 T.f_Gain_init T.fd_Gain_init ["self", "base", "day", "rows", "check"] (spGInit K T.C_Gain) := by
  refine fnD_ok T.F_Gain_init sc_Gain_init (fun x => rfl) (fun cdv A outer s H E B x hr hx => ?_)
  obtain ⟨p, bs, day, src, sc, rows, chk⟩ := x
  obtain ⟨hs, hn, h1, h2, h3⟩ := hx
  have q0 : Nm n_Gain_init "self" 0 := rfl; have q1 : Nm n_Gain_init "base" 1 := rfl; have q2 : Nm n_Gain_init "day" 2 := rfl; have q3 : Nm n_Gain_init "rows" 3 := rfl; have q4 : Nm n_Gain_init "check" 4 := rfl
  have nd := sc_Gain_init.nd
  repeat walk_at "y"
  refine ⟨_, _, _, 0, rfl, rfl, T.c_Gain, T.na_Gain_base, by decide, ?_⟩
  obtain ⟨ds, hv, hb⟩ := b_Piece_init T
  repeat walk_at "y"
  refine w_clsfn T.m_Piece T.cf_Piece_init (ok_Piece_init T) (hr.mono (by decide)) hb hv ?_
  repeat walk_at "y"
  refine ⟨⟨p, T.C_Gain, bF bs, bs, day, src, sc, rows, chk⟩, [], ⟨.inr ⟨rfl, rfl⟩, hs, hn, h1, h2, h3⟩, by cases chk <;> rfl, by show ((ckI p T.C_Gain (bF bs) :: sc) ++ []).Perm _; rw [List.append_nil]; exact List.Perm.refl _, ?_⟩
  rintro _ _ ⟨rfl, rfl⟩
  refine wss_nil ⟨rfl, ?_⟩
  rw [List.append_nil]
  rfl
end
end K63
set_option Elab.async false
set_option maxRecDepth 100000
set_option linter.unusedVariables false
set_option maxHeartbeats 4000000
namespace K63
open PySem L2 PySem.Spec PyProof.Rows Sy
local macro_rules | `(tactic| walk_at "cnd") => `(tactic| first | decide | omega | assumption | (simp only [List.length_cons, List.length_nil]; omega) | (refine ⟨?_, ?_⟩ <;> omega))
local macro_rules | `(tactic| walk_at "y") => `(tactic| first
  | refine two_mk ?_ | refine one_mk ?_
  | refine cnd_mk (by walk_at "cnd") ?_
  | refine toB_mk ?_
  | refine wss_cons ?_
  | refine ws_ret ?_ | refine ws_retN ?_ | refine ws_if ?_ | refine ws_expr ?_
  | refine ws_set (by assumption) (by assumption) ?_
  | refine ws_fld ?_
  | refine ws_continue ?_ | refine ws_break ?_ | refine ws_pass ?_
  | refine w_name (by assumption) (by rfl) ?_
  | refine w_int ?_ | refine w_str ?_ | refine w_bool ?_ | refine w_none ?_
  | refine wA_nil ?_ | refine wA_cons ?_
  | refine w_add ?_ | refine w_sub ?_ | refine w_mul ?_ | refine w_mod ?_ | refine w_fdiv ?_ | refine w_pow ?_ | refine w_shl ?_ | refine w_shr ?_ | refine w_band ?_ | refine w_bor ?_ | refine w_xor ?_
  | refine w_tup ?_ | refine w_lst ?_ | refine w_dnew ?_ | refine w_neg ?_
  | refine w_ix (by assumption) ?_
  | refine wT_lt ?_ | refine wT_le ?_ | refine wT_gt ?_ | refine wT_ge ?_ | refine wT_lelt ?_
  | refine wT_eq (by assumption) ?_ | refine wT_ne (by assumption) ?_
  | refine wT_in (by assumption) ?_ | refine wT_notin (by assumption) ?_
  | refine wT_is ?_ | refine wT_isnot ?_
  | refine w_eq (by assumption) ?_ | refine w_ne (by assumption) ?_
  | refine wT_bool ?_ | refine wW_and ?_ | refine wW_and1 ?_ | refine wW_or ?_ | refine wW_or1 ?_ | refine wT_not ?_
  | refine w_not ?_ | refine w_and ?_ | refine w_or ?_ | refine w_one ?_
  | refine w_fld ?_
  | refine wr_addI ?_
  | refine wr_eqI ?_ | refine wr_neI ?_)
local macro_rules | `(tactic| walk_at "g") => `(tactic| first | refine WG_name ?_ | refine WG_tup _ rfl ?_ | refine WGs_cons ?_ | refine WGs_nil ?_)
local macro_rules | `(tactic| walk_at "wk") => `(tactic| first | exact Wk.nil | (first | refine Wk.keep ?_ | refine Wk.drop ?_); walk_at "wk")
local macro_rules | `(tactic| walk_at "pk") => `(tactic| first
  | exact Pick.nil
  | (refine Pick.cons 0 rfl ?_; walk_at "pk") | (refine Pick.cons 1 rfl ?_; walk_at "pk") | (refine Pick.cons 2 rfl ?_; walk_at "pk") | (refine Pick.cons 3 rfl ?_; walk_at "pk")
  | (refine Pick.cons 4 rfl ?_; walk_at "pk") | (refine Pick.cons 5 rfl ?_; walk_at "pk") | (refine Pick.cons 6 rfl ?_; walk_at "pk") | (refine Pick.cons 7 rfl ?_; walk_at "pk"))
section
variable {X : Cx} {B : Base} {G : Gm} {S : Cks} {k : D → Cks → Prop} {e : Expr} {es : List Expr} {p pos : Pos}
/-- Whole(day, rows) -/
theorem w_Whole (T : Txt X.K X.mg) (hr : Room 4 X.A)
    (h : wA X B (e :: es) (fun xs S1 => ∃ day src sc rows R, xs = [.int day, src] ∧ Src src sc rows ∧ rows.length < 1000 ∧ B64 day ∧ RowsOk rows ∧ Pick S1 sc R ∧ k (dPc T (.whole day rows (checkOf (-1) day rows))) (sc ++ R)) G S) (hg : Gl X "Whole" := by rfl)
    (he : starEach (e :: es) X.env = (false, eval e X.env) :: starEach es X.env := by rfl) (hpl : (backTo pos (starEach es X.env)).any (·.1) = false := by rfl) : wE X B (.Call (.Name "Whole" p) (e :: es) [] pos) k G S := by
  obtain ⟨ds, hv, hb⟩ := bd_Piece_init T
  refine W_frzI (w_make T.mk_Whole (ok_Piece_init T) hr T.m_Whole hb hv ?_ hg (by decide) he hpl)
  intro F σ H Q ok q
  refine h F σ H Q ok fun vs F' H' xs S1 ⟨day, src, sc, rows, R, ex, hs, hn, h2, h3, hp, hk⟩ => q vs F' H' xs S1 fun a => ?_
  subst ex
  refine ⟨⟨a, T.C_Whole, [], -1, day, src, sc, rows, none⟩, R, ⟨.inl ⟨rfl, rfl, rfl⟩, hs, hn, (show B64 (-1 + 1) from ⟨by decide, by decide⟩), h2, h3⟩, rfl, List.Perm.cons _ hp, ?_⟩
  rintro _ _ ⟨rfl, rfl⟩
  exact ⟨rfl, a, T.C_Whole, _, 0, rfl, rfl, hk⟩
/-- Whole(day, rows, check) -/
theorem w_WholeC (T : Txt X.K X.mg) (hr : Room 4 X.A)
    (h : wA X B (e :: es) (fun xs S1 => ∃ day src sc rows c R, xs = [.int day, src, .int c] ∧ Src src sc rows ∧ rows.length < 1000 ∧ B64 day ∧ RowsOk rows ∧ Pick S1 sc R ∧ k (dPc T (.whole day rows c)) (sc ++ R)) G S) (hg : Gl X "Whole" := by rfl)
    (he : starEach (e :: es) X.env = (false, eval e X.env) :: starEach es X.env := by rfl) (hpl : (backTo pos (starEach es X.env)).any (·.1) = false := by rfl) : wE X B (.Call (.Name "Whole" p) (e :: es) [] pos) k G S := by
  obtain ⟨ds, hv, hb⟩ := b_Piece_init T
  refine W_frzI (w_make T.mk_Whole (ok_Piece_init T) hr T.m_Whole hb hv ?_ hg (by decide) he hpl)
  intro F σ H Q ok q
  refine h F σ H Q ok fun vs F' H' xs S1 ⟨day, src, sc, rows, c, R, ex, hs, hn, h2, h3, hp, hk⟩ => q vs F' H' xs S1 fun a => ?_
  subst ex
  refine ⟨⟨a, T.C_Whole, [], -1, day, src, sc, rows, some c⟩, R, ⟨.inl ⟨rfl, rfl, rfl⟩, hs, hn, (show B64 (-1 + 1) from ⟨by decide, by decide⟩), h2, h3⟩, rfl, List.Perm.cons _ hp, ?_⟩
  rintro _ _ ⟨rfl, rfl⟩
  exact ⟨rfl, a, T.C_Whole, _, 0, rfl, rfl, hk⟩
/-- Gain(base, day, rows) -/
theorem w_Gain (T : Txt X.K X.mg) (hr : Room 5 X.A)
    (h : wA X B (e :: es) (fun xs S1 => ∃ bs day src sc rows R, xs = [.int bs, .int day, src] ∧ Src src sc rows ∧ rows.length < 1000 ∧ B64 (bs + 1) ∧ B64 day ∧ RowsOk rows ∧ Pick S1 sc R ∧ k (dPc T (.gain bs day rows (checkOf bs day rows))) (sc ++ R)) G S) (hg : Gl X "Gain" := by rfl)
    (he : starEach (e :: es) X.env = (false, eval e X.env) :: starEach es X.env := by rfl) (hpl : (backTo pos (starEach es X.env)).any (·.1) = false := by rfl) : wE X B (.Call (.Name "Gain" p) (e :: es) [] pos) k G S := by
  obtain ⟨ds, hv, hb⟩ := bd_Gain_init T
  refine W_frzI (w_make T.mk_Gain (ok_Gain_init T) hr T.m_Gain hb hv ?_ hg (by decide) he hpl)
  intro F σ H Q ok q
  refine h F σ H Q ok fun vs F' H' xs S1 ⟨bs, day, src, sc, rows, R, ex, hs, hn, h1, h2, h3, hp, hk⟩ => q vs F' H' xs S1 fun a => ?_
  subst ex
  refine ⟨⟨a, bs, day, src, sc, rows, none⟩, R, ⟨hs, hn, h1, h2, h3⟩, rfl, List.Perm.cons _ hp, ?_⟩
  rintro _ _ ⟨rfl, rfl⟩
  exact ⟨rfl, a, T.C_Gain, _, 0, rfl, rfl, hk⟩
theorem w_GainC (T : Txt X.K X.mg) (hr : Room 5 X.A)
    (h : wA X B (e :: es) (fun xs S1 => ∃ bs day src sc rows c R, xs = [.int bs, .int day, src, .int c] ∧ Src src sc rows ∧ rows.length < 1000 ∧ B64 (bs + 1) ∧ B64 day ∧ RowsOk rows ∧ Pick S1 sc R ∧ k (dPc T (.gain bs day rows c)) (sc ++ R)) G S) (hg : Gl X "Gain" := by rfl)
    (he : starEach (e :: es) X.env = (false, eval e X.env) :: starEach es X.env := by rfl) (hpl : (backTo pos (starEach es X.env)).any (·.1) = false := by rfl) : wE X B (.Call (.Name "Gain" p) (e :: es) [] pos) k G S := by
  obtain ⟨ds, hv, hb⟩ := b_Gain_init T
  refine W_frzI (w_make T.mk_Gain (ok_Gain_init T) hr T.m_Gain hb hv ?_ hg (by decide) he hpl)
  intro F σ H Q ok q
  refine h F σ H Q ok fun vs F' H' xs S1 ⟨bs, day, src, sc, rows, c, R, ex, hs, hn, h1, h2, h3, hp, hk⟩ => q vs F' H' xs S1 fun a => ?_
  subst ex
  refine ⟨⟨a, bs, day, src, sc, rows, some c⟩, R, ⟨hs, hn, h1, h2, h3⟩, rfl, List.Perm.cons _ hp, ?_⟩
  rintro _ _ ⟨rfl, rfl⟩
  exact ⟨rfl, a, T.C_Gain, _, 0, rfl, rfl, hk⟩
/-- piece.kind() -/
def Pc.kind : Pc → Str | .whole _ _ _ => "whole" | .gain _ _ _ _ => "gain"
theorem w_kind {o : Expr} {apos : Pos} {pl : Sem Bool} (T : Txt X.K X.mg) (hr : Room 1 X.A) (h : wE X B o (fun x S1 => ∃ p, x = dPc T p ∧ k (.str p.kind) S1) G S)
    (ht : eval (.Call (.Attribute o "kind" apos) [] [] pos) X.env = (do
      let ov ← eval o X.env
      standAt apos.atName
      let (f, first) ← holding [ov] (getMethod ov "kind" pl)
      callWith pos f first (backTo pos (starEach [] X.env)) (backToKw pos (keywordEach [] X.env))) := by rfl) : wE X B (.Call (.Attribute o "kind" apos) [] [] pos) k G S :=
  w_meth0 (W_mono h fun x S1 ⟨p, ex, hk⟩ => by
    subst ex
    cases p with
    | whole d r c => exact ⟨mbKindW T hr, .ins rfl, _, _, trivial, rfl, .nil, fun d S' ⟨e1, e2⟩ => by subst e1 e2; exact hk⟩
    | gain b d r c => exact ⟨mbKindG T hr, .ins rfl, _, _, trivial, rfl, .nil, fun d S' ⟨e1, e2⟩ => by subst e1 e2; exact hk⟩) ht
/-- the fields of a piece -/
theorem w_pday {o : Expr} (T : Txt X.K X.mg) (h : wE X B o (fun x S1 => ∃ p, x = dPc T p ∧ k (.int p.day) S1) G S) (hb : attributeBase o "day" X.env (eval o X.env) = eval o X.env := by rfl) : wE X B (.Attribute o "day" pos) k G S :=
  w_fldI (W_mono h fun x S1 ⟨p, ex, hk⟩ => by
    subst ex
    cases p with
    | whole d r c => exact ⟨_, _, _, rfl, T.c_Whole, T.na_Whole_day, rfl, hk⟩
    | gain b d r c => exact ⟨_, _, _, rfl, T.c_Gain, T.na_Gain_day, rfl, hk⟩) hb
theorem w_prows {o : Expr} (T : Txt X.K X.mg) (h : wE X B o (fun x S1 => ∃ p, x = dPc T p ∧ k (dRows p.rows) S1) G S) (hb : attributeBase o "rows" X.env (eval o X.env) = eval o X.env := by rfl) : wE X B (.Attribute o "rows" pos) k G S :=
  w_fldI (W_mono h fun x S1 ⟨p, ex, hk⟩ => by
    subst ex
    cases p with
    | whole d r c => exact ⟨_, _, _, rfl, T.c_Whole, T.na_Whole_rows, rfl, hk⟩
    | gain b d r c => exact ⟨_, _, _, rfl, T.c_Gain, T.na_Gain_rows, rfl, hk⟩) hb
theorem w_pcheck {o : Expr} (T : Txt X.K X.mg) (h : wE X B o (fun x S1 => ∃ p, x = dPc T p ∧ k (.int p.check) S1) G S) (hb : attributeBase o "check" X.env (eval o X.env) = eval o X.env := by rfl) : wE X B (.Attribute o "check" pos) k G S :=
  w_fldI (W_mono h fun x S1 ⟨p, ex, hk⟩ => by
    subst ex
    cases p with
    | whole d r c => exact ⟨_, _, _, rfl, T.c_Whole, T.na_Whole_check, rfl, hk⟩
    | gain b d r c => exact ⟨_, _, _, rfl, T.c_Gain, T.na_Gain_check, rfl, hk⟩) hb
end
section
variable {P : Program} {w : World} {K : PySem.W.Frag} {mg : Str → Option Value} {base : Heap}
abbrev spSize (T : Txt K mg) : Sp := Spx K (I := Pc) (fun _ => True) (fun x => [dPc T x]) (fun _ => []) (fun x d S => d = .int (x.rows.length : Nat) ∧ S = [])
theorem ok_Piece_size (T : Txt K mg) : FnOk P w K mg base CX0 1 T.f_Piece_size T.fd_Piece_size ["self"] (spSize T) := by
  refine fn_ok T.F_Piece_size sc_Piece_size (fun x => rfl) (fun cdv A outer s H E B x hr hx => ?_)
  have q0 : Nm n_Piece_size "self" 0 := rfl
  repeat walk_at "y"
  refine w_len T.z_len ?_
  refine w_prows T ?_
  repeat walk_at "y"
  refine ⟨x, rfl, _, .tup, ?_⟩
  rw [List.length_map]
  exact ⟨rfl, rfl⟩
abbrev spGood (T : Txt K mg) : Sp := Spx K (I := Pc) (fun x => x.Ok) (fun x => [dPc T x]) (fun _ => []) (fun x d S => d = .bl x.good ∧ S = [])
theorem ok_Piece_is_good (T : Txt K mg) : FnOk P w K mg base CX0 3 T.f_Piece_is_good T.fd_Piece_is_good ["self"] (spGood T) := by
  refine fn_ok T.F_Piece_is_good sc_Piece_is_good (fun x => rfl) (fun cdv A outer s H E B x hr hx => ?_)
  have q0 : Nm n_Piece_is_good "self" 0 := rfl
  have hu64 := hr.units
  refine wss_cons (ws_ret (w_eq hu64 ?_))
  refine w_pcheck T ?_
  repeat walk_at "y"
  refine ⟨x, rfl, ?_⟩
  refine w_call (ok_check_of T) (hr.mono (by decide)) T.m_check_of T.F_check_of.kp (b_check_of T) .nil ?_
  refine wA_cons (w_start T (hr.mono (by decide)) ?_)
  repeat walk_at "y"
  refine ⟨x, rfl, ?_⟩
  refine wA_cons (w_pday T ?_)
  repeat walk_at "y"
  refine ⟨x, rfl, ?_⟩
  refine wA_cons (w_prows T ?_)
  repeat walk_at "y"
  refine ⟨x, rfl, ?_⟩
  repeat walk_at "y"
  refine ⟨(x.start, x.day, x.rows), _, ⟨hx.s, hx.d, hx.r⟩, rfl, .nil, ?_⟩
  rintro _ _ ⟨rfl, rfl⟩
  repeat walk_at "y"
  exact ⟨rfl, rfl⟩
end
section
variable {X : Cx} {B : Base} {G : Gm} {S : Cks} {k : D → Cks → Prop} {e o : Expr} {es : List Expr} {p pos apos : Pos}
def mbSizeW (T : Txt X.K X.mg) (hr : Room 1 X.A) : MethB X "size" := ⟨T.C_Whole, _, _, _, 1, [], [], _, _, _, _, _, T.c_Whole, T.me_Whole_size, ok_Piece_size T, hr, b_Piece_size T, .nil⟩
def mbSizeG (T : Txt X.K X.mg) (hr : Room 1 X.A) : MethB X "size" := ⟨T.C_Gain, _, _, _, 1, [], [], _, _, _, _, _, T.c_Gain, T.me_Gain_size, ok_Piece_size T, hr, b_Piece_size T, .nil⟩
def mbGoodW (T : Txt X.K X.mg) (hr : Room 3 X.A) : MethB X "is_good" := ⟨T.C_Whole, _, _, _, 3, [], [], _, _, _, _, _, T.c_Whole, T.me_Whole_is_good, ok_Piece_is_good T, hr, b_Piece_is_good T, .nil⟩
def mbGoodG (T : Txt X.K X.mg) (hr : Room 3 X.A) : MethB X "is_good" := ⟨T.C_Gain, _, _, _, 3, [], [], _, _, _, _, _, T.c_Gain, T.me_Gain_is_good, ok_Piece_is_good T, hr, b_Piece_is_good T, .nil⟩
theorem w_size {pl : Sem Bool} (T : Txt X.K X.mg) (hr : Room 1 X.A) (h : wE X B o (fun x S1 => ∃ p, x = dPc T p ∧ k (.int (p.rows.length : Nat)) S1) G S)
    (ht : eval (.Call (.Attribute o "size" apos) [] [] pos) X.env = (do
      let ov ← eval o X.env
      standAt apos.atName
      let (f, first) ← holding [ov] (getMethod ov "size" pl)
      callWith pos f first (backTo pos (starEach [] X.env)) (backToKw pos (keywordEach [] X.env))) := by rfl) : wE X B (.Call (.Attribute o "size" apos) [] [] pos) k G S :=
  w_meth0 (W_mono h fun x S1 ⟨p, ex, hk⟩ => by
    subst ex
    cases p with
    | whole d r c => exact ⟨mbSizeW T hr, .ins rfl, Pc.whole d r c, _, trivial, rfl, .nil, fun d S' ⟨e1, e2⟩ => by subst e1 e2; exact hk⟩
    | gain b d r c => exact ⟨mbSizeG T hr, .ins rfl, Pc.gain b d r c, _, trivial, rfl, .nil, fun d S' ⟨e1, e2⟩ => by subst e1 e2; exact hk⟩) ht
theorem w_good {pl : Sem Bool} (T : Txt X.K X.mg) (hr : Room 3 X.A) (h : wE X B o (fun x S1 => ∃ p : Pc, x = dPc T p ∧ p.Ok ∧ k (.bl p.good) S1) G S)
    (ht : eval (.Call (.Attribute o "is_good" apos) [] [] pos) X.env = (do
      let ov ← eval o X.env
      standAt apos.atName
      let (f, first) ← holding [ov] (getMethod ov "is_good" pl)
      callWith pos f first (backTo pos (starEach [] X.env)) (backToKw pos (keywordEach [] X.env))) := by rfl) : wE X B (.Call (.Attribute o "is_good" apos) [] [] pos) k G S :=
  w_meth0 (W_mono h fun x S1 ⟨p, ex, hp, hk⟩ => by
    subst ex
    cases p with
    | whole d r c => exact ⟨mbGoodW T hr, .ins rfl, Pc.whole d r c, _, hp, rfl, .nil, fun d S' ⟨e1, e2⟩ => by subst e1 e2; exact hk⟩
    | gain b d r c => exact ⟨mbGoodG T hr, .ins rfl, Pc.gain b d r c, _, hp, rfl, .nil, fun d S' ⟨e1, e2⟩ => by subst e1 e2; exact hk⟩) ht
end
end K63
set_option Elab.async false
set_option maxRecDepth 100000
set_option linter.unusedVariables false
set_option maxHeartbeats 4000000
namespace K63
open PySem L2 PySem.Spec PyProof.Rows Sy
local macro_rules | `(tactic| walk_at "cnd") => `(tactic| first | decide | omega | assumption | (simp only [List.length_cons, List.length_nil]; omega) | (refine ⟨?_, ?_⟩ <;> omega))
local macro_rules | `(tactic| walk_at "y") => `(tactic| first
  | refine two_mk ?_ | refine one_mk ?_
  | refine cnd_mk (by walk_at "cnd") ?_
  | refine toB_mk ?_
  | refine wss_cons ?_
  | refine ws_ret ?_ | refine ws_retN ?_ | refine ws_if ?_ | refine ws_expr ?_
  | refine ws_set (by assumption) (by assumption) ?_
  | refine ws_fld ?_
  | refine ws_continue ?_ | refine ws_break ?_ | refine ws_pass ?_
  | refine w_name (by assumption) (by rfl) ?_
  | refine w_int ?_ | refine w_str ?_ | refine w_bool ?_ | refine w_none ?_
  | refine wA_nil ?_ | refine wA_cons ?_
  | refine w_add ?_ | refine w_sub ?_ | refine w_mul ?_ | refine w_mod ?_ | refine w_fdiv ?_ | refine w_pow ?_ | refine w_shl ?_ | refine w_shr ?_ | refine w_band ?_ | refine w_bor ?_ | refine w_xor ?_
  | refine w_tup ?_ | refine w_lst ?_ | refine w_dnew ?_ | refine w_neg ?_
  | refine w_ix (by assumption) ?_
  | refine wT_lt ?_ | refine wT_le ?_ | refine wT_gt ?_ | refine wT_ge ?_ | refine wT_lelt ?_
  | refine wT_eq (by assumption) ?_ | refine wT_ne (by assumption) ?_
  | refine wT_in (by assumption) ?_ | refine wT_notin (by assumption) ?_
  | refine wT_is ?_ | refine wT_isnot ?_
  | refine w_eq (by assumption) ?_ | refine w_ne (by assumption) ?_
  | refine wT_bool ?_ | refine wW_and ?_ | refine wW_and1 ?_ | refine wW_or ?_ | refine wW_or1 ?_ | refine wT_not ?_
  | refine w_not ?_ | refine w_and ?_ | refine w_or ?_ | refine w_one ?_
  | refine w_fld ?_
  | refine wr_addI ?_
  | refine wr_eqI ?_ | refine wr_neI ?_)
local macro_rules | `(tactic| walk_at "g") => `(tactic| first | refine WG_name ?_ | refine WG_tup _ rfl ?_ | refine WGs_cons ?_ | refine WGs_nil ?_)
local macro_rules | `(tactic| walk_at "wk") => `(tactic| first | exact Wk.nil | (first | refine Wk.keep ?_ | refine Wk.drop ?_); walk_at "wk")
local macro_rules | `(tactic| walk_at "pk") => `(tactic| first
  | exact Pick.nil
  | (refine Pick.cons 0 rfl ?_; walk_at "pk") | (refine Pick.cons 1 rfl ?_; walk_at "pk") | (refine Pick.cons 2 rfl ?_; walk_at "pk") | (refine Pick.cons 3 rfl ?_; walk_at "pk")
  | (refine Pick.cons 4 rfl ?_; walk_at "pk") | (refine Pick.cons 5 rfl ?_; walk_at "pk") | (refine Pick.cons 6 rfl ?_; walk_at "pk") | (refine Pick.cons 7 rfl ?_; walk_at "pk"))
/-- a row's block with other bits -/
def hRow (b : Int) (p : Int × Int) : Int × Int := (p.1, Builtin.bitXor p.2 b)
def hRows (r : List (Int × Int)) (at_ b : Int) : List (Int × Int) := r.set at_.toNat (hRow b (r.getD at_.toNat (0, 0)))
def Pc.withRows : Pc → List (Int × Int) → Pc | .whole d _ c, r => .whole d r c | .gain b d _ c, r => .gain b d r c
def Pc.harm (p : Pc) (at_ b : Int) : Pc := p.withRows (hRows p.rows at_ b)
theorem wr_rows (p : Pc) (r : List (Int × Int)) : (p.withRows r).rows = r := by cases p <;> rfl
theorem hRows_len (r : List (Int × Int)) (a b : Int) : (hRows r a b).length = r.length := by unfold hRows; rw [List.length_set]
theorem hRows_ok {r : List (Int × Int)} {a b : Int} (h : RowsOk r) (hb : B64 b) (ha : 0 ≤ a) (hl : a < r.length) : RowsOk (hRows r a b) := fun p hp => by
  unfold hRows at hp
  rcases List.mem_or_eq_of_mem_set hp with hp | hp
  · exact h p hp
  · have hm : r.getD a.toNat (0, 0) ∈ r := by
      rw [List.getD_eq_getElem?_getD, List.getElem?_eq_getElem (by omega)]
      exact List.getElem_mem _
    subst hp
    exact ⟨(h _ hm).1, xor_b (h _ hm).2 hb⟩
section
variable {P : Program} {w : World} {K : PySem.W.Frag} {mg : Str → Option Value} {base : Heap}
/-- piece.again(rows) -/
structure AIn where
  p : Pc
  src : D
  sc : Cks
  rows : List (Int × Int)
structure AIn.Ok (x : AIn) : Prop where
  p : x.p.Ok
  s : Src x.src x.sc x.rows
  n : x.rows.length < 1000
  r : RowsOk x.rows
def Pc.isW : Pc → Bool | .whole _ _ _ => true | .gain _ _ _ _ => false
abbrev spAgain (T : Txt K mg) (w : Bool) : Sp := Spx K (I := AIn) (fun x => x.Ok ∧ x.p.isW = w) (fun x => [dPc T x.p, x.src]) (fun x => x.sc) (fun x d S => d = dPc T (x.p.withRows x.rows) ∧ S = x.sc)
theorem ok_Whole_again (T : Txt K mg) : FnOk P w K mg base CX0 5 T.f_Whole_again T.fd_Whole_again ["self", "rows"] (spAgain T true) := by
  refine fn_ok T.F_Whole_again sc_Whole_again (fun x => rfl) (fun cdv A outer s H E B x hr hx => ?_)
  have q0 : Nm n_Whole_again "self" 0 := rfl; have q1 : Nm n_Whole_again "rows" 1 := rfl
  obtain ⟨p, src, sc, rows⟩ := x
  obtain ⟨⟨hp, hs, hn, hrw⟩, hw⟩ := hx
  cases p with
  | gain b d r c => cases hw
  | whole d r c =>
    refine wss_cons (ws_ret (w_WholeC T hr ?_))
    refine wA_cons (w_pday T ?_)
    repeat walk_at "y"
    refine ⟨.whole d r c, rfl, ?_⟩
    repeat walk_at "y"
    refine .inl ⟨_, _, _, rfl, T.c_Whole, T.na_Whole_check, rfl, ?_⟩
    repeat walk_at "y"
    refine ⟨d, src, sc, rows, c, [], rfl, hs, hn, hp.d, hrw, by show (sc ++ []).Perm sc; rw [List.append_nil], rfl, by rw [List.append_nil]⟩
theorem ok_Gain_again (T : Txt K mg) : FnOk P w K mg base CX0 6 T.f_Gain_again T.fd_Gain_again ["self", "rows"] (spAgain T false) := by
  refine fn_ok T.F_Gain_again sc_Gain_again (fun x => rfl) (fun cdv A outer s H E B x hr hx => ?_)
  have q0 : Nm n_Gain_again "self" 0 := rfl; have q1 : Nm n_Gain_again "rows" 1 := rfl
  obtain ⟨p, src, sc, rows⟩ := x
  obtain ⟨⟨hp, hs, hn, hrw⟩, hw⟩ := hx
  cases p with
  | whole d r c => cases hw
  | gain b d r c =>
    refine wss_cons (ws_ret (w_GainC T hr ?_))
    refine wA_cons ?_
    repeat walk_at "y"
    refine .inl ⟨_, _, _, rfl, T.c_Gain, T.na_Gain_base, rfl, ?_⟩
    refine wA_cons (w_pday T ?_)
    repeat walk_at "y"
    refine ⟨.gain b d r c, rfl, ?_⟩
    repeat walk_at "y"
    refine .inl ⟨_, _, _, rfl, T.c_Gain, T.na_Gain_check, rfl, ?_⟩
    repeat walk_at "y"
    refine ⟨b, d, src, sc, rows, c, [], rfl, hs, hn, hp.s, hp.d, hrw, by show (sc ++ []).Perm sc; rw [List.append_nil], rfl, by rw [List.append_nil]⟩
section
variable {X : Cx}
def mbAgainW (T : Txt X.K X.mg) (hr : Room 6 X.A) : MethB X "again" := ⟨T.C_Whole, _, _, _, 6, [], [], _, _, _, _, _, T.c_Whole, T.me_Whole_again, (ok_Whole_again T).mono (by decide), hr, b_Whole_again T, .nil⟩
def mbAgainG (T : Txt X.K X.mg) (hr : Room 6 X.A) : MethB X "again" := ⟨T.C_Gain, _, _, _, 6, [], [], _, _, _, _, _, T.c_Gain, T.me_Gain_again, ok_Gain_again T, hr, b_Gain_again T, .nil⟩
end
/-- piece.harmed(at, bits) -/
abbrev spHarm (T : Txt K mg) : Sp := Spx K (I := Pc × Int × Int) (fun x => x.1.Ok ∧ 0 ≤ x.2.1 ∧ x.2.1 < x.1.rows.length ∧ B64 x.2.2) (fun x => [dPc T x.1, .int x.2.1, .int x.2.2]) (fun _ => []) (fun x d S => d = dPc T (x.1.harm x.2.1 x.2.2) ∧ S = [])
theorem ok_Piece_harmed (T : Txt K mg) : FnOk P w K mg base CX0 7 T.f_Piece_harmed T.fd_Piece_harmed ["self", "at", "bits"] (spHarm T) := by
  refine fn_ok T.F_Piece_harmed sc_Piece_harmed (fun x => rfl) (fun cdv A outer s H E B x hr hx => ?_)
  have q0 : Nm n_Piece_harmed "self" 0 := rfl; have q1 : Nm n_Piece_harmed "at" 1 := rfl; have q2 : Nm n_Piece_harmed "bits" 2 := rfl; have q3 : Nm n_Piece_harmed "rows" 3 := rfl; have q4 : Nm n_Piece_harmed "place" 4 := rfl; have q5 : Nm n_Piece_harmed "block" 5 := rfl
  obtain ⟨p, at_, bits⟩ := x
  obtain ⟨hp, h0, hl, hb⟩ := hx
  dsimp only at hp h0 hl hb
  have nd := sc_Piece_harmed.nd
  have hu := hu1_of hr
  refine wss_cons (ws_if (wT_not (wT_lelt ?_)))
  repeat walk_at "y"
  refine ⟨fun _ => ?_, fun h => absurd h0 (of_decide_eq_false h)⟩
  refine w_size T (hr.mono (by decide)) ?_
  repeat walk_at "y"
  refine ⟨p, rfl, ?_⟩
  repeat walk_at "y"
  refine ⟨fun h => absurd hl (by simpa using h), fun _ => ?_⟩
  refine wss_nil ?_
  repeat walk_at "y"
  refine w_list T.z_list rfl ?_
  refine w_prows T ?_
  repeat walk_at "y"
  refine ⟨p, rfl, _, .tup, ?_⟩
  intro q
  repeat walk_at "y"
  -- place, block = rows[at]
  refine ws_asg (pg_t2 (by assumption) (by assumption) (by assumption)) ?_
  repeat walk_at "y"
  obtain ⟨row, hrow⟩ : ∃ row, p.rows[at_.toNat]? = some row := ⟨_, List.getElem?_eq_getElem (by omega)⟩
  have hat : atI (p.rows.map dRow) at_ = some (dRow row) := by
    unfold atI ixN
    rw [if_pos h0, if_pos (by rw [List.length_map]; exact hl)]
    show (p.rows.map dRow)[at_.toNat]? = _
    rw [List.getElem?_map, hrow]
    rfl
  refine wr_ix (.own 0 rfl hat) ?_
  repeat walk_at "g"
  repeat walk_at "y"
  -- rows[at] = ..
  refine ws_lput ?_
  repeat walk_at "y"
  refine ⟨q, _, at_, at_.toNat, 0, rfl, rfl, rfl, ?_, ?_⟩
  · unfold ixN
    rw [if_pos h0, if_pos (by rw [List.length_map]; exact hl)]
  have hset : (p.rows.map dRow).set at_.toNat (.tup [.int row.1, .int (Builtin.bitXor row.2 bits)]) = (hRows p.rows at_ bits).map dRow := by
    unfold hRows
    rw [List.map_set, List.getD_eq_getElem?_getD, hrow]
    rfl
  dsimp only [List.set]
  show wSs _ _ _ _ _ (ckL q ((p.rows.map dRow).set at_.toNat (.tup [.int row.1, .int (Builtin.bitXor row.2 bits)])) :: [])
  rw [hset]
  repeat walk_at "y"
  refine W_drop (w_meth ?_)
  repeat walk_at "y"
  have hok : AIn.Ok ⟨p, .ref q, [ckL q ((hRows p.rows at_ bits).map dRow)], hRows p.rows at_ bits⟩ := ⟨hp, .own, by rw [hRows_len]; exact hp.n, hRows_ok hp.r hb h0 hl⟩
  cases hw : p.isW with
  | true =>
    cases p with
    | gain b d r c => cases hw
    | whole d r c =>
      refine ⟨mbAgainW T hr, .ins rfl, ?_⟩
      repeat walk_at "y"
      refine ⟨_, [], ⟨hok, rfl⟩, rfl, .cons 0 rfl .nil, ?_⟩
      rintro _ _ ⟨rfl, rfl⟩
      exact ⟨[], _, .nil, rfl, rfl⟩
  | false =>
    cases p with
    | whole d r c => cases hw
    | gain b d r c =>
      refine ⟨mbAgainG T hr, .ins rfl, ?_⟩
      repeat walk_at "y"
      refine ⟨_, [], ⟨hok, rfl⟩, rfl, .cons 0 rfl .nil, ?_⟩
      rintro _ _ ⟨rfl, rfl⟩
      exact ⟨[], _, .nil, rfl, rfl⟩
end
end K63
set_option Elab.async false
set_option maxRecDepth 100000
set_option linter.unusedVariables false
set_option maxHeartbeats 4000000
namespace K63
open PySem L2 PySem.Spec PyProof.Rows Sy
local macro_rules | `(tactic| walk_at "cnd") => `(tactic| first | decide | omega | assumption | (simp only [List.length_cons, List.length_nil]; omega) | (refine ⟨?_, ?_⟩ <;> omega))
local macro_rules | `(tactic| walk_at "y") => `(tactic| first
  | refine two_mk ?_ | refine one_mk ?_
  | refine cnd_mk (by walk_at "cnd") ?_
  | refine toB_mk ?_
  | refine wss_cons ?_
  | refine ws_ret ?_ | refine ws_retN ?_ | refine ws_if ?_ | refine ws_expr ?_
  | refine ws_set (by assumption) (by assumption) ?_
  | refine ws_fld ?_
  | refine ws_continue ?_ | refine ws_break ?_ | refine ws_pass ?_
  | refine w_name (by assumption) (by rfl) ?_
  | refine w_int ?_ | refine w_str ?_ | refine w_bool ?_ | refine w_none ?_
  | refine wA_nil ?_ | refine wA_cons ?_
  | refine w_add ?_ | refine w_sub ?_ | refine w_mul ?_ | refine w_mod ?_ | refine w_fdiv ?_ | refine w_pow ?_ | refine w_shl ?_ | refine w_shr ?_ | refine w_band ?_ | refine w_bor ?_ | refine w_xor ?_
  | refine w_tup ?_ | refine w_lst ?_ | refine w_dnew ?_ | refine w_neg ?_
  | refine w_ix (by assumption) ?_
  | refine wT_lt ?_ | refine wT_le ?_ | refine wT_gt ?_ | refine wT_ge ?_ | refine wT_lelt ?_
  | refine wT_eq (by assumption) ?_ | refine wT_ne (by assumption) ?_
  | refine wT_in (by assumption) ?_ | refine wT_notin (by assumption) ?_
  | refine wT_is ?_ | refine wT_isnot ?_
  | refine w_eq (by assumption) ?_ | refine w_ne (by assumption) ?_
  | refine wT_bool ?_ | refine wW_and ?_ | refine wW_and1 ?_ | refine wW_or ?_ | refine wW_or1 ?_ | refine wT_not ?_
  | refine w_not ?_ | refine w_and ?_ | refine w_or ?_ | refine w_one ?_
  | refine w_fld ?_
  | refine wr_addI ?_
  | refine wr_eqI ?_ | refine wr_neI ?_)
local macro_rules | `(tactic| walk_at "g") => `(tactic| first | refine WG_name ?_ | refine WG_tup _ rfl ?_ | refine WGs_cons ?_ | refine WGs_nil ?_)
local macro_rules | `(tactic| walk_at "wk") => `(tactic| first | exact Wk.nil | (first | refine Wk.keep ?_ | refine Wk.drop ?_); walk_at "wk")
local macro_rules | `(tactic| walk_at "pk") => `(tactic| first
  | exact Pick.nil
  | (refine Pick.cons 0 rfl ?_; walk_at "pk") | (refine Pick.cons 1 rfl ?_; walk_at "pk") | (refine Pick.cons 2 rfl ?_; walk_at "pk") | (refine Pick.cons 3 rfl ?_; walk_at "pk")
  | (refine Pick.cons 4 rfl ?_; walk_at "pk") | (refine Pick.cons 5 rfl ?_; walk_at "pk") | (refine Pick.cons 6 rfl ?_; walk_at "pk") | (refine Pick.cons 7 rfl ?_; walk_at "pk"))
/-! ### shelves -/
structure Sh where
  p : Addr
  d : Addr
  m : List (Int × Pc)
  o : Int
def keysI {α : Type} (m : List (Int × α)) : List Int := m.map (·.1)
def Sh.ks (s : Sh) : List Int := keysI s.m
section
variable {P : Program} {w : World} {K : PySem.W.Frag} {mg : Str → Option Value} {base : Heap}
def shF (d : Addr) (o : Int) : List (Str × D) := [("kept", .ref d), ("onward", .int o)]
abbrev shC (T : Txt K mg) (s : Sh) : Cks := [ckD s.d (kvI (dPc T) s.m), ckI s.p T.C_Shelf (shF s.d s.o)]
abbrev spShInit (T : Txt K mg) : Sp := Spx K (I := Addr) (fun _ => True) (fun p => [.ref p]) (fun p => [ckI p T.C_Shelf []]) (fun p d S => d = .non ∧ ∃ dd, S = shC T ⟨p, dd, [], 0⟩)
theorem ok_Shelf_init (T : Txt K mg) : FnOk P w K mg base CX0 1 T.f_Shelf_init T.fd_Shelf_init ["self"] (spShInit T) := by
  refine fn_ok T.F_Shelf_init sc_Shelf_init (fun x => rfl) (fun cdv A outer s H E B p hr hx => ?_)
  have q0 : Nm n_Shelf_init "self" 0 := rfl
  repeat walk_at "y"
  intro dd
  repeat walk_at "y"
  refine ⟨p, T.C_Shelf, [], 1, rfl, rfl, T.c_Shelf, T.na_Shelf_kept, by decide, ?_⟩
  repeat walk_at "y"
  refine ⟨p, T.C_Shelf, [("kept", .ref dd)], 1, rfl, rfl, T.c_Shelf, T.na_Shelf_onward, Nat.lt_of_lt_of_le (Nat.lt_succ_self 1) (by decide), ?_⟩
  refine wss_nil ?_
  exact ⟨rfl, dd, rfl⟩
abbrev spLay (T : Txt K mg) : Sp := Spx K (I := Sh × Int × Pc) (fun x => x.1.m.length < 1000) (fun x => [.ref x.1.p, .int x.2.1, dPc T x.2.2]) (fun x => shC T x.1) (fun x d S => d = .non ∧ ∃ o, S = shC T ⟨x.1.p, x.1.d, setI x.1.m x.2.1 x.2.2, o⟩)
theorem ok_Shelf_lay (T : Txt K mg) : FnOk P w K mg base CX0 1 T.f_Shelf_lay T.fd_Shelf_lay ["self", "number", "piece"] (spLay T) := by
  refine fn_ok T.F_Shelf_lay sc_Shelf_lay (fun x => rfl) (fun cdv A outer s H E B x hr hx => ?_)
  have q0 : Nm n_Shelf_lay "self" 0 := rfl; have q1 : Nm n_Shelf_lay "number" 1 := rfl; have q2 : Nm n_Shelf_lay "piece" 2 := rfl
  obtain ⟨⟨p, dd, m, o⟩, n, pc⟩ := x
  dsimp only at hx
  have hu := hu1_of hr
  refine wss_cons (ws_dput hu ?_)
  repeat walk_at "y"
  refine .inr ⟨p, T.C_Shelf, shF dd o, .ref dd, 1, rfl, rfl, T.c_Shelf, T.na_Shelf_kept, rfl, ?_⟩
  repeat walk_at "y"
  refine ⟨dd, kvI (dPc T) m, .inl n, 0, rfl, rfl, rfl, by rw [kvI_len]; omega, ?_⟩
  rw [kvI_set]
  dsimp only [List.set]
  repeat walk_at "y"
  refine .inr ⟨p, T.C_Shelf, shF dd o, .int o, 1, rfl, rfl, T.c_Shelf, T.na_Shelf_onward, rfl, ?_⟩
  repeat walk_at "y"
  refine ⟨fun _ => ?_, fun _ => ?_⟩
  · repeat walk_at "y"
    refine ⟨p, T.C_Shelf, shF dd o, 1, rfl, rfl, T.c_Shelf, T.na_Shelf_onward, Nat.lt_of_lt_of_le (Nat.lt_succ_self 2) (by decide), ?_⟩
    refine wss_nil ?_
    refine wss_nil ?_
    exact ⟨rfl, n + 1, rfl⟩
  · refine wss_nil ?_
    refine wss_nil ?_
    exact ⟨rfl, o, rfl⟩
abbrev spPiece (T : Txt K mg) : Sp := Spx K (I := Sh × Int × Pc) (fun x => getI x.1.m x.2.1 = some x.2.2) (fun x => [.ref x.1.p, .int x.2.1]) (fun x => shC T x.1) (fun x d S => d = dPc T x.2.2 ∧ S = shC T x.1)
theorem ok_Shelf_piece (T : Txt K mg) : FnOk P w K mg base CX0 1 T.f_Shelf_piece T.fd_Shelf_piece ["self", "number"] (spPiece T) := by
  refine fn_ok T.F_Shelf_piece sc_Shelf_piece (fun x => rfl) (fun cdv A outer s H E B x hr hx => ?_)
  have q0 : Nm n_Shelf_piece "self" 0 := rfl; have q1 : Nm n_Shelf_piece "number" 1 := rfl
  obtain ⟨⟨p, dd, m, o⟩, n, pc⟩ := x
  dsimp only at hx
  have hu := hu1_of hr
  have hg : getK (kvI (dPc T) m) (.inl n) = some (dPc T pc) := by rw [kvI_get, hx]; rfl
  repeat walk_at "y"
  refine .inr ⟨p, T.C_Shelf, shF dd o, .ref dd, 1, rfl, rfl, T.c_Shelf, T.na_Shelf_kept, rfl, ?_⟩
  refine ⟨_, .dctI 0 rfl, ?_⟩
  rw [hg]
  refine ⟨fun h => absurd h (by simp), fun _ => ?_⟩
  repeat walk_at "y"
  refine wss_nil ?_
  repeat walk_at "y"
  refine .inr ⟨p, T.C_Shelf, shF dd o, .ref dd, 1, rfl, rfl, T.c_Shelf, T.na_Shelf_kept, rfl, ?_⟩
  repeat walk_at "y"
  exact wr_ix (.dctI 0 rfl hg) ⟨rfl, rfl⟩
abbrev spDrop (T : Txt K mg) : Sp := Spx K (I := Sh × Int × Pc) (fun x => getI x.1.m x.2.1 = some x.2.2) (fun x => [.ref x.1.p, .int x.2.1]) (fun x => shC T x.1) (fun x d S => d = dPc T x.2.2 ∧ S = shC T ⟨x.1.p, x.1.d, delI x.1.m x.2.1, x.1.o⟩)
theorem ok_Shelf_drop (T : Txt K mg) : FnOk P w K mg base CX0 1 T.f_Shelf_drop T.fd_Shelf_drop ["self", "number"] (spDrop T) := by
  refine fn_ok T.F_Shelf_drop sc_Shelf_drop (fun x => rfl) (fun cdv A outer s H E B x hr hx => ?_)
  have q0 : Nm n_Shelf_drop "self" 0 := rfl; have q1 : Nm n_Shelf_drop "number" 1 := rfl
  obtain ⟨⟨p, dd, m, o⟩, n, pc⟩ := x
  dsimp only at hx
  have hu := hu1_of hr
  have hg : getK (kvI (dPc T) m) (.inl n) = some (dPc T pc) := by rw [kvI_get, hx]; rfl
  repeat walk_at "y"
  refine .inr ⟨p, T.C_Shelf, shF dd o, .ref dd, 1, rfl, rfl, T.c_Shelf, T.na_Shelf_kept, rfl, ?_⟩
  refine ⟨_, .dctI 0 rfl, ?_⟩
  rw [hg]
  refine ⟨fun h => absurd h (by simp), fun _ => ?_⟩
  refine wss_nil ?_
  repeat walk_at "y"
  refine w_dpop ?_
  repeat walk_at "y"
  refine .inr ⟨p, T.C_Shelf, shF dd o, .ref dd, 1, rfl, rfl, T.c_Shelf, T.na_Shelf_kept, rfl, ?_⟩
  refine ⟨dd, rfl, ⟨_, 0, rfl⟩, ?_⟩
  repeat walk_at "y"
  refine ⟨_, .inl n, _, 0, rfl, rfl, hg, ?_⟩
  rw [kvI_del]
  exact ⟨rfl, rfl⟩
abbrev spNumbers (T : Txt K mg) : Sp := Spx K (I := Sh) (fun x => x.m.length < 64) (fun x => [.ref x.p]) (fun x => shC T x) (fun x d S => ∃ q, d = .ref q ∧ S = ckL q ((srt x.ks).map D.int) :: shC T x)
theorem ok_Shelf_numbers (T : Txt K mg) : FnOk P w K mg base CX0 1 T.f_Shelf_numbers T.fd_Shelf_numbers ["self"] (spNumbers T) := by
  refine fn_ok T.F_Shelf_numbers sc_Shelf_numbers (fun x => rfl) (fun cdv A outer s H E B x hr hx => ?_)
  have q0 : Nm n_Shelf_numbers "self" 0 := rfl
  obtain ⟨p, dd, m, o⟩ := x
  dsimp only at hx
  repeat walk_at "y"
  refine w_sorted T.z_sorted ?_
  repeat walk_at "y"
  refine .inr ⟨p, T.C_Shelf, shF dd o, .ref dd, 1, rfl, rfl, T.c_Shelf, T.na_Shelf_kept, rfl, ?_⟩
  exact ⟨keysI m, .dct 0 rfl (kvI_keys m) (by show (keysI m).length < 64; unfold keysI; rw [List.length_map]; exact hx), fun q => ⟨q, rfl, rfl⟩⟩
end
section
variable {X : Cx} {B : Base} {G : Gm} {S : Cks} {k : D → Cks → Prop} {e o : Expr} {es : List Expr} {p pos apos : Pos} {pl : Sem Bool}
theorem insD_pick {S S' R : Cks} {c : Ck} {p C : Addr} {m : Str} (h : Pick S S' R) (hc : c ∈ S') (hi : IsI c p C m) : InsD S m (.ref p) C := by
  obtain ⟨j, hj⟩ := List.mem_iff_getElem?.mp (h.mem_iff.mp (List.mem_append_left R hc))
  exact .own j hj hi
def mbLay (T : Txt X.K X.mg) (hr : Room 1 X.A) : MethB X "lay" := ⟨T.C_Shelf, _, _, _, 1, [], [], _, _, _, _, _, T.c_Shelf, T.me_Shelf_lay, ok_Shelf_lay T, hr, b_Shelf_lay T, .nil⟩
def mbPiece (T : Txt X.K X.mg) (hr : Room 1 X.A) : MethB X "piece" := ⟨T.C_Shelf, _, _, _, 1, [], [], _, _, _, _, _, T.c_Shelf, T.me_Shelf_piece, ok_Shelf_piece T, hr, b_Shelf_piece T, .nil⟩
def mbDrop (T : Txt X.K X.mg) (hr : Room 1 X.A) : MethB X "drop" := ⟨T.C_Shelf, _, _, _, 1, [], [], _, _, _, _, _, T.c_Shelf, T.me_Shelf_drop, ok_Shelf_drop T, hr, b_Shelf_drop T, .nil⟩
def mbNumbers (T : Txt X.K X.mg) (hr : Room 1 X.A) : MethB X "numbers" := ⟨T.C_Shelf, _, _, _, 1, [], [], _, _, _, _, _, T.c_Shelf, T.me_Shelf_numbers, ok_Shelf_numbers T, hr, b_Shelf_numbers T, .nil⟩
theorem w_numbers (T : Txt X.K X.mg) (hr : Room 1 X.A) (h : wE X B o (fun x S1 => ∃ s R, x = .ref s.p ∧ Pick S1 (shC T s) R ∧ s.m.length < 64 ∧ ∀ q, k (.ref q) (ckL q ((srt s.ks).map D.int) :: (shC T s ++ R))) G S)
    (ht : eval (.Call (.Attribute o "numbers" apos) [] [] pos) X.env = (do
      let ov ← eval o X.env
      standAt apos.atName
      let (f, first) ← holding [ov] (getMethod ov "numbers" pl)
      callWith pos f first (backTo pos (starEach [] X.env)) (backToKw pos (keywordEach [] X.env))) := by rfl) : wE X B (.Call (.Attribute o "numbers" apos) [] [] pos) k G S :=
  w_meth0 (W_mono h fun x S1 ⟨s, R, ex, hp, hl, hk⟩ => by
    subst ex
    exact ⟨mbNumbers T hr, insD_pick hp (List.mem_cons_of_mem _ List.mem_cons_self) (isI_ins rfl), s, R, hl, rfl, hp, fun d S' ⟨q, e1, e2⟩ => by subst e1 e2; exact hk q⟩) ht
theorem w_piece (T : Txt X.K X.mg) (hr : Room 1 X.A) (h : wE X B o (fun x S1 => ∃ s R, x = .ref s.p ∧ Pick S1 (shC T s) R ∧ wA X B (e :: es) (fun xs S2 => ∃ n pc R2, xs = [.int n] ∧ Pick S2 (shC T s) R2 ∧ getI s.m n = some pc ∧ k (dPc T pc) (shC T s ++ R2)) G S1) G S)
    (hst : starEach (e :: es) X.env = (false, eval e X.env) :: starEach es X.env := by rfl) (hpl : (backTo pos (starEach es X.env)).any (·.1) = false := by rfl)
    (ht : eval (.Call (.Attribute o "piece" apos) (e :: es) [] pos) X.env = (do
      let ov ← eval o X.env
      standAt apos.atName
      let (f, first) ← holding [ov] (getMethod ov "piece" pl)
      callWith pos f first (backTo pos (starEach (e :: es) X.env)) (backToKw pos (keywordEach [] X.env))) := by rfl) : wE X B (.Call (.Attribute o "piece" apos) (e :: es) [] pos) k G S :=
  w_meth (W_mono h fun x S1 ⟨s, R, ex, hp, hw⟩ => by
    subst ex
    exact ⟨mbPiece T hr, insD_pick hp (List.mem_cons_of_mem _ List.mem_cons_self) (isI_ins rfl), fun F σ H Q ok q => hw F σ H Q ok fun vs F' H' xs S2 ⟨n, pc, R2, ex, hp2, hg, hk⟩ => q vs F' H' xs S2 (by
      subst ex
      exact ⟨(s, n, pc), R2, hg, rfl, hp2, fun d S' ⟨e1, e2⟩ => by subst e1 e2; exact hk⟩)⟩) hst hpl ht
theorem w_drop (T : Txt X.K X.mg) (hr : Room 1 X.A) (h : wE X B o (fun x S1 => ∃ s R, x = .ref s.p ∧ Pick S1 (shC T s) R ∧ wA X B (e :: es) (fun xs S2 => ∃ n pc R2, xs = [.int n] ∧ Pick S2 (shC T s) R2 ∧ getI s.m n = some pc ∧ k (dPc T pc) (shC T ⟨s.p, s.d, delI s.m n, s.o⟩ ++ R2)) G S1) G S)
    (hst : starEach (e :: es) X.env = (false, eval e X.env) :: starEach es X.env := by rfl) (hpl : (backTo pos (starEach es X.env)).any (·.1) = false := by rfl)
    (ht : eval (.Call (.Attribute o "drop" apos) (e :: es) [] pos) X.env = (do
      let ov ← eval o X.env
      standAt apos.atName
      let (f, first) ← holding [ov] (getMethod ov "drop" pl)
      callWith pos f first (backTo pos (starEach (e :: es) X.env)) (backToKw pos (keywordEach [] X.env))) := by rfl) : wE X B (.Call (.Attribute o "drop" apos) (e :: es) [] pos) k G S :=
  w_meth (W_mono h fun x S1 ⟨s, R, ex, hp, hw⟩ => by
    subst ex
    exact ⟨mbDrop T hr, insD_pick hp (List.mem_cons_of_mem _ List.mem_cons_self) (isI_ins rfl), fun F σ H Q ok q => hw F σ H Q ok fun vs F' H' xs S2 ⟨n, pc, R2, ex, hp2, hg, hk⟩ => q vs F' H' xs S2 (by
      subst ex
      exact ⟨(s, n, pc), R2, hg, rfl, hp2, fun d S' ⟨e1, e2⟩ => by subst e1 e2; exact hk⟩)⟩) hst hpl ht
theorem w_lay (T : Txt X.K X.mg) (hr : Room 1 X.A) (h : wE X B o (fun x S1 => ∃ s R, x = .ref s.p ∧ Pick S1 (shC T s) R ∧ wA X B (e :: es) (fun xs S2 => ∃ n pc R2, xs = [.int n, dPc T pc] ∧ Pick S2 (shC T s) R2 ∧ s.m.length < 1000 ∧ ∀ o, k .non (shC T ⟨s.p, s.d, setI s.m n pc, o⟩ ++ R2)) G S1) G S)
    (hst : starEach (e :: es) X.env = (false, eval e X.env) :: starEach es X.env := by rfl) (hpl : (backTo pos (starEach es X.env)).any (·.1) = false := by rfl)
    (ht : eval (.Call (.Attribute o "lay" apos) (e :: es) [] pos) X.env = (do
      let ov ← eval o X.env
      standAt apos.atName
      let (f, first) ← holding [ov] (getMethod ov "lay" pl)
      callWith pos f first (backTo pos (starEach (e :: es) X.env)) (backToKw pos (keywordEach [] X.env))) := by rfl) : wE X B (.Call (.Attribute o "lay" apos) (e :: es) [] pos) k G S :=
  w_meth (W_mono h fun x S1 ⟨s, R, ex, hp, hw⟩ => by
    subst ex
    exact ⟨mbLay T hr, insD_pick hp (List.mem_cons_of_mem _ List.mem_cons_self) (isI_ins rfl), fun F σ H Q ok q => hw F σ H Q ok fun vs F' H' xs S2 ⟨n, pc, R2, ex, hp2, hg, hk⟩ => q vs F' H' xs S2 (by
      subst ex
      exact ⟨(s, n, pc), R2, hg, rfl, hp2, fun d S' ⟨e1, o, e2⟩ => by subst e1 e2; exact hk o⟩)⟩) hst hpl ht
/-- Shelf() -/
theorem w_Shelf (T : Txt X.K X.mg) (hr : Room 2 X.A) (h : ∀ p d, k (.ref p) (shC T ⟨p, d, [], 0⟩ ++ S)) (hg : Gl X "Shelf" := by rfl) : wE X B (.Call (.Name "Shelf" p) [] [] pos) k G S :=
  w_make0 T.mk_Shelf (ok_Shelf_init T) hr T.m_Shelf (b_Shelf_init T) .nil (fun p => ⟨p, S, trivial, rfl, List.Perm.refl _, fun d S' ⟨e1, dd, e2⟩ => ⟨e1, by subst e2; exact h p dd⟩⟩) hg (by decide)
end
end K63
set_option Elab.async false
set_option maxRecDepth 100000
set_option linter.unusedVariables false
set_option maxHeartbeats 4000000
namespace K63
open PySem L2 PySem.Spec PyProof.Rows Sy
local macro_rules | `(tactic| walk_at "cnd") => `(tactic| first | decide | omega | assumption | (simp only [List.length_cons, List.length_nil]; omega) | (refine ⟨?_, ?_⟩ <;> omega))
local macro_rules | `(tactic| walk_at "y") => `(tactic| first
  | refine two_mk ?_ | refine one_mk ?_
  | refine cnd_mk (by walk_at "cnd") ?_
  | refine toB_mk ?_
  | refine wss_cons ?_
  | refine ws_ret ?_ | refine ws_retN ?_ | refine ws_if ?_ | refine ws_expr ?_
  | refine ws_set (by assumption) (by assumption) ?_
  | refine ws_fld ?_
  | refine ws_continue ?_ | refine ws_break ?_ | refine ws_pass ?_
  | refine w_name (by assumption) (by rfl) ?_
  | refine w_int ?_ | refine w_str ?_ | refine w_bool ?_ | refine w_none ?_
  | refine wA_nil ?_ | refine wA_cons ?_
  | refine w_add ?_ | refine w_sub ?_ | refine w_mul ?_ | refine w_mod ?_ | refine w_fdiv ?_ | refine w_pow ?_ | refine w_shl ?_ | refine w_shr ?_ | refine w_band ?_ | refine w_bor ?_ | refine w_xor ?_
  | refine w_tup ?_ | refine w_lst ?_ | refine w_dnew ?_ | refine w_neg ?_
  | refine w_ix (by assumption) ?_
  | refine wT_lt ?_ | refine wT_le ?_ | refine wT_gt ?_ | refine wT_ge ?_ | refine wT_lelt ?_
  | refine wT_eq (by assumption) ?_ | refine wT_ne (by assumption) ?_
  | refine wT_in (by assumption) ?_ | refine wT_notin (by assumption) ?_
  | refine wT_is ?_ | refine wT_isnot ?_
  | refine w_eq (by assumption) ?_ | refine w_ne (by assumption) ?_
  | refine wT_bool ?_ | refine wW_and ?_ | refine wW_and1 ?_ | refine wW_or ?_ | refine wW_or1 ?_ | refine wT_not ?_
  | refine w_not ?_ | refine w_and ?_ | refine w_or ?_ | refine w_one ?_
  | refine w_fld ?_
  | refine wr_addI ?_
  | refine wr_eqI ?_ | refine wr_neI ?_)
local macro_rules | `(tactic| walk_at "g") => `(tactic| first | refine WG_name ?_ | refine WG_tup _ rfl ?_ | refine WGs_cons ?_ | refine WGs_nil ?_)
local macro_rules | `(tactic| walk_at "wk") => `(tactic| first | exact Wk.nil | (first | refine Wk.keep ?_ | refine Wk.drop ?_); walk_at "wk")
local macro_rules | `(tactic| walk_at "pk") => `(tactic| first
  | exact Pick.nil
  | (refine Pick.cons 0 rfl ?_; walk_at "pk") | (refine Pick.cons 1 rfl ?_; walk_at "pk") | (refine Pick.cons 2 rfl ?_; walk_at "pk") | (refine Pick.cons 3 rfl ?_; walk_at "pk")
  | (refine Pick.cons 4 rfl ?_; walk_at "pk") | (refine Pick.cons 5 rfl ?_; walk_at "pk") | (refine Pick.cons 6 rfl ?_; walk_at "pk") | (refine Pick.cons 7 rfl ?_; walk_at "pk"))
/-! ### the model of joined -/
def pickP : Option Pc → Option Pc → Option Pc
  | none, b => b
  | some a, none => some a
  | some a, some b => if (b.good && !a.good) = true then some b else some a
theorem pickP_none (a : Option Pc) : pickP a none = a := by cases a <;> rfl
def joinF (L : List (List (Int × Pc))) (k : Int) : Option Pc := L.foldl (fun a m => pickP a (getI m k)) none
theorem joinF_snoc (L : List (List (Int × Pc))) (m : List (Int × Pc)) (k : Int) : joinF (L ++ [m]) k = pickP (joinF L k) (getI m k) := by unfold joinF; rw [List.foldl_append]; rfl
/-- m holds what f tells, n keys at the most -/
structure Tel (f : Int → Option Pc) (n : Nat) (m : List (Int × Pc)) : Prop where
  g : ∀ k, getI m k = f k
  nd : (keysI m).Nodup
  len : m.length ≤ n
theorem getI_iff {α : Type} {m : List (Int × α)} {n : Int} : (∃ x, getI m n = some x) ↔ n ∈ keysI m := by
  constructor
  · rintro ⟨x, hx⟩
    exact List.mem_map.mpr ⟨_, getI_some_mem hx, rfl⟩
  · intro h
    cases e : getI m n with
    | some x => exact ⟨x, rfl⟩
    | none => exact absurd h (getI_none_iff.mp e)
theorem getI_of_mem {α : Type} : ∀ {m : List (Int × α)} {kv : Int × α}, (keysI m).Nodup → kv ∈ m → getI m kv.1 = some kv.2
  | [], _, _, h => by cases h
  | a :: m, kv, nd, h => by
    obtain ⟨n1, n2⟩ := List.nodup_cons.mp (show (a.1 :: keysI m).Nodup from nd)
    rw [getI_cons]
    rcases List.mem_cons.mp h with e | h
    · subst e; rw [if_pos rfl]
    · rw [if_neg (fun z => n1 (by rw [z]; exact List.mem_map.mpr ⟨kv, h, rfl⟩)), getI_of_mem n2 h]
theorem srt_mem {ns : List Int} {k : Int} : k ∈ srt ns ↔ k ∈ ns := (srt_perm ns).mem_iff
theorem srt_nodup {ns : List Int} (h : ns.Nodup) : (srt ns).Nodup := (srt_perm ns).nodup_iff.mpr h
theorem srt_len (ns : List Int) : (srt ns).length = ns.length := (srt_perm ns).length_eq
/-- what stands after the keys of pre are seen -/
def upTo (f g : Int → Option Pc) (pre : List Int) (k : Int) : Option Pc := if k ∈ pre then pickP (f k) (g k) else f k
theorem tel_step {f g : Int → Option Pc} {pre : List Int} {n : Int} {p : Pc} {c : Nat} {b : List (Int × Pc)} (h : Tel (upTo f g pre) c b) (hn : n ∉ pre) (hg : g n = some p) :
    (getI b n = none → Tel (upTo f g (pre ++ [n])) (c + 1) (setI b n p)) ∧ ∀ q, getI b n = some q → ((p.good && !q.good) = true → Tel (upTo f g (pre ++ [n])) (c + 1) (setI b n p)) ∧ ((p.good && !q.good) = false → Tel (upTo f g (pre ++ [n])) (c + 1) b) := by
  have hb : getI b n = f n := by rw [h.g]; unfold upTo; rw [if_neg hn]
  have up : ∀ k, upTo f g (pre ++ [n]) k = if k = n then pickP (f n) (some p) else upTo f g pre k := fun k => by
    unfold upTo
    by_cases e : k = n
    · subst e; rw [if_pos (by simp), if_pos rfl, hg]
    · rw [if_neg e]
      by_cases m : k ∈ pre
      · rw [if_pos (by simp [m]), if_pos m]
      · rw [if_neg (by simp [m, e]), if_neg m]
  have setc : pickP (f n) (some p) = some p → Tel (upTo f g (pre ++ [n])) (c + 1) (setI b n p) := fun e => by
    refine ⟨fun k => ?_, setI_nodup h.nd, Nat.le_trans (setI_len b n p) (Nat.succ_le_succ h.len)⟩
    rw [getI_set, up, e, h.g]
  refine ⟨fun e => setc (by rw [← hb, e]; rfl), fun q e => ⟨fun t => setc (by rw [← hb, e]; show (if (p.good && !q.good) = true then some p else some q) = some p; rw [if_pos t]), fun t => ⟨fun k => ?_, h.nd, Nat.le_succ_of_le h.len⟩⟩⟩
  rw [h.g, up]
  by_cases z : k = n
  · subst z
    rw [if_pos rfl, ← h.g, e, ← hb, e]
    show some q = (if (p.good && !q.good) = true then some p else some q)
    rw [if_neg (by rw [t]; decide)]
  · rw [if_neg z]
theorem tel_done {f : Int → Option Pc} {m : List (Int × Pc)} {ns : List Int} {c : Nat} {b : List (Int × Pc)} (h : Tel (upTo f (getI m) ns) c b) (hk : ∀ k, k ∈ ns ↔ k ∈ keysI m) : Tel (fun k => pickP (f k) (getI m k)) c b := by
  refine ⟨fun k => ?_, h.nd, h.len⟩
  rw [h.g]
  unfold upTo
  by_cases e : k ∈ ns
  · rw [if_pos e]
  · rw [if_neg e, getI_none_iff.mpr (fun z => e ((hk k).mpr z)), pickP_none]
structure ShOk (s : Sh) : Prop where
  nd : s.ks.Nodup
  ok : ∀ n p, getI s.m n = some p → p.Ok
def tot (L : List Sh) : Nat := (L.map fun s => s.m.length).sum
theorem tot_snoc (L : List Sh) (s : Sh) : tot (L ++ [s]) = tot L + s.m.length := by unfold tot; simp
theorem tot_mem {L : List Sh} {s : Sh} (h : s ∈ L) : s.m.length ≤ tot L := by
  obtain ⟨a, b, e⟩ := List.append_of_mem h
  subst e
  unfold tot
  rw [List.map_append, List.sum_append, List.map_cons, List.sum_cons]
  omega
theorem tot_split {L pre post : List Sh} {s : Sh} (h : L = pre ++ s :: post) : tot pre + s.m.length ≤ tot L := by
  subst h
  unfold tot
  rw [List.map_append, List.sum_append, List.map_cons, List.sum_cons]
  omega
def mOf (L : List Sh) : List (List (Int × Pc)) := L.map (·.m)
theorem joinF_ok {L : List Sh} (h : ∀ s ∈ L, ShOk s) {k : Int} {p : Pc} : joinF (mOf L) k = some p → p.Ok := by
  have gen : ∀ (L : List Sh) (a : Option Pc), (∀ q, a = some q → q.Ok) → (∀ s ∈ L, ShOk s) → ∀ q, (mOf L).foldl (fun a m => pickP a (getI m k)) a = some q → q.Ok := by
    intro L
    induction L with
    | nil => intro a ha _ q e; exact ha q e
    | cons s L ih =>
      intro a ha hs q e
      refine ih (pickP a (getI s.m k)) (fun r hr => ?_) (fun t ht => hs t (List.mem_cons_of_mem _ ht)) q e
      have hso := (hs s List.mem_cons_self).ok k
      cases a with
      | none => exact hso r hr
      | some a =>
        cases g : getI s.m k with
        | none => rw [g] at hr; exact ha r hr
        | some b =>
          rw [g] at hr
          have hr' : (if (b.good && !a.good) = true then some b else some a) = some r := hr
          by_cases t : (b.good && !a.good) = true
          · rw [if_pos t] at hr'; cases hr'; exact hso _ g
          · rw [if_neg t] at hr'; cases hr'; exact ha _ rfl
  exact gen L none (fun _ z => nomatch z) h p
theorem Pick.all {S : Cks} : Pick S S [] := by show (S ++ []).Perm S; rw [List.append_nil]
theorem Pick.perm' {S S' : Cks} (h : S'.Perm S) : Pick S S' [] := by show (S' ++ []).Perm S; rw [List.append_nil]; exact h
section
variable {P : Program} {w : World} {K : PySem.W.Frag} {mg : Str → Option Value} {base : Heap}
def fam (T : Txt K mg) (L : List Sh) : Cks := L.flatMap fun s => shC T s
theorem fam_split (T : Txt K mg) {L pre post : List Sh} {s : Sh} (h : L = pre ++ s :: post) : (shC T s ++ fam T (pre ++ post)).Perm (fam T L) := by
  subst h
  unfold fam
  rw [List.flatMap_append, List.flatMap_append, List.flatMap_cons]
  have : (shC T s ++ (pre.flatMap (fun s => shC T s) ++ post.flatMap fun s => shC T s)).Perm (pre.flatMap (fun s => shC T s) ++ (shC T s ++ post.flatMap fun s => shC T s)) := by
    rw [← List.append_assoc, ← List.append_assoc]
    exact List.perm_append_comm.append_right _
  exact this
abbrev ckSh (ls : Addr) (L : List Sh) : Ck := ckL ls (L.map fun s => D.ref s.p)
abbrev spJoined (T : Txt K mg) : Sp := Spx K (I := Addr × List Sh) (fun x => (∀ s ∈ x.2, ShOk s) ∧ tot x.2 < 64) (fun x => [.ref x.1]) (fun x => ckSh x.1 x.2 :: fam T x.2)
  (fun x d S => ∃ s : Sh, d = .ref s.p ∧ S = shC T s ++ (ckSh x.1 x.2 :: fam T x.2) ∧ Tel (joinF (mOf x.2)) (tot x.2) s.m)
theorem ok_joined (T : Txt K mg) : FnOk P w K mg base CX0 4 T.f_joined T.fd_joined ["shelves"] (spJoined T) := by
  refine fn_ok T.F_joined sc_joined (fun x => rfl) (fun cdv A outer s H E B x hr hx => ?_)
  have q0 : Nm n_joined "shelves" 0 := rfl; have q1 : Nm n_joined "best" 1 := rfl; have q2 : Nm n_joined "shelf" 2 := rfl; have q3 : Nm n_joined "number" 3 := rfl; have q4 : Nm n_joined "piece" 4 := rfl; have q5 : Nm n_joined "together" 5 := rfl
  obtain ⟨ls, L⟩ := x
  obtain ⟨hL, ht⟩ := hx
  dsimp only at hL ht
  have nd := sc_joined.nd
  have hu := hu1_of hr
  have hr1 := hr.mono (show 1 ≤ 3 by decide)
  repeat walk_at "y"
  intro bs
  repeat walk_at "y"
  -- for shelf in shelves
  refine ws_forM (α := Sh) (fun s => D.ref s.p) (fun pre G' S' => ∃ b, G' = [some (.ref ls), some (.ref bs), none, none, none, none] ∧ S' = ckD bs (kvI (dPc T) b) :: ckSh ls L :: fam T L ∧ Tel (joinF (mOf pre)) (tot pre) b) (pg_nm (by assumption) (by assumption)) ?_
  repeat walk_at "y"
  refine ⟨L, _, sq_own 1 rfl, ⟨[], rfl, rfl, ⟨fun k => rfl, List.nodup_nil, Nat.zero_le _⟩⟩, ?_, ?_, ?_⟩
  · rintro pre _ _ ⟨b, rfl, rfl, hb⟩
    simp
  · rintro pre sh post _ _ hsp ⟨b, rfl, rfl, hb⟩
    have hso : ShOk sh := hL sh (by rw [hsp]; simp)
    have htot := tot_split hsp
    have hperm := fam_split T hsp
    repeat walk_at "g"
    repeat walk_at "y"
    -- for number in shelf.numbers()
    refine ws_forM (α := Int) D.int (fun pre' G' S' => ∃ b, G' = [some (.ref ls), some (.ref bs), some (.ref sh.p), none, none, none] ∧ S' = shC T sh ++ (ckD bs (kvI (dPc T) b) :: ckSh ls L :: fam T (pre ++ post)) ∧ Tel (upTo (joinF (mOf pre)) (getI sh.m) pre') (tot pre + pre'.length) b) (pg_nm (by assumption) (by assumption)) ?_
    refine W_frzL (w_numbers T hr1 ?_)
    repeat walk_at "y"
    refine ⟨sh, ckD bs (kvI (dPc T) b) :: ckSh ls L :: fam T (pre ++ post), rfl, ?_, by omega, fun q => ⟨q, _, 0, rfl, rfl, ?_⟩⟩
    · refine List.Perm.trans ?_ (List.Perm.cons _ (List.Perm.cons _ hperm))
      exact List.perm_append_comm.trans (by
        show (ckD bs (kvI (dPc T) b) :: ckSh ls L :: (fam T (pre ++ post) ++ shC T sh)).Perm _
        exact List.Perm.cons _ (List.Perm.cons _ List.perm_append_comm))
    refine ⟨srt sh.ks, _, sq_lst, ⟨b, rfl, rfl, ⟨fun k => ?_, hb.nd, hb.len⟩⟩, fun _ _ _ _ => trivial, ?_, ?_⟩
    · rw [hb.g]; unfold upTo; rw [if_neg (by simp)]
    · rintro pre' n post' _ _ hsp' ⟨b, rfl, rfl, hb⟩
      have hmem : n ∈ srt sh.ks := by rw [hsp']; simp
      obtain ⟨pc, hpc⟩ := getI_iff.mpr (srt_mem.mp hmem)
      have hpo := hso.ok n pc hpc
      have hnp : n ∉ pre' := by
        have := srt_nodup hso.nd
        rw [hsp'] at this
        have h3 := (List.nodup_append.mp this).2.2
        exact fun z => h3 n z n (by simp) rfl
      have hlen : pre'.length + 1 ≤ sh.m.length := by
        have h1 := srt_len sh.ks
        rw [hsp', List.length_append, List.length_cons] at h1
        have h2 : sh.ks.length = sh.m.length := by unfold Sh.ks keysI; rw [List.length_map]
        omega
      have hst := tel_step hb hnp hpc
      have hbn : getI b n = joinF (mOf pre) n := by rw [hb.g]; unfold upTo; rw [if_neg hnp]
      have hsetl : ckD bs (setK (kvI (dPc T) b) (.inl n) (dPc T pc)) = ckD bs (kvI (dPc T) (setI b n pc)) := by rw [kvI_set]
      have fin : ∀ (b' : List (Int × Pc)), Tel (upTo (joinF (mOf pre)) (getI sh.m) (pre' ++ [n])) (tot pre + pre'.length + 1) b' → Tel (upTo (joinF (mOf pre)) (getI sh.m) (pre' ++ [n])) (tot pre + (pre' ++ [n]).length) b' := fun b' h => ⟨h.g, h.nd, by have := h.len; rw [List.length_append]; exact this⟩
      have hgd : getK (kvI (dPc T) b) (.inl n) = (getI b n).map (dPc T) := kvI_get b n
      repeat walk_at "g"
      repeat walk_at "y"
      refine w_piece T hr1 ?_
      repeat walk_at "y"
      refine ⟨sh, _, rfl, List.Perm.refl _, ?_⟩
      repeat walk_at "y"
      refine ⟨n, pc, _, rfl, List.Perm.refl _, hpc, ?_⟩
      repeat walk_at "y"
      refine ⟨_, .dctI 2 rfl, ?_⟩
      rw [hgd]
      cases hbv : getI b n with
      | none =>
        refine ⟨fun _ => ?_, fun h => absurd h (by simp)⟩
        refine ⟨fun _ => ?_, fun h => absurd h (by simp)⟩
        refine wss_cons (ws_dput hu ?_)
        repeat walk_at "y"
        refine ⟨bs, kvI (dPc T) b, .inl n, 2, rfl, rfl, rfl, by rw [kvI_len]; have := hb.len; omega, ?_⟩
        refine wss_nil ?_
        exact wss_end (by walk_at "wk") Pick.all ⟨setI b n pc, rfl, by rw [← kvI_set]; rfl, fin _ (hst.1 hbv)⟩
      | some q =>
        refine ⟨fun h => absurd h (by simp), fun _ => ?_⟩
        have hqo : q.Ok := joinF_ok (L := pre) (fun s hs => hL s (by rw [hsp]; simp [hs])) (hbn.symm.trans hbv)
        have hgq : getK (kvI (dPc T) b) (.inl n) = some (dPc T q) := by rw [hgd, hbv]; rfl
        have hst2 := hst.2 q hbv
        repeat walk_at "y"
        refine wT_val (w_good T (hr.mono (by decide)) ?_)
        repeat walk_at "y"
        refine ⟨pc, rfl, hpo, ?_⟩
        repeat walk_at "y"
        refine ⟨fun e1 => ?_, fun e1 => ?_⟩
        · rw [e1] at hst2
          repeat walk_at "y"
          refine wT_val (w_good T (hr.mono (by decide)) ?_)
          repeat walk_at "y"
          refine wr_ix (.dctI 2 rfl hgq) ?_
          refine ⟨q, rfl, hqo, ?_⟩
          repeat walk_at "y"
          refine ⟨fun e2 => ?_, fun e2 => ?_⟩
          · refine wss_cons (ws_dput hu ?_)
            repeat walk_at "y"
            refine ⟨bs, kvI (dPc T) b, .inl n, 2, rfl, rfl, rfl, by rw [kvI_len]; have := hb.len; omega, ?_⟩
            refine wss_nil ?_
            exact wss_end (by walk_at "wk") Pick.all ⟨setI b n pc, rfl, by rw [← kvI_set]; rfl, fin _ (hst2.1 e2)⟩
          · refine wss_nil ?_
            exact wss_end (by walk_at "wk") Pick.all ⟨_, rfl, rfl, fin _ (hst2.2 e2)⟩
        · rw [e1] at hst2
          refine ⟨fun e => absurd e (by decide), fun _ => ?_⟩
          refine wss_nil ?_
          exact wss_end (by walk_at "wk") Pick.all ⟨_, rfl, rfl, fin _ (hst2.2 rfl)⟩
    · rintro _ _ ⟨b, rfl, rfl, hb⟩
      have hb2 := tel_done hb (fun k => srt_mem)
      have hlenS : (srt sh.ks).length = sh.m.length := by rw [srt_len]; unfold Sh.ks keysI; rw [List.length_map]
      show wSs _ _ [] _ _ _
      refine wss_end (G' := [some (.ref ls), some (.ref bs), none, none, none, none]) (S' := ckD bs (kvI (dPc T) b) :: ckSh ls L :: fam T L) (by walk_at "wk") (Pick.perm' (List.Perm.trans (List.Perm.cons _ (List.Perm.cons _ hperm.symm)) ?_)) ?_
      rotate_left
      refine ⟨b, rfl, rfl, ⟨fun k => ?_, hb2.nd, ?_⟩⟩
      rotate_right
      · exact List.perm_append_comm (l₁ := [ckD bs (kvI (dPc T) b), ckSh ls L]) (l₂ := shC T sh) |>.append_right (fam T (pre ++ post))
      · rw [hb2.g]
        unfold mOf
        rw [List.map_append]
        exact (joinF_snoc _ _ k).symm
      · rw [tot_snoc, ← hlenS]; exact hb2.len
  · rintro _ _ ⟨b, rfl, rfl, hb⟩
    have hbl : (keysI b).length < 64 := by unfold keysI; rw [List.length_map]; have := hb.len; omega
    repeat walk_at "y"
    refine w_Shelf T (hr.mono (by decide)) fun tp td => ?_
    repeat walk_at "y"
    refine ws_forM (α := Int) D.int (fun pre G' S' => ∃ m o, G' = [some (.ref ls), some (.ref bs), none, none, none, some (.ref tp)] ∧ S' = shC T ⟨tp, td, m, o⟩ ++ (ckD bs (kvI (dPc T) b) :: ckSh ls L :: fam T L) ∧ Tel (fun k => if k ∈ pre then getI b k else none) pre.length m) (pg_nm (by assumption) (by assumption)) ?_
    refine W_frzL (w_sorted T.z_sorted ?_)
    repeat walk_at "y"
    refine ⟨keysI b, .dct 2 rfl (kvI_keys b) hbl, fun q => ⟨q, _, 0, rfl, rfl, ?_⟩⟩
    refine ⟨srt (keysI b), _, sq_lst, ⟨[], 0, rfl, rfl, ⟨fun k => by rw [if_neg (by simp)]; rfl, List.nodup_nil, Nat.le_refl _⟩⟩, fun _ _ _ _ => trivial, ?_, ?_⟩
    · rintro pre n post _ _ hsp ⟨m, o, rfl, rfl, hm⟩
      have hmem : n ∈ srt (keysI b) := by rw [hsp]; simp
      obtain ⟨pc, hpc⟩ := getI_iff.mpr (srt_mem.mp hmem)
      have hpl : pre.length < 64 := by
        have h1 := srt_len (keysI b)
        rw [hsp, List.length_append, List.length_cons] at h1
        omega
      have hgd : getK (kvI (dPc T) b) (.inl n) = some (dPc T pc) := by rw [kvI_get, hpc]; rfl
      repeat walk_at "g"
      repeat walk_at "y"
      refine w_lay T hr1 ?_
      repeat walk_at "y"
      refine ⟨⟨tp, td, m, o⟩, _, rfl, List.Perm.refl _, ?_⟩
      repeat walk_at "y"
      refine wr_ix (.dctI 2 rfl hgd) ?_
      repeat walk_at "y"
      refine ⟨n, pc, _, rfl, List.Perm.refl _, by have := hm.len; show m.length < 1000; omega, fun o' => ?_⟩
      refine wss_end (by walk_at "wk") Pick.all ⟨_, o', rfl, rfl, ⟨fun k => ?_, setI_nodup hm.nd, ?_⟩⟩
      · rw [getI_set, hm.g]
        by_cases e : k = n
        · subst e; rw [if_pos rfl, if_pos (by simp), hpc]
        · rw [if_neg e]
          by_cases e2 : k ∈ pre
          · rw [if_pos e2, if_pos (by simp [e2])]
          · rw [if_neg e2, if_neg (by simp [e2, e])]
      · rw [List.length_append, List.length_singleton]
        exact Nat.le_trans (setI_len m n pc) (Nat.succ_le_succ hm.len)
    · rintro _ _ ⟨m, o, rfl, rfl, hm⟩
      refine wss_cons (ws_ret (W_drop ?_))
      repeat walk_at "y"
      refine ⟨shC T ⟨tp, td, m, o⟩ ++ (ckSh ls L :: fam T L), [ckD bs (kvI (dPc T) b)], ?_, ⟨tp, td, m, o⟩, rfl, rfl, ⟨fun k => ?_, hm.nd, ?_⟩⟩
      · show ((shC T ⟨tp, td, m, o⟩ ++ (ckSh ls L :: fam T L)) ++ [ckD bs (kvI (dPc T) b)]).Perm (shC T ⟨tp, td, m, o⟩ ++ (ckD bs (kvI (dPc T) b) :: ckSh ls L :: fam T L))
        rw [List.append_assoc]
        exact List.Perm.append_left _ (List.perm_append_comm (l₂ := [ckD bs (kvI (dPc T) b)]))
      · rw [hm.g, ← hb.g]
        by_cases e : k ∈ srt (keysI b)
        · rw [if_pos e]
        · rw [if_neg e, getI_none_iff.mpr (fun z => e (srt_mem.mpr z))]
      · have h1 := hm.len
        rw [srt_len] at h1
        have h2 : (keysI b).length = b.length := by unfold keysI; rw [List.length_map]
        have := hb.len
        show m.length ≤ tot L
        omega
end
end K63
set_option Elab.async false
set_option maxRecDepth 100000
set_option linter.unusedVariables false
set_option maxHeartbeats 4000000
namespace K63
open PySem L2 PySem.Spec PyProof.Rows Sy
local macro_rules | `(tactic| walk_at "cnd") => `(tactic| first | decide | omega | assumption | (simp only [List.length_cons, List.length_nil]; omega) | (refine ⟨?_, ?_⟩ <;> omega))
local macro_rules | `(tactic| walk_at "y") => `(tactic| first
  | refine two_mk ?_ | refine one_mk ?_
  | refine cnd_mk (by walk_at "cnd") ?_
  | refine toB_mk ?_
  | refine wss_cons ?_
  | refine ws_ret ?_ | refine ws_retN ?_ | refine ws_if ?_ | refine ws_expr ?_
  | refine ws_set (by assumption) (by assumption) ?_
  | refine ws_fld ?_
  | refine ws_continue ?_ | refine ws_break ?_ | refine ws_pass ?_
  | refine w_name (by assumption) (by rfl) ?_
  | refine w_int ?_ | refine w_str ?_ | refine w_bool ?_ | refine w_none ?_
  | refine wA_nil ?_ | refine wA_cons ?_
  | refine w_add ?_ | refine w_sub ?_ | refine w_mul ?_ | refine w_mod ?_ | refine w_fdiv ?_ | refine w_pow ?_ | refine w_shl ?_ | refine w_shr ?_ | refine w_band ?_ | refine w_bor ?_ | refine w_xor ?_
  | refine w_tup ?_ | refine w_lst ?_ | refine w_dnew ?_ | refine w_neg ?_
  | refine w_ix (by assumption) ?_
  | refine wT_lt ?_ | refine wT_le ?_ | refine wT_gt ?_ | refine wT_ge ?_ | refine wT_lelt ?_
  | refine wT_eq (by assumption) ?_ | refine wT_ne (by assumption) ?_
  | refine wT_in (by assumption) ?_ | refine wT_notin (by assumption) ?_
  | refine wT_is ?_ | refine wT_isnot ?_
  | refine w_eq (by assumption) ?_ | refine w_ne (by assumption) ?_
  | refine wT_bool ?_ | refine wW_and ?_ | refine wW_and1 ?_ | refine wW_or ?_ | refine wW_or1 ?_ | refine wT_not ?_
  | refine w_not ?_ | refine w_and ?_ | refine w_or ?_ | refine w_one ?_
  | refine w_fld ?_
  | refine wr_addI ?_
  | refine wr_eqI ?_ | refine wr_neI ?_)
local macro_rules | `(tactic| walk_at "g") => `(tactic| first | refine WG_name ?_ | refine WG_tup _ rfl ?_ | refine WGs_cons ?_ | refine WGs_nil ?_)
local macro_rules | `(tactic| walk_at "wk") => `(tactic| first | exact Wk.nil | (first | refine Wk.keep ?_ | refine Wk.drop ?_); walk_at "wk")
local macro_rules | `(tactic| walk_at "pk") => `(tactic| first
  | exact Pick.nil
  | (refine Pick.cons 0 rfl ?_; walk_at "pk") | (refine Pick.cons 1 rfl ?_; walk_at "pk") | (refine Pick.cons 2 rfl ?_; walk_at "pk") | (refine Pick.cons 3 rfl ?_; walk_at "pk")
  | (refine Pick.cons 4 rfl ?_; walk_at "pk") | (refine Pick.cons 5 rfl ?_; walk_at "pk") | (refine Pick.cons 6 rfl ?_; walk_at "pk") | (refine Pick.cons 7 rfl ?_; walk_at "pk"))
local macro_rules | `(tactic| walk_at "cnd2") => `(tactic| first | walk_at "cnd" | exact divW_of (b := 64) (by decide) (by decide) | exact ⟨by decide, by decide, by decide⟩)
local macro_rules | `(tactic| walk_at "y2") => `(tactic| first | refine cnd_mk (by walk_at "cnd2") ?_ | walk_at "y")
def cellAt (ns : List Int) (k : Int) : Int := ns.getD k.toNat 0
def mixM (c k : Int) : Int := (c % 2147483647 + 48271 * k + 11) * 16807 % 2147483629
def mix (c k : Int) : Int := (mixM c k * mixM c k + 7919 * k) % 2147483587
theorem mix_b (c k : Int) : 0 ≤ mix c k ∧ mix c k < 2147483587 := by unfold mix; omega
theorem mixM_b (c k : Int) : 0 ≤ mixM c k ∧ mixM c k < 2147483629 := by unfold mixM; omega
def mkRows (m : Int) : List (Int × Int) := (List.range 3).map fun i : Nat => ((i : Int), m / 7 * ((i : Int) + 1) % 1000)
def mkCut (m : Int) : List (Int × Int) := ((mkRows m).drop (m / 30 % 2).toNat).take ((2 + m / 60 % 2).toNat - (m / 30 % 2).toNat)
def mkPc (m : Int) : Pc := if m % 3 = 0 then .whole (m / 3 % 50) (mkRows m) (checkOf (-1) (m / 3 % 50) (mkRows m))
  else .gain (m / 3 % 50) (m / 3 % 50 + 1 + m / 150 % 50) (mkCut m) (checkOf (m / 3 % 50) (m / 3 % 50 + 1 + m / 150 % 50) (mkCut m))
theorem mkRows_len (m : Int) : (mkRows m).length = 3 := rfl
theorem mkRows_ok (m : Int) : RowsOk (mkRows m) := fun p hp => by
  obtain ⟨i, hi, rfl⟩ := List.mem_map.mp hp
  have := List.mem_range.mp hi
  unfold B64
  dsimp only
  generalize m / 7 * ((i : Int) + 1) = z
  omega
theorem mkCut_ok (m : Int) : RowsOk (mkCut m) := fun p hp => mkRows_ok m p (List.mem_of_mem_drop (List.mem_of_mem_take hp))
theorem mkCut_len (m : Int) : 0 < (mkCut m).length ∧ (mkCut m).length ≤ 3 := by
  unfold mkCut
  rw [List.length_take, List.length_drop, mkRows_len]
  omega
theorem cut_eq (m : Int) : Sy.cutD ((mkRows m).map dRow) (some (m / 30 % 2)) (some (2 + m / 60 % 2)) = (mkCut m).map dRow := by
  unfold Sy.cutD mkCut HT.sIx
  dsimp only
  rw [List.length_map, mkRows_len, if_neg (by omega), if_neg (by omega), List.map_take, List.map_drop]
  congr 1
  · congr 1 <;> omega
  · congr 1; omega
theorem b64 {n : Int} (h : 0 ≤ n) (h2 : n < 1000) : B64 n := ⟨h, by omega⟩
theorem mkPc_ok (m : Int) (h : 0 ≤ m) : (mkPc m).Ok ∧ 0 < (mkPc m).rows.length := by
  unfold mkPc
  split
  · refine ⟨⟨?_, ?_, ?_, ?_⟩, ?_⟩ <;> dsimp only [Pc.start, Pc.day, Pc.rows]
    · exact b64 (by decide) (by decide)
    · exact b64 (by omega) (by omega)
    · exact mkRows_ok m
    · rw [mkRows_len]; decide
    · rw [mkRows_len]; decide
  · refine ⟨⟨?_, ?_, ?_, ?_⟩, ?_⟩ <;> dsimp only [Pc.start, Pc.day, Pc.rows]
    · exact b64 (by omega) (by omega)
    · exact b64 (by omega) (by omega)
    · exact mkCut_ok m
    · have := mkCut_len m; omega
    · exact (mkCut_len m).1
theorem good_w (d : Int) (r : List (Int × Int)) : (Pc.whole d r (checkOf (-1) d r)).good = true := by
  unfold Pc.good
  simp only [Pc.check, Pc.start, Pc.day, Pc.rows, decide_true]
theorem good_g (b d : Int) (r : List (Int × Int)) : (Pc.gain b d r (checkOf b d r)).good = true := by
  unfold Pc.good
  simp only [Pc.check, Pc.start, Pc.day, Pc.rows, decide_true]
theorem mkPc_good (m : Int) : (mkPc m).good = true := by
  unfold mkPc
  by_cases h : m % 3 = 0
  · rw [if_pos h]; exact good_w _ _
  · rw [if_neg h]; exact good_g _ _ _
def Pc.withCheck : Pc → Int → Pc | .whole d r _, c => .whole d r c | .gain b d r _, c => .gain b d r c
def spoil (p : Pc) (m : Int) : Pc := if m % 2 = 0 then p.harm (m / 2 % p.rows.length) (1 + m / 20 % 2 ^ 40) else p.withCheck ((p.check + 1 + m / 2 % 1000) % 2 ^ 64)
section
variable {P : Program} {w : World} {K : PySem.W.Frag} {mg : Str → Option Value} {base : Heap}
abbrev dSc (ns : List Int) : D := .lst (ns.map D.int)
abbrev spCell (K : PySem.W.Frag) : Sp := Spx K (I := List Int × Int) (fun x => 0 ≤ x.2) (fun x => [dSc x.1, .int x.2]) (fun _ => []) (fun x d S => d = .int (cellAt x.1 x.2) ∧ S = [])
theorem ok_cell_at (T : Txt K mg) : FnOk P w K mg base CX0 1 T.f__law_cell_at T.fd__law_cell_at ["_law_script", "_law_k"] (spCell K) := by
  refine fn_ok T.F__law_cell_at sc__law_cell_at (fun x => rfl) (fun cdv A outer s H E B x hr hx => ?_)
  have q0 : Nm n__law_cell_at "_law_script" 0 := rfl; have q1 : Nm n__law_cell_at "_law_k" 1 := rfl
  obtain ⟨ns, k⟩ := x
  dsimp only at hx
  have hu := hu1_of hr
  repeat walk_at "y"
  refine w_len T.z_len ?_
  repeat walk_at "y"
  refine ⟨_, .lst, ?_⟩
  rw [List.length_map]
  repeat walk_at "y"
  refine ⟨fun h => ?_, fun h => ?_⟩
  · have h := of_decide_eq_true h
    have h : k < (ns.length : Int) := h
    obtain ⟨z, hz⟩ : ∃ z, ns[k.toNat]? = some z := ⟨_, List.getElem?_eq_getElem (by omega)⟩
    repeat walk_at "y"
    refine wr_ix (.lst (d := .int (cellAt ns k)) ?_) ⟨rfl, rfl⟩
    unfold atI ixN cellAt
    rw [if_pos hx, if_pos (by rw [List.length_map]; exact h), List.getD_eq_getElem?_getD, hz]
    show (ns.map D.int)[k.toNat]? = _
    rw [List.getElem?_map, hz]
    rfl
  · have h : ¬ k < (ns.length : Int) := of_decide_eq_false h
    refine wss_nil ?_
    repeat walk_at "y"
    refine ⟨?_, rfl⟩
    show D.int 0 = D.int (cellAt ns k)
    unfold cellAt
    rw [List.getD_eq_getElem?_getD, List.getElem?_eq_none (by omega)]
    rfl
abbrev spWholeN (K : PySem.W.Frag) : Sp := Spx K (I := Int) (fun _ => True) (fun x => [.int x]) (fun _ => []) (fun x d S => d = .bl true ∧ S = [])
theorem ok_law_whole (T : Txt K mg) : FnOk P w K mg base CX0 1 T.f__law_whole T.fd__law_whole ["_law_found"] (spWholeN K) := by
  refine fn_ok T.F__law_whole sc__law_whole (fun x => rfl) (fun cdv A outer s H E B x hr hx => ?_)
  have q0 : Nm n__law_whole "_law_found" 0 := rfl
  repeat walk_at "y"
  refine w_isi T.z_isinstance T.z_int rfl ?_
  repeat walk_at "y"
  refine ⟨_, true, .int, rfl, ?_⟩
  repeat walk_at "y"
  refine ⟨fun _ => ?_, fun h => absurd h (by decide)⟩
  repeat walk_at "y"
  refine w_isi T.z_isinstance T.z_bool rfl ?_
  repeat walk_at "y"
  refine ⟨_, false, .int, rfl, ?_⟩
  repeat walk_at "y"
  exact ⟨rfl, rfl⟩
abbrev spMix (K : PySem.W.Frag) : Sp := Spx K (I := Int × Int) (fun x => 0 ≤ x.2 ∧ x.2 < 1000) (fun x => [.int x.1, .int x.2]) (fun _ => []) (fun x d S => d = .int (mix x.1 x.2) ∧ S = [])
theorem ok_mix (T : Txt K mg) : FnOk P w K mg base CX0 1 T.f__law_mix T.fd__law_mix ["_law_cell", "_law_k"] (spMix K) := by
  refine fn_ok T.F__law_mix sc__law_mix (fun x => rfl) (fun cdv A outer s H E B x hr hx => ?_)
  have q0 : Nm n__law_mix "_law_cell" 0 := rfl; have q1 : Nm n__law_mix "_law_k" 1 := rfl; have q2 : Nm n__law_mix "_law_m" 2 := rfl
  obtain ⟨c, k⟩ := x
  obtain ⟨h0, h1⟩ := hx
  dsimp only at h0 h1
  have hb := mixM_b c k
  have nd := sc__law_mix.nd
  repeat walk_at "y"
  refine wr_mulI (mulW_of (a := 64) (b := 64) ?_ ?_) ?_
  · omega
  · omega
  repeat walk_at "y"
  refine wr_mulI (mulW_of (a := 64) (b := 64) ?_ ?_) ?_
  · omega
  · omega
  repeat walk_at "y"
  refine wr_mulI (mulW_of (i := mixM c k) (j := mixM c k) (a := 64) (b := 64) ?_ ?_) ?_
  · omega
  · omega
  repeat walk_at "y"
  refine wr_mulI (mulW_of (a := 64) (b := 64) ?_ ?_) ?_
  · omega
  · omega
  repeat walk_at "y"
  exact ⟨rfl, rfl⟩
abbrev spMkPiece (T : Txt K mg) : Sp := Spx K (I := Int × Int × Bool) (fun x => (0 ≤ x.1 ∧ x.1 < 2 ^ 40) ∧ 0 ≤ x.2.1 ∧ x.2.1 < 2 ^ 40) (fun x => [.int x.1, .int x.2.1, .bl x.2.2]) (fun _ => []) (fun x d S => d = dPc T (mkPc (if x.2.2 = true then x.2.1 * 7919 + 12 else x.1)) ∧ S = [])
theorem ok_mkPiece (T : Txt K mg) : FnOk P w K mg base CX0 6 T.f__law_piece T.fd__law_piece ["_law_m", "_law_number", "_law_alike_here"] (spMkPiece T) := by
  refine fn_ok T.F__law_piece sc__law_piece (fun x => rfl) (fun cdv A outer s H E B x hr hx => ?_)
  have q0 : Nm n__law_piece "_law_m" 0 := rfl; have q1 : Nm n__law_piece "_law_number" 1 := rfl; have q2 : Nm n__law_piece "_law_alike_here" 2 := rfl; have q3 : Nm n__law_piece "_law_rows" 3 := rfl; have q4 : Nm n__law_piece "_law_base" 4 := rfl; have q5 : Nm n__law_piece "_law_place" 5 := rfl
  obtain ⟨m0, n, b⟩ := x
  obtain ⟨⟨h0, h1⟩, h2, h3⟩ := hx
  dsimp only at h0 h1 h2 h3
  have nd := sc__law_piece.nd
  have hu64 := hr.units
  -- behind the first if
  have rest : ∀ m : Int, 0 ≤ m → m < 2 ^ 60 → m = (if b = true then n * 7919 + 12 else m0) → wSs (cxOf CX0 P w K mg base n__law_piece "_law_piece" (defScope s__law_piece) T.f__law_piece cdv A outer s H E).nox B ((defBody s__law_piece).drop 1) { nx := fun _ S' => D.non = dPc T (mkPc (if b = true then n * 7919 + 12 else m0)) ∧ S' = [], rt := fun d S' => d = dPc T (mkPc (if b = true then n * 7919 + 12 else m0)) ∧ S' = [] } [some (.int m), some (.int n), some (.bl b), none, none, none] [] := by
    intro m h0 h1 hm
    rw [← hm]
    refine wss_cons (ws_setLc (g := gName 5) (defScope s__law_piece) [("_law_place", 5)] q3 nd (fun b => pg_nm (Ns := n__law_piece) rfl nd) (tgOk_name (by decide)) ?_)
    refine wI_rng1 T.z_range ?_
    repeat walk_at "y"
    refine lcK_range (f := fun i : Nat => dRow ((i : Int), m / 7 * ((i : Int) + 1) % 1000)) (by decide) ?_ ?_
    · intro i hi p acc
      repeat walk_at "g"
      intro b
      repeat walk_at "y2"
      refine wr_mulI (mulW_of (a := 64) (b := 64) ?_ ?_) ?_
      · omega
      · omega
      repeat walk_at "y2"
      refine ⟨?_, rfl⟩
      show D.tup [.int (0 + (i : Int)), .int (m / 7 * (0 + (i : Int) + 1) % 1000)] = _
      rw [Int.zero_add]
      rfl
    intro q
    have hr3 : (List.range 3).map (fun i : Nat => dRow ((i : Int), m / 7 * ((i : Int) + 1) % 1000)) = (mkRows m).map dRow := by unfold mkRows; rw [List.map_map]; rfl
    show wSs _ _ _ _ _ (ckL q ((List.range 3).map (fun i : Nat => dRow ((i : Int), m / 7 * ((i : Int) + 1) % 1000))) :: [])
    rw [hr3]
    repeat walk_at "y"
    refine ⟨fun e => ?_, fun e => ?_⟩
    · have e : m % 3 = 0 := of_decide_eq_true e
      refine wss_cons (ws_ret (W_drop (w_Whole T (hr.mono (by decide)) ?_)))
      repeat walk_at "y2"
      refine ⟨m / 3 % 50, _, [ckL q ((mkRows m).map dRow)], mkRows m, [], rfl, .own, by rw [mkRows_len]; decide, b64 (by omega) (by omega), mkRows_ok m, .cons 0 rfl .nil, [], _, .nil, ?_, rfl⟩
      unfold mkPc
      rw [if_pos e]
      exact Eq.refl _
    · have e : ¬ m % 3 = 0 := of_decide_eq_false e
      refine wss_nil ?_
      repeat walk_at "y2"
      refine W_drop (w_Gain T (hr.mono (by decide)) ?_)
      repeat walk_at "y2"
      refine w_slice ?_
      repeat walk_at "y2"
      refine ⟨(mkRows m).map dRow, .inr ⟨q, 0, rfl, rfl⟩, fun p => ?_⟩
      rw [cut_eq]
      repeat walk_at "y2"
      refine ⟨m / 3 % 50, m / 3 % 50 + 1 + m / 150 % 50, _, [ckL p ((mkCut m).map dRow)], mkCut m, [ckL q ((mkRows m).map dRow)], rfl, .own, by have := mkCut_len m; omega, b64 (by omega) (by omega), b64 (by omega) (by omega), mkCut_ok m, .cons 0 rfl .nil, [], _, .nil, ?_, rfl⟩
      unfold mkPc
      rw [if_neg e]
      exact Eq.refl _
  refine wss_cons (ws_if ?_)
  refine wT_val ?_
  repeat walk_at "y"
  refine ⟨fun e => ?_, fun e => ?_⟩
  · have e : b = true := e
    subst e
    repeat walk_at "y"
    refine wr_mulI (mulW_of (a := 64) (b := 64) ?_ ?_) ?_
    · dsimp only; omega
    · omega
    repeat walk_at "y"
    refine wss_nil ?_
    exact rest (n * 7919 + 12) (by omega) (by omega) rfl
  · have e : b = false := e
    subst e
    refine wss_nil ?_
    exact rest _ (by omega) (by omega) rfl
end
theorem ok_sw : PyData.strOk ("whole" : Str) = true := by decide +kernel
theorem ok_sg : PyData.strOk ("gain" : Str) = true := by decide +kernel
theorem kind_ok (p : Pc) : PyData.strOk p.kind = true := by
  cases p
  · exact ok_sw
  · exact ok_sg
theorem eqv_ww : PyData.eqv (.str ("whole" : Str)) (.str ("whole" : Str)) = true := by decide +kernel
theorem eqv_gw : PyData.eqv (.str ("gain" : Str)) (.str ("whole" : Str)) = false := by decide +kernel
theorem eqv_kind (p : Pc) : PyData.eqv (.str p.kind) (.str ("whole" : Str)) = p.isW := by
  cases p
  · exact eqv_ww
  · exact eqv_gw
section
variable {X : Cx}
def mbHarmW (T : Txt X.K X.mg) (hr : Room 7 X.A) : MethB X "harmed" := ⟨T.C_Whole, _, _, _, 7, [], [], _, _, _, _, _, T.c_Whole, T.me_Whole_harmed, ok_Piece_harmed T, hr, b_Piece_harmed T, .nil⟩
def mbHarmG (T : Txt X.K X.mg) (hr : Room 7 X.A) : MethB X "harmed" := ⟨T.C_Gain, _, _, _, 7, [], [], _, _, _, _, _, T.c_Gain, T.me_Gain_harmed, ok_Piece_harmed T, hr, b_Piece_harmed T, .nil⟩
end
section
variable {P : Program} {w : World} {K : PySem.W.Frag} {mg : Str → Option Value} {base : Heap}
abbrev spSpoilt (T : Txt K mg) : Sp := Spx K (I := Pc × Int) (fun x => (x.1.Ok ∧ 0 < x.1.rows.length) ∧ 0 ≤ x.2 ∧ x.2 < 2 ^ 40) (fun x => [dPc T x.1, .int x.2]) (fun _ => []) (fun x d S => d = dPc T (spoil x.1 x.2) ∧ S = [])
theorem ok_spoilt (T : Txt K mg) : FnOk P w K mg base CX0 8 T.f__law_spoilt T.fd__law_spoilt ["_law_piece_here", "_law_m"] (spSpoilt T) := by
  refine fn_ok T.F__law_spoilt sc__law_spoilt (fun x => rfl) (fun cdv A outer s H E B x hr hx => ?_)
  have q0 : Nm n__law_spoilt "_law_piece_here" 0 := rfl; have q1 : Nm n__law_spoilt "_law_m" 1 := rfl; have q2 : Nm n__law_spoilt "_law_check" 2 := rfl
  obtain ⟨p, m⟩ := x
  obtain ⟨⟨hp, hl⟩, h0, h1⟩ := hx
  dsimp only at hp hl h0 h1
  have nd := sc__law_spoilt.nd
  have hu64 := hr.units
  have hu := hu1_of hr
  repeat walk_at "y2"
  refine ⟨fun e => ?_, fun e => ?_⟩
  · have e : m % 2 = 0 := of_decide_eq_true e
    have hsp : spoil p m = p.harm (m / 2 % p.rows.length) (1 + m / 20 % 2 ^ 40) := if_pos e
    have hls : (0 : Int) < (p.rows.length : Int) := by omega
    have m1 := Int.emod_nonneg (m / 2) (b := (p.rows.length : Int)) (by omega)
    have m2 := Int.emod_lt_of_pos (m / 2) hls
    have hbits : B64 (1 + m / 20 % 2 ^ 40) := ⟨by omega, by omega⟩
    refine wss_cons (ws_ret (w_meth ?_))
    repeat walk_at "y2"
    cases hw : p.isW with
    | true =>
      cases p with
      | gain b d r c => cases hw
      | whole d r c =>
        refine ⟨mbHarmW T hr, .ins rfl, ?_⟩
        repeat walk_at "y2"
        refine w_size T (hr.mono (by decide)) ?_
        repeat walk_at "y2"
        refine ⟨.whole d r c, rfl, ?_⟩
        repeat walk_at "y2"
        refine ⟨(.whole d r c, m / 2 % (r.length : Int), 1 + m / 20 % 2 ^ 40), [], ⟨hp, m1, m2, hbits⟩, rfl, .nil, ?_⟩
        rintro _ _ ⟨rfl, rfl⟩
        exact ⟨by rw [hsp]; exact Eq.refl _, rfl⟩
    | false =>
      cases p with
      | whole d r c => cases hw
      | gain b d r c =>
        refine ⟨mbHarmG T hr, .ins rfl, ?_⟩
        repeat walk_at "y2"
        refine w_size T (hr.mono (by decide)) ?_
        repeat walk_at "y2"
        refine ⟨.gain b d r c, rfl, ?_⟩
        repeat walk_at "y2"
        refine ⟨(.gain b d r c, m / 2 % (r.length : Int), 1 + m / 20 % 2 ^ 40), [], ⟨hp, m1, m2, hbits⟩, rfl, .nil, ?_⟩
        rintro _ _ ⟨rfl, rfl⟩
        exact ⟨by rw [hsp]; exact Eq.refl _, rfl⟩
  · have e : ¬ m % 2 = 0 := of_decide_eq_false e
    have hsp : spoil p m = p.withCheck ((p.check + 1 + m / 2 % 1000) % 2 ^ 64) := if_neg e
    refine wss_nil ?_
    refine wss_cons (ws_set (by assumption) (by assumption) (w_mod (w_add (w_add (w_pcheck T ?_)))))
    repeat walk_at "y2"
    refine ⟨p, rfl, ?_⟩
    repeat walk_at "y2"
    refine w_kind T (hr.mono (by decide)) ?_
    repeat walk_at "y2"
    refine ⟨p, rfl, ?_⟩
    repeat walk_at "y2"
    refine wr_eq (d := .str p.kind) (e := .str "whole") (.str (kind_ok p)) (.str ok_sw) ?_
    rw [eqv_kind]
    repeat walk_at "y2"
    have cb : B64 ((p.check + 1 + m / 2 % 1000) % 2 ^ 64) := ⟨by omega, by omega⟩
    cases p with
    | whole d r c =>
      refine ⟨fun _ => ?_, fun e => (nomatch (show true = false from e))⟩
      refine wss_cons (ws_ret (w_WholeC T (hr.mono (by decide)) ?_))
      refine wA_cons (w_pday T ?_)
      repeat walk_at "y2"
      refine ⟨.whole d r c, rfl, ?_⟩
      refine wA_cons (w_prows T ?_)
      repeat walk_at "y2"
      refine ⟨.whole d r c, rfl, ?_⟩
      repeat walk_at "y2"
      exact ⟨d, _, [], r, _, [], rfl, .tup, hp.n, hp.d, hp.r, .nil, by rw [hsp]; exact Eq.refl _, rfl⟩
    | gain b d r c =>
      refine ⟨fun e => (nomatch (show false = true from e)), fun _ => ?_⟩
      refine wss_nil ?_
      refine wss_cons (ws_ret (W_drop (w_GainC T (hr.mono (by decide)) ?_)))
      refine wA_cons (w_start T (hr.mono (by decide)) ?_)
      repeat walk_at "y2"
      refine ⟨.gain b d r c, rfl, ?_⟩
      refine wA_cons (w_pday T ?_)
      repeat walk_at "y2"
      refine ⟨.gain b d r c, rfl, ?_⟩
      refine wA_cons (w_list T.z_list rfl (w_prows T ?_))
      repeat walk_at "y2"
      refine ⟨.gain b d r c, rfl, _, .tup, fun q => ?_⟩
      repeat walk_at "y2"
      exact ⟨b, d, _, [ckL q (r.map dRow)], r, _, [], rfl, .own, hp.n, hp.s, hp.d, hp.r, .cons 0 rfl .nil, [], _, .nil, by rw [hsp]; exact Eq.refl _, rfl⟩
abbrev dShown (p : Pc) : D := .tup [.str p.kind, .int p.start, .int p.day, dRows p.rows, .int p.check]
abbrev spShown (T : Txt K mg) : Sp := Spx K (I := Pc) (fun _ => True) (fun x => [dPc T x]) (fun _ => []) (fun x d S => d = dShown x ∧ S = [])
theorem ok_shown (T : Txt K mg) : FnOk P w K mg base CX0 2 T.f__law_shown T.fd__law_shown ["_law_piece_here"] (spShown T) := by
  refine fn_ok T.F__law_shown sc__law_shown (fun x => rfl) (fun cdv A outer s H E B p hr hx => ?_)
  have q0 : Nm n__law_shown "_law_piece_here" 0 := rfl
  repeat walk_at "y2"
  refine w_kind T (hr.mono (by decide)) ?_
  repeat walk_at "y2"
  refine ⟨p, rfl, ?_⟩
  refine wA_cons (w_start T (hr.mono (by decide)) ?_)
  repeat walk_at "y2"
  refine ⟨p, rfl, ?_⟩
  refine wA_cons (w_pday T ?_)
  repeat walk_at "y2"
  refine ⟨p, rfl, ?_⟩
  refine wA_cons (w_prows T ?_)
  repeat walk_at "y2"
  refine ⟨p, rfl, ?_⟩
  refine wA_cons (w_pcheck T ?_)
  repeat walk_at "y2"
  refine ⟨p, rfl, ?_⟩
  repeat walk_at "y2"
  exact ⟨rfl, rfl⟩
end
end K63
set_option Elab.async false
set_option maxRecDepth 100000
set_option linter.unusedVariables false
set_option maxHeartbeats 4000000
namespace K63
open PySem L2 PySem.Spec PyProof.Rows Sy
local macro_rules | `(tactic| walk_at "cnd") => `(tactic| first | decide | omega | assumption | (simp only [List.length_cons, List.length_nil]; omega) | (refine ⟨?_, ?_⟩ <;> omega))
local macro_rules | `(tactic| walk_at "y") => `(tactic| first
  | refine two_mk ?_ | refine one_mk ?_
  | refine cnd_mk (by walk_at "cnd") ?_
  | refine toB_mk ?_
  | refine wss_cons ?_
  | refine ws_ret ?_ | refine ws_retN ?_ | refine ws_if ?_ | refine ws_expr ?_
  | refine ws_set (by assumption) (by assumption) ?_
  | refine ws_fld ?_
  | refine ws_continue ?_ | refine ws_break ?_ | refine ws_pass ?_
  | refine w_name (by assumption) (by rfl) ?_
  | refine w_int ?_ | refine w_str ?_ | refine w_bool ?_ | refine w_none ?_
  | refine wA_nil ?_ | refine wA_cons ?_
  | refine w_add ?_ | refine w_sub ?_ | refine w_mul ?_ | refine w_mod ?_ | refine w_fdiv ?_ | refine w_pow ?_ | refine w_shl ?_ | refine w_shr ?_ | refine w_band ?_ | refine w_bor ?_ | refine w_xor ?_
  | refine w_tup ?_ | refine w_lst ?_ | refine w_dnew ?_ | refine w_neg ?_
  | refine w_ix (by assumption) ?_
  | refine wT_lt ?_ | refine wT_le ?_ | refine wT_gt ?_ | refine wT_ge ?_ | refine wT_lelt ?_
  | refine wT_eq (by assumption) ?_ | refine wT_ne (by assumption) ?_
  | refine wT_in (by assumption) ?_ | refine wT_notin (by assumption) ?_
  | refine wT_is ?_ | refine wT_isnot ?_
  | refine w_eq (by assumption) ?_ | refine w_ne (by assumption) ?_
  | refine wT_bool ?_ | refine wW_and ?_ | refine wW_and1 ?_ | refine wW_or ?_ | refine wW_or1 ?_ | refine wT_not ?_
  | refine w_not ?_ | refine w_and ?_ | refine w_or ?_ | refine w_one ?_
  | refine w_fld ?_
  | refine wr_addI ?_
  | refine wr_eqI ?_ | refine wr_neI ?_)
local macro_rules | `(tactic| walk_at "g") => `(tactic| first | refine WG_name ?_ | refine WG_tup _ rfl ?_ | refine WGs_cons ?_ | refine WGs_nil ?_)
local macro_rules | `(tactic| walk_at "wk") => `(tactic| first | exact Wk.nil | (first | refine Wk.keep ?_ | refine Wk.drop ?_); walk_at "wk")
local macro_rules | `(tactic| walk_at "pk") => `(tactic| first
  | exact Pick.nil
  | (refine Pick.cons 0 rfl ?_; walk_at "pk") | (refine Pick.cons 1 rfl ?_; walk_at "pk") | (refine Pick.cons 2 rfl ?_; walk_at "pk") | (refine Pick.cons 3 rfl ?_; walk_at "pk")
  | (refine Pick.cons 4 rfl ?_; walk_at "pk") | (refine Pick.cons 5 rfl ?_; walk_at "pk") | (refine Pick.cons 6 rfl ?_; walk_at "pk") | (refine Pick.cons 7 rfl ?_; walk_at "pk"))
local macro_rules | `(tactic| walk_at "cnd2") => `(tactic| first | walk_at "cnd" | exact divW_of (b := 64) (by decide) (by decide) | exact ⟨by decide, by decide, by decide⟩)
local macro_rules | `(tactic| walk_at "y2") => `(tactic| first | refine cnd_mk (by walk_at "cnd2") ?_ | walk_at "y")
theorem set_split {α : Type} {xs : List α} {i : Nat} {x : α} (h : i < xs.length) : ∃ pre a post, xs = pre ++ a :: post ∧ xs.set i x = pre ++ x :: post ∧ xs[i]? = some a :=
  ⟨xs.take i, xs[i], xs.drop (i + 1), by rw [← List.drop_eq_getElem_cons h, List.take_append_drop], List.set_eq_take_append_cons_drop.trans (if_pos h), List.getElem?_eq_getElem h⟩
theorem harm_bad {s d c b : Int} {rows : List (Int × Int)} {i : Int} (hs : B64 (s + 1)) (hd : B64 d) (hr : RowsOk rows) (h0 : 0 ≤ i) (hi : i < rows.length) (hb : B64 b) (hb1 : 0 < b) (hc : c = checkOf s d rows) : ¬ c = checkOf s d (hRows rows i b) := by
  obtain ⟨pre, ⟨a, z⟩, post, e1, e2, e3⟩ := set_split (xs := rows) (i := i.toNat) (x := hRow b (rows.getD i.toNat (0, 0))) (by omega)
  have e4 : hRows rows i b = pre ++ (a, Builtin.bitXor z b) :: post := by
    unfold hRows
    rw [e2, List.getD_eq_getElem?_getD, e3]
    rfl
  rw [hc, e4]
  have hz : B64 z := (hr (a, z) (by rw [e1]; simp)).2
  rw [e1] at hr ⊢
  exact check_other hs hd hr (xor_b hz hb) (xor_ne hz.1 hb1)
theorem mod_ne {c k : Int} (hc : B64 c) (h0 : 0 < k) (h1 : k < 2000) : ¬ (c + k) % 18446744073709551616 = c := by
  obtain ⟨a, b⟩ := hc
  omega
theorem spoil_bad {p : Pc} {m : Int} (hp : p.Ok) (hl : 0 < p.rows.length) (hg : p.good = true) (h0 : 0 ≤ m) : (spoil p m).good = false := by
  have hck : p.check = checkOf p.start p.day p.rows := of_decide_eq_true hg
  unfold spoil
  by_cases e : m % 2 = 0
  · rw [if_pos e]
    have hls : (0 : Int) < (p.rows.length : Int) := by omega
    have m1 := Int.emod_nonneg (m / 2) (b := (p.rows.length : Int)) (by omega)
    have m2 := Int.emod_lt_of_pos (m / 2) hls
    have hbits : B64 (1 + m / 20 % 2 ^ 40) := ⟨by omega, by omega⟩
    have hbad := harm_bad hp.s hp.d hp.r m1 m2 hbits (by omega) hck
    cases p with
    | whole d r c => exact decide_eq_false hbad
    | gain b d r c => exact decide_eq_false hbad
  · rw [if_neg e]
    have hcb : B64 p.check := by rw [hck]; exact checkOf_b hp.s hp.d hp.r
    have hne : ¬ (p.check + 1 + m / 2 % 1000) % 2 ^ 64 = checkOf p.start p.day p.rows := by
      rw [← hck]
      have := mod_ne (k := 1 + m / 2 % 1000) hcb (by omega) (by omega)
      rw [← Int.add_assoc] at this
      exact this
    cases p with
    | whole d r c => exact decide_eq_false hne
    | gain b d r c => exact decide_eq_false hne
theorem spoil_ok {p : Pc} {m : Int} (hp : p.Ok) (hl : 0 < p.rows.length) (h0 : 0 ≤ m) : (spoil p m).Ok := by
  unfold spoil
  by_cases e : m % 2 = 0
  · rw [if_pos e]
    have hls : (0 : Int) < (p.rows.length : Int) := by omega
    have m1 := Int.emod_nonneg (m / 2) (b := (p.rows.length : Int)) (by omega)
    have m2 := Int.emod_lt_of_pos (m / 2) hls
    have hbits : B64 (1 + m / 20 % 2 ^ 40) := ⟨by omega, by omega⟩
    have hr := hRows_ok (b := 1 + m / 20 % 2 ^ 40) hp.r hbits m1 m2
    have hn : (hRows p.rows (m / 2 % p.rows.length) (1 + m / 20 % 2 ^ 40)).length < 1000 := by rw [hRows_len]; exact hp.n
    cases p with
    | whole d r c => exact ⟨hp.s, hp.d, hr, hn⟩
    | gain b d r c => exact ⟨hp.s, hp.d, hr, hn⟩
  · rw [if_neg e]
    cases p with
    | whole d r c => exact ⟨hp.s, hp.d, hp.r, hp.n⟩
    | gain b d r c => exact ⟨hp.s, hp.d, hp.r, hp.n⟩
/-- a shelf, and where its row of the model stands -/
abbrev Cell := Sh × Addr
def totC (L : List Cell) : Nat := tot (L.map (·.1))
structure CellsOk (L : List Cell) (n : Nat) : Prop where
  ok : ∀ c ∈ L, ShOk c.1
  tot : totC L ≤ n
theorem shOk_set {s : Sh} {n : Int} {p : Pc} {o : Int} (h : ShOk s) (hp : p.Ok) : ShOk ⟨s.p, s.d, setI s.m n p, o⟩ := by
  refine ⟨setI_nodup h.nd, fun k q hq => ?_⟩
  rw [getI_set] at hq
  by_cases e : k = n
  · rw [if_pos e] at hq; cases hq; exact hp
  · rw [if_neg e] at hq; exact h.ok k q hq
theorem pick_mid {A C Z F : Cks} (h : (C ++ Z).Perm F) : Pick (A ++ F) C (A ++ Z) := by
  show (C ++ (A ++ Z)).Perm (A ++ F)
  rw [← List.append_assoc]
  refine (List.perm_append_comm.append_right Z).trans ?_
  rw [List.append_assoc]
  exact h.append_left A
section
variable {P : Program} {w : World} {K : PySem.W.Frag} {mg : Str → Option Value} {base : Heap}
abbrev dTold (p : Pc) : D := .tup [.bl p.good, dShown p]
abbrev cellC (T : Txt K mg) (c : Cell) : Cks := shC T c.1 ++ [ckD c.2 (kvI dTold c.1.m)]
def fam2 (T : Txt K mg) (L : List Cell) : Cks := L.flatMap fun c => cellC T c
theorem fam2_split (T : Txt K mg) {L pre post : List Cell} {c : Cell} (h : L = pre ++ c :: post) : (cellC T c ++ fam2 T (pre ++ post)).Perm (fam2 T L) := by
  subst h
  unfold fam2
  rw [List.flatMap_append, List.flatMap_append, List.flatMap_cons, ← List.append_assoc, ← List.append_assoc]
  exact List.perm_append_comm.append_right _
abbrev ckSome (ls : Addr) (L : List Cell) : Ck := ckL ls (L.map fun c => D.ref c.1.p)
abbrev ckMod (lm : Addr) (L : List Cell) : Ck := ckL lm (L.map fun c => D.ref c.2)
theorem split_at {α : Type} {L : List α} {i : Nat} (h : i < L.length) : ∃ pre c post, L = pre ++ c :: post ∧ pre.length = i := ⟨L.take i, L[i], L.drop (i + 1), by rw [← List.drop_eq_getElem_cons h, List.take_append_drop], by rw [List.length_take]; omega⟩
theorem atI_mid {α : Type} {pre post : List α} {c : α} {f : α → D} {i : Int} (h0 : 0 ≤ i) (h : pre.length = i.toNat) : atI ((pre ++ c :: post).map f) i = some (f c) := by
  unfold atI ixN
  rw [if_pos h0, if_pos (by rw [List.length_map, List.length_append, List.length_cons]; omega)]
  show ((pre ++ c :: post).map f)[i.toNat]? = _
  rw [List.getElem?_map, List.getElem?_append_right (by omega), h, Nat.sub_self]
  rfl
theorem totC_mid {pre post : List Cell} {c : Cell} : totC (pre ++ c :: post) = totC pre + c.1.m.length + totC post := by
  unfold totC tot
  simp only [List.map_append, List.map_cons, List.sum_append, List.sum_cons]
  omega
theorem laid_fin (T : Txt K mg) {L' pre post : List Cell} {c : Cell} {ls lm : Addr} {num o : Int} {p : Pc} {g : Bool} {i : Nat} (hs : L' = pre ++ c :: post) (hc : CellsOk L' i) (hp : p.Ok) (hg : p.good = g) :
    (ckSome ls (pre ++ (⟨c.1.p, c.1.d, setI c.1.m num p, o⟩, c.2) :: post) :: ckMod lm (pre ++ (⟨c.1.p, c.1.d, setI c.1.m num p, o⟩, c.2) :: post) :: fam2 T (pre ++ (⟨c.1.p, c.1.d, setI c.1.m num p, o⟩, c.2) :: post)).Perm
      (shC T ⟨c.1.p, c.1.d, setI c.1.m num p, o⟩ ++ (ckSome ls L' :: ckMod lm L' :: ckD c.2 (setK (kvI dTold c.1.m) (.inl num) (.tup [.bl g, dShown p])) :: fam2 T (pre ++ post))) ∧
    (pre ++ ((⟨c.1.p, c.1.d, setI c.1.m num p, o⟩, c.2) : Cell) :: post).length = L'.length ∧ CellsOk (pre ++ (⟨c.1.p, c.1.d, setI c.1.m num p, o⟩, c.2) :: post) (i + 1) := by
  subst hs
  subst hg
  have e1 : setK (kvI dTold c.1.m) (.inl num) (.tup [.bl p.good, dShown p]) = kvI dTold (setI c.1.m num p) := kvI_set (enc := dTold) c.1.m num p
  have e2 : ∀ (f : Cell → D), f (⟨c.1.p, c.1.d, setI c.1.m num p, o⟩, c.2) = f c → (pre ++ ((⟨c.1.p, c.1.d, setI c.1.m num p, o⟩, c.2) : Cell) :: post).map f = (pre ++ c :: post).map f := fun f h => by rw [List.map_append, List.map_append, List.map_cons, List.map_cons, h]
  refine ⟨?_, by simp, fun d hd => ?_, ?_⟩
  · rw [e1]
    have := pick_mid (A := [ckSome ls (pre ++ c :: post), ckMod lm (pre ++ c :: post)]) (C := shC T ⟨c.1.p, c.1.d, setI c.1.m num p, o⟩) (Z := ckD c.2 (kvI dTold (setI c.1.m num p)) :: fam2 T (pre ++ post)) (F := fam2 T (pre ++ (⟨c.1.p, c.1.d, setI c.1.m num p, o⟩, c.2) :: post)) (by
      have := fam2_split T (L := pre ++ (⟨c.1.p, c.1.d, setI c.1.m num p, o⟩, c.2) :: post) rfl
      rw [List.append_assoc] at this
      exact this)
    refine List.Perm.trans ?_ (show List.Perm _ _ from this.symm)
    unfold ckSome ckMod
    rw [e2 (fun c => D.ref c.1.p) rfl, e2 (fun c => D.ref c.2) rfl]
    exact List.Perm.refl _
  · rcases List.mem_append.mp hd with h | h
    · exact hc.ok d (by simp [h])
    · rcases List.mem_cons.mp h with h | h
      · subst h; exact shOk_set (hc.ok c (by simp)) hp
      · exact hc.ok d (by simp [h])
  · have h1 := hc.tot
    rw [totC_mid] at h1 ⊢
    have := setI_len c.1.m num p
    dsimp only
    omega
structure LIn where
  ns : List Int
  ls : Addr
  lm : Addr
  L : List Cell
abbrev spLaid (T : Txt K mg) : Sp := Spx K (I := LIn) (fun x => (x.ns.length ≤ 63 ∧ 0 < x.L.length ∧ x.L.length < 1000) ∧ CellsOk x.L 0) (fun x => [dSc x.ns, .ref x.ls, .ref x.lm]) (fun x => ckSome x.ls x.L :: ckMod x.lm x.L :: fam2 T x.L)
  (fun x d S => d = .non ∧ ∃ L', L'.length = x.L.length ∧ CellsOk L' 59 ∧ S = ckSome x.ls L' :: ckMod x.lm L' :: fam2 T L')
theorem ok_laid (T : Txt K mg) : FnOk P w K mg base CX0 9 T.f__law_laid T.fd__law_laid ["_law_script", "_law_some", "_law_models"] (spLaid T) := by
  refine fn_ok T.F__law_laid sc__law_laid (fun x => rfl) (fun cdv A outer s H E B x hr hx => ?_)
  have q0 : Nm n__law_laid "_law_script" 0 := rfl; have q1 : Nm n__law_laid "_law_some" 1 := rfl; have q2 : Nm n__law_laid "_law_models" 2 := rfl; have q3 : Nm n__law_laid "_law_alike_here" 3 := rfl; have q4 : Nm n__law_laid "_law_k" 4 := rfl
  have q5 : Nm n__law_laid "_law_m" 5 := rfl; have q6 : Nm n__law_laid "_law_number" 6 := rfl; have q7 : Nm n__law_laid "_law_piece_here" 7 := rfl; have q8 : Nm n__law_laid "_law_good" 8 := rfl; have q9 : Nm n__law_laid "_law_side" 9 := rfl
  obtain ⟨ns, ls, lm, L⟩ := x
  obtain ⟨⟨hns, hl0, hl1⟩, hL⟩ := hx
  dsimp only at hns hl0 hl1 hL
  have nd := sc__law_laid.nd
  have hu64 := hr.units
  have hu := hu1_of hr
  have hr1 := hr.mono (show 1 ≤ 8 by decide)
  repeat walk_at "y2"
  refine w_call (ok_cell_at T) (hr.mono (by decide)) T.m__law_cell_at T.F__law_cell_at.kp (b__law_cell_at T) .nil ?_
  repeat walk_at "y2"
  refine ⟨(ns, 0), _, (show (0 : Int) ≤ 0 by decide), rfl, .nil, ?_⟩
  rintro _ _ ⟨rfl, rfl⟩
  repeat walk_at "y2"
  generalize decide (cellAt ns 0 / 4 % 2 = 1) = al
  refine ws_forR2 (fun i G' S' => ∃ L', G' = [some (dSc ns), some (.ref ls), some (.ref lm), some (.bl al), none, none, none, none, none, none] ∧ S' = ckSome ls L' :: ckMod lm L' :: fam2 T L' ∧ L'.length = L.length ∧ CellsOk L' i) T.z_range (pg_nm (by assumption) (by assumption)) ?_
  repeat walk_at "y2"
  refine w_min2 T.z_min ?_
  refine w_len T.z_len ?_
  repeat walk_at "y2"
  refine ⟨_, .lst, ?_⟩
  repeat walk_at "y2"
  refine ⟨⟨L, rfl, rfl, rfl, hL⟩, ?_, ?_⟩
  · rintro i _ _ hi ⟨L', rfl, rfl, hlen, hc⟩
    have hi2 : 1 + i < 60 ∧ 1 + i < ns.length := by
      rw [List.length_map] at hi
      dsimp only at hi
      split at hi <;> omega
    obtain ⟨c0, hc0⟩ : ∃ c, ns[1 + i]? = some c := ⟨_, List.getElem?_eq_getElem hi2.2⟩
    have hat : atI (ns.map D.int) (1 + (i : Int)) = some (.int c0) := by
      unfold atI ixN
      rw [if_pos (by omega), if_pos (by rw [List.length_map]; omega)]
      show (ns.map D.int)[(1 + (i : Int)).toNat]? = _
      rw [show (1 + (i : Int)).toNat = 1 + i by omega, List.getElem?_map, hc0]
      rfl
    repeat walk_at "g"
    repeat walk_at "y2"
    refine w_call (ok_mix T) (hr.mono (by decide)) T.m__law_mix T.F__law_mix.kp (b__law_mix T) .nil ?_
    repeat walk_at "y2"
    refine wr_ix (.lst hat) ?_
    repeat walk_at "y2"
    refine ⟨(c0, 1 + (i : Int)), _, ⟨by omega, by omega⟩, rfl, .nil, ?_⟩
    rintro _ _ ⟨rfl, rfl⟩
    have hm := mix_b c0 (1 + (i : Int))
    generalize mix c0 (1 + (i : Int)) = m at hm ⊢
    -- number
    refine wss_cons (ws_set (by assumption) (by assumption) (W_drop ?_))
    repeat walk_at "y2"
    intro q
    repeat walk_at "y2"
    obtain ⟨f, hf, hf0, hf1⟩ : ∃ f : Int, atI [D.int 1, D.int 1, D.int 90909090] (m / 12 % 3) = some (.int f) ∧ 0 ≤ f ∧ f ≤ 90909090 := by
      have : m / 12 % 3 = 0 ∨ m / 12 % 3 = 1 ∨ m / 12 % 3 = 2 := by omega
      rcases this with e | e | e <;> rw [e]
      · exact ⟨1, rfl, by decide, by decide⟩
      · exact ⟨1, rfl, by decide, by decide⟩
      · exact ⟨90909090, rfl, by decide, by decide⟩
    refine wr_ix (.own 0 rfl hf) ?_
    have hn0 : 0 ≤ m % 12 * f := Int.mul_nonneg (by omega) hf0
    have hn1 : m % 12 * f ≤ 11 * 90909090 := Int.le_trans (Int.mul_le_mul_of_nonneg_right (by omega) hf0) (Int.mul_le_mul_of_nonneg_left hf1 (by decide))
    refine wr_mulI (mulW_of (a := 64) (b := 64) ?_ ?_) ?_
    · omega
    · omega
    refine ⟨ckSome ls L' :: ckMod lm L' :: fam2 T L', [ckL q [.int 1, .int 1, .int 90909090]], List.perm_append_comm (l₂ := [ckL q [.int 1, .int 1, .int 90909090]]), ?_⟩
    generalize m % 12 * f = num at hn0 hn1 ⊢
    repeat walk_at "y2"
    refine w_call (ok_mkPiece T) (hr.mono (by decide)) T.m__law_piece T.F__law_piece.kp (b__law_piece T) .nil ?_
    refine wA_cons (w_call (ok_mix T) (hr.mono (by decide)) T.m__law_mix T.F__law_mix.kp (b__law_mix T) .nil ?_)
    repeat walk_at "y2"
    refine ⟨(m, 3), _, ⟨(show (0 : Int) ≤ 3 by decide), (show (3 : Int) < 1000 by decide)⟩, rfl, .nil, ?_⟩
    rintro _ _ ⟨rfl, rfl⟩
    have hm3 := mix_b m 3
    dsimp only
    generalize mix m 3 = m3 at hm3 ⊢
    repeat walk_at "y2"
    refine ⟨(m3, num, al), _, ⟨⟨(show 0 ≤ m3 by omega), (show m3 < 2 ^ 40 by omega)⟩, (show 0 ≤ num by omega), (show num < 2 ^ 40 by omega)⟩, rfl, .nil, ?_⟩
    rintro _ _ ⟨rfl, rfl⟩
    dsimp only
    have hp0 := mkPc_ok (if al = true then num * 7919 + 12 else m3) (by split <;> omega)
    have hg0 := mkPc_good (if al = true then num * 7919 + 12 else m3)
    generalize mkPc (if al = true then num * 7919 + 12 else m3) = p0 at hp0 hg0 ⊢
    repeat walk_at "y2"
    refine wT_val ?_
    repeat walk_at "y2"
    refine ⟨fun e => ?_, fun e => ?_⟩
    · have e : (!decide (m / 36 % 3 = 1)) = false := by simpa using e
      rw [e]
      repeat walk_at "y2"
      refine w_call (ok_spoilt T) (hr.mono (by decide)) T.m__law_spoilt T.F__law_spoilt.kp (b__law_spoilt T) .nil ?_
      repeat walk_at "y2"
      refine w_call (ok_mix T) (hr.mono (by decide)) T.m__law_mix T.F__law_mix.kp (b__law_mix T) .nil ?_
      repeat walk_at "y2"
      refine ⟨(m, 4), _, ⟨(show (0 : Int) ≤ 4 by decide), (show (4 : Int) < 1000 by decide)⟩, rfl, .nil, ?_⟩
      rintro _ _ ⟨rfl, rfl⟩
      have hm4 := mix_b m 4
      dsimp only
      generalize mix m 4 = m4 at hm4 ⊢
      repeat walk_at "y2"
      refine ⟨(p0, m4), _, ⟨hp0, (show 0 ≤ m4 by omega), (show m4 < 2 ^ 40 by omega)⟩, rfl, .nil, ?_⟩
      rintro _ _ ⟨rfl, rfl⟩
      dsimp only
      have hq := spoil_ok hp0.1 hp0.2 hm4.1
      have hb := spoil_bad hp0.1 hp0.2 hg0 hm4.1
      generalize spoil p0 m4 = p1 at hq hb ⊢
      refine wss_nil ?_
      refine wss_cons (ws_set (by assumption) (by assumption) ?_)
      refine w_mod (w_fdiv ?_)
      repeat walk_at "y2"
      refine w_len T.z_len ?_
      repeat walk_at "y2"
      refine ⟨_, .own 0 rfl, ?_⟩
      rw [List.length_map]
      repeat walk_at "y2"
      have hLp : (0 : Int) < (L'.length : Int) := by omega
      have sd0 := Int.emod_nonneg (m / 108) (b := (L'.length : Int)) (by omega)
      have sd1 := Int.emod_lt_of_pos (m / 108) hLp
      generalize m / 108 % (L'.length : Int) = sd at sd0 sd1 ⊢
      obtain ⟨pre, c, post, hsplit, hpl⟩ := split_at (L := L') (i := sd.toNat) (by omega)
      have hat1 : atI (L'.map fun c => D.ref c.1.p) sd = some (.ref c.1.p) := by rw [hsplit]; exact atI_mid sd0 hpl
      have hat2 : atI (L'.map fun c => D.ref c.2) sd = some (.ref c.2) := by rw [hsplit]; exact atI_mid sd0 hpl
      have hcok : ShOk c.1 := hc.ok c (by rw [hsplit]; simp)
      have htot : totC pre + c.1.m.length + totC post ≤ i := by have := hc.tot; rw [hsplit, totC_mid] at this; exact this
      refine w_lay T hr1 ?_
      repeat walk_at "y2"
      refine wr_ix (.own 0 rfl hat1) ?_
      have pk : Pick (ckSome ls L' :: ckMod lm L' :: fam2 T L') (shC T c.1) (ckSome ls L' :: ckMod lm L' :: ckD c.2 (kvI dTold c.1.m) :: fam2 T (pre ++ post)) := pick_mid (A := [ckSome ls L', ckMod lm L']) (Z := ckD c.2 (kvI dTold c.1.m) :: fam2 T (pre ++ post)) (by have := fam2_split T hsplit; rw [List.append_assoc] at this; exact this)
      refine ⟨c.1, _, rfl, pk, ?_⟩
      repeat walk_at "y2"
      refine ⟨num, p1, _, rfl, pk, by omega, fun o => ?_⟩
      refine wss_cons (ws_dput hu ?_)
      repeat walk_at "y2"
      refine w_call (ok_shown T) (hr.mono (by decide)) T.m__law_shown T.F__law_shown.kp (b__law_shown T) .nil ?_
      repeat walk_at "y2"
      refine ⟨p1, _, trivial, rfl, .nil, ?_⟩
      rintro _ _ ⟨rfl, rfl⟩
      repeat walk_at "y2"
      refine wr_ix (.own 3 rfl hat2) ?_
      repeat walk_at "y2"
      refine ⟨c.2, kvI dTold c.1.m, .inl num, 4, rfl, rfl, rfl, by rw [kvI_len]; omega, ?_⟩
      obtain ⟨f1, f2, f3⟩ := laid_fin T (ls := ls) (lm := lm) (o := o) (num := num) hsplit hc (i := i) (p := p1) (g := false) (hq) (hb)
      exact wss_end (by walk_at "wk") (Pick.perm' f1) ⟨_, rfl, rfl, f2.trans hlen, f3⟩
    · have e : (!decide (m / 36 % 3 = 1)) = true := by simpa using e
      rw [e]
      refine wss_nil ?_
      refine wss_cons (ws_set (by assumption) (by assumption) ?_)
      refine w_mod (w_fdiv ?_)
      repeat walk_at "y2"
      refine w_len T.z_len ?_
      repeat walk_at "y2"
      refine ⟨_, .own 0 rfl, ?_⟩
      rw [List.length_map]
      repeat walk_at "y2"
      have hLp : (0 : Int) < (L'.length : Int) := by omega
      have sd0 := Int.emod_nonneg (m / 108) (b := (L'.length : Int)) (by omega)
      have sd1 := Int.emod_lt_of_pos (m / 108) hLp
      generalize m / 108 % (L'.length : Int) = sd at sd0 sd1 ⊢
      obtain ⟨pre, c, post, hsplit, hpl⟩ := split_at (L := L') (i := sd.toNat) (by omega)
      have hat1 : atI (L'.map fun c => D.ref c.1.p) sd = some (.ref c.1.p) := by rw [hsplit]; exact atI_mid sd0 hpl
      have hat2 : atI (L'.map fun c => D.ref c.2) sd = some (.ref c.2) := by rw [hsplit]; exact atI_mid sd0 hpl
      have hcok : ShOk c.1 := hc.ok c (by rw [hsplit]; simp)
      have htot : totC pre + c.1.m.length + totC post ≤ i := by have := hc.tot; rw [hsplit, totC_mid] at this; exact this
      refine w_lay T hr1 ?_
      repeat walk_at "y2"
      refine wr_ix (.own 0 rfl hat1) ?_
      have pk : Pick (ckSome ls L' :: ckMod lm L' :: fam2 T L') (shC T c.1) (ckSome ls L' :: ckMod lm L' :: ckD c.2 (kvI dTold c.1.m) :: fam2 T (pre ++ post)) := pick_mid (A := [ckSome ls L', ckMod lm L']) (Z := ckD c.2 (kvI dTold c.1.m) :: fam2 T (pre ++ post)) (by have := fam2_split T hsplit; rw [List.append_assoc] at this; exact this)
      refine ⟨c.1, _, rfl, pk, ?_⟩
      repeat walk_at "y2"
      refine ⟨num, p0, _, rfl, pk, by omega, fun o => ?_⟩
      refine wss_cons (ws_dput hu ?_)
      repeat walk_at "y2"
      refine w_call (ok_shown T) (hr.mono (by decide)) T.m__law_shown T.F__law_shown.kp (b__law_shown T) .nil ?_
      repeat walk_at "y2"
      refine ⟨p0, _, trivial, rfl, .nil, ?_⟩
      rintro _ _ ⟨rfl, rfl⟩
      repeat walk_at "y2"
      refine wr_ix (.own 3 rfl hat2) ?_
      repeat walk_at "y2"
      refine ⟨c.2, kvI dTold c.1.m, .inl num, 4, rfl, rfl, rfl, by rw [kvI_len]; omega, ?_⟩
      obtain ⟨f1, f2, f3⟩ := laid_fin T (ls := ls) (lm := lm) (o := o) (num := num) hsplit hc (i := i) (p := p0) (g := true) (hp0.1) (hg0)
      exact wss_end (by walk_at "wk") (Pick.perm' f1) ⟨_, rfl, rfl, f2.trans hlen, f3⟩
  · rintro _ _ ⟨L', rfl, rfl, hlen, hc⟩
    refine wss_nil ?_
    refine ⟨rfl, L', hlen, ⟨hc.ok, Nat.le_trans hc.tot ?_⟩, rfl⟩
    split <;> omega
end
end K63
set_option Elab.async false
set_option maxRecDepth 100000
set_option linter.unusedVariables false
set_option maxHeartbeats 4000000
namespace K63
open PySem L2 PySem.Spec PyProof.Rows Sy
local macro_rules | `(tactic| walk_at "cnd") => `(tactic| first | decide | omega | assumption | (simp only [List.length_cons, List.length_nil]; omega) | (refine ⟨?_, ?_⟩ <;> omega))
local macro_rules | `(tactic| walk_at "y") => `(tactic| first
  | refine two_mk ?_ | refine one_mk ?_
  | refine cnd_mk (by walk_at "cnd") ?_
  | refine toB_mk ?_
  | refine wss_cons ?_
  | refine ws_ret ?_ | refine ws_retN ?_ | refine ws_if ?_ | refine ws_expr ?_
  | refine ws_set (by assumption) (by assumption) ?_
  | refine ws_fld ?_
  | refine ws_continue ?_ | refine ws_break ?_ | refine ws_pass ?_
  | refine w_name (by assumption) (by rfl) ?_
  | refine w_int ?_ | refine w_str ?_ | refine w_bool ?_ | refine w_none ?_
  | refine wA_nil ?_ | refine wA_cons ?_
  | refine w_add ?_ | refine w_sub ?_ | refine w_mul ?_ | refine w_mod ?_ | refine w_fdiv ?_ | refine w_pow ?_ | refine w_shl ?_ | refine w_shr ?_ | refine w_band ?_ | refine w_bor ?_ | refine w_xor ?_
  | refine w_tup ?_ | refine w_lst ?_ | refine w_dnew ?_ | refine w_neg ?_
  | refine w_ix (by assumption) ?_
  | refine wT_lt ?_ | refine wT_le ?_ | refine wT_gt ?_ | refine wT_ge ?_ | refine wT_lelt ?_
  | refine wT_eq (by assumption) ?_ | refine wT_ne (by assumption) ?_
  | refine wT_in (by assumption) ?_ | refine wT_notin (by assumption) ?_
  | refine wT_is ?_ | refine wT_isnot ?_
  | refine w_eq (by assumption) ?_ | refine w_ne (by assumption) ?_
  | refine wT_bool ?_ | refine wW_and ?_ | refine wW_and1 ?_ | refine wW_or ?_ | refine wW_or1 ?_ | refine wT_not ?_
  | refine w_not ?_ | refine w_and ?_ | refine w_or ?_ | refine w_one ?_
  | refine w_fld ?_
  | refine wr_addI ?_
  | refine wr_eqI ?_ | refine wr_neI ?_)
local macro_rules | `(tactic| walk_at "g") => `(tactic| first | refine WG_name ?_ | refine WG_tup _ rfl ?_ | refine WGs_cons ?_ | refine WGs_nil ?_)
local macro_rules | `(tactic| walk_at "wk") => `(tactic| first | exact Wk.nil | (first | refine Wk.keep ?_ | refine Wk.drop ?_); walk_at "wk")
local macro_rules | `(tactic| walk_at "pk") => `(tactic| first
  | exact Pick.nil
  | (refine Pick.cons 0 rfl ?_; walk_at "pk") | (refine Pick.cons 1 rfl ?_; walk_at "pk") | (refine Pick.cons 2 rfl ?_; walk_at "pk") | (refine Pick.cons 3 rfl ?_; walk_at "pk")
  | (refine Pick.cons 4 rfl ?_; walk_at "pk") | (refine Pick.cons 5 rfl ?_; walk_at "pk") | (refine Pick.cons 6 rfl ?_; walk_at "pk") | (refine Pick.cons 7 rfl ?_; walk_at "pk"))
local macro_rules | `(tactic| walk_at "cnd2") => `(tactic| first | walk_at "cnd" | exact divW_of (b := 64) (by decide) (by decide) | exact ⟨by decide, by decide, by decide⟩)
local macro_rules | `(tactic| walk_at "y2") => `(tactic| first | refine cnd_mk (by walk_at "cnd2") ?_ | walk_at "y")
def mC (L : List Cell) : List (List (Int × Pc)) := mOf (L.map (·.1))
theorem totC_split {L pre post : List Cell} {c : Cell} (h : L = pre ++ c :: post) : totC pre + c.1.m.length ≤ totC L := by
  subst h
  rw [totC_mid]
  omega
theorem totC_snoc (L : List Cell) (c : Cell) : totC (L ++ [c]) = totC L + c.1.m.length := by unfold totC; rw [List.map_append]; exact tot_snoc _ _
theorem mC_snoc (L : List Cell) (c : Cell) : mC (L ++ [c]) = mC L ++ [c.1.m] := by unfold mC mOf; simp
section
variable {P : Program} {w : World} {K : PySem.W.Frag} {mg : Str → Option Value} {base : Heap}
abbrev spDue (T : Txt K mg) : Sp := Spx K (I := Addr × List Cell) (fun x => CellsOk x.2 59) (fun x => [.ref x.1]) (fun x => ckMod x.1 x.2 :: fam2 T x.2)
  (fun x d S => ∃ q b, d = .ref q ∧ S = ckD q (kvI dTold b) :: ckMod x.1 x.2 :: fam2 T x.2 ∧ Tel (joinF (mC x.2)) (totC x.2) b)
theorem ok_due (T : Txt K mg) : FnOk P w K mg base CX0 1 T.f__law_due T.fd__law_due ["_law_models"] (spDue T) := by
  refine fn_ok T.F__law_due sc__law_due (fun x => rfl) (fun cdv A outer s H E B x hr hx => ?_)
  have q0 : Nm n__law_due "_law_models" 0 := rfl; have q1 : Nm n__law_due "_law_due_here" 1 := rfl; have q2 : Nm n__law_due "_law_row" 2 := rfl; have q3 : Nm n__law_due "_law_number" 3 := rfl; have q4 : Nm n__law_due "_law_told" 4 := rfl
  obtain ⟨lm, L⟩ := x
  dsimp only at hx
  have nd := sc__law_due.nd
  have hu := hu1_of hr
  have hu64 := hr.units
  repeat walk_at "y"
  intro bs
  repeat walk_at "y"
  refine ws_forM (α := Cell) (fun c => D.ref c.2) (fun pre G' S' => ∃ b, G' = [some (.ref lm), some (.ref bs), none, none, none] ∧ S' = ckD bs (kvI dTold b) :: ckMod lm L :: fam2 T L ∧ Tel (joinF (mC pre)) (totC pre) b) (pg_nm (by assumption) (by assumption)) ?_
  repeat walk_at "y"
  refine ⟨L, _, sq_own 1 rfl, ⟨[], rfl, rfl, ⟨fun k => rfl, List.nodup_nil, Nat.zero_le _⟩⟩, ?_, ?_, ?_⟩
  · rintro pre _ _ ⟨b, rfl, rfl, hb⟩
    simp
  · rintro pre c post _ _ hsp ⟨b, rfl, rfl, hb⟩
    have hso : ShOk c.1 := hx.ok c (by rw [hsp]; simp)
    have htot := totC_split hsp
    have htL := hx.tot
    have hperm := fam2_split T hsp
    repeat walk_at "g"
    -- the row comes first
    refine wss_cons (WS_perm (S' := ckD c.2 (kvI dTold c.1.m) :: (ckD bs (kvI dTold b) :: ckMod lm L :: (shC T c.1 ++ fam2 T (pre ++ post)))) ?_ ?_)
    · have := pick_mid (A := [ckD bs (kvI dTold b), ckMod lm L]) (C := [ckD c.2 (kvI dTold c.1.m)]) (Z := shC T c.1 ++ fam2 T (pre ++ post)) (F := fam2 T L) (by
        refine List.Perm.trans ?_ hperm
        rw [← List.append_assoc]
        exact List.perm_append_comm.append_right _)
      exact this
    refine ws_lock 0 rfl fun od ws => ?_
    generalize hZ : ckZ c.2 od ws (kvI dTold c.1.m) = z
    refine ws_forItems (α := Int × Pc) (fun kv => .tup [.int kv.1, dTold kv.2]) (fun pre' G' S' => ∃ b, G' = [some (.ref lm), some (.ref bs), some (.ref c.2), none, none] ∧ S' = z :: ckD bs (kvI dTold b) :: ckMod lm L :: (shC T c.1 ++ fam2 T (pre ++ post)) ∧ Tel (upTo (joinF (mC pre)) (getI c.1.m) (keysI pre')) (totC pre + pre'.length) b) (pg_t2 (by assumption) (by assumption) (by assumption)) ?_
    repeat walk_at "y"
    subst hZ
    refine ⟨c.2, od, ws, _, 0, c.1.m, rfl, rfl, by unfold kvI; rw [List.map_map]; rfl, ⟨b, rfl, rfl, ⟨fun k => ?_, hb.nd, hb.len⟩⟩, ?_, ?_, ?_⟩
    · rw [hb.g]; unfold upTo; rw [if_neg (by simp [keysI])]
    · rintro _ _ _ ⟨b, rfl, rfl, hb⟩
      exact List.mem_cons_self
    · rintro pre' ⟨n, pc⟩ post' _ _ hsp' ⟨b, rfl, rfl, hb⟩
      have hpc : getI c.1.m n = some pc := getI_of_mem (kv := (n, pc)) hso.nd (by rw [hsp']; simp)
      have hnp : n ∉ keysI pre' := by
        have := hso.nd
        unfold Sh.ks at this
        rw [hsp'] at this
        unfold keysI at this ⊢
        rw [List.map_append, List.map_cons] at this
        exact fun z => (List.nodup_append.mp this).2.2 n z n (by simp) rfl
      have hlen : pre'.length + 1 ≤ c.1.m.length := by rw [hsp', List.length_append, List.length_cons]; omega
      have hst := tel_step hb hnp hpc
      have fin : ∀ (b' : List (Int × Pc)), Tel (upTo (joinF (mC pre)) (getI c.1.m) (keysI pre' ++ [n])) (totC pre + pre'.length + 1) b' → Tel (upTo (joinF (mC pre)) (getI c.1.m) (keysI (pre' ++ [(n, pc)]))) (totC pre + (pre' ++ [(n, pc)]).length) b' := fun b' h => by
        rw [show keysI (pre' ++ [(n, pc)]) = keysI pre' ++ [n] by unfold keysI; rw [List.map_append]; rfl, List.length_append]
        exact h
      have hgd : getK (kvI dTold b) (.inl n) = (getI b n).map dTold := kvI_get b n
      have hput : ckD bs (setK (kvI dTold b) (.inl n) (dTold pc)) = ckD bs (kvI dTold (setI b n pc)) := by rw [kvI_set]
      repeat walk_at "g"
      repeat walk_at "y"
      refine ⟨_, .dctI 1 rfl, ?_⟩
      rw [hgd]
      cases hbv : getI b n with
      | none =>
        refine ⟨fun _ => ?_, fun h => absurd h (by simp)⟩
        refine ⟨fun _ => ?_, fun h => absurd h (by simp)⟩
        refine wss_cons (ws_dput hu ?_)
        repeat walk_at "y"
        refine ⟨bs, kvI dTold b, .inl n, 1, rfl, rfl, rfl, by rw [kvI_len]; have := hb.len; omega, ?_⟩
        refine wss_nil ?_
        exact wss_end (by walk_at "wk") Pick.all ⟨setI b n pc, rfl, by rw [← hput]; rfl, fin _ (hst.1 hbv)⟩
      | some q =>
        refine ⟨fun h => absurd h (by simp), fun _ => ?_⟩
        have hgq : getK (kvI dTold b) (.inl n) = some (dTold q) := by rw [hgd, hbv]; rfl
        have hst2 := hst.2 q hbv
        repeat walk_at "y"
        refine wT_val (w_ix hu ?_)
        repeat walk_at "y"
        refine wr_ix (.tup (d := .bl pc.good) rfl) ?_
        repeat walk_at "y"
        refine ⟨fun e1 => ?_, fun e1 => ?_⟩
        · rw [e1] at hst2
          repeat walk_at "y"
          refine wT_val (w_ix hu ?_)
          repeat walk_at "y"
          refine wr_ix (.dctI 1 rfl hgq) ?_
          repeat walk_at "y"
          refine wr_ix (.tup (d := .bl q.good) rfl) ?_
          repeat walk_at "y"
          refine ⟨fun e2 => ?_, fun e2 => ?_⟩
          · refine wss_cons (ws_dput hu ?_)
            repeat walk_at "y"
            refine ⟨bs, kvI dTold b, .inl n, 1, rfl, rfl, rfl, by rw [kvI_len]; have := hb.len; omega, ?_⟩
            refine wss_nil ?_
            exact wss_end (by walk_at "wk") Pick.all ⟨setI b n pc, rfl, by rw [← hput]; rfl, fin _ (hst2.1 e2)⟩
          · refine wss_nil ?_
            exact wss_end (by walk_at "wk") Pick.all ⟨_, rfl, rfl, fin _ (hst2.2 e2)⟩
        · rw [e1] at hst2
          refine ⟨fun e => absurd e (by decide), fun _ => ?_⟩
          refine wss_nil ?_
          exact wss_end (by walk_at "wk") Pick.all ⟨_, rfl, rfl, fin _ (hst2.2 rfl)⟩
    · rintro _ _ ⟨b, rfl, rfl, hb⟩
      have hb2 := tel_done hb (fun k => Iff.rfl)
      refine ⟨0, rfl, ?_⟩
      show wSs _ _ [] _ _ (ckD c.2 (kvI dTold c.1.m) :: ckD bs (kvI dTold b) :: ckMod lm L :: (shC T c.1 ++ fam2 T (pre ++ post)))
      refine wss_end (G' := [some (.ref lm), some (.ref bs), none, none, none]) (S' := ckD bs (kvI dTold b) :: ckMod lm L :: fam2 T L) (by walk_at "wk") (Pick.perm' ?_) ⟨b, rfl, rfl, ⟨fun k => ?_, hb2.nd, ?_⟩⟩
      · have := pick_mid (A := [ckD bs (kvI dTold b), ckMod lm L]) (C := [ckD c.2 (kvI dTold c.1.m)]) (Z := shC T c.1 ++ fam2 T (pre ++ post)) (F := fam2 T L) (by
          refine List.Perm.trans ?_ hperm
          rw [← List.append_assoc]
          exact List.perm_append_comm.append_right _)
        exact List.Perm.symm this
      · rw [hb2.g, mC_snoc, joinF_snoc]
      · rw [totC_snoc]; exact hb2.len
  · rintro _ _ ⟨b, rfl, rfl, hb⟩
    repeat walk_at "y"
    exact ⟨bs, b, rfl, rfl, hb⟩
/-! ### alike -/
def pyShown (p : Pc) : PyData := .tuple [.str p.kind, .int p.start, .int p.day, .tuple (p.rows.map fun r => .tuple [.int r.1, .int r.2]), .int p.check]
theorem eqb_rows {S : Cks} {n : Nat} (rs : List (Int × Int)) : Eqb S (n + 2) (dRows rs) (.tuple (rs.map fun r => .tuple [.int r.1, .int r.2])) := .tup (Eqbs.map (fun r => .tup (.cons .int (.cons .int .nil))) rs)
theorem eqb_shown {S : Cks} (p : Pc) : Eqb S 60 (dShown p) (pyShown p) := .tup (.cons (.str (kind_ok p)) (.cons .int (.cons .int (.cons (eqb_rows _) (.cons .int .nil)))))
abbrev spAlike (T : Txt K mg) : Sp := Spx K (I := Sh × Addr × List (Int × Pc)) (fun x => ShOk x.1 ∧ x.1.m.length < 64 ∧ Tel (getI x.1.m) 63 x.2.2) (fun x => [.ref x.1.p, .ref x.2.1]) (fun x => shC T x.1 ++ [ckD x.2.1 (kvI dTold x.2.2)]) (fun x d S => d = .bl true ∧ S = shC T x.1 ++ [ckD x.2.1 (kvI dTold x.2.2)])
theorem ok_alike (T : Txt K mg) : FnOk P w K mg base CX0 4 T.f__law_alike T.fd__law_alike ["_law_shelf", "_law_row"] (spAlike T) := by
  refine fn_ok T.F__law_alike sc__law_alike (fun x => rfl) (fun cdv A outer s H E B x hr hx => ?_)
  have q0 : Nm n__law_alike "_law_shelf" 0 := rfl; have q1 : Nm n__law_alike "_law_row" 1 := rfl; have q2 : Nm n__law_alike "_law_numbers" 2 := rfl; have q3 : Nm n__law_alike "_law_number" 3 := rfl
  obtain ⟨sh, r, b⟩ := x
  obtain ⟨hso, hl, hb⟩ := hx
  dsimp only at hso hl hb
  have nd := sc__law_alike.nd
  have hu := hu1_of hr
  have hu64 := hr.units
  have hr1 := hr.mono (show 1 ≤ 3 by decide)
  have hks : srt sh.ks = srt (keysI b) := by
    refine sorted_unique ?_ (srt_pair _) (srt_pair _)
    refine (srt_perm _).trans (List.Perm.trans ?_ (srt_perm _).symm)
    refine (List.perm_ext_iff_of_nodup hso.nd hb.nd).mpr fun k => ?_
    show k ∈ keysI sh.m ↔ k ∈ keysI b
    rw [← getI_iff, ← getI_iff, hb.g]
  have hbl : (keysI b).length < 64 := by unfold keysI; rw [List.length_map]; have := hb.len; omega
  refine wss_cons (ws_set (by assumption) (by assumption) (W_frzL (w_numbers T hr1 ?_)))
  repeat walk_at "y"
  refine ⟨sh, [ckD r (kvI dTold b)], rfl, List.Perm.refl _, hl, fun q => ⟨q, _, 0, rfl, rfl, ?_⟩⟩
  repeat walk_at "y"
  refine wT_val (w_isi T.z_isinstance T.z_list rfl ?_)
  repeat walk_at "y"
  refine ⟨_, true, .lst, rfl, ?_⟩
  repeat walk_at "y"
  refine ⟨fun h => absurd h (by decide), fun _ => ?_⟩
  repeat walk_at "y"
  refine w_sorted T.z_sorted ?_
  repeat walk_at "y"
  refine ⟨keysI b, .dct 2 rfl (kvI_keys b) hbl, fun q2 => ?_⟩
  refine wr_neSame (d := .list ((srt sh.ks).map PyData.int)) (.lst (eqbs_ints _)) (by rw [hks]; exact .own 0 rfl (eqbs_ints _)) ?_
  repeat walk_at "y"
  refine ⟨fun h => absurd h (by decide), fun _ => ?_⟩
  refine wss_nil ?_
  refine wss_drop (S' := shC T sh ++ [ckD r (kvI dTold b)]) (R := [ckL q2 ((srt (keysI b)).map D.int)]) (List.perm_append_comm (l₂ := [ckL q2 ((srt (keysI b)).map D.int)])) ?_
  refine wss_cons (ws_forM (α := Int) D.int (fun pre G' S' => G' = [some (.ref sh.p), some (.ref r), some (.lst ((srt sh.ks).map D.int)), none] ∧ S' = shC T sh ++ [ckD r (kvI dTold b)]) (pg_nm (by assumption) (by assumption)) ?_)
  repeat walk_at "y"
  refine ⟨srt sh.ks, _, sq_lst, ⟨rfl, rfl⟩, fun _ _ _ _ => trivial, ?_, ?_⟩
  · rintro pre n post _ _ hsp ⟨rfl, rfl⟩
    obtain ⟨pc, hpc⟩ := getI_iff.mpr (srt_mem.mp (show n ∈ srt sh.ks by rw [hsp]; simp))
    have hpo := hso.ok n pc hpc
    have hgd : getK (kvI dTold b) (.inl n) = some (dTold pc) := by rw [kvI_get, hb.g, hpc]; rfl
    repeat walk_at "g"
    repeat walk_at "y"
    refine wT_val (w_call (ok_law_whole T) (hr.mono (by decide)) T.m__law_whole T.F__law_whole.kp (b__law_whole T) .nil ?_)
    repeat walk_at "y"
    refine ⟨n, _, trivial, rfl, .nil, ?_⟩
    rintro _ _ ⟨rfl, rfl⟩
    repeat walk_at "y"
    refine ⟨fun h => absurd h (by decide), fun _ => ?_⟩
    repeat walk_at "y"
    refine w_call (ok_shown T) (hr.mono (by decide)) T.m__law_shown T.F__law_shown.kp (b__law_shown T) .nil ?_
    repeat walk_at "y"
    refine w_piece T hr1 ?_
    repeat walk_at "y"
    refine ⟨sh, _, rfl, List.Perm.refl _, ?_⟩
    repeat walk_at "y"
    refine ⟨n, pc, _, rfl, List.Perm.refl _, hpc, ?_⟩
    repeat walk_at "y"
    refine ⟨pc, _, trivial, rfl, .nil, ?_⟩
    rintro _ _ ⟨rfl, rfl⟩
    repeat walk_at "y"
    refine wr_ix (.dctI 2 rfl hgd) ?_
    repeat walk_at "y"
    refine wr_ix (.tup (d := dShown pc) rfl) ?_
    refine wr_neSame (eqb_shown pc) (eqb_shown pc) ?_
    repeat walk_at "y"
    refine ⟨fun h => absurd h (by decide), fun _ => ?_⟩
    refine wss_nil ?_
    repeat walk_at "y"
    refine w_good T (hr.mono (by decide)) ?_
    refine w_piece T hr1 ?_
    repeat walk_at "y"
    refine ⟨sh, _, rfl, List.Perm.refl _, ?_⟩
    repeat walk_at "y"
    refine ⟨n, pc, _, rfl, List.Perm.refl _, hpc, ?_⟩
    refine ⟨pc, rfl, hpo, ?_⟩
    repeat walk_at "y"
    refine wr_ix (.dctI 2 rfl hgd) ?_
    repeat walk_at "y"
    refine wr_ix (.tup (d := .bl pc.good) rfl) ?_
    refine wr_neSame .bl .bl ?_
    repeat walk_at "y"
    refine ⟨fun h => absurd h (by decide), fun _ => ?_⟩
    refine wss_nil ?_
    exact wss_end (by walk_at "wk") Pick.all ⟨rfl, rfl⟩
  · rintro _ _ ⟨rfl, rfl⟩
    repeat walk_at "y"
    exact ⟨rfl, rfl⟩
end
end K63
set_option Elab.async false
set_option maxRecDepth 100000
set_option linter.unusedVariables false
set_option maxHeartbeats 4000000
namespace K63
open PySem L2 PySem.Spec PyProof.Rows Sy
local macro_rules | `(tactic| walk_at "cnd") => `(tactic| first | decide | omega | assumption | (simp only [List.length_cons, List.length_nil]; omega) | (refine ⟨?_, ?_⟩ <;> omega))
local macro_rules | `(tactic| walk_at "y") => `(tactic| first
  | refine two_mk ?_ | refine one_mk ?_
  | refine cnd_mk (by walk_at "cnd") ?_
  | refine toB_mk ?_
  | refine wss_cons ?_
  | refine ws_ret ?_ | refine ws_retN ?_ | refine ws_if ?_ | refine ws_expr ?_
  | refine ws_set (by assumption) (by assumption) ?_
  | refine ws_fld ?_
  | refine ws_continue ?_ | refine ws_break ?_ | refine ws_pass ?_
  | refine w_name (by assumption) (by rfl) ?_
  | refine w_int ?_ | refine w_str ?_ | refine w_bool ?_ | refine w_none ?_
  | refine wA_nil ?_ | refine wA_cons ?_
  | refine w_add ?_ | refine w_sub ?_ | refine w_mul ?_ | refine w_mod ?_ | refine w_fdiv ?_ | refine w_pow ?_ | refine w_shl ?_ | refine w_shr ?_ | refine w_band ?_ | refine w_bor ?_ | refine w_xor ?_
  | refine w_tup ?_ | refine w_lst ?_ | refine w_dnew ?_ | refine w_neg ?_
  | refine w_ix (by assumption) ?_
  | refine wT_lt ?_ | refine wT_le ?_ | refine wT_gt ?_ | refine wT_ge ?_ | refine wT_lelt ?_
  | refine wT_eq (by assumption) ?_ | refine wT_ne (by assumption) ?_
  | refine wT_in (by assumption) ?_ | refine wT_notin (by assumption) ?_
  | refine wT_is ?_ | refine wT_isnot ?_
  | refine w_eq (by assumption) ?_ | refine w_ne (by assumption) ?_
  | refine wT_bool ?_ | refine wW_and ?_ | refine wW_and1 ?_ | refine wW_or ?_ | refine wW_or1 ?_ | refine wT_not ?_
  | refine w_not ?_ | refine w_and ?_ | refine w_or ?_ | refine w_one ?_
  | refine w_fld ?_
  | refine wr_addI ?_
  | refine wr_eqI ?_ | refine wr_neI ?_)
local macro_rules | `(tactic| walk_at "g") => `(tactic| first | refine WG_name ?_ | refine WG_tup _ rfl ?_ | refine WGs_cons ?_ | refine WGs_nil ?_)
local macro_rules | `(tactic| walk_at "wk") => `(tactic| first | exact Wk.nil | (first | refine Wk.keep ?_ | refine Wk.drop ?_); walk_at "wk")
local macro_rules | `(tactic| walk_at "pk") => `(tactic| first
  | exact Pick.nil
  | (refine Pick.cons 0 rfl ?_; walk_at "pk") | (refine Pick.cons 1 rfl ?_; walk_at "pk") | (refine Pick.cons 2 rfl ?_; walk_at "pk") | (refine Pick.cons 3 rfl ?_; walk_at "pk")
  | (refine Pick.cons 4 rfl ?_; walk_at "pk") | (refine Pick.cons 5 rfl ?_; walk_at "pk") | (refine Pick.cons 6 rfl ?_; walk_at "pk") | (refine Pick.cons 7 rfl ?_; walk_at "pk"))
local macro_rules | `(tactic| walk_at "cnd2") => `(tactic| first | walk_at "cnd" | exact divW_of (b := 64) (by decide) (by decide) | exact ⟨by decide, by decide, by decide⟩)
local macro_rules | `(tactic| walk_at "y2") => `(tactic| first | refine cnd_mk (by walk_at "cnd2") ?_ | walk_at "y")
section
variable {P : Program} {w : World} {K : PySem.W.Frag} {mg : Str → Option Value} {base : Heap}
abbrev spLaw' (K : PySem.W.Frag) : Sp := Spx K (I := List Int) (fun ns => ns.length ≤ 63) (fun ns => [dSc ns]) (fun _ => []) (fun _ d _ => d = .bl true)
def rowsE (rs : List Addr) : Cks := rs.map fun r => ckD r []
theorem fam_snoc (T : Txt K mg) (L : List Sh) (s : Sh) : fam T (L ++ [s]) = fam T L ++ shC T s := by unfold fam; simp
theorem zip_some {shs : List Sh} {rs : List Addr} {ls : Addr} (h : shs.length = rs.length) : ckSome ls (shs.zip rs) = ckL ls (shs.map fun s => D.ref s.p) := by
  have : (shs.zip rs).map (fun c => D.ref c.1.p) = ((shs.zip rs).map Prod.fst).map fun s => D.ref s.p := by rw [List.map_map]; rfl
  unfold ckSome
  rw [this, List.map_fst_zip (by omega)]
theorem zip_mod {shs : List Sh} {rs : List Addr} {lm : Addr} (h : shs.length = rs.length) : ckMod lm (shs.zip rs) = ckL lm (rs.map D.ref) := by
  have : (shs.zip rs).map (fun c => D.ref c.2) = ((shs.zip rs).map Prod.snd).map D.ref := by rw [List.map_map]; rfl
  unfold ckMod
  rw [this, List.map_snd_zip (by omega)]
theorem fam2_zip (T : Txt K mg) : ∀ (shs : List Sh) (rs : List Addr), shs.length = rs.length → (∀ s ∈ shs, s.m = []) → (fam2 T (shs.zip rs)).Perm (rowsE rs ++ fam T shs)
  | [], [], _, _ => List.Perm.refl _
  | s :: shs, r :: rs, h, hm => by
    have ih := fam2_zip T shs rs (by simpa using h) fun t ht => hm t (List.mem_cons_of_mem _ ht)
    have e : s.m = [] := hm s List.mem_cons_self
    show ((shC T s ++ [ckD r (kvI dTold s.m)]) ++ fam2 T (shs.zip rs)).Perm ((ckD r [] :: rowsE rs) ++ (shC T s ++ fam T shs))
    have e2 : kvI dTold s.m = [] := by rw [e]; rfl
    rw [e2]
    refine (List.Perm.append (List.perm_append_comm (l₂ := [ckD r []])) ih).trans ?_
    show (ckD r [] :: (shC T s ++ (rowsE rs ++ fam T shs))).Perm (ckD r [] :: (rowsE rs ++ (shC T s ++ fam T shs)))
    rw [← List.append_assoc, ← List.append_assoc]
    exact List.Perm.cons _ (List.perm_append_comm.append_right _)
theorem cells0 {shs : List Sh} {rs : List Addr} (h : shs.length = rs.length) (hm : ∀ s ∈ shs, s.m = []) : CellsOk (shs.zip rs) 0 := by
  refine ⟨fun c hc => ?_, ?_⟩
  · have e := hm c.1 (List.of_mem_zip hc).1
    exact ⟨by unfold Sh.ks; rw [e]; exact List.nodup_nil, fun n p hp => by rw [e] at hp; cases hp⟩
  · unfold totC
    rw [List.map_fst_zip (by omega)]
    have : ∀ shs : List Sh, (∀ s ∈ shs, s.m = []) → tot shs = 0 := by
      intro shs
      induction shs with
      | nil => intro _; rfl
      | cons s shs ih =>
        intro hm
        have := ih fun t ht => hm t (List.mem_cons_of_mem _ ht)
        unfold tot at this ⊢
        rw [List.map_cons, List.sum_cons, this, hm s List.mem_cons_self]
        rfl
    exact Nat.le_of_eq (this shs hm)
def rowsL (L : List Cell) : Cks := L.map fun c => ckD c.2 (kvI dTold c.1.m)
theorem fam2_parts (T : Txt K mg) : ∀ L : List Cell, (fam2 T L).Perm (fam T (L.map (·.1)) ++ rowsL L)
  | [] => List.Perm.refl _
  | c :: L => by
    show ((shC T c.1 ++ [ckD c.2 (kvI dTold c.1.m)]) ++ fam2 T L).Perm ((shC T c.1 ++ fam T (L.map (·.1))) ++ (ckD c.2 (kvI dTold c.1.m) :: rowsL L))
    rw [List.append_assoc, List.append_assoc]
    refine List.Perm.append_left _ ?_
    exact (List.Perm.cons _ (fam2_parts T L)).trans List.perm_middle.symm
abbrev hd0 (T : Txt K mg) (sf : Sh) (q : Addr) (b : List (Int × Pc)) (lh ls lm : Addr) (L : List Cell) : Cks := shC T sf ++ [ckD q (kvI dTold b), ckL lh (L.map fun c => D.ref c.1.p), ckSome ls L, ckMod lm L]
/-- a shelf, its row's address, what the row holds -/
abbrev Tri := Sh × Addr × List (Int × Pc)
abbrev triC (T : Txt K mg) (t : Tri) : Cks := shC T t.1 ++ [ckD t.2.1 (kvI dTold t.2.2)]
def fam3 (T : Txt K mg) (L : List Tri) : Cks := L.flatMap fun t => triC T t
theorem fam3_snoc (T : Txt K mg) (L : List Tri) (t : Tri) : fam3 T (L ++ [t]) = fam3 T L ++ triC T t := by unfold fam3; simp
def k3 (t : Tri) : Addr × Addr := (t.1.p, t.2.1)
def k2 (c : Cell) : Addr × Addr := (c.1.p, c.2)
def rows3 : List (Int × Int) := [(0, 1), (1, 2), (2, 3)]
theorem rows3_ok : RowsOk rows3 := fun p hp => by
  simp only [rows3, List.mem_cons, List.not_mem_nil, or_false] at hp
  rcases hp with rfl | rfl | rfl <;> exact ⟨⟨by decide, by decide⟩, ⟨by decide, by decide⟩⟩
def w3 : Pc := .whole 7 rows3 (checkOf (-1) 7 rows3)
structure TriOk (t : Tri) : Prop where
  m : t.1.m = setI t.2.2 3 w3
  nd : (keysI t.2.2).Nodup
  len : t.2.2.length ≤ 59
theorem perm3 {A B C : Cks} : (B ++ (A ++ C)).Perm ((A ++ B) ++ C) := by
  rw [List.append_assoc]
  exact List.perm_append_comm_assoc _ _ _
theorem fam3_split (T : Txt K mg) {L pre post : List Tri} {t : Tri} (h : L = pre ++ t :: post) : (shC T t.1 ++ (ckD t.2.1 (kvI dTold t.2.2) :: fam3 T (pre ++ post))).Perm (fam3 T L) := by
  subst h
  unfold fam3
  rw [List.flatMap_append, List.flatMap_append, List.flatMap_cons]
  have : ((shC T t.1 ++ [ckD t.2.1 (kvI dTold t.2.2)]) ++ (pre.flatMap (fun t => triC T t) ++ post.flatMap fun t => triC T t)).Perm (pre.flatMap (fun t => triC T t) ++ ((shC T t.1 ++ [ckD t.2.1 (kvI dTold t.2.2)]) ++ post.flatMap fun t => triC T t)) := List.perm_append_comm_assoc _ _ _
  rw [List.append_assoc] at this
  exact this
theorem srt_nil : srt [] = [] := by unfold srt; simp
theorem getI_all_none {m : List (Int × Pc)} (h : ∀ k, getI m k = none) : m = [] := by
  cases m with
  | nil => rfl
  | cons a m =>
    have := h a.1
    rw [getI_cons, if_pos rfl] at this
    cases this
theorem tri_srt {t : Tri} (h : TriOk t) {ms : List Int} (hp : ms.Pairwise (· < ·)) (hm : ∀ n, n ∈ ms ↔ n ∈ keysI t.2.2 ++ [3]) : srt t.1.ks = ms := by
  have hnd : t.1.ks.Nodup := by unfold Sh.ks; rw [h.m]; exact setI_nodup h.nd
  have hmn : ms.Nodup := hp.imp fun h => by omega
  refine sorted_unique ((srt_perm _).trans ((List.perm_ext_iff_of_nodup hnd hmn).mpr fun k => ?_)) (srt_pair _) (hp.imp fun h => by omega)
  rw [hm]
  unfold Sh.ks keysI
  rw [h.m, setI_mem_keys, List.mem_append, List.mem_singleton]
  exact Or.comm
theorem keysD (b : List (Int × Pc)) : (kvI dTold b).map (fun kv => kD kv.1) = (keysI b).map D.int := by unfold kvI keysI; rw [List.map_map, List.map_map]; rfl
theorem ok_law (T : Txt K mg) : FnOk P w K mg base CX0 10 T.f_law T.fd_law ["_law_script"] (spLaw' K) := by
  refine fn_ok T.F_law sc_law (fun x => rfl) (fun cdv A outer s H E B ns hr hns => ?_)
  have q0 : Nm n_law "_law_script" 0 := rfl; have q1 : Nm n_law "_law_many" 1 := rfl; have q2 : Nm n_law "_law_some" 2 := rfl; have q3 : Nm n_law "_law_models" 3 := rfl; have q4 : Nm n_law "_law_due_here" 4 := rfl; have q5 : Nm n_law "_law_handed" 5 := rfl; have q6 : Nm n_law "_law_found" 6 := rfl; have q7 : Nm n_law "_law_shelf" 7 := rfl; have q8 : Nm n_law "_law_row" 8 := rfl; have q9 : Nm n_law "_law_number" 9 := rfl; have q10 : Nm n_law "_law_k" 10 := rfl
  have nd := sc_law.nd
  have hu := hu1_of hr
  have hu64 := hr.units
  have hr1 := hr.mono (show 1 ≤ 9 by decide)
  repeat walk_at "y2"
  refine w_call (ok_cell_at T) (hr.mono (by decide)) T.m__law_cell_at T.F__law_cell_at.kp (b__law_cell_at T) .nil ?_
  repeat walk_at "y2"
  refine ⟨(ns, 0), _, (show (0 : Int) ≤ 0 by decide), rfl, .nil, ?_⟩
  rintro _ _ ⟨rfl, rfl⟩
  repeat walk_at "y2"
  have hmany : 0 ≤ cellAt ns 0 % 4 ∧ cellAt ns 0 % 4 < 4 := ⟨by omega, by omega⟩
  dsimp only
  generalize cellAt ns 0 % 4 = many at hmany ⊢
  -- the shelves
  refine ws_setLc (g := gName 10) (defScope s_law) [("_law_k", 10)] q2 nd (fun b => pg_nm (Ns := n_law) rfl nd) (tgOk_name (by decide)) ?_
  refine wI_rng1 T.z_range ?_
  repeat walk_at "y"
  intro ls
  refine ⟨fun i acc S' => ∃ shs : List Sh, shs.length = i ∧ i ≤ many.toNat ∧ (∀ s ∈ shs, s.m = []) ∧ acc = shs.map (fun s => D.ref s.p) ∧ S' = fam T shs, ⟨[], rfl, Nat.zero_le _, (fun _ h => nomatch h), rfl, rfl⟩, ?_, ?_, ?_⟩
  · rintro i acc S' ⟨shs, h1, h2, h3, h4, h5⟩
    refine ⟨trivial, ?_⟩
    rw [h4, List.length_map]
    omega
  · rintro i acc S' hi ⟨shs, h1, h2, h3, rfl, rfl⟩
    repeat walk_at "g"
    refine ⟨fun _ => ?_, fun e => nomatch e⟩
    intro b
    refine w_Shelf T (hr.mono (by decide)) fun p d => ?_
    refine ⟨[], fam T (shs ++ [⟨p, d, [], 0⟩]), ?_, shs ++ [⟨p, d, [], 0⟩], by rw [List.length_append, h1]; rfl, by omega, ?_, ?_, rfl⟩
    · refine Pick.perm' ?_
      rw [fam_snoc, ← List.cons_append]
      exact List.perm_append_comm
    · intro s hs
      rcases List.mem_append.mp hs with h | h
      · exact h3 s h
      · rw [List.mem_singleton.mp h]
    · rw [List.map_append]; rfl
  rintro acc S' ⟨shs, hsl, -, hsm, rfl, rfl⟩
  -- the rows of the model
  refine wss_cons (ws_setLc (g := gName 10) (defScope s_law) [("_law_k", 10)] q3 nd (fun b => pg_nm (Ns := n_law) rfl nd) (tgOk_name (by decide)) ?_)
  refine wI_rng1 T.z_range ?_
  repeat walk_at "y"
  intro lm
  refine ⟨fun i acc S' => ∃ rs : List Addr, rs.length = i ∧ i ≤ many.toNat ∧ acc = rs.map D.ref ∧ S' = rowsE rs ++ (ckL ls (shs.map fun s => D.ref s.p) :: fam T shs), ⟨[], rfl, Nat.zero_le _, rfl, rfl⟩, ?_, ?_, ?_⟩
  · rintro i acc S' ⟨rs, h1, h2, h4, h5⟩
    refine ⟨trivial, ?_⟩
    rw [h4, List.length_map]
    omega
  · rintro i acc S' hi ⟨rs, h1, h2, rfl, rfl⟩
    repeat walk_at "g"
    refine ⟨fun _ => ?_, fun e => nomatch e⟩
    intro b
    repeat walk_at "y"
    intro p
    refine ⟨[], rowsE (rs ++ [p]) ++ (ckL ls (shs.map fun s => D.ref s.p) :: fam T shs), ?_, rs ++ [p], by rw [List.length_append, h1]; rfl, by omega, by rw [List.map_append]; rfl, rfl⟩
    refine Pick.perm' ?_
    unfold rowsE
    rw [List.map_append, List.append_assoc]
    show (_ :: (_ ++ ckD p [] :: _)).Perm _
    exact (List.Perm.cons _ List.perm_middle).trans (List.Perm.swap _ _ _)
  rintro acc S' ⟨rs, hrl, -, rfl, rfl⟩
  -- the cells
  have hlen : shs.length = rs.length := by rw [hsl, hrl]
  have hz0 : (shs.zip rs).length = many.toNat := by rw [List.length_zip, hsl, hrl, Nat.min_self]
  have hzp : (ckSome ls (shs.zip rs) :: ckMod lm (shs.zip rs) :: fam2 T (shs.zip rs)).Perm (ckL lm (rs.map D.ref) :: (rowsE rs ++ (ckL ls (shs.map fun s => D.ref s.p) :: fam T shs))) := by
    rw [zip_some hlen, zip_mod hlen]
    refine (List.Perm.swap _ _ _).trans (List.Perm.cons _ ?_)
    refine List.Perm.trans (List.Perm.cons _ (fam2_zip T shs rs hlen hsm)) ?_
    exact List.perm_middle.symm
  refine wss_weak (G' := [some (dSc ns), some (.int many), some (.ref ls), some (.ref lm), none, none, none, none, none, none, none]) (by walk_at "wk") (Pick.perm' hzp) ?_
  have hz1 := cells0 hlen hsm
  generalize shs.zip rs = L0 at hz0 hz1
  refine wss_cut (fun G' S' => ∃ L, L.length = many.toNat ∧ CellsOk L 59 ∧ G' = [some (dSc ns), some (.int many), some (.ref ls), some (.ref lm), none, none, none, none, none, none, none] ∧ S' = ckSome ls L :: ckMod lm L :: fam2 T L) ?_ ?_
  · repeat walk_at "y2"
    refine ⟨fun e => ?_, fun e => ?_⟩
    · have e : 0 < many := of_decide_eq_true e
      repeat walk_at "y2"
      refine w_call (ok_laid T) (hr.mono (by decide)) T.m__law_laid T.F__law_laid.kp (b__law_laid T) .nil ?_
      repeat walk_at "y2"
      refine ⟨⟨ns, ls, lm, L0⟩, [], ⟨⟨hns, by show 0 < L0.length; omega, by show L0.length < 1000; omega⟩, hz1⟩, rfl, Pick.perm' (List.Perm.refl _), ?_⟩
      rintro _ _ ⟨rfl, L, h1, h2, rfl⟩
      refine wss_nil ?_
      exact ⟨L, h1.trans hz0, h2, rfl, List.append_nil _⟩
    · refine wss_nil ?_
      exact ⟨L0, hz0, ⟨hz1.ok, Nat.le_trans hz1.tot (by decide)⟩, rfl, rfl⟩
  rintro _ _ ⟨L, hLl, hL, rfl, rfl⟩
  -- what is due
  repeat walk_at "y2"
  refine w_call (ok_due T) (hr.mono (by decide)) T.m__law_due T.F__law_due.kp (b__law_due T) .nil ?_
  repeat walk_at "y2"
  refine ⟨(lm, L), [ckSome ls L], hL, rfl, List.perm_append_comm (l₂ := [ckSome ls L]), ?_⟩
  rintro _ _ ⟨q, b, rfl, rfl, hb⟩
  dsimp only at hb
  refine wss_drop (S' := ckD q (kvI dTold b) :: ckSome ls L :: ckMod lm L :: fam2 T L) (Pick.perm' (List.Perm.cons _ (List.perm_append_comm (l₁ := [ckSome ls L])))) ?_
  -- what is handed
  refine wss_cons (ws_set (by assumption) (by assumption) (w_list T.z_list rfl ?_))
  repeat walk_at "y2"
  refine ⟨_, .own 1 rfl, fun lh => ?_⟩
  have hoksh : ∀ s ∈ L.map (·.1), ShOk s := fun s hs => by
    obtain ⟨c, hc, rfl⟩ := List.mem_map.mp hs
    exact hL.ok c hc
  have htot : tot (L.map (·.1)) ≤ 59 := hL.tot
  have hpk : Pick (ckL lh (L.map fun c => D.ref c.1.p) :: ckD q (kvI dTold b) :: ckSome ls L :: ckMod lm L :: fam2 T L) (ckSh lh (L.map (·.1)) :: fam T (L.map (·.1))) (ckD q (kvI dTold b) :: ckSome ls L :: ckMod lm L :: rowsL L) := by
    show ((ckSh lh (L.map (·.1)) :: fam T (L.map (·.1))) ++ (ckD q (kvI dTold b) :: ckSome ls L :: ckMod lm L :: rowsL L)).Perm _
    rw [show ckSh lh (L.map (·.1)) = ckL lh (L.map fun c => D.ref c.1.p) by unfold ckSh; rw [List.map_map]; rfl]
    refine List.Perm.cons _ ?_
    exact (List.perm_append_comm_assoc (fam T (L.map (·.1))) [ckD q (kvI dTold b), ckSome ls L, ckMod lm L] (rowsL L)).trans (List.Perm.append_left [ckD q (kvI dTold b), ckSome ls L, ckMod lm L] (fam2_parts T L).symm)
  refine wss_cons (ws_set (by assumption) (by assumption) (w_call (ok_joined T) (hr.mono (by decide)) T.m_joined T.F_joined.kp (b_joined T) .nil ?_))
  repeat walk_at "y2"
  refine ⟨(lh, L.map (·.1)), _, ⟨hoksh, by show tot (L.map (·.1)) < 64; omega⟩, rfl, hpk, ?_⟩
  rintro _ _ ⟨sf, rfl, rfl, hsf⟩
  dsimp only at hsf
  refine wss_drop (S' := shC T sf ++ (ckL lh (L.map fun c => D.ref c.1.p) :: ckD q (kvI dTold b) :: ckSome ls L :: ckMod lm L :: fam2 T L)) (Pick.perm' (by rw [List.append_assoc]; exact List.Perm.append_left _ (List.Perm.symm hpk))) ?_
  have hsfok : ShOk sf := ⟨hsf.nd, fun n p hp => joinF_ok hoksh (k := n) (by rw [← hsf.g]; exact hp)⟩
  have hsfl : sf.m.length < 64 := by have := hsf.len; omega
  have htel : Tel (getI sf.m) 63 b := ⟨fun k => by rw [hb.g, hsf.g]; rfl, hb.nd, by have := hb.len; have := hL.tot; omega⟩
  have hpa : Pick (shC T sf ++ (ckL lh (L.map fun c => D.ref c.1.p) :: ckD q (kvI dTold b) :: ckSome ls L :: ckMod lm L :: fam2 T L)) (shC T sf ++ [ckD q (kvI dTold b)]) (ckL lh (L.map fun c => D.ref c.1.p) :: ckSome ls L :: ckMod lm L :: fam2 T L) := by
    show ((shC T sf ++ [ckD q (kvI dTold b)]) ++ _).Perm _
    rw [List.append_assoc]
    exact List.Perm.append_left _ (List.Perm.swap _ _ _)
  refine wss_cons (ws_if (wT_bool (wW_or (wT_not (wT_val (w_call (ok_alike T) (hr.mono (by decide)) T.m__law_alike T.F__law_alike.kp (b__law_alike T) .nil ?_))))))
  repeat walk_at "y2"
  refine ⟨(sf, q, b), _, ⟨hsfok, hsfl, htel⟩, rfl, hpa, ?_⟩
  rintro _ _ ⟨rfl, rfl⟩
  repeat walk_at "y2"
  refine ⟨fun h => absurd h (by decide), fun _ => ?_⟩
  repeat walk_at "y2"
  refine w_len T.z_len ?_
  repeat walk_at "y2"
  refine ⟨_, .own 3 rfl, ?_⟩
  rw [List.length_map]
  repeat walk_at "y2"
  rw [show decide ((L.length : Int) = many) = true from decide_eq_true (by omega)]
  refine ⟨fun h => absurd h (by decide), fun _ => ?_⟩
  refine wss_nil ?_
  show wSs _ _ _ _ _ (hd0 T sf q b lh ls lm L ++ fam2 T L)
  -- each shelf by its row
  refine wss_cons (ws_forZip (α := Cell) (fun c => D.ref c.1.p) (fun c => D.ref c.2) (fun pre G' S' => ∃ dn post, L = pre ++ post ∧ G' = [some (dSc ns), some (.int many), some (.ref ls), some (.ref lm), some (.ref q), some (.ref lh), some (.ref sf.p), none, none, none, none] ∧ S' = hd0 T sf q b lh ls lm L ++ (fam3 T dn ++ fam2 T post) ∧ dn.map k3 = pre.map k2 ∧ ∀ t ∈ dn, TriOk t) T.z_zip (pg_t2 (by assumption) (by assumption) (by assumption)) ?_)
  repeat walk_at "y2"
  refine ⟨L, _, _, .own 4 rfl, .own 5 rfl, ⟨[], L, rfl, rfl, rfl, rfl, fun _ h => nomatch h⟩, ?_, ?_, ?_⟩
  · rintro pre _ _ ⟨dn, post, h1, rfl, rfl, h2, h3⟩
    simp
  · rintro pre c post' _ _ hsp ⟨dn, post, h1, rfl, rfl, h2, h3⟩
    have hpost : post = c :: post' := List.append_cancel_left (h1.symm.trans hsp)
    subst hpost
    have hcok : ShOk c.1 := hL.ok c (by rw [hsp]; simp)
    have hcl : c.1.m.length ≤ 59 := Nat.le_trans (Nat.le_trans (Nat.le_add_left _ _) (totC_split hsp)) hL.tot
    repeat walk_at "g"
    refine wss_cons (ws_if (wT_not (wT_val (w_call (ok_alike T) (hr.mono (by decide)) T.m__law_alike T.F__law_alike.kp (b__law_alike T) .nil ?_))))
    repeat walk_at "y2"
    refine ⟨(c.1, c.2, c.1.m), hd0 T sf q b lh ls lm L ++ (fam3 T dn ++ fam2 T post'), ⟨hcok, by show c.1.m.length < 64; omega, ⟨fun _ => rfl, hcok.nd, by show c.1.m.length ≤ 63; omega⟩⟩, rfl, pick_mid (List.perm_append_comm_assoc _ _ _), ?_⟩
    rintro _ _ ⟨rfl, rfl⟩
    repeat walk_at "y2"
    refine ⟨fun h => absurd h (by decide), fun _ => ?_⟩
    refine wss_nil ?_
    repeat walk_at "y2"
    refine w_lay T hr1 ?_
    repeat walk_at "y2"
    refine ⟨c.1, ckD c.2 (kvI dTold c.1.m) :: (hd0 T sf q b lh ls lm L ++ (fam3 T dn ++ fam2 T post')), rfl, List.Perm.refl _, ?_⟩
    repeat walk_at "y2"
    refine w_Whole T (hr.mono (by decide)) ?_
    repeat walk_at "y2"
    intro x
    repeat walk_at "y2"
    refine ⟨7, _, [ckL x (rows3.map dRow)], rows3, _, rfl, .own, by decide, ⟨by decide, by decide⟩, rows3_ok, .cons 0 rfl .nil, ?_⟩
    repeat walk_at "y2"
    refine ⟨3, w3, ckL x (rows3.map dRow) :: ckD c.2 (kvI dTold c.1.m) :: (hd0 T sf q b lh ls lm L ++ (fam3 T dn ++ fam2 T post')), rfl, ?_, by show c.1.m.length < 1000; omega, fun o => ?_⟩
    · exact List.perm_middle
    refine wss_end (G' := [some (dSc ns), some (.int many), some (.ref ls), some (.ref lm), some (.ref q), some (.ref lh), some (.ref sf.p), none, none, none, none]) (S' := hd0 T sf q b lh ls lm L ++ (fam3 T (dn ++ [(⟨c.1.p, c.1.d, setI c.1.m 3 w3, o⟩, c.2, c.1.m)]) ++ fam2 T post')) (R := [ckL x (rows3.map dRow)]) (by walk_at "wk") ?_ ⟨_, post', by rw [hsp, List.append_assoc]; rfl, rfl, rfl, ?_, ?_⟩
    · show ((hd0 T sf q b lh ls lm L ++ (fam3 T (dn ++ [(⟨c.1.p, c.1.d, setI c.1.m 3 w3, o⟩, c.2, c.1.m)]) ++ fam2 T post')) ++ [ckL x (rows3.map dRow)]).Perm (shC T ⟨c.1.p, c.1.d, setI c.1.m 3 w3, o⟩ ++ (ckL x (rows3.map dRow) :: ckD c.2 (kvI dTold c.1.m) :: (hd0 T sf q b lh ls lm L ++ (fam3 T dn ++ fam2 T post'))))
      refine List.Perm.trans ?_ List.perm_middle.symm
      refine (List.perm_append_comm (l₂ := [ckL x (rows3.map dRow)])).trans (List.Perm.cons _ ?_)
      rw [fam3_snoc]
      have := pick_mid (A := hd0 T sf q b lh ls lm L) (C := triC T (⟨c.1.p, c.1.d, setI c.1.m 3 w3, o⟩, c.2, c.1.m)) (Z := fam3 T dn ++ fam2 T post') (F := (fam3 T dn ++ triC T (⟨c.1.p, c.1.d, setI c.1.m 3 w3, o⟩, c.2, c.1.m)) ++ fam2 T post') perm3
      exact List.Perm.symm this
    · rw [List.map_append, List.map_append, h2]; rfl
    · intro t ht
      rcases List.mem_append.mp ht with h | h
      · exact h3 t h
      · rw [List.mem_singleton.mp h]
        exact ⟨rfl, hcok.nd, hcl⟩
  rintro _ _ ⟨dn, post, h1, rfl, rfl, h2, h3⟩
  have hpost : post = [] := by
    have := List.append_cancel_left (show L ++ [] = L ++ post by rw [List.append_nil]; exact h1)
    exact this.symm
  subst hpost
  refine wss_drop (S' := hd0 T sf q b lh ls lm L ++ fam3 T dn) (Pick.perm' (by show List.Perm (hd0 T sf q b lh ls lm L ++ fam3 T dn) (hd0 T sf q b lh ls lm L ++ (fam3 T dn ++ [])); rw [List.append_nil])) ?_
  -- once more
  refine wss_cons (ws_if (wT_not (wT_val (w_call (ok_alike T) (hr.mono (by decide)) T.m__law_alike T.F__law_alike.kp (b__law_alike T) .nil ?_))))
  repeat walk_at "y2"
  refine ⟨(sf, q, b), ckL lh (L.map fun c : Cell => D.ref c.1.p) :: ckSome ls L :: ckMod lm L :: fam3 T dn, ⟨hsfok, hsfl, htel⟩, rfl, List.Perm.refl _, ?_⟩
  rintro _ _ ⟨rfl, rfl⟩
  repeat walk_at "y2"
  refine ⟨fun h => absurd h (by decide), fun _ => ?_⟩
  refine wss_nil ?_
  show wSs _ _ _ _ _ (hd0 T sf q b lh ls lm L ++ fam3 T dn)
  -- all is dropped
  refine wss_cons (ws_forM (α := Int) D.int (fun pre G' S' => ∃ m', G' = [some (dSc ns), some (.int many), some (.ref ls), some (.ref lm), some (.ref q), some (.ref lh), some (.ref sf.p), none, none, none, none] ∧ S' = hd0 T ⟨sf.p, sf.d, m', sf.o⟩ q b lh ls lm L ++ fam3 T dn ∧ ∀ k, getI m' k = if k ∈ pre then none else getI sf.m k) (pg_nm (by assumption) (by assumption)) ?_)
  refine W_frzL (w_list T.z_list rfl ?_)
  repeat walk_at "y2"
  refine ⟨_, .dct 2 rfl, fun x => ⟨x, _, 0, rfl, rfl, ?_⟩⟩
  refine ⟨keysI b, _, by rw [keysD]; exact sq_lst, ⟨sf.m, rfl, rfl, fun k => by rw [if_neg (by simp)]⟩, fun _ _ _ _ => trivial, ?_, ?_⟩
  · rintro pre n post _ _ hsp ⟨m', rfl, rfl, hm'⟩
    obtain ⟨pc, hpc⟩ := getI_iff.mpr (show n ∈ keysI b by rw [hsp]; simp)
    have hnp : n ∉ pre := by
      have := hb.nd
      rw [hsp] at this
      exact fun z => (List.nodup_append.mp this).2.2 n z n (by simp) rfl
    have hg' : getI m' n = some pc := by rw [hm', if_neg hnp, ← htel.g]; exact hpc
    repeat walk_at "g"
    repeat walk_at "y2"
    refine w_drop T hr1 ?_
    repeat walk_at "y2"
    refine ⟨⟨sf.p, sf.d, m', sf.o⟩, _, rfl, List.Perm.refl _, ?_⟩
    repeat walk_at "y2"
    refine ⟨n, pc, _, rfl, List.Perm.refl _, hg', ?_⟩
    refine wss_end (G' := [some (dSc ns), some (.int many), some (.ref ls), some (.ref lm), some (.ref q), some (.ref lh), some (.ref sf.p), none, none, none, none]) (by walk_at "wk") Pick.all ⟨delI m' n, rfl, rfl, fun k => ?_⟩
    rw [getI_del, hm']
    by_cases e : k = n
    · subst e; rw [if_pos rfl, if_pos (by simp)]
    · rw [if_neg e]
      by_cases e2 : k ∈ pre
      · rw [if_pos e2, if_pos (by simp [e2])]
      · rw [if_neg e2, if_neg (by simp [e2, e])]
  rintro _ _ ⟨m', rfl, rfl, hm'⟩
  have hme : m' = [] := getI_all_none fun k => by
    rw [hm']
    by_cases e : k ∈ keysI b
    · rw [if_pos e]
    · rw [if_neg e, ← htel.g]; exact getI_none_iff.mpr e
  subst hme
  -- the rows are as they were
  have hk1 : L.map (fun c => D.ref c.1.p) = dn.map fun t => D.ref t.1.p := by
    have := congrArg (List.map fun z : Addr × Addr => D.ref z.1) h2
    rw [List.map_map, List.map_map] at this
    exact this.symm
  have hk2 : L.map (fun c => D.ref c.2) = dn.map fun t => D.ref t.2.1 := by
    have := congrArg (List.map fun z : Addr × Addr => D.ref z.2) h2
    rw [List.map_map, List.map_map] at this
    exact this.symm
  refine wss_cons (ws_forZip (α := Tri) (fun t => D.ref t.1.p) (fun t => D.ref t.2.1) (fun pre G' S' => G' = [some (dSc ns), some (.int many), some (.ref ls), some (.ref lm), some (.ref q), some (.ref lh), some (.ref sf.p), none, none, none, none] ∧ S' = hd0 T ⟨sf.p, sf.d, [], sf.o⟩ q b lh ls lm L ++ fam3 T dn) T.z_zip (pg_t2 (by assumption) (by assumption) (by assumption)) ?_)
  repeat walk_at "y2"
  refine ⟨dn, _, _, .own 4 (congrArg (fun l => some (ckL ls l)) hk1), .own 5 (congrArg (fun l => some (ckL lm l)) hk2), ⟨rfl, rfl⟩, ?_, ?_, ?_⟩
  · rintro pre _ _ ⟨rfl, rfl⟩
    rw [← hk1, ← hk2]
    simp
  · rintro pre t post _ _ hsp ⟨rfl, rfl⟩
    have ht := h3 t (by rw [hsp]; simp)
    have htl : t.1.m.length < 64 := by
      have := setI_len t.2.2 3 w3
      have := ht.len
      rw [ht.m]
      omega
    have hpk3 : Pick (hd0 T ⟨sf.p, sf.d, [], sf.o⟩ q b lh ls lm L ++ fam3 T dn) (shC T t.1) (hd0 T ⟨sf.p, sf.d, [], sf.o⟩ q b lh ls lm L ++ (ckD t.2.1 (kvI dTold t.2.2) :: fam3 T (pre ++ post))) := pick_mid (fam3_split T hsp)
    repeat walk_at "g"
    repeat walk_at "y2"
    refine w_numbers T hr1 ?_
    repeat walk_at "y2"
    refine ⟨t.1, _, rfl, hpk3, htl, fun x1 => ?_⟩
    refine w_sortedS T.z_sorted (w_setL T.z_set (w_add (w_list T.z_list rfl ?_)))
    repeat walk_at "y2"
    refine ⟨_, .dct 9 rfl, fun x2 => ?_⟩
    repeat walk_at "y2"
    intro x3
    refine wr_catL 1 0 rfl rfl (by rw [keysD, List.length_map]; unfold keysI; rw [List.length_map]; have := ht.len; show t.2.2.length + 1 ≤ 100000; omega) fun x4 => ?_
    refine ⟨x4, keysI t.2.2 ++ [3], 0, rfl, by rw [List.map_append, ← keysD]; rfl, by rw [List.length_append]; unfold keysI; rw [List.length_map]; have := ht.len; show t.2.2.length + 1 < 1000; omega, fun x5 => ?_⟩
    refine ⟨x5, _, 0, rfl, rfl, by rw [List.length_append]; unfold keysI; rw [List.length_map]; have := ht.len; show t.2.2.length + 1 < 64; omega, fun x6 ms hms1 hms2 => ?_⟩
    have hsr := tri_srt ht hms1 hms2
    refine wr_neSame (d := .list (ms.map PyData.int)) (by rw [← hsr]; exact .own 5 rfl (eqbs_ints _)) (.own 0 rfl (eqbs_ints _)) ?_
    repeat walk_at "y2"
    refine ⟨fun h => absurd h (by decide), fun _ => ?_⟩
    refine wss_nil ?_
    refine wss_end (G' := [some (dSc ns), some (.int many), some (.ref ls), some (.ref lm), some (.ref q), some (.ref lh), some (.ref sf.p), none, none, none, none]) (S' := hd0 T ⟨sf.p, sf.d, [], sf.o⟩ q b lh ls lm L ++ fam3 T dn) (R := [ckL x6 (ms.map D.int), ckS w x5 (keysI t.2.2 ++ [3]), ckL x4 ((kvI dTold t.2.2).map (fun kv => kD kv.1) ++ [D.int 3]), ckL x3 [D.int 3], ckL x2 ((kvI dTold t.2.2).map fun kv => kD kv.1), ckL x1 ((srt t.1.ks).map D.int)]) (by walk_at "wk") ?_ ⟨rfl, rfl⟩
    exact List.perm_append_comm.trans (List.Perm.append_left [ckL x6 (ms.map D.int), ckS w x5 (keysI t.2.2 ++ [3]), ckL x4 ((kvI dTold t.2.2).map (fun kv => kD kv.1) ++ [D.int 3]), ckL x3 [D.int 3], ckL x2 ((kvI dTold t.2.2).map fun kv => kD kv.1), ckL x1 ((srt t.1.ks).map D.int)] (List.Perm.symm hpk3))
  rintro _ _ ⟨rfl, rfl⟩
  have hs0 : (srt (Sh.ks ⟨sf.p, sf.d, [], sf.o⟩)).map D.int = [] := by show (srt []).map D.int = []; rw [srt_nil]; rfl
  repeat walk_at "y2"
  refine w_numbers T hr1 ?_
  repeat walk_at "y2"
  refine ⟨⟨sf.p, sf.d, [], sf.o⟩, _, rfl, List.Perm.refl _, (show 0 < 64 by decide), fun x1 => ?_⟩
  repeat walk_at "y2"
  intro x2
  refine wr_eqSame (d := .list []) (.own 1 (congrArg (fun l => some (ckL x1 l)) hs0) .nil) (.own 0 rfl .nil) ?_
  repeat walk_at "y2"
  refine ⟨fun _ => ?_, fun h => absurd h (by decide)⟩
  repeat walk_at "y2"
  refine w_numbers T hr1 (w_call (ok_joined T) (hr.mono (by decide)) T.m_joined T.F_joined.kp (b_joined T) .nil ?_)
  repeat walk_at "y2"
  intro x3
  repeat walk_at "y2"
  refine ⟨(x3, []), _, ⟨(by intro s hs; cases hs), (show tot [] < 64 by decide)⟩, rfl, .cons 0 rfl .nil, ?_⟩
  rintro _ _ ⟨s2, rfl, rfl, h2⟩
  have hm2 : s2.m = [] := List.eq_nil_of_length_eq_zero (Nat.le_zero.mp h2.len)
  have hs2 : (srt s2.ks).map D.int = [] := by unfold Sh.ks keysI; rw [hm2]; exact hs0
  refine ⟨s2, _, rfl, List.Perm.refl _, by rw [hm2]; decide, fun x4 => ?_⟩
  repeat walk_at "y2"
  intro x5
  refine wr_eqSame (d := .list []) (.own 1 (congrArg (fun l => some (ckL x4 l)) hs2) .nil) (.own 0 rfl .nil) ?_
  exact rfl
end
end K63
set_option Elab.async false
set_option maxRecDepth 100000
set_option linter.unusedVariables false
set_option maxHeartbeats 0
namespace K63
open PySem L2 PySem.Spec PyProof.Rows Sy
theorem all_mk {K : PySem.W.Frag} {h : Heap} {mg : Str → Option Value} (X : K.In h) (G : h.Ns mainGlobals mg) {f_Shelf_init f_Shelf_lay f_Shelf_piece f_Shelf_drop f_Shelf_numbers f_joined f_turned f_check_of f_Piece_init f_Piece_start f_Piece_kind f_Piece_size f_Piece_is_good f_Piece_laid f_Piece_again f_Piece_harmed f_Whole_kind f_Whole_laid f_Whole_again f_Gain_init f_Gain_start f_Gain_kind f_Gain_again f__law_cell_at f__law_whole f__law_mix f__law_piece f__law_spoilt f__law_shown f__law_laid f__law_due f__law_alike f_law C_Shelf C_Piece C_Whole C_Gain T_Piece_init T_Gain_init : Addr} {oc_joined kV_joined doc_joined pm_joined cd_joined ct_joined oc_turned kV_turned doc_turned pm_turned cd_turned ct_turned oc_check_of kV_check_of doc_check_of pm_check_of cd_check_of ct_check_of oc__law_cell_at kV__law_cell_at doc__law_cell_at pm__law_cell_at cd__law_cell_at ct__law_cell_at oc__law_whole kV__law_whole doc__law_whole pm__law_whole cd__law_whole ct__law_whole oc__law_mix kV__law_mix doc__law_mix pm__law_mix cd__law_mix ct__law_mix oc__law_piece kV__law_piece doc__law_piece pm__law_piece cd__law_piece ct__law_piece oc__law_spoilt kV__law_spoilt doc__law_spoilt pm__law_spoilt cd__law_spoilt ct__law_spoilt oc__law_shown kV__law_shown doc__law_shown pm__law_shown cd__law_shown ct__law_shown oc__law_laid kV__law_laid doc__law_laid pm__law_laid cd__law_laid ct__law_laid oc__law_due kV__law_due doc__law_due pm__law_due cd__law_due ct__law_due oc__law_alike kV__law_alike doc__law_alike pm__law_alike cd__law_alike ct__law_alike oc_law kV_law doc_law pm_law cd_law ct_law oc_Shelf_init kV_Shelf_init doc_Shelf_init pm_Shelf_init cd_Shelf_init ct_Shelf_init oc_Shelf_lay kV_Shelf_lay doc_Shelf_lay pm_Shelf_lay cd_Shelf_lay ct_Shelf_lay oc_Shelf_piece kV_Shelf_piece doc_Shelf_piece pm_Shelf_piece cd_Shelf_piece ct_Shelf_piece oc_Shelf_drop kV_Shelf_drop doc_Shelf_drop pm_Shelf_drop cd_Shelf_drop ct_Shelf_drop oc_Shelf_numbers kV_Shelf_numbers doc_Shelf_numbers pm_Shelf_numbers cd_Shelf_numbers ct_Shelf_numbers oc_Piece_init kV_Piece_init doc_Piece_init pm_Piece_init cd_Piece_init ct_Piece_init oT_Piece_init oc_Piece_start kV_Piece_start doc_Piece_start pm_Piece_start cd_Piece_start ct_Piece_start oc_Piece_kind kV_Piece_kind doc_Piece_kind pm_Piece_kind cd_Piece_kind ct_Piece_kind oc_Piece_size kV_Piece_size doc_Piece_size pm_Piece_size cd_Piece_size ct_Piece_size oc_Piece_is_good kV_Piece_is_good doc_Piece_is_good pm_Piece_is_good cd_Piece_is_good ct_Piece_is_good oc_Piece_laid kV_Piece_laid doc_Piece_laid pm_Piece_laid cd_Piece_laid ct_Piece_laid oc_Piece_again kV_Piece_again doc_Piece_again pm_Piece_again cd_Piece_again ct_Piece_again oc_Piece_harmed kV_Piece_harmed doc_Piece_harmed pm_Piece_harmed cd_Piece_harmed ct_Piece_harmed oc_Whole_kind kV_Whole_kind doc_Whole_kind pm_Whole_kind cd_Whole_kind ct_Whole_kind oc_Whole_laid kV_Whole_laid doc_Whole_laid pm_Whole_laid cd_Whole_laid ct_Whole_laid oc_Whole_again kV_Whole_again doc_Whole_again pm_Whole_again cd_Whole_again ct_Whole_again oc_Gain_init kV_Gain_init doc_Gain_init pm_Gain_init cd_Gain_init ct_Gain_init oT_Gain_init oc_Gain_start kV_Gain_start doc_Gain_start pm_Gain_start cd_Gain_start ct_Gain_start oc_Gain_kind kV_Gain_kind doc_Gain_kind pm_Gain_kind cd_Gain_kind ct_Gain_kind oc_Gain_again kV_Gain_again doc_Gain_again pm_Gain_again cd_Gain_again ct_Gain_again : Value} {od_joined an_joined od_turned an_turned od_check_of an_check_of od__law_cell_at an__law_cell_at od__law_whole an__law_whole od__law_mix an__law_mix od__law_piece an__law_piece od__law_spoilt an__law_spoilt od__law_shown an__law_shown od__law_laid an__law_laid od__law_due an__law_due od__law_alike an__law_alike od_law an_law od_Shelf_init an_Shelf_init od_Shelf_lay an_Shelf_lay od_Shelf_piece an_Shelf_piece od_Shelf_drop an_Shelf_drop od_Shelf_numbers an_Shelf_numbers od_Piece_init an_Piece_init dT_Piece_init od_Piece_start an_Piece_start od_Piece_kind an_Piece_kind od_Piece_size an_Piece_size od_Piece_is_good an_Piece_is_good od_Piece_laid an_Piece_laid od_Piece_again an_Piece_again od_Piece_harmed an_Piece_harmed od_Whole_kind an_Whole_kind od_Whole_laid an_Whole_laid od_Whole_again an_Whole_again od_Gain_init an_Gain_init dT_Gain_init od_Gain_start an_Gain_start od_Gain_kind an_Gain_kind od_Gain_again an_Gain_again : Option Addr} {sl_joined sl_turned sl_check_of sl__law_cell_at sl__law_whole sl__law_mix sl__law_piece sl__law_spoilt sl__law_shown sl__law_laid sl__law_due sl__law_alike sl_law sl_Shelf_init sl_Shelf_lay sl_Shelf_piece sl_Shelf_drop sl_Shelf_numbers sl_Piece_init sT_Piece_init sl_Piece_start sl_Piece_kind sl_Piece_size sl_Piece_is_good sl_Piece_laid sl_Piece_again sl_Piece_harmed sl_Whole_kind sl_Whole_laid sl_Whole_again sl_Gain_init sT_Gain_init sl_Gain_start sl_Gain_kind sl_Gain_again : Array (Option Value)} {nT_Piece_init nT_Gain_init : Nat} {t_FULL : Nat}
    (aC_Shelf : PySem.W.nsIn K mainGlobals "Shelf" = some (some (.ref C_Shelf)))
    (aC_Piece : PySem.W.nsIn K mainGlobals "Piece" = some (some (.ref C_Piece)))
    (aC_Whole : PySem.W.nsIn K mainGlobals "Whole" = some (some (.ref C_Whole)))
    (aC_Gain : PySem.W.nsIn K mainGlobals "Gain" = some (some (.ref C_Gain)))
    (a_joined : PySem.W.nsIn K mainGlobals "joined" = some (some (.ref f_joined)))
    (l_joined : K.lookup f_joined = some ⟨oc_joined, od_joined, .func (PySem.W.fnOf "joined" "joined" (defArgs s_joined) (defBody s_joined) (defScope s_joined) .none kV_joined doc_joined pm_joined an_joined cd_joined ct_joined), sl_joined⟩)
    (c_joined : PySem.W.codeIn K cd_joined "joined" = true)
    (k_joined : PySem.W.keepIn K (.ref f_joined) = true)
    (i_joined : PySem.W.isFn K (.ref f_joined) = true)
    (a_turned : PySem.W.nsIn K mainGlobals "turned" = some (some (.ref f_turned)))
    (l_turned : K.lookup f_turned = some ⟨oc_turned, od_turned, .func (PySem.W.fnOf "turned" "turned" (defArgs s_turned) (defBody s_turned) (defScope s_turned) .none kV_turned doc_turned pm_turned an_turned cd_turned ct_turned), sl_turned⟩)
    (c_turned : PySem.W.codeIn K cd_turned "turned" = true)
    (k_turned : PySem.W.keepIn K (.ref f_turned) = true)
    (i_turned : PySem.W.isFn K (.ref f_turned) = true)
    (a_check_of : PySem.W.nsIn K mainGlobals "check_of" = some (some (.ref f_check_of)))
    (l_check_of : K.lookup f_check_of = some ⟨oc_check_of, od_check_of, .func (PySem.W.fnOf "check_of" "check_of" (defArgs s_check_of) (defBody s_check_of) (defScope s_check_of) .none kV_check_of doc_check_of pm_check_of an_check_of cd_check_of ct_check_of), sl_check_of⟩)
    (c_check_of : PySem.W.codeIn K cd_check_of "check_of" = true)
    (k_check_of : PySem.W.keepIn K (.ref f_check_of) = true)
    (i_check_of : PySem.W.isFn K (.ref f_check_of) = true)
    (a__law_cell_at : PySem.W.nsIn K mainGlobals "_law_cell_at" = some (some (.ref f__law_cell_at)))
    (l__law_cell_at : K.lookup f__law_cell_at = some ⟨oc__law_cell_at, od__law_cell_at, .func (PySem.W.fnOf "_law_cell_at" "_law_cell_at" (defArgs s__law_cell_at) (defBody s__law_cell_at) (defScope s__law_cell_at) .none kV__law_cell_at doc__law_cell_at pm__law_cell_at an__law_cell_at cd__law_cell_at ct__law_cell_at), sl__law_cell_at⟩)
    (c__law_cell_at : PySem.W.codeIn K cd__law_cell_at "_law_cell_at" = true)
    (k__law_cell_at : PySem.W.keepIn K (.ref f__law_cell_at) = true)
    (i__law_cell_at : PySem.W.isFn K (.ref f__law_cell_at) = true)
    (a__law_whole : PySem.W.nsIn K mainGlobals "_law_whole" = some (some (.ref f__law_whole)))
    (l__law_whole : K.lookup f__law_whole = some ⟨oc__law_whole, od__law_whole, .func (PySem.W.fnOf "_law_whole" "_law_whole" (defArgs s__law_whole) (defBody s__law_whole) (defScope s__law_whole) .none kV__law_whole doc__law_whole pm__law_whole an__law_whole cd__law_whole ct__law_whole), sl__law_whole⟩)
    (c__law_whole : PySem.W.codeIn K cd__law_whole "_law_whole" = true)
    (k__law_whole : PySem.W.keepIn K (.ref f__law_whole) = true)
    (i__law_whole : PySem.W.isFn K (.ref f__law_whole) = true)
    (a__law_mix : PySem.W.nsIn K mainGlobals "_law_mix" = some (some (.ref f__law_mix)))
    (l__law_mix : K.lookup f__law_mix = some ⟨oc__law_mix, od__law_mix, .func (PySem.W.fnOf "_law_mix" "_law_mix" (defArgs s__law_mix) (defBody s__law_mix) (defScope s__law_mix) .none kV__law_mix doc__law_mix pm__law_mix an__law_mix cd__law_mix ct__law_mix), sl__law_mix⟩)
    (c__law_mix : PySem.W.codeIn K cd__law_mix "_law_mix" = true)
    (k__law_mix : PySem.W.keepIn K (.ref f__law_mix) = true)
    (i__law_mix : PySem.W.isFn K (.ref f__law_mix) = true)
    (a__law_piece : PySem.W.nsIn K mainGlobals "_law_piece" = some (some (.ref f__law_piece)))
    (l__law_piece : K.lookup f__law_piece = some ⟨oc__law_piece, od__law_piece, .func (PySem.W.fnOf "_law_piece" "_law_piece" (defArgs s__law_piece) (defBody s__law_piece) (defScope s__law_piece) .none kV__law_piece doc__law_piece pm__law_piece an__law_piece cd__law_piece ct__law_piece), sl__law_piece⟩)
    (c__law_piece : PySem.W.codeIn K cd__law_piece "_law_piece" = true)
    (k__law_piece : PySem.W.keepIn K (.ref f__law_piece) = true)
    (i__law_piece : PySem.W.isFn K (.ref f__law_piece) = true)
    (a__law_spoilt : PySem.W.nsIn K mainGlobals "_law_spoilt" = some (some (.ref f__law_spoilt)))
    (l__law_spoilt : K.lookup f__law_spoilt = some ⟨oc__law_spoilt, od__law_spoilt, .func (PySem.W.fnOf "_law_spoilt" "_law_spoilt" (defArgs s__law_spoilt) (defBody s__law_spoilt) (defScope s__law_spoilt) .none kV__law_spoilt doc__law_spoilt pm__law_spoilt an__law_spoilt cd__law_spoilt ct__law_spoilt), sl__law_spoilt⟩)
    (c__law_spoilt : PySem.W.codeIn K cd__law_spoilt "_law_spoilt" = true)
    (k__law_spoilt : PySem.W.keepIn K (.ref f__law_spoilt) = true)
    (i__law_spoilt : PySem.W.isFn K (.ref f__law_spoilt) = true)
    (a__law_shown : PySem.W.nsIn K mainGlobals "_law_shown" = some (some (.ref f__law_shown)))
    (l__law_shown : K.lookup f__law_shown = some ⟨oc__law_shown, od__law_shown, .func (PySem.W.fnOf "_law_shown" "_law_shown" (defArgs s__law_shown) (defBody s__law_shown) (defScope s__law_shown) .none kV__law_shown doc__law_shown pm__law_shown an__law_shown cd__law_shown ct__law_shown), sl__law_shown⟩)
    (c__law_shown : PySem.W.codeIn K cd__law_shown "_law_shown" = true)
    (k__law_shown : PySem.W.keepIn K (.ref f__law_shown) = true)
    (i__law_shown : PySem.W.isFn K (.ref f__law_shown) = true)
    (a__law_laid : PySem.W.nsIn K mainGlobals "_law_laid" = some (some (.ref f__law_laid)))
    (l__law_laid : K.lookup f__law_laid = some ⟨oc__law_laid, od__law_laid, .func (PySem.W.fnOf "_law_laid" "_law_laid" (defArgs s__law_laid) (defBody s__law_laid) (defScope s__law_laid) .none kV__law_laid doc__law_laid pm__law_laid an__law_laid cd__law_laid ct__law_laid), sl__law_laid⟩)
    (c__law_laid : PySem.W.codeIn K cd__law_laid "_law_laid" = true)
    (k__law_laid : PySem.W.keepIn K (.ref f__law_laid) = true)
    (i__law_laid : PySem.W.isFn K (.ref f__law_laid) = true)
    (a__law_due : PySem.W.nsIn K mainGlobals "_law_due" = some (some (.ref f__law_due)))
    (l__law_due : K.lookup f__law_due = some ⟨oc__law_due, od__law_due, .func (PySem.W.fnOf "_law_due" "_law_due" (defArgs s__law_due) (defBody s__law_due) (defScope s__law_due) .none kV__law_due doc__law_due pm__law_due an__law_due cd__law_due ct__law_due), sl__law_due⟩)
    (c__law_due : PySem.W.codeIn K cd__law_due "_law_due" = true)
    (k__law_due : PySem.W.keepIn K (.ref f__law_due) = true)
    (i__law_due : PySem.W.isFn K (.ref f__law_due) = true)
    (a__law_alike : PySem.W.nsIn K mainGlobals "_law_alike" = some (some (.ref f__law_alike)))
    (l__law_alike : K.lookup f__law_alike = some ⟨oc__law_alike, od__law_alike, .func (PySem.W.fnOf "_law_alike" "_law_alike" (defArgs s__law_alike) (defBody s__law_alike) (defScope s__law_alike) .none kV__law_alike doc__law_alike pm__law_alike an__law_alike cd__law_alike ct__law_alike), sl__law_alike⟩)
    (c__law_alike : PySem.W.codeIn K cd__law_alike "_law_alike" = true)
    (k__law_alike : PySem.W.keepIn K (.ref f__law_alike) = true)
    (i__law_alike : PySem.W.isFn K (.ref f__law_alike) = true)
    (a_law : PySem.W.nsIn K mainGlobals "law" = some (some (.ref f_law)))
    (l_law : K.lookup f_law = some ⟨oc_law, od_law, .func (PySem.W.fnOf "law" "law" (defArgs s_law) (defBody s_law) (defScope s_law) .none kV_law doc_law pm_law an_law cd_law ct_law), sl_law⟩)
    (c_law : PySem.W.codeIn K cd_law "law" = true)
    (k_law : PySem.W.keepIn K (.ref f_law) = true)
    (i_law : PySem.W.isFn K (.ref f_law) = true)
    (pg_Shelf : PySem.W.plainGet K C_Shelf Str.empty = true)
    (hd_Shelf : PySem.W.hasDictIn K C_Shelf = true)
    (po_Shelf : PySem.W.plainOver K C_Shelf = true)
    (sa_Shelf : PySem.W.findIn K (.ref C_Shelf) "__setattr__" = some (some (.builtin "object.__setattr__")))
    (q_Shelf_init : PySem.W.findIn K (.ref C_Shelf) "__init__" = some (some (.ref f_Shelf_init)))
    (l_Shelf_init : K.lookup f_Shelf_init = some ⟨oc_Shelf_init, od_Shelf_init, .func (PySem.W.fnOf "__init__" "Shelf.__init__" (defArgs s_Shelf_init) (defBody s_Shelf_init) (defScope s_Shelf_init) .none kV_Shelf_init doc_Shelf_init pm_Shelf_init an_Shelf_init cd_Shelf_init ct_Shelf_init), sl_Shelf_init⟩)
    (c_Shelf_init : PySem.W.codeIn K cd_Shelf_init "Shelf.__init__" = true)
    (k_Shelf_init : PySem.W.keepIn K (.ref f_Shelf_init) = true)
    (i_Shelf_init : PySem.W.isFn K (.ref f_Shelf_init) = true)
    (mk_Shelf : PySem.W.makesIn K C_Shelf = true)
    (kc_Shelf : PySem.W.keepIn K (.ref C_Shelf) = true)
    (q_Shelf_lay : PySem.W.findIn K (.ref C_Shelf) "lay" = some (some (.ref f_Shelf_lay)))
    (l_Shelf_lay : K.lookup f_Shelf_lay = some ⟨oc_Shelf_lay, od_Shelf_lay, .func (PySem.W.fnOf "lay" "Shelf.lay" (defArgs s_Shelf_lay) (defBody s_Shelf_lay) (defScope s_Shelf_lay) .none kV_Shelf_lay doc_Shelf_lay pm_Shelf_lay an_Shelf_lay cd_Shelf_lay ct_Shelf_lay), sl_Shelf_lay⟩)
    (c_Shelf_lay : PySem.W.codeIn K cd_Shelf_lay "Shelf.lay" = true)
    (k_Shelf_lay : PySem.W.keepIn K (.ref f_Shelf_lay) = true)
    (i_Shelf_lay : PySem.W.isFn K (.ref f_Shelf_lay) = true)
    (q_Shelf_piece : PySem.W.findIn K (.ref C_Shelf) "piece" = some (some (.ref f_Shelf_piece)))
    (l_Shelf_piece : K.lookup f_Shelf_piece = some ⟨oc_Shelf_piece, od_Shelf_piece, .func (PySem.W.fnOf "piece" "Shelf.piece" (defArgs s_Shelf_piece) (defBody s_Shelf_piece) (defScope s_Shelf_piece) .none kV_Shelf_piece doc_Shelf_piece pm_Shelf_piece an_Shelf_piece cd_Shelf_piece ct_Shelf_piece), sl_Shelf_piece⟩)
    (c_Shelf_piece : PySem.W.codeIn K cd_Shelf_piece "Shelf.piece" = true)
    (k_Shelf_piece : PySem.W.keepIn K (.ref f_Shelf_piece) = true)
    (i_Shelf_piece : PySem.W.isFn K (.ref f_Shelf_piece) = true)
    (q_Shelf_drop : PySem.W.findIn K (.ref C_Shelf) "drop" = some (some (.ref f_Shelf_drop)))
    (l_Shelf_drop : K.lookup f_Shelf_drop = some ⟨oc_Shelf_drop, od_Shelf_drop, .func (PySem.W.fnOf "drop" "Shelf.drop" (defArgs s_Shelf_drop) (defBody s_Shelf_drop) (defScope s_Shelf_drop) .none kV_Shelf_drop doc_Shelf_drop pm_Shelf_drop an_Shelf_drop cd_Shelf_drop ct_Shelf_drop), sl_Shelf_drop⟩)
    (c_Shelf_drop : PySem.W.codeIn K cd_Shelf_drop "Shelf.drop" = true)
    (k_Shelf_drop : PySem.W.keepIn K (.ref f_Shelf_drop) = true)
    (i_Shelf_drop : PySem.W.isFn K (.ref f_Shelf_drop) = true)
    (q_Shelf_numbers : PySem.W.findIn K (.ref C_Shelf) "numbers" = some (some (.ref f_Shelf_numbers)))
    (l_Shelf_numbers : K.lookup f_Shelf_numbers = some ⟨oc_Shelf_numbers, od_Shelf_numbers, .func (PySem.W.fnOf "numbers" "Shelf.numbers" (defArgs s_Shelf_numbers) (defBody s_Shelf_numbers) (defScope s_Shelf_numbers) .none kV_Shelf_numbers doc_Shelf_numbers pm_Shelf_numbers an_Shelf_numbers cd_Shelf_numbers ct_Shelf_numbers), sl_Shelf_numbers⟩)
    (c_Shelf_numbers : PySem.W.codeIn K cd_Shelf_numbers "Shelf.numbers" = true)
    (k_Shelf_numbers : PySem.W.keepIn K (.ref f_Shelf_numbers) = true)
    (i_Shelf_numbers : PySem.W.isFn K (.ref f_Shelf_numbers) = true)
    (na_Shelf_kept : PySem.W.findIn K (.ref C_Shelf) "kept" = some none)
    (na_Shelf_onward : PySem.W.findIn K (.ref C_Shelf) "onward" = some none)
    (pg_Piece : PySem.W.plainGet K C_Piece Str.empty = true)
    (hd_Piece : PySem.W.hasDictIn K C_Piece = true)
    (po_Piece : PySem.W.plainOver K C_Piece = true)
    (sa_Piece : PySem.W.findIn K (.ref C_Piece) "__setattr__" = some (some (.builtin "object.__setattr__")))
    (q_Piece_init : PySem.W.findIn K (.ref C_Piece) "__init__" = some (some (.ref f_Piece_init)))
    (l_Piece_init : K.lookup f_Piece_init = some ⟨oc_Piece_init, od_Piece_init, .func (PySem.W.fnOf "__init__" "Piece.__init__" (defArgs s_Piece_init) (defBody s_Piece_init) (defScope s_Piece_init) (.ref T_Piece_init) kV_Piece_init doc_Piece_init pm_Piece_init an_Piece_init cd_Piece_init ct_Piece_init), sl_Piece_init⟩)
    (c_Piece_init : PySem.W.codeIn K cd_Piece_init "Piece.__init__" = true)
    (k_Piece_init : PySem.W.keepIn K (.ref f_Piece_init) = true)
    (i_Piece_init : PySem.W.isFn K (.ref f_Piece_init) = true)
    (d_Piece_init : K.lookup T_Piece_init = some ⟨oT_Piece_init, dT_Piece_init, .seq #[.none] nT_Piece_init, sT_Piece_init⟩)
    (mk_Piece : PySem.W.makesIn K C_Piece = true)
    (kc_Piece : PySem.W.keepIn K (.ref C_Piece) = true)
    (q_Piece_start : PySem.W.findIn K (.ref C_Piece) "start" = some (some (.ref f_Piece_start)))
    (l_Piece_start : K.lookup f_Piece_start = some ⟨oc_Piece_start, od_Piece_start, .func (PySem.W.fnOf "start" "Piece.start" (defArgs s_Piece_start) (defBody s_Piece_start) (defScope s_Piece_start) .none kV_Piece_start doc_Piece_start pm_Piece_start an_Piece_start cd_Piece_start ct_Piece_start), sl_Piece_start⟩)
    (c_Piece_start : PySem.W.codeIn K cd_Piece_start "Piece.start" = true)
    (k_Piece_start : PySem.W.keepIn K (.ref f_Piece_start) = true)
    (i_Piece_start : PySem.W.isFn K (.ref f_Piece_start) = true)
    (q_Piece_kind : PySem.W.findIn K (.ref C_Piece) "kind" = some (some (.ref f_Piece_kind)))
    (l_Piece_kind : K.lookup f_Piece_kind = some ⟨oc_Piece_kind, od_Piece_kind, .func (PySem.W.fnOf "kind" "Piece.kind" (defArgs s_Piece_kind) (defBody s_Piece_kind) (defScope s_Piece_kind) .none kV_Piece_kind doc_Piece_kind pm_Piece_kind an_Piece_kind cd_Piece_kind ct_Piece_kind), sl_Piece_kind⟩)
    (c_Piece_kind : PySem.W.codeIn K cd_Piece_kind "Piece.kind" = true)
    (k_Piece_kind : PySem.W.keepIn K (.ref f_Piece_kind) = true)
    (i_Piece_kind : PySem.W.isFn K (.ref f_Piece_kind) = true)
    (q_Piece_size : PySem.W.findIn K (.ref C_Piece) "size" = some (some (.ref f_Piece_size)))
    (l_Piece_size : K.lookup f_Piece_size = some ⟨oc_Piece_size, od_Piece_size, .func (PySem.W.fnOf "size" "Piece.size" (defArgs s_Piece_size) (defBody s_Piece_size) (defScope s_Piece_size) .none kV_Piece_size doc_Piece_size pm_Piece_size an_Piece_size cd_Piece_size ct_Piece_size), sl_Piece_size⟩)
    (c_Piece_size : PySem.W.codeIn K cd_Piece_size "Piece.size" = true)
    (k_Piece_size : PySem.W.keepIn K (.ref f_Piece_size) = true)
    (i_Piece_size : PySem.W.isFn K (.ref f_Piece_size) = true)
    (q_Piece_is_good : PySem.W.findIn K (.ref C_Piece) "is_good" = some (some (.ref f_Piece_is_good)))
    (l_Piece_is_good : K.lookup f_Piece_is_good = some ⟨oc_Piece_is_good, od_Piece_is_good, .func (PySem.W.fnOf "is_good" "Piece.is_good" (defArgs s_Piece_is_good) (defBody s_Piece_is_good) (defScope s_Piece_is_good) .none kV_Piece_is_good doc_Piece_is_good pm_Piece_is_good an_Piece_is_good cd_Piece_is_good ct_Piece_is_good), sl_Piece_is_good⟩)
    (c_Piece_is_good : PySem.W.codeIn K cd_Piece_is_good "Piece.is_good" = true)
    (k_Piece_is_good : PySem.W.keepIn K (.ref f_Piece_is_good) = true)
    (i_Piece_is_good : PySem.W.isFn K (.ref f_Piece_is_good) = true)
    (q_Piece_laid : PySem.W.findIn K (.ref C_Piece) "laid" = some (some (.ref f_Piece_laid)))
    (l_Piece_laid : K.lookup f_Piece_laid = some ⟨oc_Piece_laid, od_Piece_laid, .func (PySem.W.fnOf "laid" "Piece.laid" (defArgs s_Piece_laid) (defBody s_Piece_laid) (defScope s_Piece_laid) .none kV_Piece_laid doc_Piece_laid pm_Piece_laid an_Piece_laid cd_Piece_laid ct_Piece_laid), sl_Piece_laid⟩)
    (c_Piece_laid : PySem.W.codeIn K cd_Piece_laid "Piece.laid" = true)
    (k_Piece_laid : PySem.W.keepIn K (.ref f_Piece_laid) = true)
    (i_Piece_laid : PySem.W.isFn K (.ref f_Piece_laid) = true)
    (q_Piece_again : PySem.W.findIn K (.ref C_Piece) "again" = some (some (.ref f_Piece_again)))
    (l_Piece_again : K.lookup f_Piece_again = some ⟨oc_Piece_again, od_Piece_again, .func (PySem.W.fnOf "again" "Piece.again" (defArgs s_Piece_again) (defBody s_Piece_again) (defScope s_Piece_again) .none kV_Piece_again doc_Piece_again pm_Piece_again an_Piece_again cd_Piece_again ct_Piece_again), sl_Piece_again⟩)
    (c_Piece_again : PySem.W.codeIn K cd_Piece_again "Piece.again" = true)
    (k_Piece_again : PySem.W.keepIn K (.ref f_Piece_again) = true)
    (i_Piece_again : PySem.W.isFn K (.ref f_Piece_again) = true)
    (q_Piece_harmed : PySem.W.findIn K (.ref C_Piece) "harmed" = some (some (.ref f_Piece_harmed)))
    (l_Piece_harmed : K.lookup f_Piece_harmed = some ⟨oc_Piece_harmed, od_Piece_harmed, .func (PySem.W.fnOf "harmed" "Piece.harmed" (defArgs s_Piece_harmed) (defBody s_Piece_harmed) (defScope s_Piece_harmed) .none kV_Piece_harmed doc_Piece_harmed pm_Piece_harmed an_Piece_harmed cd_Piece_harmed ct_Piece_harmed), sl_Piece_harmed⟩)
    (c_Piece_harmed : PySem.W.codeIn K cd_Piece_harmed "Piece.harmed" = true)
    (k_Piece_harmed : PySem.W.keepIn K (.ref f_Piece_harmed) = true)
    (i_Piece_harmed : PySem.W.isFn K (.ref f_Piece_harmed) = true)
    (na_Piece_day : PySem.W.findIn K (.ref C_Piece) "day" = some none)
    (na_Piece_rows : PySem.W.findIn K (.ref C_Piece) "rows" = some none)
    (na_Piece_check : PySem.W.findIn K (.ref C_Piece) "check" = some none)
    (pg_Whole : PySem.W.plainGet K C_Whole Str.empty = true)
    (hd_Whole : PySem.W.hasDictIn K C_Whole = true)
    (po_Whole : PySem.W.plainOver K C_Whole = true)
    (sa_Whole : PySem.W.findIn K (.ref C_Whole) "__setattr__" = some (some (.builtin "object.__setattr__")))
    (q_Whole_init : PySem.W.findIn K (.ref C_Whole) "__init__" = some (some (.ref f_Piece_init)))
    (mk_Whole : PySem.W.makesIn K C_Whole = true)
    (kc_Whole : PySem.W.keepIn K (.ref C_Whole) = true)
    (q_Whole_start : PySem.W.findIn K (.ref C_Whole) "start" = some (some (.ref f_Piece_start)))
    (q_Whole_kind : PySem.W.findIn K (.ref C_Whole) "kind" = some (some (.ref f_Whole_kind)))
    (l_Whole_kind : K.lookup f_Whole_kind = some ⟨oc_Whole_kind, od_Whole_kind, .func (PySem.W.fnOf "kind" "Whole.kind" (defArgs s_Whole_kind) (defBody s_Whole_kind) (defScope s_Whole_kind) .none kV_Whole_kind doc_Whole_kind pm_Whole_kind an_Whole_kind cd_Whole_kind ct_Whole_kind), sl_Whole_kind⟩)
    (c_Whole_kind : PySem.W.codeIn K cd_Whole_kind "Whole.kind" = true)
    (k_Whole_kind : PySem.W.keepIn K (.ref f_Whole_kind) = true)
    (i_Whole_kind : PySem.W.isFn K (.ref f_Whole_kind) = true)
    (q_Whole_size : PySem.W.findIn K (.ref C_Whole) "size" = some (some (.ref f_Piece_size)))
    (q_Whole_is_good : PySem.W.findIn K (.ref C_Whole) "is_good" = some (some (.ref f_Piece_is_good)))
    (q_Whole_laid : PySem.W.findIn K (.ref C_Whole) "laid" = some (some (.ref f_Whole_laid)))
    (l_Whole_laid : K.lookup f_Whole_laid = some ⟨oc_Whole_laid, od_Whole_laid, .func (PySem.W.fnOf "laid" "Whole.laid" (defArgs s_Whole_laid) (defBody s_Whole_laid) (defScope s_Whole_laid) .none kV_Whole_laid doc_Whole_laid pm_Whole_laid an_Whole_laid cd_Whole_laid ct_Whole_laid), sl_Whole_laid⟩)
    (c_Whole_laid : PySem.W.codeIn K cd_Whole_laid "Whole.laid" = true)
    (k_Whole_laid : PySem.W.keepIn K (.ref f_Whole_laid) = true)
    (i_Whole_laid : PySem.W.isFn K (.ref f_Whole_laid) = true)
    (q_Whole_again : PySem.W.findIn K (.ref C_Whole) "again" = some (some (.ref f_Whole_again)))
    (l_Whole_again : K.lookup f_Whole_again = some ⟨oc_Whole_again, od_Whole_again, .func (PySem.W.fnOf "again" "Whole.again" (defArgs s_Whole_again) (defBody s_Whole_again) (defScope s_Whole_again) .none kV_Whole_again doc_Whole_again pm_Whole_again an_Whole_again cd_Whole_again ct_Whole_again), sl_Whole_again⟩)
    (c_Whole_again : PySem.W.codeIn K cd_Whole_again "Whole.again" = true)
    (k_Whole_again : PySem.W.keepIn K (.ref f_Whole_again) = true)
    (i_Whole_again : PySem.W.isFn K (.ref f_Whole_again) = true)
    (q_Whole_harmed : PySem.W.findIn K (.ref C_Whole) "harmed" = some (some (.ref f_Piece_harmed)))
    (na_Whole_day : PySem.W.findIn K (.ref C_Whole) "day" = some none)
    (na_Whole_rows : PySem.W.findIn K (.ref C_Whole) "rows" = some none)
    (na_Whole_check : PySem.W.findIn K (.ref C_Whole) "check" = some none)
    (pg_Gain : PySem.W.plainGet K C_Gain Str.empty = true)
    (hd_Gain : PySem.W.hasDictIn K C_Gain = true)
    (po_Gain : PySem.W.plainOver K C_Gain = true)
    (sa_Gain : PySem.W.findIn K (.ref C_Gain) "__setattr__" = some (some (.builtin "object.__setattr__")))
    (q_Gain_init : PySem.W.findIn K (.ref C_Gain) "__init__" = some (some (.ref f_Gain_init)))
    (l_Gain_init : K.lookup f_Gain_init = some ⟨oc_Gain_init, od_Gain_init, .func (PySem.W.fnOf "__init__" "Gain.__init__" (defArgs s_Gain_init) (defBody s_Gain_init) (defScope s_Gain_init) (.ref T_Gain_init) kV_Gain_init doc_Gain_init pm_Gain_init an_Gain_init cd_Gain_init ct_Gain_init), sl_Gain_init⟩)
    (c_Gain_init : PySem.W.codeIn K cd_Gain_init "Gain.__init__" = true)
    (k_Gain_init : PySem.W.keepIn K (.ref f_Gain_init) = true)
    (i_Gain_init : PySem.W.isFn K (.ref f_Gain_init) = true)
    (d_Gain_init : K.lookup T_Gain_init = some ⟨oT_Gain_init, dT_Gain_init, .seq #[.none] nT_Gain_init, sT_Gain_init⟩)
    (mk_Gain : PySem.W.makesIn K C_Gain = true)
    (kc_Gain : PySem.W.keepIn K (.ref C_Gain) = true)
    (q_Gain_start : PySem.W.findIn K (.ref C_Gain) "start" = some (some (.ref f_Gain_start)))
    (l_Gain_start : K.lookup f_Gain_start = some ⟨oc_Gain_start, od_Gain_start, .func (PySem.W.fnOf "start" "Gain.start" (defArgs s_Gain_start) (defBody s_Gain_start) (defScope s_Gain_start) .none kV_Gain_start doc_Gain_start pm_Gain_start an_Gain_start cd_Gain_start ct_Gain_start), sl_Gain_start⟩)
    (c_Gain_start : PySem.W.codeIn K cd_Gain_start "Gain.start" = true)
    (k_Gain_start : PySem.W.keepIn K (.ref f_Gain_start) = true)
    (i_Gain_start : PySem.W.isFn K (.ref f_Gain_start) = true)
    (q_Gain_kind : PySem.W.findIn K (.ref C_Gain) "kind" = some (some (.ref f_Gain_kind)))
    (l_Gain_kind : K.lookup f_Gain_kind = some ⟨oc_Gain_kind, od_Gain_kind, .func (PySem.W.fnOf "kind" "Gain.kind" (defArgs s_Gain_kind) (defBody s_Gain_kind) (defScope s_Gain_kind) .none kV_Gain_kind doc_Gain_kind pm_Gain_kind an_Gain_kind cd_Gain_kind ct_Gain_kind), sl_Gain_kind⟩)
    (c_Gain_kind : PySem.W.codeIn K cd_Gain_kind "Gain.kind" = true)
    (k_Gain_kind : PySem.W.keepIn K (.ref f_Gain_kind) = true)
    (i_Gain_kind : PySem.W.isFn K (.ref f_Gain_kind) = true)
    (q_Gain_size : PySem.W.findIn K (.ref C_Gain) "size" = some (some (.ref f_Piece_size)))
    (q_Gain_is_good : PySem.W.findIn K (.ref C_Gain) "is_good" = some (some (.ref f_Piece_is_good)))
    (q_Gain_laid : PySem.W.findIn K (.ref C_Gain) "laid" = some (some (.ref f_Piece_laid)))
    (q_Gain_again : PySem.W.findIn K (.ref C_Gain) "again" = some (some (.ref f_Gain_again)))
    (l_Gain_again : K.lookup f_Gain_again = some ⟨oc_Gain_again, od_Gain_again, .func (PySem.W.fnOf "again" "Gain.again" (defArgs s_Gain_again) (defBody s_Gain_again) (defScope s_Gain_again) .none kV_Gain_again doc_Gain_again pm_Gain_again an_Gain_again cd_Gain_again ct_Gain_again), sl_Gain_again⟩)
    (c_Gain_again : PySem.W.codeIn K cd_Gain_again "Gain.again" = true)
    (k_Gain_again : PySem.W.keepIn K (.ref f_Gain_again) = true)
    (i_Gain_again : PySem.W.isFn K (.ref f_Gain_again) = true)
    (q_Gain_harmed : PySem.W.findIn K (.ref C_Gain) "harmed" = some (some (.ref f_Piece_harmed)))
    (na_Gain_base : PySem.W.findIn K (.ref C_Gain) "base" = some none)
    (na_Gain_day : PySem.W.findIn K (.ref C_Gain) "day" = some none)
    (na_Gain_rows : PySem.W.findIn K (.ref C_Gain) "rows" = some none)
    (na_Gain_check : PySem.W.findIn K (.ref C_Gain) "check" = some none)
    (cr_Piece_init : PySem.W.readsIn K C_Piece (.type "type") = true)
    (cc_Piece_init : PySem.W.findCls K (.ref C_Piece) (.type "type") "__init__" = some (.val (.ref f_Piece_init)))
    (cg_Piece_init : PySem.W.specialIn K (.ref C_Piece) "__getattribute__" = some (some (.builtin "type.__getattribute__")))
    (g_FULL : PySem.W.nsIn K mainGlobals "FULL" = some (some (.int 18446744073709551615 t_FULL)))
    (z_bool : PySem.W.nsIn K mainGlobals "bool" = some none)
    (z_int : PySem.W.nsIn K mainGlobals "int" = some none)
    (z_isinstance : PySem.W.nsIn K mainGlobals "isinstance" = some none)
    (z_len : PySem.W.nsIn K mainGlobals "len" = some none)
    (z_list : PySem.W.nsIn K mainGlobals "list" = some none)
    (z_min : PySem.W.nsIn K mainGlobals "min" = some none)
    (z_range : PySem.W.nsIn K mainGlobals "range" = some none)
    (z_set : PySem.W.nsIn K mainGlobals "set" = some none)
    (z_sorted : PySem.W.nsIn K mainGlobals "sorted" = some none)
    (z_tuple : PySem.W.nsIn K mainGlobals "tuple" = some none)
    (z_zip : PySem.W.nsIn K mainGlobals "zip" = some none)
    : Nonempty (Txt K mg) := ⟨{
    f_joined := f_joined,
    fd_joined := (PySem.W.fnOf "joined" "joined" (defArgs s_joined) (defBody s_joined) (defScope s_joined) .none kV_joined doc_joined pm_joined an_joined cd_joined ct_joined),
    F_joined := fun_mk (st := s_joined) l_joined c_joined k_joined,
    m_joined := PySem.W.mg_of X G a_joined,
    f_turned := f_turned,
    fd_turned := (PySem.W.fnOf "turned" "turned" (defArgs s_turned) (defBody s_turned) (defScope s_turned) .none kV_turned doc_turned pm_turned an_turned cd_turned ct_turned),
    F_turned := fun_mk (st := s_turned) l_turned c_turned k_turned,
    m_turned := PySem.W.mg_of X G a_turned,
    f_check_of := f_check_of,
    fd_check_of := (PySem.W.fnOf "check_of" "check_of" (defArgs s_check_of) (defBody s_check_of) (defScope s_check_of) .none kV_check_of doc_check_of pm_check_of an_check_of cd_check_of ct_check_of),
    F_check_of := fun_mk (st := s_check_of) l_check_of c_check_of k_check_of,
    m_check_of := PySem.W.mg_of X G a_check_of,
    f__law_cell_at := f__law_cell_at,
    fd__law_cell_at := (PySem.W.fnOf "_law_cell_at" "_law_cell_at" (defArgs s__law_cell_at) (defBody s__law_cell_at) (defScope s__law_cell_at) .none kV__law_cell_at doc__law_cell_at pm__law_cell_at an__law_cell_at cd__law_cell_at ct__law_cell_at),
    F__law_cell_at := fun_mk (st := s__law_cell_at) l__law_cell_at c__law_cell_at k__law_cell_at,
    m__law_cell_at := PySem.W.mg_of X G a__law_cell_at,
    f__law_whole := f__law_whole,
    fd__law_whole := (PySem.W.fnOf "_law_whole" "_law_whole" (defArgs s__law_whole) (defBody s__law_whole) (defScope s__law_whole) .none kV__law_whole doc__law_whole pm__law_whole an__law_whole cd__law_whole ct__law_whole),
    F__law_whole := fun_mk (st := s__law_whole) l__law_whole c__law_whole k__law_whole,
    m__law_whole := PySem.W.mg_of X G a__law_whole,
    f__law_mix := f__law_mix,
    fd__law_mix := (PySem.W.fnOf "_law_mix" "_law_mix" (defArgs s__law_mix) (defBody s__law_mix) (defScope s__law_mix) .none kV__law_mix doc__law_mix pm__law_mix an__law_mix cd__law_mix ct__law_mix),
    F__law_mix := fun_mk (st := s__law_mix) l__law_mix c__law_mix k__law_mix,
    m__law_mix := PySem.W.mg_of X G a__law_mix,
    f__law_piece := f__law_piece,
    fd__law_piece := (PySem.W.fnOf "_law_piece" "_law_piece" (defArgs s__law_piece) (defBody s__law_piece) (defScope s__law_piece) .none kV__law_piece doc__law_piece pm__law_piece an__law_piece cd__law_piece ct__law_piece),
    F__law_piece := fun_mk (st := s__law_piece) l__law_piece c__law_piece k__law_piece,
    m__law_piece := PySem.W.mg_of X G a__law_piece,
    f__law_spoilt := f__law_spoilt,
    fd__law_spoilt := (PySem.W.fnOf "_law_spoilt" "_law_spoilt" (defArgs s__law_spoilt) (defBody s__law_spoilt) (defScope s__law_spoilt) .none kV__law_spoilt doc__law_spoilt pm__law_spoilt an__law_spoilt cd__law_spoilt ct__law_spoilt),
    F__law_spoilt := fun_mk (st := s__law_spoilt) l__law_spoilt c__law_spoilt k__law_spoilt,
    m__law_spoilt := PySem.W.mg_of X G a__law_spoilt,
    f__law_shown := f__law_shown,
    fd__law_shown := (PySem.W.fnOf "_law_shown" "_law_shown" (defArgs s__law_shown) (defBody s__law_shown) (defScope s__law_shown) .none kV__law_shown doc__law_shown pm__law_shown an__law_shown cd__law_shown ct__law_shown),
    F__law_shown := fun_mk (st := s__law_shown) l__law_shown c__law_shown k__law_shown,
    m__law_shown := PySem.W.mg_of X G a__law_shown,
    f__law_laid := f__law_laid,
    fd__law_laid := (PySem.W.fnOf "_law_laid" "_law_laid" (defArgs s__law_laid) (defBody s__law_laid) (defScope s__law_laid) .none kV__law_laid doc__law_laid pm__law_laid an__law_laid cd__law_laid ct__law_laid),
    F__law_laid := fun_mk (st := s__law_laid) l__law_laid c__law_laid k__law_laid,
    m__law_laid := PySem.W.mg_of X G a__law_laid,
    f__law_due := f__law_due,
    fd__law_due := (PySem.W.fnOf "_law_due" "_law_due" (defArgs s__law_due) (defBody s__law_due) (defScope s__law_due) .none kV__law_due doc__law_due pm__law_due an__law_due cd__law_due ct__law_due),
    F__law_due := fun_mk (st := s__law_due) l__law_due c__law_due k__law_due,
    m__law_due := PySem.W.mg_of X G a__law_due,
    f__law_alike := f__law_alike,
    fd__law_alike := (PySem.W.fnOf "_law_alike" "_law_alike" (defArgs s__law_alike) (defBody s__law_alike) (defScope s__law_alike) .none kV__law_alike doc__law_alike pm__law_alike an__law_alike cd__law_alike ct__law_alike),
    F__law_alike := fun_mk (st := s__law_alike) l__law_alike c__law_alike k__law_alike,
    m__law_alike := PySem.W.mg_of X G a__law_alike,
    f_law := f_law,
    fd_law := (PySem.W.fnOf "law" "law" (defArgs s_law) (defBody s_law) (defScope s_law) .none kV_law doc_law pm_law an_law cd_law ct_law),
    F_law := fun_mk (st := s_law) l_law c_law k_law,
    m_law := PySem.W.mg_of X G a_law,
    C_Shelf := C_Shelf,
    c_Shelf := ⟨pg_Shelf, hd_Shelf, po_Shelf, sa_Shelf⟩,
    m_Shelf := PySem.W.mg_of X G aC_Shelf,
    f_Shelf_init := f_Shelf_init,
    fd_Shelf_init := (PySem.W.fnOf "__init__" "Shelf.__init__" (defArgs s_Shelf_init) (defBody s_Shelf_init) (defScope s_Shelf_init) .none kV_Shelf_init doc_Shelf_init pm_Shelf_init an_Shelf_init cd_Shelf_init ct_Shelf_init),
    F_Shelf_init := fun_mk (st := s_Shelf_init) l_Shelf_init c_Shelf_init k_Shelf_init,
    mk_Shelf := ⟨mk_Shelf, q_Shelf_init, i_Shelf_init, kc_Shelf⟩,
    f_Shelf_lay := f_Shelf_lay,
    fd_Shelf_lay := (PySem.W.fnOf "lay" "Shelf.lay" (defArgs s_Shelf_lay) (defBody s_Shelf_lay) (defScope s_Shelf_lay) .none kV_Shelf_lay doc_Shelf_lay pm_Shelf_lay an_Shelf_lay cd_Shelf_lay ct_Shelf_lay),
    F_Shelf_lay := fun_mk (st := s_Shelf_lay) l_Shelf_lay c_Shelf_lay k_Shelf_lay,
    me_Shelf_lay := ⟨q_Shelf_lay, i_Shelf_lay, k_Shelf_lay⟩,
    f_Shelf_piece := f_Shelf_piece,
    fd_Shelf_piece := (PySem.W.fnOf "piece" "Shelf.piece" (defArgs s_Shelf_piece) (defBody s_Shelf_piece) (defScope s_Shelf_piece) .none kV_Shelf_piece doc_Shelf_piece pm_Shelf_piece an_Shelf_piece cd_Shelf_piece ct_Shelf_piece),
    F_Shelf_piece := fun_mk (st := s_Shelf_piece) l_Shelf_piece c_Shelf_piece k_Shelf_piece,
    me_Shelf_piece := ⟨q_Shelf_piece, i_Shelf_piece, k_Shelf_piece⟩,
    f_Shelf_drop := f_Shelf_drop,
    fd_Shelf_drop := (PySem.W.fnOf "drop" "Shelf.drop" (defArgs s_Shelf_drop) (defBody s_Shelf_drop) (defScope s_Shelf_drop) .none kV_Shelf_drop doc_Shelf_drop pm_Shelf_drop an_Shelf_drop cd_Shelf_drop ct_Shelf_drop),
    F_Shelf_drop := fun_mk (st := s_Shelf_drop) l_Shelf_drop c_Shelf_drop k_Shelf_drop,
    me_Shelf_drop := ⟨q_Shelf_drop, i_Shelf_drop, k_Shelf_drop⟩,
    f_Shelf_numbers := f_Shelf_numbers,
    fd_Shelf_numbers := (PySem.W.fnOf "numbers" "Shelf.numbers" (defArgs s_Shelf_numbers) (defBody s_Shelf_numbers) (defScope s_Shelf_numbers) .none kV_Shelf_numbers doc_Shelf_numbers pm_Shelf_numbers an_Shelf_numbers cd_Shelf_numbers ct_Shelf_numbers),
    F_Shelf_numbers := fun_mk (st := s_Shelf_numbers) l_Shelf_numbers c_Shelf_numbers k_Shelf_numbers,
    me_Shelf_numbers := ⟨q_Shelf_numbers, i_Shelf_numbers, k_Shelf_numbers⟩,
    na_Shelf_kept := na_Shelf_kept,
    na_Shelf_onward := na_Shelf_onward,
    C_Piece := C_Piece,
    c_Piece := ⟨pg_Piece, hd_Piece, po_Piece, sa_Piece⟩,
    m_Piece := PySem.W.mg_of X G aC_Piece,
    f_Piece_init := f_Piece_init,
    fd_Piece_init := (PySem.W.fnOf "__init__" "Piece.__init__" (defArgs s_Piece_init) (defBody s_Piece_init) (defScope s_Piece_init) (.ref T_Piece_init) kV_Piece_init doc_Piece_init pm_Piece_init an_Piece_init cd_Piece_init ct_Piece_init),
    F_Piece_init := ⟨⟨_, _, _, _, _, _, _, _, _, _, rfl, l_Piece_init, c_Piece_init, .inr ⟨by simp, T_Piece_init, _, [.none], _, rfl, d_Piece_init, rfl, (.cons rfl .nil)⟩, .inl rfl⟩, k_Piece_init⟩,
    mk_Piece := ⟨mk_Piece, q_Piece_init, i_Piece_init, kc_Piece⟩,
    f_Piece_start := f_Piece_start,
    fd_Piece_start := (PySem.W.fnOf "start" "Piece.start" (defArgs s_Piece_start) (defBody s_Piece_start) (defScope s_Piece_start) .none kV_Piece_start doc_Piece_start pm_Piece_start an_Piece_start cd_Piece_start ct_Piece_start),
    F_Piece_start := fun_mk (st := s_Piece_start) l_Piece_start c_Piece_start k_Piece_start,
    me_Piece_start := ⟨q_Piece_start, i_Piece_start, k_Piece_start⟩,
    f_Piece_kind := f_Piece_kind,
    fd_Piece_kind := (PySem.W.fnOf "kind" "Piece.kind" (defArgs s_Piece_kind) (defBody s_Piece_kind) (defScope s_Piece_kind) .none kV_Piece_kind doc_Piece_kind pm_Piece_kind an_Piece_kind cd_Piece_kind ct_Piece_kind),
    F_Piece_kind := fun_mk (st := s_Piece_kind) l_Piece_kind c_Piece_kind k_Piece_kind,
    me_Piece_kind := ⟨q_Piece_kind, i_Piece_kind, k_Piece_kind⟩,
    f_Piece_size := f_Piece_size,
    fd_Piece_size := (PySem.W.fnOf "size" "Piece.size" (defArgs s_Piece_size) (defBody s_Piece_size) (defScope s_Piece_size) .none kV_Piece_size doc_Piece_size pm_Piece_size an_Piece_size cd_Piece_size ct_Piece_size),
    F_Piece_size := fun_mk (st := s_Piece_size) l_Piece_size c_Piece_size k_Piece_size,
    me_Piece_size := ⟨q_Piece_size, i_Piece_size, k_Piece_size⟩,
    f_Piece_is_good := f_Piece_is_good,
    fd_Piece_is_good := (PySem.W.fnOf "is_good" "Piece.is_good" (defArgs s_Piece_is_good) (defBody s_Piece_is_good) (defScope s_Piece_is_good) .none kV_Piece_is_good doc_Piece_is_good pm_Piece_is_good an_Piece_is_good cd_Piece_is_good ct_Piece_is_good),
    F_Piece_is_good := fun_mk (st := s_Piece_is_good) l_Piece_is_good c_Piece_is_good k_Piece_is_good,
    me_Piece_is_good := ⟨q_Piece_is_good, i_Piece_is_good, k_Piece_is_good⟩,
    f_Piece_laid := f_Piece_laid,
    fd_Piece_laid := (PySem.W.fnOf "laid" "Piece.laid" (defArgs s_Piece_laid) (defBody s_Piece_laid) (defScope s_Piece_laid) .none kV_Piece_laid doc_Piece_laid pm_Piece_laid an_Piece_laid cd_Piece_laid ct_Piece_laid),
    F_Piece_laid := fun_mk (st := s_Piece_laid) l_Piece_laid c_Piece_laid k_Piece_laid,
    me_Piece_laid := ⟨q_Piece_laid, i_Piece_laid, k_Piece_laid⟩,
    f_Piece_again := f_Piece_again,
    fd_Piece_again := (PySem.W.fnOf "again" "Piece.again" (defArgs s_Piece_again) (defBody s_Piece_again) (defScope s_Piece_again) .none kV_Piece_again doc_Piece_again pm_Piece_again an_Piece_again cd_Piece_again ct_Piece_again),
    F_Piece_again := fun_mk (st := s_Piece_again) l_Piece_again c_Piece_again k_Piece_again,
    me_Piece_again := ⟨q_Piece_again, i_Piece_again, k_Piece_again⟩,
    f_Piece_harmed := f_Piece_harmed,
    fd_Piece_harmed := (PySem.W.fnOf "harmed" "Piece.harmed" (defArgs s_Piece_harmed) (defBody s_Piece_harmed) (defScope s_Piece_harmed) .none kV_Piece_harmed doc_Piece_harmed pm_Piece_harmed an_Piece_harmed cd_Piece_harmed ct_Piece_harmed),
    F_Piece_harmed := fun_mk (st := s_Piece_harmed) l_Piece_harmed c_Piece_harmed k_Piece_harmed,
    me_Piece_harmed := ⟨q_Piece_harmed, i_Piece_harmed, k_Piece_harmed⟩,
    na_Piece_day := na_Piece_day,
    na_Piece_rows := na_Piece_rows,
    na_Piece_check := na_Piece_check,
    C_Whole := C_Whole,
    c_Whole := ⟨pg_Whole, hd_Whole, po_Whole, sa_Whole⟩,
    m_Whole := PySem.W.mg_of X G aC_Whole,
    mk_Whole := ⟨mk_Whole, q_Whole_init, i_Piece_init, kc_Whole⟩,
    me_Whole_start := ⟨q_Whole_start, i_Piece_start, k_Piece_start⟩,
    f_Whole_kind := f_Whole_kind,
    fd_Whole_kind := (PySem.W.fnOf "kind" "Whole.kind" (defArgs s_Whole_kind) (defBody s_Whole_kind) (defScope s_Whole_kind) .none kV_Whole_kind doc_Whole_kind pm_Whole_kind an_Whole_kind cd_Whole_kind ct_Whole_kind),
    F_Whole_kind := fun_mk (st := s_Whole_kind) l_Whole_kind c_Whole_kind k_Whole_kind,
    me_Whole_kind := ⟨q_Whole_kind, i_Whole_kind, k_Whole_kind⟩,
    me_Whole_size := ⟨q_Whole_size, i_Piece_size, k_Piece_size⟩,
    me_Whole_is_good := ⟨q_Whole_is_good, i_Piece_is_good, k_Piece_is_good⟩,
    f_Whole_laid := f_Whole_laid,
    fd_Whole_laid := (PySem.W.fnOf "laid" "Whole.laid" (defArgs s_Whole_laid) (defBody s_Whole_laid) (defScope s_Whole_laid) .none kV_Whole_laid doc_Whole_laid pm_Whole_laid an_Whole_laid cd_Whole_laid ct_Whole_laid),
    F_Whole_laid := fun_mk (st := s_Whole_laid) l_Whole_laid c_Whole_laid k_Whole_laid,
    me_Whole_laid := ⟨q_Whole_laid, i_Whole_laid, k_Whole_laid⟩,
    f_Whole_again := f_Whole_again,
    fd_Whole_again := (PySem.W.fnOf "again" "Whole.again" (defArgs s_Whole_again) (defBody s_Whole_again) (defScope s_Whole_again) .none kV_Whole_again doc_Whole_again pm_Whole_again an_Whole_again cd_Whole_again ct_Whole_again),
    F_Whole_again := fun_mk (st := s_Whole_again) l_Whole_again c_Whole_again k_Whole_again,
    me_Whole_again := ⟨q_Whole_again, i_Whole_again, k_Whole_again⟩,
    me_Whole_harmed := ⟨q_Whole_harmed, i_Piece_harmed, k_Piece_harmed⟩,
    na_Whole_day := na_Whole_day,
    na_Whole_rows := na_Whole_rows,
    na_Whole_check := na_Whole_check,
    C_Gain := C_Gain,
    c_Gain := ⟨pg_Gain, hd_Gain, po_Gain, sa_Gain⟩,
    m_Gain := PySem.W.mg_of X G aC_Gain,
    f_Gain_init := f_Gain_init,
    fd_Gain_init := (PySem.W.fnOf "__init__" "Gain.__init__" (defArgs s_Gain_init) (defBody s_Gain_init) (defScope s_Gain_init) (.ref T_Gain_init) kV_Gain_init doc_Gain_init pm_Gain_init an_Gain_init cd_Gain_init ct_Gain_init),
    F_Gain_init := ⟨⟨_, _, _, _, _, _, _, _, _, _, rfl, l_Gain_init, c_Gain_init, .inr ⟨by simp, T_Gain_init, _, [.none], _, rfl, d_Gain_init, rfl, (.cons rfl .nil)⟩, .inl rfl⟩, k_Gain_init⟩,
    mk_Gain := ⟨mk_Gain, q_Gain_init, i_Gain_init, kc_Gain⟩,
    f_Gain_start := f_Gain_start,
    fd_Gain_start := (PySem.W.fnOf "start" "Gain.start" (defArgs s_Gain_start) (defBody s_Gain_start) (defScope s_Gain_start) .none kV_Gain_start doc_Gain_start pm_Gain_start an_Gain_start cd_Gain_start ct_Gain_start),
    F_Gain_start := fun_mk (st := s_Gain_start) l_Gain_start c_Gain_start k_Gain_start,
    me_Gain_start := ⟨q_Gain_start, i_Gain_start, k_Gain_start⟩,
    f_Gain_kind := f_Gain_kind,
    fd_Gain_kind := (PySem.W.fnOf "kind" "Gain.kind" (defArgs s_Gain_kind) (defBody s_Gain_kind) (defScope s_Gain_kind) .none kV_Gain_kind doc_Gain_kind pm_Gain_kind an_Gain_kind cd_Gain_kind ct_Gain_kind),
    F_Gain_kind := fun_mk (st := s_Gain_kind) l_Gain_kind c_Gain_kind k_Gain_kind,
    me_Gain_kind := ⟨q_Gain_kind, i_Gain_kind, k_Gain_kind⟩,
    me_Gain_size := ⟨q_Gain_size, i_Piece_size, k_Piece_size⟩,
    me_Gain_is_good := ⟨q_Gain_is_good, i_Piece_is_good, k_Piece_is_good⟩,
    me_Gain_laid := ⟨q_Gain_laid, i_Piece_laid, k_Piece_laid⟩,
    f_Gain_again := f_Gain_again,
    fd_Gain_again := (PySem.W.fnOf "again" "Gain.again" (defArgs s_Gain_again) (defBody s_Gain_again) (defScope s_Gain_again) .none kV_Gain_again doc_Gain_again pm_Gain_again an_Gain_again cd_Gain_again ct_Gain_again),
    F_Gain_again := fun_mk (st := s_Gain_again) l_Gain_again c_Gain_again k_Gain_again,
    me_Gain_again := ⟨q_Gain_again, i_Gain_again, k_Gain_again⟩,
    me_Gain_harmed := ⟨q_Gain_harmed, i_Piece_harmed, k_Piece_harmed⟩,
    na_Gain_base := na_Gain_base,
    na_Gain_day := na_Gain_day,
    na_Gain_rows := na_Gain_rows,
    na_Gain_check := na_Gain_check,
    cf_Piece_init := ⟨⟨_, cr_Piece_init, cc_Piece_init⟩, cg_Piece_init, k_Piece_init⟩,
    g_FULL := ⟨_, PySem.W.mg_of X G g_FULL⟩,
    z_bool := PySem.W.mg_none_of X G z_bool,
    z_int := PySem.W.mg_none_of X G z_int,
    z_isinstance := PySem.W.mg_none_of X G z_isinstance,
    z_len := PySem.W.mg_none_of X G z_len,
    z_list := PySem.W.mg_none_of X G z_list,
    z_min := PySem.W.mg_none_of X G z_min,
    z_range := PySem.W.mg_none_of X G z_range,
    z_set := PySem.W.mg_none_of X G z_set,
    z_sorted := PySem.W.mg_none_of X G z_sorted,
    z_tuple := PySem.W.mg_none_of X G z_tuple,
    z_zip := PySem.W.mg_none_of X G z_zip
    }⟩
theorem fin {l : PySem.W.OpenLaw} {w : World} {K : PySem.W.Frag} {mg : Str → Option Value} {fa : Addr} (hfa : mg "law" = some (.ref fa)) (T : Nonempty (Txt K mg)) :
    ∃ fd : FuncData, (∀ (s : Shared) (v : Value), BindsTo s fd ⟨[v], []⟩ [("_law_script", v)]) ∧ ∀ base : Heap, K.In base → base.Ns mainGlobals mg → FnOk l.prog w K mg base CX0 10 fa fd ["_law_script"] (spLawE K) := by
  obtain ⟨T⟩ := T
  have e := hfa.symm.trans T.m_law
  cases e
  refine ⟨T.fd_law, fun s v => ?_, fun base _ _ => (ok_law T).imp fun vs H Q E h => spLaw_use h⟩
  obtain ⟨oc, od, kV, doc, pm, an, cdv, ct, osl, e, _, _⟩ := T.F_law.ex
  rw [e]
  exact .of_eq rfl
theorem walk {l : PySem.W.OpenLaw} {q : Program} {loose : List Str} {XP : (Str → Option Value) → Heap → Prop} {YP : World → Heap → Prop} {d : DefRec} {K : Params → PySem.W.Frag} (hn : l.most = some 63) (hdf : d.params.defaults = [])
    (hY : ∀ (w : World) (h : Heap), YP w h → (K w.params).In h)
    (F : ∀ (w : World) (mg : Str → Option Value) (fa : Addr) (h : Heap), (K w.params).In h → h.Ns mainGlobals mg → mg d.name = some (.ref fa) →
      ∃ fd : FuncData, (∀ (s : Shared) (u : Value), BindsTo s fd ⟨[u], []⟩ [("_law_script", u)]) ∧ ∀ base : Heap, (K w.params).In base → base.Ns mainGlobals mg → FnOk l.prog w (K w.params) mg base CX0 10 fa fd ["_law_script"] (spLawE (K w.params))) :
    PySem.W.WalkO q loose XP YP l.row.toRowW d [] (fun f vs => PySem.call f vs) :=
  L2.walk_of (n := 63) (k := 10) (x := "_law_script") (CX := fun _ => CX0) (sp := fun w => spLawE (K w.params)) hn (by decide) hdf ⟨rfl, by decide, by decide⟩ hY F (fun _ _ a ns hl _ hS => ⟨a, ns, rfl, hS, hl, fun _ => rfl⟩) fun _ _ _ _ _ z => z
end K63
set_option Elab.async false
set_option maxRecDepth 100000
open PySem PySem.W PyProof.Rows
set_option maxRecDepth 100000 in
set_option maxHeartbeats 0 in
theorem PySem.Challenge.cw_keepsakes_k63_joined_shelves_holds : PySem.Challenge.rw_keepsakes_k63_joined_shelves.Holds := by
  w_on; o_law; k_head; (case hw => w_witness2)
  k_fill
  refine K63.walk (l := PySem.Challenge.rw_keepsakes_k63_joined_shelves) rfl rfl (fun w h Y => PySem.W.kIn_of Y) ?F
  case F =>
    intro w mg fa h KX G hmg
    refine K63.fin hmg ?_
    refine' K63.all_mk KX G ?aC_Shelf ?aC_Piece ?aC_Whole ?aC_Gain ?a_joined ?l_joined ?c_joined ?k_joined ?i_joined ?a_turned ?l_turned ?c_turned ?k_turned ?i_turned ?a_check_of ?l_check_of ?c_check_of ?k_check_of ?i_check_of ?a__law_cell_at ?l__law_cell_at ?c__law_cell_at ?k__law_cell_at ?i__law_cell_at ?a__law_whole ?l__law_whole ?c__law_whole ?k__law_whole ?i__law_whole ?a__law_mix ?l__law_mix ?c__law_mix ?k__law_mix ?i__law_mix ?a__law_piece ?l__law_piece ?c__law_piece ?k__law_piece ?i__law_piece ?a__law_spoilt ?l__law_spoilt ?c__law_spoilt ?k__law_spoilt ?i__law_spoilt ?a__law_shown ?l__law_shown ?c__law_shown ?k__law_shown ?i__law_shown ?a__law_laid ?l__law_laid ?c__law_laid ?k__law_laid ?i__law_laid ?a__law_due ?l__law_due ?c__law_due ?k__law_due ?i__law_due ?a__law_alike ?l__law_alike ?c__law_alike ?k__law_alike ?i__law_alike ?a_law ?l_law ?c_law ?k_law ?i_law ?pg_Shelf ?hd_Shelf ?po_Shelf ?sa_Shelf ?q_Shelf_init ?l_Shelf_init ?c_Shelf_init ?k_Shelf_init ?i_Shelf_init ?mk_Shelf ?kc_Shelf ?q_Shelf_lay ?l_Shelf_lay ?c_Shelf_lay ?k_Shelf_lay ?i_Shelf_lay ?q_Shelf_piece ?l_Shelf_piece ?c_Shelf_piece ?k_Shelf_piece ?i_Shelf_piece ?q_Shelf_drop ?l_Shelf_drop ?c_Shelf_drop ?k_Shelf_drop ?i_Shelf_drop ?q_Shelf_numbers ?l_Shelf_numbers ?c_Shelf_numbers ?k_Shelf_numbers ?i_Shelf_numbers ?na_Shelf_kept ?na_Shelf_onward ?pg_Piece ?hd_Piece ?po_Piece ?sa_Piece ?q_Piece_init ?l_Piece_init ?c_Piece_init ?k_Piece_init ?i_Piece_init ?d_Piece_init ?mk_Piece ?kc_Piece ?q_Piece_start ?l_Piece_start ?c_Piece_start ?k_Piece_start ?i_Piece_start ?q_Piece_kind ?l_Piece_kind ?c_Piece_kind ?k_Piece_kind ?i_Piece_kind ?q_Piece_size ?l_Piece_size ?c_Piece_size ?k_Piece_size ?i_Piece_size ?q_Piece_is_good ?l_Piece_is_good ?c_Piece_is_good ?k_Piece_is_good ?i_Piece_is_good ?q_Piece_laid ?l_Piece_laid ?c_Piece_laid ?k_Piece_laid ?i_Piece_laid ?q_Piece_again ?l_Piece_again ?c_Piece_again ?k_Piece_again ?i_Piece_again ?q_Piece_harmed ?l_Piece_harmed ?c_Piece_harmed ?k_Piece_harmed ?i_Piece_harmed ?na_Piece_day ?na_Piece_rows ?na_Piece_check ?pg_Whole ?hd_Whole ?po_Whole ?sa_Whole ?q_Whole_init ?mk_Whole ?kc_Whole ?q_Whole_start ?q_Whole_kind ?l_Whole_kind ?c_Whole_kind ?k_Whole_kind ?i_Whole_kind ?q_Whole_size ?q_Whole_is_good ?q_Whole_laid ?l_Whole_laid ?c_Whole_laid ?k_Whole_laid ?i_Whole_laid ?q_Whole_again ?l_Whole_again ?c_Whole_again ?k_Whole_again ?i_Whole_again ?q_Whole_harmed ?na_Whole_day ?na_Whole_rows ?na_Whole_check ?pg_Gain ?hd_Gain ?po_Gain ?sa_Gain ?q_Gain_init ?l_Gain_init ?c_Gain_init ?k_Gain_init ?i_Gain_init ?d_Gain_init ?mk_Gain ?kc_Gain ?q_Gain_start ?l_Gain_start ?c_Gain_start ?k_Gain_start ?i_Gain_start ?q_Gain_kind ?l_Gain_kind ?c_Gain_kind ?k_Gain_kind ?i_Gain_kind ?q_Gain_size ?q_Gain_is_good ?q_Gain_laid ?q_Gain_again ?l_Gain_again ?c_Gain_again ?k_Gain_again ?i_Gain_again ?q_Gain_harmed ?na_Gain_base ?na_Gain_day ?na_Gain_rows ?na_Gain_check ?cr_Piece_init ?cc_Piece_init ?cg_Piece_init ?g_FULL ?z_bool ?z_int ?z_isinstance ?z_len ?z_list ?z_min ?z_range ?z_set ?z_sorted ?z_tuple ?z_zip
    (case aC_Shelf => k_is)
    (case aC_Piece => k_is)
    (case aC_Whole => k_is)
    (case aC_Gain => k_is)
    (case a_joined => k_is)
    (case l_joined => k_is)
    (case c_joined => k_is)
    (case k_joined => k_is)
    (case i_joined => k_is)
    (case a_turned => k_is)
    (case l_turned => k_is)
    (case c_turned => k_is)
    (case k_turned => k_is)
    (case i_turned => k_is)
    (case a_check_of => k_is)
    (case l_check_of => k_is)
    (case c_check_of => k_is)
    (case k_check_of => k_is)
    (case i_check_of => k_is)
    (case a__law_cell_at => k_is)
    (case l__law_cell_at => k_is)
    (case c__law_cell_at => k_is)
    (case k__law_cell_at => k_is)
    (case i__law_cell_at => k_is)
    (case a__law_whole => k_is)
    (case l__law_whole => k_is)
    (case c__law_whole => k_is)
    (case k__law_whole => k_is)
    (case i__law_whole => k_is)
    (case a__law_mix => k_is)
    (case l__law_mix => k_is)
    (case c__law_mix => k_is)
    (case k__law_mix => k_is)
    (case i__law_mix => k_is)
    (case a__law_piece => k_is)
    (case l__law_piece => k_is)
    (case c__law_piece => k_is)
    (case k__law_piece => k_is)
    (case i__law_piece => k_is)
    (case a__law_spoilt => k_is)
    (case l__law_spoilt => k_is)
    (case c__law_spoilt => k_is)
    (case k__law_spoilt => k_is)
    (case i__law_spoilt => k_is)
    (case a__law_shown => k_is)
    (case l__law_shown => k_is)
    (case c__law_shown => k_is)
    (case k__law_shown => k_is)
    (case i__law_shown => k_is)
    (case a__law_laid => k_is)
    (case l__law_laid => k_is)
    (case c__law_laid => k_is)
    (case k__law_laid => k_is)
    (case i__law_laid => k_is)
    (case a__law_due => k_is)
    (case l__law_due => k_is)
    (case c__law_due => k_is)
    (case k__law_due => k_is)
    (case i__law_due => k_is)
    (case a__law_alike => k_is)
    (case l__law_alike => k_is)
    (case c__law_alike => k_is)
    (case k__law_alike => k_is)
    (case i__law_alike => k_is)
    (case a_law => k_is)
    (case l_law => k_is)
    (case c_law => k_is)
    (case k_law => k_is)
    (case i_law => k_is)
    (case pg_Shelf => k_is)
    (case hd_Shelf => k_is)
    (case po_Shelf => k_is)
    (case sa_Shelf => k_is)
    (case q_Shelf_init => k_is)
    (case l_Shelf_init => k_is)
    (case c_Shelf_init => k_is)
    (case k_Shelf_init => k_is)
    (case i_Shelf_init => k_is)
    (case mk_Shelf => k_is)
    (case kc_Shelf => k_is)
    (case q_Shelf_lay => k_is)
    (case l_Shelf_lay => k_is)
    (case c_Shelf_lay => k_is)
    (case k_Shelf_lay => k_is)
    (case i_Shelf_lay => k_is)
    (case q_Shelf_piece => k_is)
    (case l_Shelf_piece => k_is)
    (case c_Shelf_piece => k_is)
    (case k_Shelf_piece => k_is)
    (case i_Shelf_piece => k_is)
    (case q_Shelf_drop => k_is)
    (case l_Shelf_drop => k_is)
    (case c_Shelf_drop => k_is)
    (case k_Shelf_drop => k_is)
    (case i_Shelf_drop => k_is)
    (case q_Shelf_numbers => k_is)
    (case l_Shelf_numbers => k_is)
    (case c_Shelf_numbers => k_is)
    (case k_Shelf_numbers => k_is)
    (case i_Shelf_numbers => k_is)
    (case na_Shelf_kept => k_is)
    (case na_Shelf_onward => k_is)
    (case pg_Piece => k_is)
    (case hd_Piece => k_is)
    (case po_Piece => k_is)
    (case sa_Piece => k_is)
    (case q_Piece_init => k_is)
    (case l_Piece_init => k_is)
    (case c_Piece_init => k_is)
    (case k_Piece_init => k_is)
    (case i_Piece_init => k_is)
    (case d_Piece_init => k_is)
    (case mk_Piece => k_is)
    (case kc_Piece => k_is)
    (case q_Piece_start => k_is)
    (case l_Piece_start => k_is)
    (case c_Piece_start => k_is)
    (case k_Piece_start => k_is)
    (case i_Piece_start => k_is)
    (case q_Piece_kind => k_is)
    (case l_Piece_kind => k_is)
    (case c_Piece_kind => k_is)
    (case k_Piece_kind => k_is)
    (case i_Piece_kind => k_is)
    (case q_Piece_size => k_is)
    (case l_Piece_size => k_is)
    (case c_Piece_size => k_is)
    (case k_Piece_size => k_is)
    (case i_Piece_size => k_is)
    (case q_Piece_is_good => k_is)
    (case l_Piece_is_good => k_is)
    (case c_Piece_is_good => k_is)
    (case k_Piece_is_good => k_is)
    (case i_Piece_is_good => k_is)
    (case q_Piece_laid => k_is)
    (case l_Piece_laid => k_is)
    (case c_Piece_laid => k_is)
    (case k_Piece_laid => k_is)
    (case i_Piece_laid => k_is)
    (case q_Piece_again => k_is)
    (case l_Piece_again => k_is)
    (case c_Piece_again => k_is)
    (case k_Piece_again => k_is)
    (case i_Piece_again => k_is)
    (case q_Piece_harmed => k_is)
    (case l_Piece_harmed => k_is)
    (case c_Piece_harmed => k_is)
    (case k_Piece_harmed => k_is)
    (case i_Piece_harmed => k_is)
    (case na_Piece_day => k_is)
    (case na_Piece_rows => k_is)
    (case na_Piece_check => k_is)
    (case pg_Whole => k_is)
    (case hd_Whole => k_is)
    (case po_Whole => k_is)
    (case sa_Whole => k_is)
    (case q_Whole_init => k_is)
    (case mk_Whole => k_is)
    (case kc_Whole => k_is)
    (case q_Whole_start => k_is)
    (case q_Whole_kind => k_is)
    (case l_Whole_kind => k_is)
    (case c_Whole_kind => k_is)
    (case k_Whole_kind => k_is)
    (case i_Whole_kind => k_is)
    (case q_Whole_size => k_is)
    (case q_Whole_is_good => k_is)
    (case q_Whole_laid => k_is)
    (case l_Whole_laid => k_is)
    (case c_Whole_laid => k_is)
    (case k_Whole_laid => k_is)
    (case i_Whole_laid => k_is)
    (case q_Whole_again => k_is)
    (case l_Whole_again => k_is)
    (case c_Whole_again => k_is)
    (case k_Whole_again => k_is)
    (case i_Whole_again => k_is)
    (case q_Whole_harmed => k_is)
    (case na_Whole_day => k_is)
    (case na_Whole_rows => k_is)
    (case na_Whole_check => k_is)
    (case pg_Gain => k_is)
    (case hd_Gain => k_is)
    (case po_Gain => k_is)
    (case sa_Gain => k_is)
    (case q_Gain_init => k_is)
    (case l_Gain_init => k_is)
    (case c_Gain_init => k_is)
    (case k_Gain_init => k_is)
    (case i_Gain_init => k_is)
    (case d_Gain_init => k_is)
    (case mk_Gain => k_is)
    (case kc_Gain => k_is)
    (case q_Gain_start => k_is)
    (case l_Gain_start => k_is)
    (case c_Gain_start => k_is)
    (case k_Gain_start => k_is)
    (case i_Gain_start => k_is)
    (case q_Gain_kind => k_is)
    (case l_Gain_kind => k_is)
    (case c_Gain_kind => k_is)
    (case k_Gain_kind => k_is)
    (case i_Gain_kind => k_is)
    (case q_Gain_size => k_is)
    (case q_Gain_is_good => k_is)
    (case q_Gain_laid => k_is)
    (case q_Gain_again => k_is)
    (case l_Gain_again => k_is)
    (case c_Gain_again => k_is)
    (case k_Gain_again => k_is)
    (case i_Gain_again => k_is)
    (case q_Gain_harmed => k_is)
    (case na_Gain_base => k_is)
    (case na_Gain_day => k_is)
    (case na_Gain_rows => k_is)
    (case na_Gain_check => k_is)
    (case cr_Piece_init => k_is)
    (case cc_Piece_init => k_is)
    (case cg_Piece_init => k_is)
    (case g_FULL => k_is)
    (case z_bool => k_is)
    (case z_int => k_is)
    (case z_isinstance => k_is)
    (case z_len => k_is)
    (case z_list => k_is)
    (case z_min => k_is)
    (case z_range => k_is)
    (case z_set => k_is)
    (case z_sorted => k_is)
    (case z_tuple => k_is)
    (case z_zip => k_is)
