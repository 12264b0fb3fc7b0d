import PyProof.Rows.All
import Wide.All
import OpenK.AllK
import Wide.FinOn
import HandS.ForMost
import HandS.TupAny
import HandS.Deep
import HandS.Walk
import HandS.SortInts
import HandS.Style
import HandS.IsInst
import HandS.Iter
import HandS.Rev
import KE.GoesEnum
import HandS.SortOrd
import HandS.SetFor
import HandS.Conv
import KE.KIndexOf
import PySem.Challenge.RW_neededrows_k38_late_and_early
set_option Elab.async false
set_option linter.all false
set_option maxRecDepth 100000
set_option maxHeartbeats 4000000
/-! Vs1: data of the program as values (D), how a heap bears them (Vl), trees of lists of one's own (T, Tl). -/
namespace Vs
open PySem L2

inductive D where
  | non
  | bl (b : Bool)
  | int (i : Int)
  | str (s : Str)
  | tup (xs : List D)
  | lst (xs : List D)
  | net (w : Int) (cs : D)
  | scr (ns : List Int)
instance : Inhabited D := ⟨.non⟩
/-- a list of one's own: its items are shared data or lists of one's own -/
inductive T where
  | lf (d : D)
  | nd (ts : List T)
instance : Inhabited T := ⟨.lf .non⟩
mutual
def T.frz : T → D
  | .lf d => d
  | .nd ts => .lst (T.frzs ts)
def T.frzs : List T → List D
  | [] => []
  | t :: ts => t.frz :: T.frzs ts
end
/-- the items of a list of shared data -/
def T.lvs : List T → Option (List D)
  | [] => some []
  | .lf d :: ts => (T.lvs ts).map (d :: ·)
  | .nd _ :: _ => none
theorem lvs_map (ds : List D) : T.lvs (ds.map .lf) = some ds := by
  induction ds with
  | nil => rfl
  | cons d ds ih => simp [T.lvs, ih]
theorem lvs_eq : ∀ {ts : List T} {ds : List D}, T.lvs ts = some ds → ts = ds.map .lf
  | [], ds, h => by simp only [T.lvs, Option.some.injEq] at h; subst h; rfl
  | .lf d :: ts, ds, h => by
    simp only [T.lvs, Option.map_eq_some_iff] at h
    obtain ⟨r, hr, rfl⟩ := h
    rw [lvs_eq hr]; rfl
  | .nd _ :: _, ds, h => by simp [T.lvs] at h

abbrev AP := Addr → Prop
/-- the class Network's address; what is known of it -/
structure NetI where
  C : Addr
  ok : Prop
  wr : Addr → List Int → Prop
/-- .. and the tape's address -/
structure Rg where
  N : NetI
  to : Option Addr

def sWires : Str := "wires"
def sComps : Str := "comparers"

mutual
/-- the heap bears the data at a value; what is in it avoids M -/
def Vl (G : Rg) (M : AP) (H : Hp) : D → V → Prop
  | .non, v => v = .non
  | .bl b, v => v = .bl b
  | .int i, v => v = .int i
  | .str s, v => v = .str s
  | .tup ds, v => ∃ a vs, v = .ref a ∧ ¬ M a ∧ H a = some (.tup vs) ∧ Vls G M H ds vs
  | .lst ds, v => ∃ a vs, v = .ref a ∧ ¬ M a ∧ H a = some (.lst vs) ∧ Vls G M H ds vs
  | .net w cs, v => G.N.ok ∧ ∃ a dx fs vc, v = .ref a ∧ ¬ M a ∧ H a = some (.ins G.N.C dx fs) ∧ fs.lookup sWires = some (.int w) ∧ fs.lookup sComps = some vc ∧
      (∀ m, m ≠ sWires → m ≠ sComps → fs.lookup m = none) ∧ Vl G M H cs vc
  | .scr ns, v => ∃ a, v = .ref a ∧ ((¬ M a ∧ (H a = some (.lst (ns.map V.int)) ∨ ∃ o, H a = some (.frz o (.lst (ns.map V.int))))) ∨ G.N.wr a ns)
def Vls (G : Rg) (M : AP) (H : Hp) : List D → List V → Prop
  | [], vs => vs = []
  | d :: ds, vs => ∃ v vs', vs = v :: vs' ∧ Vl G M H d v ∧ Vls G M H ds vs'
end
mutual
def Tl (G : Rg) (M : AP) (H : Hp) : T → V → List Addr → Prop
  | .lf d, v, g => g = [] ∧ Vl G M H d v
  | .nd ts, v, g => ∃ a vs g', g = a :: g' ∧ v = .ref a ∧ H a = some (.lst vs) ∧ Tls G M H ts vs g'
def Tls (G : Rg) (M : AP) (H : Hp) : List T → List V → List Addr → Prop
  | [], vs, g => vs = [] ∧ g = []
  | t :: ts, vs, g => ∃ v vs' g1 g2, vs = v :: vs' ∧ g = g1 ++ g2 ∧ Tl G M H t v g1 ∧ Tls G M H ts vs' g2
end

section
variable {G : Rg} {M M' : AP} {H H' : Hp}
mutual
/-- the same data behind a change of the heap -/
theorem vl_tr (hM : ∀ a o, H a = some o → ¬ M a → ¬ M' a ∧ H' a = some o) : ∀ (d : D) (v : V), Vl G M H d v → Vl G M' H' d v
  | .non, v, h => by simpa [Vl] using h
  | .bl b, v, h => by simpa [Vl] using h
  | .int i, v, h => by simpa [Vl] using h
  | .str s, v, h => by simpa [Vl] using h
  | .tup ds, v, h => by
    simp only [Vl] at h ⊢
    obtain ⟨a, vs, rfl, hm, ha, hs⟩ := h
    exact ⟨a, vs, rfl, (hM a _ ha hm).1, (hM a _ ha hm).2, vls_tr hM ds vs hs⟩
  | .lst ds, v, h => by
    simp only [Vl] at h ⊢
    obtain ⟨a, vs, rfl, hm, ha, hs⟩ := h
    exact ⟨a, vs, rfl, (hM a _ ha hm).1, (hM a _ ha hm).2, vls_tr hM ds vs hs⟩
  | .net w cs, v, h => by
    simp only [Vl] at h ⊢
    obtain ⟨ok, a, dx, fs, vc, rfl, hm, ha, h1, h2, h3, hs⟩ := h
    exact ⟨ok, a, dx, fs, vc, rfl, (hM a _ ha hm).1, (hM a _ ha hm).2, h1, h2, h3, vl_tr hM cs vc hs⟩
  | .scr ns, v, h => by
    simp only [Vl] at h ⊢
    obtain ⟨a, rfl, h⟩ := h
    rcases h with ⟨hm, h | ⟨o, h⟩⟩ | h
    · exact ⟨a, rfl, .inl ⟨(hM a _ h hm).1, .inl (hM a _ h hm).2⟩⟩
    · exact ⟨a, rfl, .inl ⟨(hM a _ h hm).1, .inr ⟨o, (hM a _ h hm).2⟩⟩⟩
    · exact ⟨a, rfl, .inr h⟩
theorem vls_tr (hM : ∀ a o, H a = some o → ¬ M a → ¬ M' a ∧ H' a = some o) : ∀ (ds : List D) (vs : List V), Vls G M H ds vs → Vls G M' H' ds vs
  | [], vs, h => by simpa [Vls] using h
  | d :: ds, vs, h => by
    simp only [Vls] at h ⊢
    obtain ⟨v, vs', rfl, h1, h2⟩ := h
    exact ⟨v, vs', rfl, vl_tr hM d v h1, vls_tr hM ds vs' h2⟩
end
mutual
theorem tl_tr (hM : ∀ a o, H a = some o → ¬ M a → ¬ M' a ∧ H' a = some o) : ∀ (t : T) (v : V) (g : List Addr), Tl G M H t v g → (∀ a ∈ g, ∀ o, H a = some o → H' a = some o) → Tl G M' H' t v g
  | .lf d, v, g, h, k => by
    simp only [Tl] at h ⊢
    exact ⟨h.1, vl_tr hM d v h.2⟩
  | .nd ts, v, g, h, k => by
    simp only [Tl] at h ⊢
    obtain ⟨a, vs, g', rfl, rfl, ha, hs⟩ := h
    exact ⟨a, vs, g', rfl, rfl, k a (by simp) _ ha, tls_tr hM ts vs g' hs (fun b hb => k b (by simp [hb]))⟩
theorem tls_tr (hM : ∀ a o, H a = some o → ¬ M a → ¬ M' a ∧ H' a = some o) : ∀ (ts : List T) (vs : List V) (g : List Addr), Tls G M H ts vs g → (∀ a ∈ g, ∀ o, H a = some o → H' a = some o) → Tls G M' H' ts vs g
  | [], vs, g, h, k => by simpa [Tls] using h
  | t :: ts, vs, g, h, k => by
    simp only [Tls] at h ⊢
    obtain ⟨v, vs', g1, g2, rfl, rfl, h1, h2⟩ := h
    exact ⟨v, vs', g1, g2, rfl, rfl, tl_tr hM t v g1 h1 (fun a ha => k a (by simp [ha])), tls_tr hM ts vs' g2 h2 (fun a ha => k a (by simp [ha]))⟩
end
mutual
/-- what is one's own stands there as a list -/
theorem tl_own : ∀ (t : T) (v : V) (g : List Addr), Tl G M H t v g → ∀ a ∈ g, ∃ xs, H a = some (.lst xs)
  | .lf d, v, g, h => by simp only [Tl] at h; obtain ⟨rfl, _⟩ := h; simp
  | .nd ts, v, g, h => by
    simp only [Tl] at h
    obtain ⟨a, vs, g', rfl, rfl, ha, hs⟩ := h
    intro b hb
    rcases List.mem_cons.mp hb with rfl | hb
    · exact ⟨vs, ha⟩
    · exact tls_own ts vs g' hs b hb
theorem tls_own : ∀ (ts : List T) (vs : List V) (g : List Addr), Tls G M H ts vs g → ∀ a ∈ g, ∃ xs, H a = some (.lst xs)
  | [], vs, g, h => by simp only [Tls] at h; obtain ⟨_, rfl⟩ := h; simp
  | t :: ts, vs, g, h => by
    simp only [Tls] at h
    obtain ⟨v, vs', g1, g2, rfl, rfl, h1, h2⟩ := h
    intro b hb
    rcases List.mem_append.mp hb with hb | hb
    · exact tl_own t v g1 h1 b hb
    · exact tls_own ts vs' g2 h2 b hb
end
mutual
/-- frozen -/
theorem tl_frz (hM : ∀ a, M' a → M a) : ∀ (t : T) (v : V) (g : List Addr), Tl G M H t v g → (∀ a ∈ g, ¬ M' a) → Vl G M' H t.frz v
  | .lf d, v, g, h, k => by
    simp only [Tl, T.frz] at h ⊢
    exact vl_tr (fun a o q z => ⟨fun y => z (hM a y), q⟩) d v h.2
  | .nd ts, v, g, h, k => by
    simp only [Tl, T.frz, Vl] at h ⊢
    obtain ⟨a, vs, g', rfl, rfl, ha, hs⟩ := h
    exact ⟨a, vs, rfl, k a (by simp), ha, tls_frz hM ts vs g' hs (fun b hb => k b (by simp [hb]))⟩
theorem tls_frz (hM : ∀ a, M' a → M a) : ∀ (ts : List T) (vs : List V) (g : List Addr), Tls G M H ts vs g → (∀ a ∈ g, ¬ M' a) → Vls G M' H (T.frzs ts) vs
  | [], vs, g, h, k => by simp only [Tls, T.frzs, Vls] at h ⊢; exact h.1
  | t :: ts, vs, g, h, k => by
    simp only [Tls, T.frzs, Vls] at h ⊢
    obtain ⟨v, vs', g1, g2, rfl, rfl, h1, h2⟩ := h
    exact ⟨v, vs', rfl, tl_frz hM t v g1 h1 (fun a ha => k a (by simp [ha])), tls_frz hM ts vs' g2 h2 (fun a ha => k a (by simp [ha]))⟩
end
theorem vls_len : ∀ {ds : List D} {vs : List V}, Vls G M H ds vs → vs.length = ds.length
  | [], vs, h => by simp only [Vls] at h; rw [h]; rfl
  | d :: ds, vs, h => by
    simp only [Vls] at h
    obtain ⟨v, vs', rfl, h1, h2⟩ := h
    simp [vls_len h2]
theorem tls_len : ∀ {ts : List T} {vs : List V} {g : List Addr}, Tls G M H ts vs g → vs.length = ts.length
  | [], vs, g, h => by simp only [Tls] at h; rw [h.1]; rfl
  | t :: ts, vs, g, h => by
    simp only [Tls] at h
    obtain ⟨v, vs', g1, g2, rfl, rfl, h1, h2⟩ := h
    simp [tls_len h2]
theorem vls_append : ∀ {ds ds' : List D} {vs vs' : List V}, Vls G M H ds vs → Vls G M H ds' vs' → Vls G M H (ds ++ ds') (vs ++ vs')
  | [], ds', vs, vs', h, h' => by simp only [Vls] at h; subst h; exact h'
  | d :: ds, ds', vs, vs', h, h' => by
    simp only [Vls] at h
    obtain ⟨v, vs1, rfl, h1, h2⟩ := h
    simp only [List.cons_append, Vls]
    exact ⟨v, vs1 ++ vs', rfl, h1, vls_append h2 h'⟩
theorem vls_get : ∀ {ds : List D} {vs : List V} {i : Nat} {d : D}, Vls G M H ds vs → ds[i]? = some d → ∃ v, vs[i]? = some v ∧ Vl G M H d v
  | [], vs, i, d, h, e => by simp at e
  | d0 :: ds, vs, 0, d, h, e => by
    simp only [Vls] at h
    obtain ⟨v, vs1, rfl, h1, h2⟩ := h
    simp only [List.getElem?_cons_zero, Option.some.injEq] at e
    subst e
    exact ⟨v, rfl, h1⟩
  | d0 :: ds, vs, i + 1, d, h, e => by
    simp only [Vls] at h
    obtain ⟨v, vs1, rfl, h1, h2⟩ := h
    simp only [List.getElem?_cons_succ] at e
    obtain ⟨v', e', h'⟩ := vls_get h2 e
    exact ⟨v', e', h'⟩
theorem vls_get' : ∀ {ds : List D} {vs : List V} {i : Nat} {v : V}, Vls G M H ds vs → vs[i]? = some v → ∃ d, ds[i]? = some d ∧ Vl G M H d v := by
  intro ds vs i v h e
  have hi : i < vs.length := (List.getElem?_eq_some_iff.mp e).1
  rw [vls_len h] at hi
  obtain ⟨v', e', h'⟩ := vls_get h (List.getElem?_eq_getElem hi)
  rw [e] at e'
  cases e'
  exact ⟨_, List.getElem?_eq_getElem hi, h'⟩
theorem vls_set : ∀ {ds : List D} {vs : List V} (i : Nat) {d : D} {v : V}, Vls G M H ds vs → Vl G M H d v → Vls G M H (ds.set i d) (vs.set i v)
  | [], vs, i, d, v, h, h' => by simp only [Vls] at h; subst h; simp [Vls]
  | d0 :: ds, vs, 0, d, v, h, h' => by
    simp only [Vls] at h
    obtain ⟨v0, vs1, rfl, h1, h2⟩ := h
    simp only [List.set_cons_zero, Vls]
    exact ⟨v, vs1, rfl, h', h2⟩
  | d0 :: ds, vs, i + 1, d, v, h, h' => by
    simp only [Vls] at h
    obtain ⟨v0, vs1, rfl, h1, h2⟩ := h
    simp only [List.set_cons_succ, Vls]
    exact ⟨v0, vs1.set i v, rfl, h1, vls_set i h2 h'⟩
theorem vls_drop : ∀ {ds : List D} {vs : List V} (n : Nat), Vls G M H ds vs → Vls G M H (ds.drop n) (vs.drop n)
  | ds, vs, 0, h => by simpa using h
  | [], vs, n + 1, h => by simp only [Vls] at h; subst h; simp [Vls]
  | d :: ds, vs, n + 1, h => by
    simp only [Vls] at h
    obtain ⟨v, vs1, rfl, h1, h2⟩ := h
    simp only [List.drop_succ_cons]
    exact vls_drop n h2
theorem vls_take : ∀ {ds : List D} {vs : List V} (n : Nat), Vls G M H ds vs → Vls G M H (ds.take n) (vs.take n)
  | ds, vs, 0, h => by simp [Vls]
  | [], vs, n + 1, h => by simp only [Vls] at h; subst h; simp [Vls]
  | d :: ds, vs, n + 1, h => by
    simp only [Vls] at h
    obtain ⟨v, vs1, rfl, h1, h2⟩ := h
    simp only [List.take_succ_cons, Vls]
    exact ⟨v, vs1.take n, rfl, h1, vls_take n h2⟩
theorem vls_eraseIdx {ds : List D} {vs : List V} (n : Nat) (h : Vls G M H ds vs) : Vls G M H (ds.eraseIdx n) (vs.eraseIdx n) := by
  rw [List.eraseIdx_eq_take_drop_succ, List.eraseIdx_eq_take_drop_succ]
  exact vls_append (vls_take n h) (vls_drop (n + 1) h)
theorem vls_reverse : ∀ {ds : List D} {vs : List V}, Vls G M H ds vs → Vls G M H ds.reverse vs.reverse
  | [], vs, h => by simp only [Vls] at h; subst h; simp [Vls]
  | d :: ds, vs, h => by
    simp only [Vls] at h
    obtain ⟨v, vs1, rfl, h1, h2⟩ := h
    simp only [List.reverse_cons]
    exact vls_append (vls_reverse h2) (by simp only [Vls]; exact ⟨v, [], rfl, h1, rfl⟩)
theorem tls_leaf : ∀ {ds : List D} {vs : List V}, Vls G M H ds vs → Tls G M H (ds.map .lf) vs []
  | [], vs, h => by simp only [Vls] at h; simp only [List.map_nil, Tls]; exact ⟨h, trivial⟩
  | d :: ds, vs, h => by
    simp only [Vls] at h
    obtain ⟨v, vs1, rfl, h1, h2⟩ := h
    simp only [List.map_cons, Tls]
    exact ⟨v, vs1, [], [], rfl, rfl, ⟨rfl, h1⟩, tls_leaf h2⟩
theorem leaf_tls : ∀ {ds : List D} {vs : List V} {g : List Addr}, Tls G M H (ds.map .lf) vs g → g = [] ∧ Vls G M H ds vs
  | [], vs, g, h => by simp only [List.map_nil, Tls] at h; simp only [Vls]; exact ⟨h.2, h.1⟩
  | d :: ds, vs, g, h => by
    simp only [List.map_cons, Tls, Tl] at h
    obtain ⟨v, vs1, g1, g2, rfl, rfl, ⟨rfl, h1⟩, h2⟩ := h
    obtain ⟨rfl, h3⟩ := leaf_tls h2
    simp only [Vls]
    exact ⟨rfl, v, vs1, rfl, h1, h3⟩
theorem tls_append : ∀ {ds ds' : List T} {vs vs' : List V} {g g' : List Addr}, Tls G M H ds vs g → Tls G M H ds' vs' g' → Tls G M H (ds ++ ds') (vs ++ vs') (g ++ g')
  | [], ds', vs, vs', g, g', h, h' => by simp only [Tls] at h; obtain ⟨rfl, rfl⟩ := h; exact h'
  | d :: ds, ds', vs, vs', g, g', h, h' => by
    simp only [Tls] at h
    obtain ⟨v, vs1, g1, g2, rfl, rfl, h1, h2⟩ := h
    simp only [List.cons_append, Tls]
    exact ⟨v, vs1 ++ vs', g1, g2 ++ g', rfl, by rw [List.append_assoc], h1, tls_append h2 h'⟩
theorem tls_get : ∀ {ds : List T} {vs : List V} {g : List Addr} {i : Nat} {d : T}, Tls G M H ds vs g → ds[i]? = some d → ∃ v g1, vs[i]? = some v ∧ Tl G M H d v g1 ∧ List.Sublist g1 g
  | [], vs, g, i, d, h, e => by simp at e
  | d0 :: ds, vs, g, 0, d, h, e => by
    simp only [Tls] at h
    obtain ⟨v, vs1, g1, g2, rfl, rfl, h1, h2⟩ := h
    simp only [List.getElem?_cons_zero, Option.some.injEq] at e
    subst e
    exact ⟨v, g1, rfl, h1, List.sublist_append_left _ _⟩
  | d0 :: ds, vs, g, i + 1, d, h, e => by
    simp only [Tls] at h
    obtain ⟨v, vs1, g1, g2, rfl, rfl, h1, h2⟩ := h
    simp only [List.getElem?_cons_succ] at e
    obtain ⟨v', g', e', h', s'⟩ := tls_get h2 e
    exact ⟨v', g', e', h', s'.trans (List.sublist_append_right _ _)⟩
end
end Vs
/-! Vs2: the forms of the program's text (SE .. SB), what they compute over values, what they are over the layer's readings. -/
namespace Vs
open PySem L2

/-- what an expression gives: shared data; a new list; a list looked at; the tape; a new tree of lists; a tree looked at -/
inductive Rv where
  | sh (d : D)
  | fr (ds : List D)
  | bw (ds : List D)
  | tp
  | nf (ts : List T)
  | nb (ts : List T)
/-- what a slot holds -/
inductive Sl where
  | un
  | sh (d : D)
  | ow (ds : List D)
  | bw (ds : List D)
  | tp
  | nt (ts : List T)
  | nb (ts : List T)
abbrev Env := List Sl
abbrev Tape := List Int
inductive Out where
  | nx (e : Env) (t : Tape)
  | bk (e : Env) (t : Tape)
  | ct (e : Env) (t : Tape)
  | rt (r : Rv) (e : Env) (t : Tape)
/-- what a def does: from its arguments and the tape its value and the tape -/
structure FS where
  fn : List Sl → Tape → Option (Rv × Tape)

def Rv.av : Rv → Option D
  | .sh d => some d
  | .fr ds => some (.lst ds)
  | .bw ds => some (.lst ds)
  | .tp => none
  | .nf ts => (T.lvs ts).map .lst
  | .nb ts => (T.lvs ts).map .lst
def Rv.avs : List Rv → Option (List D)
  | [] => some []
  | r :: rs => match r.av, Rv.avs rs with
    | some d, some ds => some (d :: ds)
    | _, _ => none

/-! ### comparison of data -/
mutual
def D.py : D → PyData
  | .non => .none
  | .bl b => .bool b
  | .int i => .int i
  | .str s => .str s
  | .tup ds => .tuple (D.pys ds)
  | .lst ds => .list (D.pys ds)
  | .net _ _ => .none
  | .scr _ => .none
def D.pys : List D → List PyData
  | [] => []
  | d :: ds => d.py :: D.pys ds
end
mutual
/-- data without texts and networks, at most n deep -/
def D.plain : Nat → D → Bool
  | _, .non => true
  | _, .bl _ => true
  | _, .int _ => true
  | _, .str _ => false
  | 0, .tup _ => false
  | n + 1, .tup ds => D.plains n ds
  | 0, .lst _ => false
  | n + 1, .lst ds => D.plains n ds
  | _, .net _ _ => false
  | _, .scr _ => false
def D.plains : Nat → List D → Bool
  | _, [] => true
  | n, d :: ds => d.plain n && D.plains n ds
end
def D.flat : D → Bool
  | .non => true
  | .bl _ => true
  | .int _ => true
  | .str _ => true
  | _ => false

def D.int? : D → Option Int
  | .int i => some i
  | _ => none
def D.bl? : D → Option Bool
  | .bl b => some b
  | _ => none
def ints? : List D → Option (List Int)
  | [] => some []
  | .int i :: ds => (ints? ds).map (i :: ·)
  | _ :: _ => none
def bls? : List D → Option (List Bool)
  | [] => some []
  | .bl b :: ds => (bls? ds).map (b :: ·)
  | _ :: _ => none

/-! ### operations -/
inductive Op where
  | add | sub | mul | fdiv | mod | pow | shl | shr | bor | band
  | lt | le | gt | ge | eq | ne | isin | notin | ix
  | len | list | tuple | int | abs | max | min | sum | sorted | all | any | str
  | isB | notB | isN | notN
  deriving DecidableEq

def sizeOk (n : Nat) : Bool := decide (n ≤ 1000000)
def insI (x : Int) : List Int → List Int
  | [] => [x]
  | y :: ys => if x ≤ y then x :: y :: ys else y :: insI x ys
def sortI (xs : List Int) : List Int := xs.foldr insI []
def maxI : List Int → Int
  | [] => 0
  | [x] => x
  | x :: y :: r => max x (maxI (y :: r))
def minI : List Int → Int
  | [] => 0
  | [x] => x
  | x :: y :: r => min x (minI (y :: r))

def evOp : Op → List D → Option Rv
  | .add, [.int i, .int j] => some (.sh (.int (i + j)))
  | .add, [.tup xs, .tup ys] => if sizeOk (xs.length + ys.length) then some (.sh (.tup (xs ++ ys))) else none
  | .add, [.lst xs, .lst ys] => if sizeOk (xs.length + ys.length) then some (.fr (xs ++ ys)) else none
  | .add, [.str x, .str y] => if sizeOk (x.length + y.length) then some (.sh (.str (x ++ y))) else none
  | .sub, [.int i, .int j] => some (.sh (.int (i - j)))
  | .mul, [.int i, .int j] => if (-(2 ^ 64) < i ∧ i < 2 ^ 64) ∨ (-(2 ^ 64) < j ∧ j < 2 ^ 64) then some (.sh (.int (i * j))) else none
  | .mul, [.lst xs, .int k] => if 0 ≤ k ∧ k < 1000 ∧ xs.length < 1000 then some (.fr (List.replicate k.toNat xs).flatten) else none
  | .fdiv, [.int i, .int j] => if 0 < j ∧ j < 1073741824 then some (.sh (.int (i / j))) else none
  | .mod, [.int i, .int j] => if 0 < j then some (.sh (.int (i % j))) else none
  | .pow, [.int i, .int j] => if 0 ≤ j ∧ j ≤ 1000000 ∧ i.natAbs < 2 ^ 64 then some (.sh (.int (i ^ j.toNat))) else none
  | .shl, [.int i, .int j] => if 0 ≤ j ∧ j ≤ 1000000 ∧ i.natAbs < 2 ^ 64 then some (.sh (.int (i * 2 ^ j.toNat))) else none
  | .bor, [.int i, .int j] => some (.sh (.int (Builtin.bitOr i j)))
  | .band, [.int i, .int j] => some (.sh (.int (Builtin.bitAnd i j)))
  | .lt, [.int i, .int j] => some (.sh (.bl (decide (i < j))))
  | .lt, [.tup xs, .tup ys] => match ints? xs, ints? ys with
    | some ns, some ms => some (.sh (.bl (HT.lexLt ns ms)))
    | _, _ => none
  | .le, [.int i, .int j] => some (.sh (.bl (decide (i ≤ j))))
  | .gt, [.int i, .int j] => some (.sh (.bl (decide (j < i))))
  | .ge, [.int i, .int j] => some (.sh (.bl (decide (j ≤ i))))
  | .eq, [.int i, .int j] => some (.sh (.bl (decide (i = j))))
  | .eq, [.bl i, .bl j] => some (.sh (.bl (decide (i = j))))
  | .eq, [.str i, .str j] => some (.sh (.bl (decide (i = j))))
  | .eq, [.tup xs, .tup ys] => if D.plain 8 (.tup xs) && D.plain 8 (.tup ys) then some (.sh (.bl (PyData.eqv (D.py (.tup xs)) (D.py (.tup ys))))) else none
  | .eq, [.lst xs, .lst ys] => if D.plain 8 (.lst xs) && D.plain 8 (.lst ys) then some (.sh (.bl (PyData.eqv (D.py (.lst xs)) (D.py (.lst ys))))) else none
  | .ne, [.int i, .int j] => some (.sh (.bl (!decide (i = j))))
  | .ne, [.bl i, .bl j] => some (.sh (.bl (!decide (i = j))))
  | .ne, [.str i, .str j] => some (.sh (.bl (!decide (i = j))))
  | .ne, [.tup xs, .tup ys] => if D.plain 8 (.tup xs) && D.plain 8 (.tup ys) then some (.sh (.bl (!PyData.eqv (D.py (.tup xs)) (D.py (.tup ys))))) else none
  | .ne, [.lst xs, .lst ys] => if D.plain 8 (.lst xs) && D.plain 8 (.lst ys) then some (.sh (.bl (!PyData.eqv (D.py (.lst xs)) (D.py (.lst ys))))) else none
  | .isin, [.int i, .lst xs] => match ints? xs with
    | some ns => some (.sh (.bl (decide (i ∈ ns))))
    | none => none
  | .isin, [.int i, .tup xs] => match ints? xs with
    | some ns => some (.sh (.bl (decide (i ∈ ns))))
    | none => none
  | .notin, [.int i, .lst xs] => match ints? xs with
    | some ns => some (.sh (.bl (!decide (i ∈ ns))))
    | none => none
  | .notin, [.int i, .tup xs] => match ints? xs with
    | some ns => some (.sh (.bl (!decide (i ∈ ns))))
    | none => none
  | .isin, [.tup x, .lst xs] => if D.plain 8 (.tup x) && D.plain 8 (.lst xs) then some (.sh (.bl ((D.pys xs).any fun z => PyData.eqv z (D.py (.tup x))))) else none
  | .notin, [.tup x, .lst xs] => if D.plain 8 (.tup x) && D.plain 8 (.lst xs) then some (.sh (.bl (!(D.pys xs).any fun z => PyData.eqv z (D.py (.tup x))))) else none
  | .ix, [.lst xs, .int i] => (atI xs i).map .sh
  | .ix, [.tup xs, .int i] => (atI xs i).map .sh
  | .len, [.lst xs] => some (.sh (.int xs.length))
  | .len, [.tup xs] => some (.sh (.int xs.length))
  | .ix, [.scr ns, .int i] => (atI ns i).map fun n => .sh (.int n)
  | .len, [.scr ns] => some (.sh (.int ns.length))
  | .len, [.str x] => if sizeOk x.length then some (.sh (.int x.length)) else none
  | .list, [.lst xs] => some (.fr xs)
  | .list, [.tup xs] => some (.fr xs)
  | .tuple, [.lst xs] => some (.sh (.tup xs))
  | .tuple, [.tup xs] => some (.sh (.tup xs))
  | .int, [.int i] => some (.sh (.int i))
  | .int, [.bl b] => some (.sh (.int (if b then 1 else 0)))
  | .max, [.int i, .int j] => some (.sh (.int (if j > i then j else i)))
  | .min, [.int i, .int j] => some (.sh (.int (if j < i then j else i)))
  | .max, [.lst xs] => match ints? xs with
    | some (n :: ns) => some (.sh (.int (maxI (n :: ns))))
    | _ => none
  | .min, [.lst xs] => match ints? xs with
    | some (n :: ns) => some (.sh (.int (minI (n :: ns))))
    | _ => none
  | .sum, [.lst xs] => match ints? xs with
    | some ns => some (.sh (.int ns.sum))
    | none => none
  | .sorted, [.lst xs] => match ints? xs with
    | some ns => some (.fr ((sortI ns).map .int))
    | none => none
  | .all, [.lst xs] => match bls? xs with
    | some bs => some (.sh (.bl (bs.all id)))
    | none => none
  | .any, [.lst xs] => match bls? xs with
    | some bs => some (.sh (.bl (bs.any id)))
    | none => none
  | .isB, [.bl a, .bl b] => some (.sh (.bl (decide (a = b))))
  | .notB, [.bl a, .bl b] => some (.sh (.bl (!decide (a = b))))
  | _, _ => none

def lift2 (r : R2) : List V → Hp → VK → Prop := fun vs H Q => match vs with
  | [x, y] => r x y H Q
  | _ => False
def or2 (r r' : R2) : R2 := fun x y H Q => r x y H Q ∨ r' x y H Q
def rAddI : R2 := rI0 fun i j => .int (i + j)
def rAddS : R2 := fun x y H Q => ∃ i j, x = .str i ∧ y = .str j ∧ i.length + j.length ≤ sizeLine ∧ Q (.str (i ++ j)) H
section
variable (K : PySem.W.Frag)
def r2 : Op → R2
  | .add => or2 rAddI (or2 (rCatA K) (or2 rCat rAddS))
  | .sub => rI0 fun i j => .int (i - j)
  | .mul => or2 (rI CMul fun i j => .int (i * j)) rRep
  | .fdiv => rI CDiv fun i j => .int (i / j)
  | .mod => rI (fun _ j => 0 < j) fun i j => .int (i % j)
  | .pow => rI CPow fun i j => .int (i ^ j.toNat)
  | .shl => rI CPow fun i j => .int (i * 2 ^ j.toNat)
  | .bor => rI0 fun i j => .int (Builtin.bitOr i j)
  | .band => rI0 fun i j => .int (Builtin.bitAnd i j)
  | .lt => or2 (rI0 fun i j => .bl (decide (i < j))) (rLtT K)
  | .le => rI0 fun i j => .bl (decide (i ≤ j))
  | .gt => rI0 fun i j => .bl (decide (j < i))
  | .ge => rI0 fun i j => .bl (decide (j ≤ i))
  | .eq => or2 rEq (rEqD K)
  | .ne => or2 rNe (rNeD K)
  | .isin => or2 (rIn K false) (rInD K)
  | .notin => or2 (rIn K true) (rNotInD K)
  | .ix => rIx K
  | .isB => rIsB
  | .notB => rNotB
  | .isN => fun x y H Q => y = .non ∧ Q (.bl (decide (x = .non))) H
  | .notN => fun x y H Q => y = .non ∧ Q (.bl (!decide (x = .non))) H
  | _ => fun _ _ _ _ => False
def rLen : List V → Hp → VK → Prop := fun xs H Q => ∃ x n, xs = [x] ∧ LenV K x H n ∧ Q (.int n) H
def rList : List V → Hp → VK → Prop := fun xs H Q => ∃ p ys, xs = [.ref p] ∧ (SqL K H p ys ∨ SqT K H p ys) ∧ ∀ l, H l = none → Q (.ref l) (upd H l (.lst ys))
def rTuple : List V → Hp → VK → Prop := fun xs H Q => ∃ p ys, xs = [.ref p] ∧ ((SqL K H p ys ∧ ∀ l, H l = none → Q (.ref l) (upd H l (.tup ys))) ∨ (SqT K H p ys ∧ Q (.ref p) H))
def rInt1 : List V → Hp → VK → Prop := fun xs H Q => (∃ i, xs = [.int i] ∧ Q (.int i) H) ∨ ∃ k, xs = [.bl k] ∧ Q (.int (if k then 1 else 0)) H
def rMx2 : List V → Hp → VK → Prop := fun xs H Q => ∃ i j, xs = [.int i, .int j] ∧ Q (.int (if j > i then j else i)) H
def rMn2 : List V → Hp → VK → Prop := fun xs H Q => ∃ i j, xs = [.int i, .int j] ∧ Q (.int (if j < i then j else i)) H
def orN (r r' : List V → Hp → VK → Prop) : List V → Hp → VK → Prop := fun xs H Q => r xs H Q ∨ r' xs H Q
def semOp : Op → List V → Hp → VK → Prop
  | .len => rLen K
  | .list => rList K
  | .tuple => rTuple K
  | .int => rInt1
  | .max => orN rMx2 (rMax K)
  | .min => orN rMn2 (rMin K)
  | .sum => rSum K
  | .sorted => rSortedI K
  | .all => rAll K
  | .any => rAny K
  | .add => lift2 (r2 K .add)
  | .sub => lift2 (r2 K .sub)
  | .mul => lift2 (r2 K .mul)
  | .fdiv => lift2 (r2 K .fdiv)
  | .mod => lift2 (r2 K .mod)
  | .pow => lift2 (r2 K .pow)
  | .shl => lift2 (r2 K .shl)
  | .bor => lift2 (r2 K .bor)
  | .band => lift2 (r2 K .band)
  | .lt => lift2 (r2 K .lt)
  | .le => lift2 (r2 K .le)
  | .gt => lift2 (r2 K .gt)
  | .ge => lift2 (r2 K .ge)
  | .eq => lift2 (r2 K .eq)
  | .ne => lift2 (r2 K .ne)
  | .isin => lift2 (r2 K .isin)
  | .notin => lift2 (r2 K .notin)
  | .ix => lift2 (r2 K .ix)
  | .isB => lift2 (r2 K .isB)
  | .notB => lift2 (r2 K .notB)
  | .isN => lift2 (r2 K .isN)
  | .notN => lift2 (r2 K .notN)
  | _ => fun _ _ _ => False
end

section
variable {G : Rg} {M M' : AP} {H H' : Hp} {K : PySem.W.Frag}
/-- data whose outermost list may be one that changes -/
def Av (G : Rg) (M : AP) (H : Hp) (d : D) (v : V) : Prop := Vl G M H d v ∨ ∃ ds a vs, d = .lst ds ∧ v = .ref a ∧ H a = some (.lst vs) ∧ Vls G M H ds vs
def Avs (G : Rg) (M : AP) (H : Hp) : List D → List V → Prop
  | [], vs => vs = []
  | d :: ds, vs => ∃ v vs', vs = v :: vs' ∧ Av G M H d v ∧ Avs G M H ds vs'
theorem Av.int {i : Int} {v : V} (h : Av G M H (.int i) v) : v = .int i := by
  rcases h with h | ⟨_, _, _, e, _⟩
  · simpa [Vl] using h
  · cases e
theorem Av.bl {i : Bool} {v : V} (h : Av G M H (.bl i) v) : v = .bl i := by
  rcases h with h | ⟨_, _, _, e, _⟩
  · simpa [Vl] using h
  · cases e
theorem Av.str {i : Str} {v : V} (h : Av G M H (.str i) v) : v = .str i := by
  rcases h with h | ⟨_, _, _, e, _⟩
  · simpa [Vl] using h
  · cases e
theorem Av.non {v : V} (h : Av G M H .non v) : v = .non := by
  rcases h with h | ⟨_, _, _, e, _⟩
  · simpa [Vl] using h
  · cases e
theorem Av.tup {ds : List D} {v : V} (h : Av G M H (.tup ds) v) : ∃ a vs, v = .ref a ∧ ¬ M a ∧ H a = some (.tup vs) ∧ Vls G M H ds vs := by
  rcases h with h | ⟨_, _, _, e, _⟩
  · simpa [Vl] using h
  · cases e
theorem Av.lst {ds : List D} {v : V} (h : Av G M H (.lst ds) v) : ∃ a vs, v = .ref a ∧ H a = some (.lst vs) ∧ Vls G M H ds vs := by
  rcases h with h | ⟨ds', a, vs, e, h1, h2, h3⟩
  · simp only [Vl] at h
    obtain ⟨a, vs, h1, _, h2, h3⟩ := h
    exact ⟨a, vs, h1, h2, h3⟩
  · cases e
    exact ⟨a, vs, h1, h2, h3⟩

theorem Av.scr {ns : List Int} {v : V} (h : Av G M H (.scr ns) v) : ∃ a, v = .ref a ∧ (Rd H a (.lst (ns.map V.int)) ∨ G.N.wr a ns) := by
  rcases h with h | ⟨_, _, _, e, _⟩
  · simp only [Vl] at h
    obtain ⟨a, rfl, h⟩ := h
    rcases h with ⟨_, h | ⟨o, h⟩⟩ | h
    · exact ⟨a, rfl, .inl (.inl h)⟩
    · exact ⟨a, rfl, .inl (.inr ⟨o, h⟩)⟩
    · exact ⟨a, rfl, .inr h⟩
  · cases e
/-- how a heap bears what an expression gives; g: the addresses of what is new and one's own -/
def RvRep (G : Rg) (M B : AP) (H : Hp) : Rv → V → List Addr → Prop
  | .sh d, v, g => g = [] ∧ Vl G M H d v
  | .fr ds, v, g => ∃ a vs, g = [a] ∧ v = .ref a ∧ H a = some (.lst vs) ∧ Vls G M H ds vs
  | .bw ds, v, g => g = [] ∧ ∃ a vs, v = .ref a ∧ ¬ B a ∧ H a = some (.lst vs) ∧ Vls G M H ds vs
  | .tp, v, g => g = [] ∧ ∃ a, G.to = some a ∧ v = .ref a
  | .nf ts, v, g => Tl G M H (.nd ts) v g
  | .nb ts, v, g => g = [] ∧ ∃ g', (∀ a ∈ g', ¬ B a) ∧ Tl G M H (.nd ts) v g'

theorem rv_av {B : AP} {r : Rv} {v : V} {g : List Addr} {d : D} (h : RvRep G M B H r v g) (e : r.av = some d) : Av G M H d v := by
  cases r with
  | sh d' =>
    simp only [Rv.av, Option.some.injEq] at e
    subst e
    exact .inl h.2
  | fr ds =>
    simp only [Rv.av, Option.some.injEq] at e
    subst e
    obtain ⟨a, vs, _, h1, h2, h3⟩ := h
    exact .inr ⟨ds, a, vs, rfl, h1, h2, h3⟩
  | bw ds =>
    simp only [Rv.av, Option.some.injEq] at e
    subst e
    obtain ⟨_, a, vs, h1, _, h2, h3⟩ := h
    exact .inr ⟨ds, a, vs, rfl, h1, h2, h3⟩
  | tp => simp [Rv.av] at e
  | nf ts =>
    simp only [Rv.av, Option.map_eq_some_iff] at e
    obtain ⟨ds, e, rfl⟩ := e
    rw [lvs_eq e] at h
    simp only [RvRep, Tl] at h
    obtain ⟨a, vs, g', _, h1, h2, h3⟩ := h
    exact .inr ⟨ds, a, vs, rfl, h1, h2, (leaf_tls h3).2⟩
  | nb ts =>
    simp only [Rv.av, Option.map_eq_some_iff] at e
    obtain ⟨ds, e, rfl⟩ := e
    rw [lvs_eq e] at h
    simp only [RvRep, Tl] at h
    obtain ⟨_, g', _, a, vs, g'', _, h1, h2, h3⟩ := h
    exact .inr ⟨ds, a, vs, rfl, h1, h2, (leaf_tls h3).2⟩

mutual
theorem vl_dp : ∀ (n : Nat) (d : D) (v : V), Vl G M H d v → D.plain n d = true → Dp K H v d.py
  | n, .non, v, h, k => by simp only [Vl] at h; subst h; exact .non
  | n, .bl b, v, h, k => by simp only [Vl] at h; subst h; exact .bl b
  | n, .int i, v, h, k => by simp only [Vl] at h; subst h; exact .int i
  | n, .str s, v, h, k => by simp only [Vl] at h; subst h; exact .str s
  | 0, .tup ds, v, h, k => by simp [D.plain] at k
  | n + 1, .tup ds, v, h, k => by
    simp only [Vl] at h
    simp only [D.plain] at k
    obtain ⟨a, vs, rfl, _, ha, hs⟩ := h
    exact .tup (SqT.of ha) (vls_dp n ds vs hs k)
  | 0, .lst ds, v, h, k => by simp [D.plain] at k
  | n + 1, .lst ds, v, h, k => by
    simp only [Vl] at h
    simp only [D.plain] at k
    obtain ⟨a, vs, rfl, _, ha, hs⟩ := h
    exact .lst (SqL.of ha) (vls_dp n ds vs hs k)
  | n, .net w cs, v, h, k => by simp [D.plain] at k
  | n, .scr ns, v, h, k => by simp [D.plain] at k
theorem vls_dp : ∀ (n : Nat) (ds : List D) (vs : List V), Vls G M H ds vs → D.plains n ds = true → DpAll K H vs (D.pys ds)
  | n, [], vs, h, k => by simp only [Vls] at h; subst h; exact .nil
  | n, d :: ds, vs, h, k => by
    simp only [Vls] at h
    simp only [D.plains, Bool.and_eq_true] at k
    obtain ⟨v, vs', rfl, h1, h2⟩ := h
    exact .cons (vl_dp n d v h1 k.1) (vls_dp n ds vs' h2 k.2)
end
mutual
theorem plain_shaped : ∀ (n : Nat) (d : D), D.plain n d = true → d.py.canLay0 = true ∧ d.py.depth ≤ n
  | n, .non, k => by simp [D.py, PyData.canLay0, PyData.depth]
  | n, .bl b, k => by simp [D.py, PyData.canLay0, PyData.depth]
  | n, .int i, k => by simp [D.py, PyData.canLay0, PyData.depth]
  | n, .str s, k => by simp [D.plain] at k
  | 0, .tup ds, k => by simp [D.plain] at k
  | n + 1, .tup ds, k => by
    simp only [D.plain] at k
    have h := plains_shaped n ds k
    simp only [D.py, PyData.canLay0, PyData.depth]
    exact ⟨h.1, by omega⟩
  | 0, .lst ds, k => by simp [D.plain] at k
  | n + 1, .lst ds, k => by
    simp only [D.plain] at k
    have h := plains_shaped n ds k
    simp only [D.py, PyData.canLay0, PyData.depth]
    exact ⟨h.1, by omega⟩
  | n, .net w cs, k => by simp [D.plain] at k
  | n, .scr ns, k => by simp [D.plain] at k
theorem plains_shaped : ∀ (n : Nat) (ds : List D), D.plains n ds = true → PyData.canLayAll0 (D.pys ds) = true ∧ PyData.depthAll (D.pys ds) ≤ n
  | n, [], k => by simp [D.pys, PyData.canLayAll0, PyData.depthAll]
  | n, d :: ds, k => by
    simp only [D.plains, Bool.and_eq_true] at k
    have h1 := plain_shaped n d k.1
    have h2 := plains_shaped n ds k.2
    simp only [D.pys, PyData.canLayAll0, PyData.depthAll, h1.1, h2.1, Bool.and_self, true_and]
    omega
end
theorem shaped_of {d : D} (k : D.plain 8 d = true) : SeqAt.shaped d.py = true := by
  have h := plain_shaped 8 d k
  unfold SeqAt.shaped
  simp only [h.1, Bool.true_and, decide_eq_true_eq]
  omega
theorem av_dp {d : D} {v : V} (h : Av G M H d v) (k : D.plain 8 d = true) : Dp K H v d.py := by
  rcases h with h | ⟨ds, a, vs, rfl, rfl, ha, hs⟩
  · exact vl_dp 8 d v h k
  · simp only [D.plain] at k
    exact .lst (SqL.of ha) (vls_dp 7 ds vs hs k)
theorem ints_vls : ∀ {ds : List D} {ns : List Int} {vs : List V}, ints? ds = some ns → Vls G M H ds vs → vs = ns.map V.int
  | [], ns, vs, e, h => by simp only [ints?, Option.some.injEq] at e; subst e; simpa [Vls] using h
  | .int i :: ds, ns, vs, e, h => by
    simp only [ints?, Option.map_eq_some_iff] at e
    obtain ⟨r, e, rfl⟩ := e
    simp only [Vls, Vl] at h
    obtain ⟨v, vs', rfl, rfl, h2⟩ := h
    rw [ints_vls e h2]; rfl
  | .non :: ds, ns, vs, e, h => by simp [ints?] at e
  | .bl _ :: ds, ns, vs, e, h => by simp [ints?] at e
  | .str _ :: ds, ns, vs, e, h => by simp [ints?] at e
  | .tup _ :: ds, ns, vs, e, h => by simp [ints?] at e
  | .lst _ :: ds, ns, vs, e, h => by simp [ints?] at e
  | .net _ _ :: ds, ns, vs, e, h => by simp [ints?] at e
  | .scr _ :: ds, ns, vs, e, h => by simp [ints?] at e
theorem vls_ints : ∀ (ns : List Int), Vls G M H (ns.map .int) (ns.map V.int)
  | [] => by simp [Vls]
  | n :: ns => by
    simp only [List.map_cons, Vls, Vl]
    exact ⟨_, _, rfl, rfl, vls_ints ns⟩
theorem bls_vls : ∀ {ds : List D} {ns : List Bool} {vs : List V}, bls? ds = some ns → Vls G M H ds vs → vs = ns.map V.bl
  | [], ns, vs, e, h => by simp only [bls?, Option.some.injEq] at e; subst e; simpa [Vls] using h
  | .bl i :: ds, ns, vs, e, h => by
    simp only [bls?, Option.map_eq_some_iff] at e
    obtain ⟨r, e, rfl⟩ := e
    simp only [Vls, Vl] at h
    obtain ⟨v, vs', rfl, rfl, h2⟩ := h
    rw [bls_vls e h2]; rfl
  | .non :: ds, ns, vs, e, h => by simp [bls?] at e
  | .int _ :: ds, ns, vs, e, h => by simp [bls?] at e
  | .str _ :: ds, ns, vs, e, h => by simp [bls?] at e
  | .tup _ :: ds, ns, vs, e, h => by simp [bls?] at e
  | .lst _ :: ds, ns, vs, e, h => by simp [bls?] at e
  | .net _ _ :: ds, ns, vs, e, h => by simp [bls?] at e
  | .scr _ :: ds, ns, vs, e, h => by simp [bls?] at e
end
end Vs
/-! Vs3: each operation gives what its rule asks. -/
namespace Vs
open PySem L2
abbrev Mx (M : AP) (g : List Addr) : AP := fun b => M b ∨ b ∈ g
abbrev Ext (H H' : Hp) : Prop := ∀ b o, H b = some o → H' b = some o
section
variable {G : Rg} {M M' B : AP} {H H' : Hp} {K : PySem.W.Frag}
theorem ext_new {p : Addr} {o : HO} (h : H p = none) : Ext H (upd H p o) := fun b u e => by
  rw [upd_ne (ne_of_none e h)]
  exact e
theorem sz_ok {n : Nat} (h : sizeOk n = true) : n ≤ sizeLine := by
  simp only [sizeOk, decide_eq_true_eq] at h
  exact Nat.le_trans h (by decide)
theorem vls_new {p : Addr} {o : HO} {ds : List D} {vs : List V} (h : Vls G M H ds vs) (hp : H p = none) : Vls G (Mx M [p]) (upd H p o) ds vs :=
  vls_tr (fun a u e m => ⟨(fun z => z.elim m fun z => ne_of_none e hp (List.mem_singleton.mp z)), ext_new hp a u e⟩) ds vs h
theorem vls_new0 {p : Addr} {o : HO} {ds : List D} {vs : List V} (h : Vls G M H ds vs) (hp : H p = none) : Vls G M (upd H p o) ds vs :=
  vls_tr (fun a u e m => ⟨m, ext_new hp a u e⟩) ds vs h
theorem vls_mx0 {ds : List D} {vs : List V} (h : Vls G M H ds vs) : Vls G (Mx M []) H ds vs := vls_tr (fun a u e m => ⟨by simpa [Mx] using m, e⟩) ds vs h
theorem vl_mx0 {d : D} {v : V} (h : Vl G M H d v) : Vl G (Mx M []) H d v := vl_tr (fun a u e m => ⟨by simpa [Mx] using m, e⟩) d v h
/-- what follows an operation -/
def After (G : Rg) (M B : AP) (H : Hp) (r : Rv) (Q : VK) : Prop := ∀ v H' g, Ext H H' → RvRep G (Mx M g) B H' r v g → g.Nodup → (∀ b ∈ g, H b = none) → Q v H'
theorem After.int {i : Int} {Q : VK} (h : After G M B H (.sh (.int i)) Q) : Q (.int i) H := h _ _ [] (fun _ _ e => e) ⟨rfl, by simp [Vl]⟩ .nil (by simp)
theorem After.bl {i : Bool} {Q : VK} (h : After G M B H (.sh (.bl i)) Q) : Q (.bl i) H := h _ _ [] (fun _ _ e => e) ⟨rfl, by simp [Vl]⟩ .nil (by simp)
theorem After.str {i : Str} {Q : VK} (h : After G M B H (.sh (.str i)) Q) : Q (.str i) H := h _ _ [] (fun _ _ e => e) ⟨rfl, by simp [Vl]⟩ .nil (by simp)
theorem After.same {d : D} {v : V} {Q : VK} (h : After G M B H (.sh d) Q) (hv : Vl G M H d v) : Q v H := h _ _ [] (fun _ _ e => e) ⟨rfl, vl_mx0 hv⟩ .nil (by simp)
theorem After.fr {ds : List D} {vs : List V} {Q : VK} (h : After G M B H (.fr ds) Q) (hs : Vls G M H ds vs) : ∀ p, H p = none → Q (.ref p) (upd H p (.lst vs)) := fun p hp =>
  h _ _ [p] (ext_new hp) ⟨p, vs, rfl, rfl, upd_same, vls_new hs hp⟩ (by simp) (by simpa using hp)
theorem After.tup {ds : List D} {vs : List V} {Q : VK} (h : After G M B H (.sh (.tup ds)) Q) (hD : ∀ b, M b → H b ≠ none) (hs : Vls G M H ds vs) : ∀ p, H p = none → Q (.ref p) (upd H p (.tup vs)) := fun p hp =>
  h _ _ [] (ext_new hp) ⟨rfl, vl_mx0 (by
    simp only [Vl]
    exact ⟨p, vs, rfl, fun m => hD p m hp, upd_same, vls_new0 hs hp⟩)⟩ .nil (by simp)
theorem vls_atI {ds : List D} {vs : List V} {i : Int} {d : D} (h : Vls G M H ds vs) (e : atI ds i = some d) : ∃ v, atI vs i = some v ∧ Vl G M H d v := by
  unfold atI at e ⊢
  rw [vls_len h]
  cases q : ixN ds.length i with
  | none => rw [q] at e; cases e
  | some j =>
    rw [q] at e
    exact vls_get h e
theorem insI_perm (x : Int) : ∀ ys, (insI x ys).Perm (x :: ys)
  | [] => List.Perm.refl _
  | y :: ys => by
    unfold insI
    split
    · exact List.Perm.refl _
    · exact (List.Perm.cons y (insI_perm x ys)).trans (List.Perm.swap x y ys)
theorem sortI_perm : ∀ xs, (sortI xs).Perm xs
  | [] => List.Perm.refl _
  | x :: xs => (insI_perm x (sortI xs)).trans (List.Perm.cons x (sortI_perm xs))
theorem insI_sorted (x : Int) : ∀ ys, ys.Pairwise (· ≤ ·) → (insI x ys).Pairwise (· ≤ ·)
  | [], _ => by simp [insI]
  | y :: ys, h => by
    unfold insI
    split
    · rename_i hxy
      refine List.Pairwise.cons (fun z hz => ?_) h
      rcases List.mem_cons.mp hz with rfl | hz
      · exact hxy
      · exact Int.le_trans hxy (List.rel_of_pairwise_cons h hz)
    · rename_i hxy
      rw [List.pairwise_cons] at h
      refine List.Pairwise.cons (fun z hz => ?_) (insI_sorted x ys h.2)
      rcases List.mem_cons.mp ((insI_perm x ys).mem_iff.mp hz) with rfl | hz
      · omega
      · exact h.1 z hz
theorem sortI_sorted : ∀ xs, (sortI xs).Pairwise (· ≤ ·)
  | [] => .nil
  | x :: xs => insI_sorted x _ (sortI_sorted xs)
theorem sorted_unique {xs ys : List Int} (p : xs.Perm ys) (hx : xs.Pairwise (· ≤ ·)) (hy : ys.Pairwise (· ≤ ·)) : xs = ys :=
  List.Perm.eq_of_pairwise (fun a b _ _ h1 h2 => Int.le_antisymm h1 h2) hx hy p
theorem maxI_spec : ∀ (n : Int) (ns : List Int), maxI (n :: ns) ∈ n :: ns ∧ ∀ y ∈ n :: ns, y ≤ maxI (n :: ns)
  | n, [] => by simp [maxI]
  | n, m :: r => by
    have h := maxI_spec m r
    have e : maxI (n :: m :: r) = max n (maxI (m :: r)) := rfl
    rw [e]
    constructor
    · by_cases q : n ≤ maxI (m :: r)
      · rw [Int.max_eq_right q]; exact List.mem_cons_of_mem _ h.1
      · rw [Int.max_eq_left (by omega)]; simp
    · intro y hy
      rcases List.mem_cons.mp hy with rfl | hy
      · exact Int.le_max_left _ _
      · exact Int.le_trans (h.2 y hy) (Int.le_max_right _ _)
theorem minI_spec : ∀ (n : Int) (ns : List Int), minI (n :: ns) ∈ n :: ns ∧ ∀ y ∈ n :: ns, minI (n :: ns) ≤ y
  | n, [] => by simp [minI]
  | n, m :: r => by
    have h := minI_spec m r
    have e : minI (n :: m :: r) = min n (minI (m :: r)) := rfl
    rw [e]
    constructor
    · by_cases q : n ≤ minI (m :: r)
      · rw [Int.min_eq_left q]; simp
      · rw [Int.min_eq_right (by omega)]; exact List.mem_cons_of_mem _ h.1
    · intro y hy
      rcases List.mem_cons.mp hy with rfl | hy
      · exact Int.min_le_left _ _
      · exact Int.le_trans (Int.min_le_right _ _) (h.2 y hy)
theorem maxI_of {n : Int} {ns : List Int} {m : Int} (h1 : m ∈ n :: ns) (h2 : ∀ y, y ∈ n :: ns → y ≤ m) : m = maxI (n :: ns) :=
  Int.le_antisymm ((maxI_spec n ns).2 m h1) (h2 _ (maxI_spec n ns).1)
theorem minI_of {n : Int} {ns : List Int} {m : Int} (h1 : m ∈ n :: ns) (h2 : ∀ y, y ∈ n :: ns → m ≤ y) : m = minI (n :: ns) :=
  Int.le_antisymm (h2 _ (minI_spec n ns).1) ((minI_spec n ns).2 m h1)
theorem flat_ints (ns : List Int) : (ns.map V.int).all flatV = true := by
  induction ns with
  | nil => rfl
  | cons n ns ih => simp [flatV, ih]
theorem inV_ints (i : Int) : ∀ (ns : List Int), inV (.int i) (ns.map V.int) = decide (i ∈ ns)
  | [] => rfl
  | n :: ns => by
    have h := inV_ints i ns
    have e0 : inV (.int i) ((n :: ns).map V.int) = ((n == i) || inV (.int i) (ns.map V.int)) := rfl
    rw [e0, h]
    by_cases e : n = i
    · simp [e]
    · have e2 : ¬ i = n := fun z => e z.symm
      simp [e, e2]
end
end Vs
/-! Vs4: op_sound. -/
namespace Vs
open PySem L2
section
variable {G : Rg} {M M' B : AP} {H H' : Hp} {K : PySem.W.Frag}
theorem avs1 {d : D} {vs : List V} (h : Avs G M H [d] vs) : ∃ v, vs = [v] ∧ Av G M H d v := by
  obtain ⟨v, vs', rfl, h1, h2⟩ := h
  simp only [Avs] at h2
  subst h2
  exact ⟨v, rfl, h1⟩
theorem avs2 {d e : D} {vs : List V} (h : Avs G M H [d, e] vs) : ∃ v w, vs = [v, w] ∧ Av G M H d v ∧ Av G M H e w := by
  obtain ⟨v, vs', rfl, h1, h2⟩ := h
  obtain ⟨w, rfl, h3⟩ := avs1 h2
  exact ⟨v, w, rfl, h1, h3⟩
theorem len0 {α β : Type} {xs : List α} {ys : List β} (h : xs.length = ys.length) : (xs = [] ↔ ys = []) := by
  cases xs <;> cases ys <;> simp_all
theorem rel_rep (xs : List V) (ds : List D) : ∀ (k : Nat), Vls G M H ds xs → Vls G M H (List.replicate k ds).flatten (List.replicate k xs).flatten
  | 0, _ => by simp [Vls]
  | k + 1, h => by
    simp only [List.replicate_succ, List.flatten_cons]
    exact vls_append h (rel_rep xs ds k h)
/-- what is known of the written part -/
def WrOk (K : PySem.W.Frag) (N : NetI) : Prop := ∀ a ns, N.wr a ns → ∀ H, SqL K H a (ns.map V.int)
theorem scr_seq (hW : WrOk K G.N) {ns : List Int} {v : V} (h : Av G M H (.scr ns) v) : ∃ a, v = .ref a ∧ SqL K H a (ns.map V.int) := by
  obtain ⟨a, rfl, h | h⟩ := h.scr
  · exact ⟨a, rfl, .inl h⟩
  · exact ⟨a, rfl, hW a ns h H⟩
theorem atI_map {ns : List Int} {i n : Int} (h : atI ns i = some n) : atI (ns.map V.int) i = some (.int n) := by
  unfold atI at h ⊢
  rw [List.length_map]
  cases q : ixN ns.length i with
  | none => rw [q] at h; cases h
  | some j => rw [q] at h; simp only [Option.bind_some] at h ⊢; rw [List.getElem?_map, h]; rfl
theorem op_sound (hW : WrOk K G.N) : ∀ (o : Op) (ds : List D) (r : Rv), evOp o ds = some r → ∀ vs, Avs G M H ds vs → (∀ b, M b → H b ≠ none) → ∀ Q : VK, After G M B H r Q → semOp K o vs H Q := by
  intro o ds r he vs ha hD Q q
  unfold evOp at he
  split at he
  -- add
  · obtain ⟨v, w, rfl, h1, h2⟩ := avs2 ha
    cases he; rw [h1.int, h2.int]; exact .inl ⟨_, _, rfl, rfl, q.int⟩
  · rename_i xs ys
    obtain ⟨v, w, rfl, h1, h2⟩ := avs2 ha
    split at he
    · rename_i hz
      cases he
      obtain ⟨a, vx, rfl, m1, e1, s1⟩ := h1.tup
      obtain ⟨b, vy, rfl, m2, e2, s2⟩ := h2.tup
      have l1 := vls_len s1
      have l2 := vls_len s2
      refine .inr (.inl ⟨a, b, vx, vy, rfl, rfl, SqT.of e1, SqT.of e2, by rw [l1, l2]; exact sz_ok hz, fun z => ?_, fun z z2 => ?_, fun _ _ => q.tup hD (vls_append s1 s2)⟩)
      · subst z
        have : xs = [] := by cases xs with | nil => rfl | cons _ _ => simp at l1
        subst this
        exact q.same (by simp only [Vl, List.nil_append]; exact ⟨b, vy, rfl, m2, e2, s2⟩)
      · subst z2
        have : ys = [] := by cases ys with | nil => rfl | cons _ _ => simp at l2
        subst this
        exact q.same (by simp only [Vl, List.append_nil]; exact ⟨a, vx, rfl, m1, e1, s1⟩)
    · cases he
  · obtain ⟨v, w, rfl, h1, h2⟩ := avs2 ha
    split at he
    · rename_i hz
      cases he
      obtain ⟨a, vx, rfl, e1, s1⟩ := h1.lst
      obtain ⟨b, vy, rfl, e2, s2⟩ := h2.lst
      exact .inr (.inr (.inl ⟨a, b, vx, vy, rfl, rfl, e1, e2, by rw [vls_len s1, vls_len s2]; exact sz_ok hz, q.fr (vls_append s1 s2)⟩))
    · cases he
  · obtain ⟨v, w, rfl, h1, h2⟩ := avs2 ha
    split at he
    · rename_i hz
      cases he
      rw [h1.str, h2.str]
      exact .inr (.inr (.inr ⟨_, _, rfl, rfl, sz_ok hz, q.str⟩))
    · cases he
  -- sub
  · obtain ⟨v, w, rfl, h1, h2⟩ := avs2 ha
    cases he; rw [h1.int, h2.int]; exact ⟨_, _, rfl, rfl, q.int⟩
  -- mul
  · obtain ⟨v, w, rfl, h1, h2⟩ := avs2 ha
    split at he
    · rename_i hz
      cases he; rw [h1.int, h2.int]; exact .inl ⟨_, _, rfl, rfl, hz, q.int⟩
    · cases he
  · obtain ⟨v, w, rfl, h1, h2⟩ := avs2 ha
    split at he
    · rename_i xs k hz
      cases he
      obtain ⟨a, vx, rfl, e1, s1⟩ := h1.lst
      rw [h2.int]
      refine .inr ⟨a, k, vx, rfl, rfl, e1, by omega, by omega, ?_, fun p hp => q.fr (rel_rep _ _ _ s1) p hp⟩
      rw [vls_len s1]
      have h3 : xs.length * k.toNat ≤ 1000 * 1000 := Nat.mul_le_mul (by omega) (by omega)
      exact Nat.le_trans h3 (by decide)
    · cases he
  -- fdiv, mod, pow, shl
  · obtain ⟨v, w, rfl, h1, h2⟩ := avs2 ha
    split at he
    · rename_i hz
      cases he; rw [h1.int, h2.int]; exact ⟨_, _, rfl, rfl, hz, q.int⟩
    · cases he
  · obtain ⟨v, w, rfl, h1, h2⟩ := avs2 ha
    split at he
    · rename_i hz
      cases he; rw [h1.int, h2.int]; exact ⟨_, _, rfl, rfl, hz, q.int⟩
    · cases he
  · obtain ⟨v, w, rfl, h1, h2⟩ := avs2 ha
    split at he
    · rename_i hz
      cases he; rw [h1.int, h2.int]; exact ⟨_, _, rfl, rfl, hz, q.int⟩
    · cases he
  · obtain ⟨v, w, rfl, h1, h2⟩ := avs2 ha
    split at he
    · rename_i hz
      cases he; rw [h1.int, h2.int]; exact ⟨_, _, rfl, rfl, hz, q.int⟩
    · cases he
  -- bor, band
  · obtain ⟨v, w, rfl, h1, h2⟩ := avs2 ha
    cases he; rw [h1.int, h2.int]; exact ⟨_, _, rfl, rfl, q.int⟩
  · obtain ⟨v, w, rfl, h1, h2⟩ := avs2 ha
    cases he; rw [h1.int, h2.int]; exact ⟨_, _, rfl, rfl, q.int⟩
  -- lt
  · obtain ⟨v, w, rfl, h1, h2⟩ := avs2 ha
    cases he; rw [h1.int, h2.int]; exact .inl ⟨_, _, rfl, rfl, q.bl⟩
  · obtain ⟨v, w, rfl, h1, h2⟩ := avs2 ha
    split at he
    · rename_i i1 i2
      cases he
      obtain ⟨a, vx, rfl, m1, e1, s1⟩ := h1.tup
      obtain ⟨b, vy, rfl, m2, e2, s2⟩ := h2.tup
      rw [ints_vls i1 s1] at e1
      rw [ints_vls i2 s2] at e2
      exact .inr ⟨a, b, _, _, rfl, rfl, SqT.of e1, SqT.of e2, q.bl⟩
    · cases he
  -- le, gt, ge
  · obtain ⟨v, w, rfl, h1, h2⟩ := avs2 ha
    cases he; rw [h1.int, h2.int]; exact ⟨_, _, rfl, rfl, q.bl⟩
  · obtain ⟨v, w, rfl, h1, h2⟩ := avs2 ha
    cases he; rw [h1.int, h2.int]; exact ⟨_, _, rfl, rfl, q.bl⟩
  · obtain ⟨v, w, rfl, h1, h2⟩ := avs2 ha
    cases he; rw [h1.int, h2.int]; exact ⟨_, _, rfl, rfl, q.bl⟩
  -- eq
  · obtain ⟨v, w, rfl, h1, h2⟩ := avs2 ha
    cases he; rw [h1.int, h2.int]; exact .inl ⟨rfl, by rw [dec_int, ← Bool.beq_eq_decide_eq] at *; exact (by simpa [Bool.beq_eq_decide_eq] using q.bl)⟩
  · obtain ⟨v, w, rfl, h1, h2⟩ := avs2 ha
    cases he; rw [h1.bl, h2.bl]; exact .inl ⟨rfl, by rw [dec_bl]; simpa [Bool.beq_eq_decide_eq] using q.bl⟩
  · obtain ⟨v, w, rfl, h1, h2⟩ := avs2 ha
    cases he; rw [h1.str, h2.str]; exact .inl ⟨rfl, by rw [dec_str]; simpa [Bool.beq_eq_decide_eq] using q.bl⟩
  · obtain ⟨v, w, rfl, h1, h2⟩ := avs2 ha
    split at he
    · rename_i hz
      simp only [Bool.and_eq_true] at hz
      cases he
      exact .inr ⟨_, _, av_dp h1 hz.1, av_dp h2 hz.2, shaped_of hz.1, shaped_of hz.2, q.bl⟩
    · cases he
  · obtain ⟨v, w, rfl, h1, h2⟩ := avs2 ha
    split at he
    · rename_i hz
      simp only [Bool.and_eq_true] at hz
      cases he
      exact .inr ⟨_, _, av_dp h1 hz.1, av_dp h2 hz.2, shaped_of hz.1, shaped_of hz.2, q.bl⟩
    · cases he
  -- ne
  · obtain ⟨v, w, rfl, h1, h2⟩ := avs2 ha
    cases he; rw [h1.int, h2.int]; exact .inl ⟨rfl, by rw [dec_int]; simpa [Bool.beq_eq_decide_eq] using q.bl⟩
  · obtain ⟨v, w, rfl, h1, h2⟩ := avs2 ha
    cases he; rw [h1.bl, h2.bl]; exact .inl ⟨rfl, by rw [dec_bl]; simpa [Bool.beq_eq_decide_eq] using q.bl⟩
  · obtain ⟨v, w, rfl, h1, h2⟩ := avs2 ha
    cases he; rw [h1.str, h2.str]; exact .inl ⟨rfl, by rw [dec_str]; simpa [Bool.beq_eq_decide_eq] using q.bl⟩
  · obtain ⟨v, w, rfl, h1, h2⟩ := avs2 ha
    split at he
    · rename_i hz
      simp only [Bool.and_eq_true] at hz
      cases he
      exact .inr ⟨_, _, av_dp h1 hz.1, av_dp h2 hz.2, shaped_of hz.1, shaped_of hz.2, q.bl⟩
    · cases he
  · obtain ⟨v, w, rfl, h1, h2⟩ := avs2 ha
    split at he
    · rename_i hz
      simp only [Bool.and_eq_true] at hz
      cases he
      exact .inr ⟨_, _, av_dp h1 hz.1, av_dp h2 hz.2, shaped_of hz.1, shaped_of hz.2, q.bl⟩
    · cases he
  -- in
  · obtain ⟨v, w, rfl, h1, h2⟩ := avs2 ha
    split at he
    · rename_i hz
      cases he
      obtain ⟨a, vx, rfl, e1, s1⟩ := h2.lst
      rw [ints_vls hz s1] at e1
      rw [h1.int]
      exact .inl ⟨a, _, rfl, .inl (SqL.of e1), rfl, flat_ints _, by rw [inV_ints]; exact q.bl⟩
    · cases he
  · obtain ⟨v, w, rfl, h1, h2⟩ := avs2 ha
    split at he
    · rename_i hz
      cases he
      obtain ⟨a, vx, rfl, m1, e1, s1⟩ := h2.tup
      rw [ints_vls hz s1] at e1
      rw [h1.int]
      exact .inl ⟨a, _, rfl, .inr (SqT.of e1), rfl, flat_ints _, by rw [inV_ints]; exact q.bl⟩
    · cases he
  · obtain ⟨v, w, rfl, h1, h2⟩ := avs2 ha
    split at he
    · rename_i hz
      cases he
      obtain ⟨a, vx, rfl, e1, s1⟩ := h2.lst
      rw [ints_vls hz s1] at e1
      rw [h1.int]
      exact .inl ⟨a, _, rfl, .inl (SqL.of e1), rfl, flat_ints _, by rw [inV_ints]; exact q.bl⟩
    · cases he
  · obtain ⟨v, w, rfl, h1, h2⟩ := avs2 ha
    split at he
    · rename_i hz
      cases he
      obtain ⟨a, vx, rfl, m1, e1, s1⟩ := h2.tup
      rw [ints_vls hz s1] at e1
      rw [h1.int]
      exact .inl ⟨a, _, rfl, .inr (SqT.of e1), rfl, flat_ints _, by rw [inV_ints]; exact q.bl⟩
    · cases he
  · obtain ⟨v, w, rfl, h1, h2⟩ := avs2 ha
    split at he
    · rename_i hz
      simp only [Bool.and_eq_true] at hz
      cases he
      exact .inr ⟨_, _, av_dp h1 hz.1, av_dp h2 hz.2, shaped_of hz.1, shaped_of hz.2, q.bl⟩
    · cases he
  · obtain ⟨v, w, rfl, h1, h2⟩ := avs2 ha
    split at he
    · rename_i hz
      simp only [Bool.and_eq_true] at hz
      cases he
      exact .inr ⟨_, _, av_dp h1 hz.1, av_dp h2 hz.2, shaped_of hz.1, shaped_of hz.2, q.bl⟩
    · cases he
  -- ix
  · obtain ⟨v, w, rfl, h1, h2⟩ := avs2 ha
    simp only [Option.map_eq_some_iff] at he
    obtain ⟨d, he, rfl⟩ := he
    obtain ⟨a, vx, rfl, e1, s1⟩ := h1.lst
    rw [h2.int]
    obtain ⟨v, ev, hv⟩ := vls_atI s1 he
    exact .inl ⟨a, vx, _, v, rfl, rfl, SqL.of e1, ev, q.same hv⟩
  · obtain ⟨v, w, rfl, h1, h2⟩ := avs2 ha
    simp only [Option.map_eq_some_iff] at he
    obtain ⟨d, he, rfl⟩ := he
    obtain ⟨a, vx, rfl, m1, e1, s1⟩ := h1.tup
    rw [h2.int]
    obtain ⟨v, ev, hv⟩ := vls_atI s1 he
    exact .inr (.inl ⟨a, vx, _, v, rfl, rfl, SqT.of e1, ev, q.same hv⟩)
  -- len
  · obtain ⟨v, rfl, h1⟩ := avs1 ha
    cases he
    obtain ⟨a, vx, rfl, e1, s1⟩ := h1.lst
    exact ⟨_, vx.length, rfl, .inl ⟨_, SqL.of e1, rfl⟩, by rw [vls_len s1]; exact q.int⟩
  · obtain ⟨v, rfl, h1⟩ := avs1 ha
    cases he
    obtain ⟨a, vx, rfl, m1, e1, s1⟩ := h1.tup
    exact ⟨_, vx.length, rfl, .inr ⟨_, SqT.of e1, rfl⟩, by rw [vls_len s1]; exact q.int⟩
  · obtain ⟨v, w, rfl, h1, h2⟩ := avs2 ha
    simp only [Option.map_eq_some_iff] at he
    obtain ⟨d, he, rfl⟩ := he
    obtain ⟨a, rfl, hs⟩ := scr_seq hW h1
    rw [h2.int]
    exact .inl ⟨a, _, _, _, rfl, rfl, hs, atI_map he, q.int⟩
  · obtain ⟨v, rfl, h1⟩ := avs1 ha
    cases he
    obtain ⟨a, rfl, hs⟩ := scr_seq hW h1
    exact ⟨_, _, rfl, .inl ⟨_, hs, rfl⟩, by rw [List.length_map]; exact q.int⟩
  · obtain ⟨v, rfl, h1⟩ := avs1 ha
    split at he
    · rename_i hz
      cases he
      rw [h1.str]
      exact ⟨_, _, rfl, ⟨sz_ok hz, rfl⟩, q.int⟩
    · cases he
  -- list
  · obtain ⟨v, rfl, h1⟩ := avs1 ha
    cases he
    obtain ⟨a, vx, rfl, e1, s1⟩ := h1.lst
    exact ⟨a, vx, rfl, .inl (SqL.of e1), q.fr s1⟩
  · obtain ⟨v, rfl, h1⟩ := avs1 ha
    cases he
    obtain ⟨a, vx, rfl, m1, e1, s1⟩ := h1.tup
    exact ⟨a, vx, rfl, .inr (SqT.of e1), q.fr s1⟩
  -- tuple
  · obtain ⟨v, rfl, h1⟩ := avs1 ha
    cases he
    obtain ⟨a, vx, rfl, e1, s1⟩ := h1.lst
    exact ⟨a, vx, rfl, .inl ⟨SqL.of e1, q.tup hD s1⟩⟩
  · obtain ⟨v, rfl, h1⟩ := avs1 ha
    cases he
    obtain ⟨a, vx, rfl, m1, e1, s1⟩ := h1.tup
    exact ⟨a, vx, rfl, .inr ⟨SqT.of e1, q.same (by simp only [Vl]; exact ⟨a, vx, rfl, m1, e1, s1⟩)⟩⟩
  -- int
  · obtain ⟨v, rfl, h1⟩ := avs1 ha
    cases he; rw [h1.int]; exact .inl ⟨_, rfl, q.int⟩
  · obtain ⟨v, rfl, h1⟩ := avs1 ha
    cases he; rw [h1.bl]; exact .inr ⟨_, rfl, q.int⟩
  -- max, min
  · obtain ⟨v, w, rfl, h1, h2⟩ := avs2 ha
    cases he; rw [h1.int, h2.int]; exact .inl ⟨_, _, rfl, q.int⟩
  · obtain ⟨v, w, rfl, h1, h2⟩ := avs2 ha
    cases he; rw [h1.int, h2.int]; exact .inl ⟨_, _, rfl, q.int⟩
  · obtain ⟨v, rfl, h1⟩ := avs1 ha
    split at he
    · rename_i n ns hz
      cases he
      obtain ⟨a, vx, rfl, e1, s1⟩ := h1.lst
      rw [ints_vls hz s1] at e1
      exact .inr ⟨a, n :: ns, rfl, SqL.of e1, by simp, fun m m1 m2 => by rw [maxI_of m1 m2]; exact q.int⟩
    · cases he
  · obtain ⟨v, rfl, h1⟩ := avs1 ha
    split at he
    · rename_i n ns hz
      cases he
      obtain ⟨a, vx, rfl, e1, s1⟩ := h1.lst
      rw [ints_vls hz s1] at e1
      exact .inr ⟨a, n :: ns, rfl, SqL.of e1, by simp, fun m m1 m2 => by rw [minI_of m1 m2]; exact q.int⟩
    · cases he
  -- sum
  · obtain ⟨v, rfl, h1⟩ := avs1 ha
    split at he
    · rename_i ns hz
      cases he
      obtain ⟨a, vx, rfl, e1, s1⟩ := h1.lst
      rw [ints_vls hz s1] at e1
      exact ⟨a, ns, rfl, SqL.of e1, q.int⟩
    · cases he
  -- sorted
  · obtain ⟨v, rfl, h1⟩ := avs1 ha
    split at he
    · rename_i ns hz
      cases he
      obtain ⟨a, vx, rfl, e1, s1⟩ := h1.lst
      rw [ints_vls hz s1] at e1
      refine ⟨a, ns, rfl, SqL.of e1, fun ns' p pm so hp => ?_⟩
      rw [sorted_unique (pm.trans (sortI_perm ns).symm) so (sortI_sorted ns)]
      exact q.fr (vls_ints _) p hp
    · cases he
  -- all, any
  · obtain ⟨v, rfl, h1⟩ := avs1 ha
    split at he
    · rename_i ns hz
      cases he
      obtain ⟨a, vx, rfl, e1, s1⟩ := h1.lst
      rw [bls_vls hz s1] at e1
      exact ⟨a, ns, rfl, SqL.of e1, q.bl⟩
    · cases he
  · obtain ⟨v, rfl, h1⟩ := avs1 ha
    split at he
    · rename_i ns hz
      cases he
      obtain ⟨a, vx, rfl, e1, s1⟩ := h1.lst
      rw [bls_vls hz s1] at e1
      exact ⟨a, ns, rfl, SqL.of e1, q.bl⟩
    · cases he
  -- is
  · obtain ⟨v, w, rfl, h1, h2⟩ := avs2 ha
    cases he; rw [h1.bl, h2.bl]; exact ⟨_, _, rfl, rfl, q.bl⟩
  · obtain ⟨v, w, rfl, h1, h2⟩ := avs2 ha
    cases he; rw [h1.bl, h2.bl]; exact ⟨_, _, rfl, rfl, q.bl⟩
  · cases he
end
end Vs
/-! Vs5: the forms of the text, what they compute, what they are over the layer. -/
namespace Vs
open PySem L2

inductive SG where
  | nm (i : Nat)
  | tp2 (a b : SG)
  | tp3 (a b c : SG)
def SG.ix : SG → List Nat
  | .nm i => [i]
  | .tp2 a b => a.ix ++ b.ix
  | .tp3 a b c => a.ix ++ (b.ix ++ c.ix)
def SG.sub (g : SG) (vs : List Nat) : Bool := g.ix.all fun i => vs.contains i
def Op.bin : Op → Bool
  | .lt => true
  | .le => true
  | .gt => true
  | .ge => true
  | .eq => true
  | .ne => true
  | _ => false
/-- an operation of its own -/
structure PF where
  fn : List D → Option Rv
/-- the kind that a method is looked up at -/
def D.kindIs (T : String) : D → Bool
  | .tup _ => T == "tuple"
  | .lst _ => T == "list"
  | .str _ => T == "str"
  | _ => false
mutual
inductive SE where
  | var (i : Nat)
  | cst (d : D)
  | op (o : Op) (as : SA)
  | ix (a i : SE)
  | chain (o1 o2 : Op) (a b c : SE)
  | chain3 (o1 o2 o3 : Op) (a b c d : SE)
  | andV (a b : SE)
  | orV (a b : SE)
  | notV (a : SE)
  | ifE (c : ST) (a b : SE)
  | tup (as : SA)
  | lst (n : Bool) (as : SA)
  | sl (a : SE) (lo hi : SO)
  | lc (n : Bool) (it : SI) (g : SG) (c : ST) (el : SE) (vs : List Nat)
  | lc2 (n : Bool) (it : SI) (g : SG) (c : ST) (it1 : SI) (g1 : SG) (c1 : ST) (el : SE) (vs vs1 : List Nat)
  | call (f : FS) (as : SA)
  | meth (m : Str) (f : FS) (a : SE) (as : SA)
  | mk (f : FS) (as : SA)
  | fldW (a : SE)
  | fldC (a : SE)
  | prim (f : PF) (as : SA)
  | pm (T : String) (f : PF) (a : SE) (as : SA)
  | mIdx (f : FS) (a : SE) (as : SA) (i : Int)
inductive SA where
  | nil
  | cons (e : SE) (r : SA)
inductive ST where
  | yes
  | val (e : SE)
  | and (a b : ST)
  | or (a b : ST)
  | not (a : ST)
inductive SO where
  | none
  | some (e : SE)
inductive SI where
  | rng1 (a : SE)
  | rng2 (a b : SE)
  | rng3 (a b c : SE)
  | seq (e : SE)
  | rev (e : SE)
  | enum (e : SE)
  | zip (a b : SE)
end
mutual
inductive SS where
  | asg (g : SG) (e : SE)
  | asgN (i : Nat) (e : SE)
  | asgF (i : Nat) (e : SE)
  | aug (i : Nat) (o : Op) (e : SE)
  | set (i : Nat) (ix : SE) (e : SE)
  | swap (i : Nat) (a b : SE) (x y : SE)
  | app (i : Nat) (e : SE)
  | ext (i : Nat) (e : SE)
  | ifS (c : ST) (a b : SB)
  | for (it : SI) (g : SG) (b : SB)
  | whl (c : ST) (b : SB)
  | ret (e : SE)
  | retF (e : SE)
  | brk
  | cnt
  | pass
  | exp (e : SE)
  | dead
inductive SB where
  | nil
  | cons (s : SS) (r : SB)
  | frz (i : Nat) (r : SB)
end

/-! ### what they compute -/
def Rv.shd : Rv → Option D
  | .sh d => some d
  | .fr ds => some (.lst ds)
  | .nf ts => some (T.frz (.nd ts))
  | _ => none
def Rv.tree : Rv → Option T
  | .sh d => some (.lf d)
  | .fr ds => some (.nd (ds.map .lf))
  | .nf ts => some (.nd ts)
  | _ => none
def shds : List Rv → Option (List D)
  | [] => some []
  | r :: rs => match r.shd, shds rs with
    | some d, some ds => some (d :: ds)
    | _, _ => none
def trees : List Rv → Option (List T)
  | [] => some []
  | r :: rs => match r.tree, trees rs with
    | some d, some ds => some (d :: ds)
    | _, _ => none
def collect (n : Bool) (rs : List Rv) : Option Rv := if n then (trees rs).map .nf else (shds rs).map .fr
/-- as an argument -/
def Rv.arg : Rv → Sl
  | .sh d => .sh d
  | .fr ds => .sh (.lst ds)
  | .bw ds => .bw ds
  | .tp => .tp
  | .nf ts => .sh (T.frz (.nd ts))
  | .nb ts => .nb ts
def Rv.ok : Rv → Bool
  | .sh _ => true
  | .fr _ => true
  | .nf _ => true
  | _ => false
def rdSl : Sl → Option Rv
  | .un => none
  | .sh d => some (.sh d)
  | .ow ds => some (.bw ds)
  | .bw ds => some (.bw ds)
  | .tp => some .tp
  | .nt ts => some (.nb ts)
  | .nb ts => some (.nb ts)
def cutD (xs : List D) (lo hi : Option Int) : List D := (xs.drop (HT.sIx xs.length 0 lo)).take (HT.sIx xs.length xs.length hi - HT.sIx xs.length 0 lo)
def evSl (d : D) (lo hi : Option Int) : Option Rv := match d with
  | .lst xs => some (.fr (cutD xs lo hi))
  | .tup xs => some (.sh (.tup (cutD xs lo hi)))
  | _ => none
def evIx (r : Rv) (i : Int) : Option Rv := match r with
  | .nb ts => match atI ts i with
    | some (.lf d) => some (.sh d)
    | some (.nd us) => some (.nb us)
    | none => none
  | .sh d => evOp .ix [d, .int i]
  | .fr ds => evOp .ix [.lst ds, .int i]
  | .bw ds => evOp .ix [.lst ds, .int i]
  | _ => none
def scalD : D → Bool
  | .non => true
  | .bl _ => true
  | .int _ => true
  | .str _ => true
  | _ => false
def scalV : D → V
  | .bl b => .bl b
  | .int i => .int i
  | .str s => .str s
  | _ => .non
def envWipe (e : Env) : List Nat → Env
  | [] => e
  | v :: vs => (envWipe e vs).set v .un
/-- a target takes shared data or a tree looked at -/
def SG.bind : SG → Sl → Env → Option Env
  | .nm i, s, e => if i < e.length then some (e.set i s) else none
  | .tp2 a b, s, e => match s with
    | .sh (.tup [x, y]) => match a.bind (.sh x) e with
      | some e1 => b.bind (.sh y) e1
      | none => none
    | _ => none
  | .tp3 a b c, s, e => match s with
    | .sh (.tup [x, y, z]) => match a.bind (.sh x) e with
      | some e1 => match b.bind (.sh y) e1 with
        | some e2 => c.bind (.sh z) e2
        | none => none
      | none => none
    | _ => none
def treeSl : T → Sl
  | .lf d => .sh d
  | .nd ts => .nb ts
/-- the items that are walked: shared data or trees looked at -/
def Rv.items : Rv → Option (List Sl)
  | .sh (.lst ds) => some (ds.map .sh)
  | .sh (.tup ds) => some (ds.map .sh)
  | .fr ds => some (ds.map .sh)
  | .bw ds => some (ds.map .sh)
  | .nf ts => some (ts.map treeSl)
  | .nb ts => some (ts.map treeSl)
  | _ => none
def enumD : Nat → List D → List D
  | _, [] => []
  | n, d :: ds => .tup [.int n, d] :: enumD (n + 1) ds
def rngD (lo : Int) (n : Nat) : List D := (List.range n).map fun (k : Nat) => .int (lo + (k : Nat))
/-- a range with a step -/
def rngC (lo c : Int) (n : Nat) : List D := (List.range n).map fun (k : Nat) => .int (lo + (k : Nat) * c)
def okR (i : Int) : Bool := decide (-1000000 ≤ i ∧ i ≤ 1000000)

/-- one element -/
def el1 (o : Option (Rv × Tape)) : Option (List Rv × Tape) := match o with
  | some (r, t) => if r.ok then some ([r], t) else none
  | none => none
/-- the turns of a comprehension; what is kept -/
def lcGo (g : SG) (c : Env → Tape → Option (Bool × Tape)) (el : Env → Tape → Option (List Rv × Tape)) (env : Env) : List Sl → Tape → Option (List Rv × Tape)
  | [], tp => some ([], tp)
  | s :: ss, tp => match g.bind s env with
    | none => none
    | some e1 => match c e1 tp with
      | none => none
      | some (false, tp1) => lcGo g c el env ss tp1
      | some (true, tp1) => match el e1 tp1 with
        | none => none
        | some (rs, tp2) => match lcGo g c el env ss tp2 with
          | none => none
          | some (rs', tp3) => some (rs ++ rs', tp3)

/-- what a loop may walk while its body runs -/
def stabE (e : SE) (r : Rv) (env : Env) : Bool := match r with
  | .sh _ => true
  | .fr _ => true
  | .bw _ => match e with
    | .var i => match env[i]? with
      | some (.bw _) => true
      | _ => false
    | _ => false
  | .nb _ => match e with
    | .var i => match env[i]? with
      | some (.nb _) => true
      | _ => false
    | _ => false
  | _ => false

mutual
def evE : SE → Env → Tape → Option (Rv × Tape)
  | .var i, env, tp => match env[i]? with
    | some s => (rdSl s).map (·, tp)
    | none => none
  | .cst d, env, tp => if scalD d then some (.sh d, tp) else none
  | .op o as, env, tp => match evA as env tp with
    | some (rs, tp1) => match Rv.avs rs with
      | some ds => (evOp o ds).map (·, tp1)
      | none => none
    | none => none
  | .ix a i, env, tp => match evE a env tp with
    | some (ra, tp1) => match evE i env tp1 with
      | some (.sh (.int k), tp2) => (evIx ra k).map (·, tp2)
      | _ => none
    | none => none
  | .chain o1 o2 a b c, env, tp => if o1.bin && o2.bin then match evE a env tp with
    | some (.sh da, tp1) => match evE b env tp1 with
      | some (.sh db, tp2) => match evOp o1 [da, db] with
        | some (.sh (.bl true)) => match evE c env tp2 with
          | some (.sh dc, tp3) => (evOp o2 [db, dc]).map (·, tp3)
          | _ => none
        | some (.sh (.bl false)) => some (.sh (.bl false), tp2)
        | _ => none
      | _ => none
    | _ => none
    else none
  | .chain3 o1 o2 o3 a b c d, env, tp => if o1.bin && o2.bin && o3.bin then match evE a env tp with
    | some (.sh da, tp1) => match evE b env tp1 with
      | some (.sh db, tp2) => match evOp o1 [da, db] with
        | some (.sh (.bl true)) => match evE c env tp2 with
          | some (.sh dc, tp3) => match evOp o2 [db, dc] with
            | some (.sh (.bl true)) => match evE d env tp3 with
              | some (.sh dd, tp4) => (evOp o3 [dc, dd]).map (·, tp4)
              | _ => none
            | some (.sh (.bl false)) => some (.sh (.bl false), tp3)
            | _ => none
          | _ => none
        | some (.sh (.bl false)) => some (.sh (.bl false), tp2)
        | _ => none
      | _ => none
    | _ => none
    else none
  | .andV a b, env, tp => match evE a env tp with
    | some (.sh (.bl true), tp1) => evE b env tp1
    | some (.sh (.bl false), tp1) => some (.sh (.bl false), tp1)
    | _ => none
  | .orV a b, env, tp => match evE a env tp with
    | some (.sh (.bl false), tp1) => evE b env tp1
    | some (.sh (.bl true), tp1) => some (.sh (.bl true), tp1)
    | _ => none
  | .notV a, env, tp => match evE a env tp with
    | some (.sh (.bl b), tp1) => some (.sh (.bl (!b)), tp1)
    | _ => none
  | .ifE c a b, env, tp => match evT c env tp with
    | some (true, tp1) => evE a env tp1
    | some (false, tp1) => evE b env tp1
    | none => none
  | .tup as, env, tp => match evA as env tp with
    | some (rs, tp1) => match shds rs with
      | some ds => if sizeOk ds.length then some (.sh (.tup ds), tp1) else none
      | none => none
    | none => none
  | .lst n as, env, tp => match evA as env tp with
    | some (rs, tp1) => if sizeOk rs.length then (collect n rs).map (·, tp1) else none
    | none => none
  | .sl a lo hi, env, tp => match evE a env tp with
    | some (ra, tp1) => match ra.av with
      | some d => match evO lo env tp1 with
        | some (l, tp2) => match evO hi env tp2 with
          | some (h, tp3) => (evSl d l h).map (·, tp3)
          | none => none
        | none => none
      | none => none
    | none => none
  | .lc n it g c el vs, env, tp => match evI it env tp with
    | some (ss, _, tp1) => if g.sub vs then match lcGo g (fun e t => evT c e t) (fun e t => el1 (evE el e t)) (envWipe env vs) ss tp1 with
      | some (rs, tp2) => if sizeOk rs.length then (collect n rs).map (·, tp2) else none
      | none => none
      else none
    | none => none
  | .lc2 n it g c it1 g1 c1 el vs vs1, env, tp => match evI it env tp with
    | some (ss, _, tp1) => if g.sub vs && g1.sub vs1 && vs1.all (fun i => vs.contains i) then match lcGo g (fun e t => evT c e t) (fun e t => match evI it1 e t with
        | some (ss1, _, t1) => lcGo g1 (fun e t => evT c1 e t) (fun e t => el1 (evE el e t)) (envWipe e vs1) ss1 t1
        | none => none) (envWipe env vs) ss tp1 with
      | some (rs, tp2) => if sizeOk rs.length then (collect n rs).map (·, tp2) else none
      | none => none
      else none
    | none => none
  | .call f as, env, tp => match evA as env tp with
    | some (rs, tp1) => match f.fn (rs.map Rv.arg) tp1 with
      | some (r, tp2) => if r.ok then some (r, tp2) else none
      | none => none
    | none => none
  | .meth m f a as, env, tp => match evE a env tp with
    | some (.sh (.net w cs), tp1) => if m = sWires ∨ m = sComps then none else match evA as env tp1 with
      | some (rs, tp2) => match f.fn (.sh (.net w cs) :: rs.map Rv.arg) tp2 with
        | some (r, tp3) => if r.ok then some (r, tp3) else none
        | none => none
      | none => none
    | _ => none
  | .mk f as, env, tp => match evA as env tp with
    | some (rs, tp1) => match f.fn (rs.map Rv.arg) tp1 with
      | some (.sh (.net w cs), tp2) => some (.sh (.net w cs), tp2)
      | _ => none
    | none => none
  | .fldW a, env, tp => match evE a env tp with
    | some (.sh (.net w _), tp1) => some (.sh (.int w), tp1)
    | _ => none
  | .fldC a, env, tp => match evE a env tp with
    | some (.sh (.net _ cs), tp1) => some (.sh cs, tp1)
    | _ => none
  | .prim f as, env, tp => match evA as env tp with
    | some (rs, tp1) => match Rv.avs rs with
      | some ds => (f.fn ds).map (·, tp1)
      | none => none
    | none => none
  | .pm T f a as, env, tp => match evE a env tp with
    | some (.sh d, tp1) => if d.kindIs T && T != "tuple" then match evA as env tp1 with
      | some (rs, tp2) => match Rv.avs rs with
        | some ds => (f.fn (d :: ds)).map (·, tp2)
        | none => none
      | none => none
      else none
    | _ => none
  | .mIdx f a as i, env, tp => match evE a env tp with
    | some (.sh (.net w cs), tp1) => match evA as env tp1 with
      | some (rs, tp2) => match f.fn (.sh (.net w cs) :: rs.map Rv.arg) tp2 with
        | some (.sh (.tup ds), tp3) => match ints? ds with
          | some ns => if i ∈ ns then some (.sh (.int (ns.idxOf i : Nat)), tp3) else none
          | none => none
        | _ => none
      | none => none
    | _ => none
def evA : SA → Env → Tape → Option (List Rv × Tape)
  | .nil, env, tp => some ([], tp)
  | .cons e r, env, tp => match evE e env tp with
    | some (x, tp1) => match evA r env tp1 with
      | some (xs, tp2) => some (x :: xs, tp2)
      | none => none
    | none => none
def evT : ST → Env → Tape → Option (Bool × Tape)
  | .yes, env, tp => some (true, tp)
  | .val e, env, tp => match evE e env tp with
    | some (.sh (.bl b), tp1) => some (b, tp1)
    | _ => none
  | .and a b, env, tp => match evT a env tp with
    | some (true, tp1) => evT b env tp1
    | some (false, tp1) => some (false, tp1)
    | none => none
  | .or a b, env, tp => match evT a env tp with
    | some (false, tp1) => evT b env tp1
    | some (true, tp1) => some (true, tp1)
    | none => none
  | .not a, env, tp => match evT a env tp with
    | some (b, tp1) => some (!b, tp1)
    | none => none
def evO : SO → Env → Tape → Option (Option Int × Tape)
  | .none, env, tp => some (none, tp)
  | .some e, env, tp => match evE e env tp with
    | some (.sh (.int i), tp1) => some (some i, tp1)
    | _ => none
def evI : SI → Env → Tape → Option (List Sl × Bool × Tape)
  | .rng1 a, env, tp => match evE a env tp with
    | some (.sh (.int j), tp1) => if okR j then some ((rngD 0 j.toNat).map .sh, true, tp1) else none
    | _ => none
  | .rng2 a b, env, tp => match evE a env tp with
    | some (.sh (.int i), tp1) => match evE b env tp1 with
      | some (.sh (.int j), tp2) => if okR i && okR j then some ((rngD i (j - i).toNat).map .sh, true, tp2) else none
      | _ => none
    | _ => none
  | .rng3 a b c, env, tp => match evE a env tp with
    | some (.sh (.int i), tp1) => match evE b env tp1 with
      | some (.sh (.int j), tp2) => match evE c env tp2 with
        | some (.sh (.int k), tp3) => if okR i && okR j && okR k && decide (k ≠ 0) && Builtin.Range.small i j k && decide (0 ≤ Builtin.Range.rangeSize i j k) then some ((rngC i k (Builtin.Range.rangeSize i j k).toNat).map .sh, true, tp3) else none
        | _ => none
      | _ => none
    | _ => none
  | .seq e, env, tp => match evE e env tp with
    | some (r, tp1) => r.items.map (·, stabE e r env, tp1)
    | none => none
  | .rev e, env, tp => match evE e env tp with
    | some (r, tp1) => r.items.map fun ss => (ss.reverse, stabE e r env, tp1)
    | none => none
  | .enum e, env, tp => match evE e env tp with
    | some (r, tp1) => match r.av with
      | some (.lst ds) => some ((enumD 0 ds).map .sh, stabE e r env, tp1)
      | some (.tup ds) => some ((enumD 0 ds).map .sh, stabE e r env, tp1)
      | _ => none
    | none => none
  | .zip a b, env, tp => match evE a env tp with
    | some (ra, tp1) => match evE b env tp1 with
      | some (rb, tp2) => match ra.av, rb.av with
        | some (.lst xs), some (.lst ys) => some ((xs.zip ys).map fun p => .sh (.tup [p.1, p.2]), stabE a ra env && stabE b rb env, tp2)
        | _, _ => none
      | none => none
    | none => none
end

/-! ### statements -/
def forGo (g : SG) (body : Env → Tape → Option Out) : List Sl → Env → Tape → Option Out
  | [], env, tp => some (.nx env tp)
  | s :: ss, env, tp => match g.bind s env with
    | none => none
    | some e1 => match body e1 tp with
      | some (.nx e2 t2) => forGo g body ss e2 t2
      | some (.ct e2 t2) => forGo g body ss e2 t2
      | some (.bk e2 t2) => some (.nx e2 t2)
      | some (.rt r e2 t2) => some (.rt r e2 t2)
      | none => none
def whlGo (c : Env → Tape → Option (Bool × Tape)) (body : Env → Tape → Option Out) : Nat → Env → Tape → Option Out
  | 0, _, _ => none
  | n + 1, env, tp => match c env tp with
    | some (false, t1) => some (.nx env t1)
    | some (true, t1) => match body env t1 with
      | some (.nx e2 t2) => whlGo c body n e2 t2
      | some (.ct e2 t2) => whlGo c body n e2 t2
      | some (.bk e2 t2) => some (.nx e2 t2)
      | some (.rt r e2 t2) => some (.rt r e2 t2)
      | none => none
    | none => none
/-- what a plain name may take -/
def Rv.sl : Rv → Option Sl
  | .sh d => some (.sh d)
  | .fr ds => some (.ow ds)
  | .nf ts => some (.nt ts)
  | _ => none
def Rv.slN : Rv → Option Sl
  | .fr ds => some (.nt (ds.map .lf))
  | .nf ts => some (.nt ts)
  | _ => none
def rdMv : Sl → Option Rv
  | .sh d => some (.sh d)
  | .ow ds => some (.fr ds)
  | .nt ts => some (.nf ts)
  | _ => none
def frzSl : Sl → Option Sl
  | .ow ds => some (.sh (.lst ds))
  | .nt ts => some (.sh (T.frz (.nd ts)))
  | .sh d => some (.sh d)
  | _ => none
mutual
def evS (n : Nat) : SS → Env → Tape → Option Out
  | .asg g e, env, tp => match evE e env tp with
    | some (r, tp1) => match g, r with
      | .nm i, r => match r.sl with
        | some s => if i < env.length then some (.nx (env.set i s) tp1) else none
        | none => none
      | g, .sh d => (g.bind (.sh d) env).map (.nx · tp1)
      | _, _ => none
    | none => none
  | .asgN i e, env, tp => match evE e env tp with
    | some (r, tp1) => match r.slN with
      | some s => if i < env.length then some (.nx (env.set i s) tp1) else none
      | none => none
    | none => none
  | .asgF i e, env, tp => match evE e env tp with
    | some (r, tp1) => match r.shd with
      | some d => if i < env.length then some (.nx (env.set i (.sh d)) tp1) else none
      | none => none
    | none => none
  | .aug i o e, env, tp => match env[i]? with
    | some (.sh (.int a)) => match evE e env tp with
      | some (.sh (.int b), tp1) => match o with
        | .add => some (.nx (env.set i (.sh (.int (a + b)))) tp1)
        | .sub => some (.nx (env.set i (.sh (.int (a - b)))) tp1)
        | _ => none
      | _ => none
    | _ => none
  | .set i ix e, env, tp => match evE e env tp with
    | some (r, tp1) => match r.shd with
      | some d => match evE ix env tp1 with
        | some (.sh (.int k), tp2) => match env[i]? with
          | some (.ow ds) => match ixN ds.length k with
            | some j => some (.nx (env.set i (.ow (ds.set j d))) tp2)
            | none => none
          | _ => none
        | _ => none
      | none => none
    | none => none
  | .swap i a b x y, env, tp => match evE x env tp with
    | some (.sh dx, t1) => match evE y env t1 with
      | some (.sh dy, t2) => match env[i]? with
        | some (.ow ds) => match evE a env t2 with
          | some (.sh (.int ka), t3) => match ixN ds.length ka with
            | some ja => match evE b (env.set i (.ow (ds.set ja dx))) t3 with
              | some (.sh (.int kb), t4) => match ixN ds.length kb with
                | some jb => some (.nx (env.set i (.ow ((ds.set ja dx).set jb dy))) t4)
                | none => none
              | _ => none
            | none => none
          | _ => none
        | _ => none
      | _ => none
    | _ => none
  | .app i e, env, tp => match evE e env tp with
    | some (r, tp1) => match env[i]? with
      | some (.ow ds) => match r.shd with
        | some d => if sizeOk (ds.length + 1) then some (.nx (env.set i (.ow (ds ++ [d]))) tp1) else none
        | none => none
      | some (.nt ts) => match r.tree with
        | some t => if sizeOk (ts.length + 1) then some (.nx (env.set i (.nt (ts ++ [t]))) tp1) else none
        | none => none
      | _ => none
    | none => none
  | .ext i e, env, tp => match evE e env tp with
    | some (r, tp1) => match env[i]? with
      | some (.ow ds) => match r with
        | .sh (.lst es) => if sizeOk (ds.length + es.length) then some (.nx (env.set i (.ow (ds ++ es))) tp1) else none
        | .fr es => if sizeOk (ds.length + es.length) then some (.nx (env.set i (.ow (ds ++ es))) tp1) else none
        | _ => none
      | _ => none
    | none => none
  | .ifS c a b, env, tp => match evT c env tp with
    | some (true, tp1) => evB n a env tp1
    | some (false, tp1) => evB n b env tp1
    | none => none
  | .for it g b, env, tp => match evI it env tp with
    | some (ss, true, tp1) => forGo g (fun e t => evB n b e t) ss env tp1
    | some (_, false, _) => none
    | none => none
  | .whl c b, env, tp => whlGo (fun e t => evT c e t) (fun e t => evB n b e t) n env tp
  | .ret (.var i), env, tp => match env[i]? with
    | some s => (rdMv s).map (.rt · (env.set i .un) tp)
    | none => none
  | .ret e, env, tp => match evE e env tp with
    | some (r, tp1) => if r.ok then some (.rt r env tp1) else none
    | none => none
  | .retF (.var i), env, tp => match env[i]? with
    | some s => match rdMv s with
      | some r => match r.shd with
        | some d => some (.rt (.sh d) (env.set i .un) tp)
        | none => none
      | none => none
    | none => none
  | .retF e, env, tp => match evE e env tp with
    | some (r, tp1) => match r.shd with
      | some d => some (.rt (.sh d) env tp1)
      | none => none
    | none => none
  | .brk, env, tp => some (.bk env tp)
  | .cnt, env, tp => some (.ct env tp)
  | .pass, env, tp => some (.nx env tp)
  | .exp e, env, tp => match evE e env tp with
    | some (_, tp1) => some (.nx env tp1)
    | none => none
  | .dead, env, tp => none
def evB (n : Nat) : SB → Env → Tape → Option Out
  | .nil, env, tp => some (.nx env tp)
  | .cons s r, env, tp => match evS n s env tp with
    | some (.nx e1 t1) => evB n r e1 t1
    | some o => some o
    | none => none
  | .frz i r, env, tp => match env[i]? with
    | some s => match frzSl s with
      | some s' => evB n r (env.set i s') tp
      | none => none
    | none => none
end
end Vs
/-! VsX: enumerate over tuples; operations of their own. -/
namespace Vs
open PySem PySem.Spec PyProof.Rows L2
/-! ### operations of their own -/
/-- .. what they ask is what they compute -/
def primP (N : NetI) (f : PF) : List V → Hp → VK → Prop := fun vs H Q => ∃ (to : Option Addr) (M B : AP) (ds : List D) (r : Rv), f.fn ds = some r ∧ Avs ⟨N, to⟩ M H ds vs ∧ (∀ b, M b → H b ≠ none) ∧ After ⟨N, to⟩ M B H r Q
def tPM (K : PySem.W.Frag) (N : NetI) (T : String) (f : PF) (ta : TE) (t : TA) : TE := fun σ H Q => ta σ H fun x H1 => tyV K T x H1 ∧ t σ H1 fun xs H2 => primP N f (x :: xs) H2 Q
/-- enumerate over a tuple -/
def IteT (K : PySem.W.Frag) (a : Addr) : It :=
  ⟨fun i H => ∃ (xs : List V) (x : V), SqT K H a xs ∧ xs[i]? = some x, fun i H v H' => ∃ T x, v = .ref T ∧ H T = none ∧ H' = upd H T (.tup [.int (i : Nat), x]) ∧ ∀ xs, SqT K H a xs → xs[i]? = some x, fun i H => ∃ xs : List V, SqT K H a xs ∧ xs.length = i⟩
def iEnumA (K : PySem.W.Frag) (ta : TA) : TI := fun σ H R => ta σ H fun vs H1 => ∃ a, vs = [.ref a] ∧ ((∃ xs, SqL K H1 a xs ∧ R (Ite K a) H1) ∨ (∃ xs, SqT K H1 a xs ∧ R (IteT K a) H1))
theorem meets_enumT (l : Addr) (items : Array Value) (n : Nat) (dct : Option Addr) (sl : Array (Option Value)) :
    Meets (Builtin.«enumerate.__new__» ⟨[.type "enumerate", .ref l], []⟩) (fun _ R s => s.heap.get? l = some { cls := .type "tuple", dict := dct, data := .seq items n, slots := sl } ∧
      R (.ok (.ret (.ref (s.heap.push { cls := .type "tuple_iterator", data := .fields #[.ref l, .int 0 0] }).objs.size)))
        { s with heap := (s.heap.push { cls := .type "tuple_iterator", data := .fields #[.ref l, .int 0 0] }).push { cls := .type "enumerate", data := .fields #[.none, .bool false, .ref s.heap.objs.size, rawInt 0, .none, .none] } }) :=
  .of_wp fun prog w A R s h => by
    obtain ⟨hp, g, d, tk, os⟩ := s; obtain ⟨hl, h⟩ := h
    have hsub := sub_enumerate
    have hL : Heap.IsTuple (Shared.heap ⟨hp, g, d, tk, os⟩) l items := ⟨_, hl, rfl, n, rfl⟩
    wp_walk using AutoSeq1.wpAny_loadPart' hl
    refine wpAny_stack_any fun st => wpAny_pure ?_
    split
    · rename_i c _ _ _ _ _
      cases (c == Value.type "enumerate")
      · wp_walk using AutoSeq1.wpAny_loadPart' hl, wpAny_pyIter_tuple hL
        exact ⟨_, rfl, h⟩
      · wp_walk using AutoSeq1.wpAny_loadPart' hl, wpAny_pyIter_tuple hL
        exact ⟨_, rfl, h⟩
    · wp_walk using AutoSeq1.wpAny_loadPart' hl, wpAny_pyIter_tuple hL
      exact ⟨_, rfl, h⟩
section
variable {prog : Program} {w : World} {A : Around} {E : Value → Shared → Prop} {s : Shared}
theorem call_enumT {l : Addr} {items : Array Value} {Q : Value → Shared → Prop} (hL : s.heap.IsTuple l items)
    (h : ∀ h', IsEnum h' (s.heap.objs.size + 1) s.heap.objs.size 0 .none → h'.IsTupleIter s.heap.objs.size l 0 → h'.objs.size = s.heap.objs.size + 2 →
      (∀ b o, s.heap.get? b = some o → h'.get? b = some o) → Q (.ref (s.heap.objs.size + 1)) { s with heap := h' }) :
    wpAny (model prog w) A (call (.type "enumerate") [.ref l]) Q E s := by
  obtain ⟨⟨c, dct, dt, sl⟩, hl, hc, n, hd⟩ := hL
  replace hc : c = .type "tuple" := hc
  replace hd : dt = .seq items n := hd
  subst hc hd
  refine callType_new F.called_enumerate (by decide) (F.typeCall_enumerate_1 _) (F.newCall_enumerate_1 _) (fun obj => F.args_object_init_2 obj _) F.entry_enumerate_new
    (meets_enumT l items n dct sl) ⟨hl, ?_⟩
  have hz : (s.heap.push { cls := .type "tuple_iterator", data := .fields #[.ref l, .int 0 0] }).objs.size = s.heap.objs.size + 1 := Heap.size_push ..
  show _ ∧ _
  rw [hz]
  have he : IsEnum ((s.heap.push { cls := .type "tuple_iterator", data := .fields #[.ref l, .int 0 0] }).push
      { cls := .type "enumerate", data := .fields #[.none, .bool false, .ref s.heap.objs.size, rawInt 0, .none, .none] }) (s.heap.objs.size + 1) s.heap.objs.size 0 .none := by
    have := Heap.get?_push_size (s.heap.push { cls := .type "tuple_iterator", data := .fields #[.ref l, .int 0 0] })
      (o := { cls := .type "enumerate", data := .fields #[.none, .bool false, .ref s.heap.objs.size, rawInt 0, .none, .none] }) rfl
    rw [hz] at this; exact this
  refine ⟨⟨_, he, rfl⟩, h _ he ⟨_, Heap.get?_push_of_some _ (Heap.get?_push_size _ rfl), rfl, rfl⟩ (by rw [Heap.size_push, hz]) fun b o x => Heap.get?_push_of_some _ (Heap.get?_push_of_some _ x)⟩
end
theorem turn_enumT {P : Program} {w : World} {K : PySem.W.Frag} {elts : List Expr} {kk : Nat} {tpos : Pos} (a e it : Addr) :
    Turn P w K (.Tuple elts kk tpos) (IteT K a) [e, it] e (fun i h => (∃ old, IsEnum h e it ((i : Nat) : Int) old) ∧ h.IsTupleIter it a i ∧ e ≠ it ∧ a ≠ it ∧ e ≠ a) where
  mem := by simp
  obj := fun i h st b hb => by
    obtain ⟨⟨old, he⟩, ⟨o, ho, hc, hd⟩, _⟩ := st
    have e' : b = e ∨ b = it := by simpa using hb
    rcases e' with z | z
    · rw [z]; exact ⟨_, he, fun v q => nomatch q⟩
    · rw [z]; exact ⟨o, ho, fun v q => by rw [hd] at q; cases q⟩
  keep := fun i h h' st k => let ⟨⟨old, he⟩, hi, hne⟩ := st; ⟨⟨old, k e (by simp) _ he⟩, hi.at fun o q => k it (by simp) o q, hne⟩
  item := by
    intro X hP hw hK hc i pins s σ H E I hf st hg
    subst hP hw hK
    obtain ⟨⟨old, he⟩, hit, hne, hai, hea⟩ := st
    obtain ⟨xs, x, hq, hx⟩ := hg
    obtain ⟨its, rv, p, hz⟩ := I.tuple hq
    obtain ⟨u, hu, ru⟩ := rv.get hx
    have hel : e < s.heap.objs.size := Heap.lt_size he
    have hil : it < s.heap.objs.size := by obtain ⟨_, q, _⟩ := hit; exact Heap.lt_size q
    have hlt : i < its.toArray.size := by
      rw [List.size_toArray]
      exact (List.getElem?_eq_some_iff.mp hu).1
    have D := Draws.tuple (prog := X.prog) (w := X.w) (A := X.A.in1) (I.ok.hd hc) it a hai its.toArray
    refine wpAny_pyNext_enum_itemC D he ⟨hit, p⟩ hlt hne (by simp [hne, hea]) fun x2 h' tk hP ho hs' hT hsz hk => ?_
    have ex : x2 = u := by
      have := hP.symm.trans (show its.toArray[i]? = some u by simpa using hu)
      exact Option.some.inj this
    subst ex
    refine ⟨_, rfl, wpAny_letOwnedTupleGo_enum (s := { s with heap := h', toks := tk + 1 }) ho fun h'' he' sb => ?_⟩
    have hT2 : h''.get? s.heap.objs.size = some { cls := .type "tuple", data := .seq #[.int i tk, x2] } := (sb.2 _ (Nat.ne_of_gt hel)).trans hT
    have new : ObjOk X.prog X.w (upd H s.heap.objs.size (.tup [.int (i : Nat), x])) h'' s.heap.objs.size (.tup [.int (i : Nat), x]) :=
      ⟨by show 2 ≤ sizeLine; decide, [.int i tk, x2], .cons ⟨_, rfl⟩ (.cons ru .nil), ⟨_, hT2, rfl, _, rfl⟩⟩
    have I1 : Inv X pins σ (upd H s.heap.objs.size (.tup [.int (i : Nat), x])) { s with heap := h'', toks := tk + 1 } :=
      I.turnedNew (ch := [e, it]) (fun b ob hb q => (sb.2 b (fun z => hb (by simp [z]))).trans (hk b ob (fun z => hb (by simp [z])) (fun z => hb (by simp [z])) q)) hf (Nat.le_refl _) new
    refine ⟨.ref s.heap.objs.size, _, I1, rfl, ⟨_, x, rfl, I.hok.fresh (Nat.le_refl _), rfl, fun ys hy => by rw [I.tuple_inj hy hq]; exact hx⟩, ⟨⟨x2, ?_⟩, hs'.1.at fun o q => (sb.2 it (Ne.symm hne)).trans q, hne, hai, hea⟩, fun b hb => ?_⟩
    · have e1 : ((i + 1 : Nat) : Int) = (i : Int) + 1 := by omega
      rw [e1]; exact he'
    · have hb' : b < s.heap.objs.size := by
        have e' : b = e ∨ b = it := by simpa using hb
        rcases e' with z | z
        · rw [z]; exact hel
        · rw [z]; exact hil
      rw [upd_ne (Nat.ne_of_lt hb')]
      exact (hf b hb).1
  done := by
    intro X hP hw hK hc i pins s σ H E I hf st hg
    subst hP hw hK
    obtain ⟨⟨old, he⟩, hit, hne, hai, hea⟩ := st
    obtain ⟨xs, hq, hx⟩ := hg
    obtain ⟨its, rv, p, hz⟩ := I.tuple hq
    obtain ⟨f0, f1, f2, f3, f4, f5⟩ := hf it (by simp)
    have hl := rv.length
    have D := Draws.tuple (prog := X.prog) (w := X.w) (A := X.A.in1) (I.ok.hd hc) it a hai its.toArray
    have hn : its.toArray.size = i := by rw [List.size_toArray, ← hl]; exact hx
    exact wpAny_pyNext_enum_endD D he ⟨by rw [hn]; exact hit, p⟩ fun h' eb => ⟨rfl, I.turned (t' := s.toks) (fun b o hb q => eb b o hb q) f0 f1 f3 f4 f5⟩
  self := fun A i s Q E st h => let ⟨⟨_, he⟩, _⟩ := st; wpAny_pyIter_enum he h
theorem pi_enumA {X : Cx} {e : Expr} {ta : TA} {p pos tpos : Pos} {elts : List Expr} {kk : Nat} (hg : Gl X "enumerate") (hm : X.mg "enumerate" = none) (ha : PA X [e] ta) (hs : starEach [e] X.env = [(false, eval e X.env)] := by rfl) :
    PI X (.Tuple elts kk tpos) (.Call (.Name "enumerate" p) [e] [] pos) (iEnumA X.K ta) := by
  refine ⟨fun pins s σ H R I h => ?_⟩
  refine Call_ (ld_blt I hg hm boot_enumerate (PyProof.Rows.callWith_type1 (thn (ha.run pos pins s σ H _ I h) fun us s1 ⟨vs, H1, I1, r1, q1⟩ => ?_) hs rfl))
  obtain ⟨a, ex, q1⟩ := q1
  subst ex
  cases r1 with
  | cons r rr =>
    cases rr
    cases r
    have fin : ∀ (b : Addr), b ∈ [s1.heap.objs.size + 1, s1.heap.objs.size] → FpOk X pins H1 b := fun b hb => by
      have e' : b = s1.heap.objs.size + 1 ∨ b = s1.heap.objs.size := by simpa using hb
      have hle : s1.heap.objs.size ≤ b := by
        rcases e' with z | z
        · rw [z]; exact Nat.le_add_right _ _
        · rw [z]; exact Nat.le_refl _
      exact I1.fpOk hle (I1.hok.fresh hle)
    rcases q1 with ⟨xs, hq, q⟩ | ⟨xs, hq, q⟩
    · obtain ⟨its, rv, p', hz⟩ := I1.list hq
      refine call_enumerate_list p'.isList fun h' he hit hsz hk => wpAny_pyIter_enum he ?_
      have I2 : Inv X pins σ H1 { s1 with heap := h' } := I1.kept (t' := s1.toks) hk
      exact ⟨s1.heap.objs.size + 1, [s1.heap.objs.size + 1, s1.heap.objs.size], _, _, H1, rfl, I2, turn_enum a (s1.heap.objs.size + 1) s1.heap.objs.size, ⟨⟨.none, he⟩, hit, Nat.succ_ne_self _⟩, fin, q⟩
    · obtain ⟨its, rv, p', hz⟩ := I1.tuple hq
      have hal : a < s1.heap.objs.size := by obtain ⟨_, q, _⟩ := p'; exact Heap.lt_size q
      refine call_enumT p' fun h' he hit hsz hk => wpAny_pyIter_enum he ?_
      have I2 : Inv X pins σ H1 { s1 with heap := h' } := I1.kept (t' := s1.toks) hk
      exact ⟨s1.heap.objs.size + 1, [s1.heap.objs.size + 1, s1.heap.objs.size], _, _, H1, rfl, I2, turn_enumT a (s1.heap.objs.size + 1) s1.heap.objs.size, ⟨⟨.none, he⟩, hit, Nat.succ_ne_self _, Nat.ne_of_lt hal, fun z => Nat.lt_irrefl _ (Nat.lt_of_lt_of_le hal (z ▸ Nat.le_succ _))⟩, fin, q⟩
end Vs
/-! Vs6: the forms as readings of the layer. -/
namespace Vs
open PySem L2

abbrev Tb (G : Rg) : AP := fun b => G.to = some b
abbrev Fr (G : Rg) (H H' : Hp) : Prop := ∀ b o, G.to ≠ some b → H b = some o → H' b = some o
abbrev Tp (G : Rg) (tp : Tape) (H : Hp) : Prop := ∀ a, G.to = some a → H a = some (.lst (tp.map V.int))

/-- how a heap bears what a slot holds -/
def SlRep (G : Rg) (M S : AP) (H : Hp) : Sl → Option V → List Addr → Prop
  | .un, _, f => f = []
  | .sh d, ov, f => f = [] ∧ ∃ v, ov = some v ∧ Vl G M H d v
  | .ow ds, ov, f => ∃ a vs, f = [a] ∧ ov = some (.ref a) ∧ H a = some (.lst vs) ∧ Vls G M H ds vs
  | .bw ds, ov, f => f = [] ∧ ∃ a vs, ov = some (.ref a) ∧ ¬ S a ∧ H a = some (.lst vs) ∧ Vls G M H ds vs
  | .tp, ov, f => f = [] ∧ ∃ a, G.to = some a ∧ ov = some (.ref a)
  | .nt ts, ov, f => ∃ v, ov = some v ∧ Tl G M H (.nd ts) v f
  | .nb ts, ov, f => f = [] ∧ ∃ v g', ov = some v ∧ (∀ a ∈ g', ¬ S a) ∧ Tl G M H (.nd ts) v g'

/-- the state of a body's run -/
structure SRep (G : Rg) (M S : AP) (env : Env) (tp : Tape) (σ : L2.St) (H : Hp) (fs : List (List Addr)) : Prop where
  len : env.length = σ.length
  len2 : fs.length = σ.length
  slot : ∀ (i : Nat) s ov f, env[i]? = some s → σ[i]? = some ov → fs[i]? = some f → SlRep G M S H s ov f
  nodup : fs.flatten.Nodup
  tpe : Tp G tp H
  hM : ∀ b ∈ fs.flatten, M b
  hT : ∀ a, G.to = some a → M a ∧ a ∉ fs.flatten
  hD : ∀ b, M b → H b ≠ none
  hS : ∀ a, G.to = some a → S a

/-- a def's promise, from what it does -/
def spOf (N : NetI) (f : FS) : Sp := fun vs H Q _ => ∃ (to : Option Addr) (args : List Sl) (tp : Tape) (r : Rv) (tp' : Tape) (M : AP), f.fn args tp = some (r, tp') ∧
  vs.length = args.length ∧ (∀ (i : Nat) s v, args[i]? = some s → vs[i]? = some v → SlRep ⟨N, to⟩ M (Tb ⟨N, to⟩) H s (some v) []) ∧ (∀ a, to = some a → M a) ∧ Tp ⟨N, to⟩ tp H ∧ (∀ b, M b → H b ≠ none) ∧
  ∀ v H' g, Fr ⟨N, to⟩ H H' → Tp ⟨N, to⟩ tp' H' → RvRep ⟨N, to⟩ (Mx M g) (Tb ⟨N, to⟩) H' r v g → g.Nodup → (∀ b ∈ g, H b = none) → Q v H'
/-- .. that hands on a new tuple whose object is known -/
def spOfN (N : NetI) (f : FS) : Sp := fun vs H Q _ => ∃ (to : Option Addr) (args : List Sl) (tp : Tape) (ds : List D) (tp' : Tape) (M : AP), f.fn args tp = some (.sh (.tup ds), tp') ∧
  vs.length = args.length ∧ (∀ (i : Nat) s v, args[i]? = some s → vs[i]? = some v → SlRep ⟨N, to⟩ M (Tb ⟨N, to⟩) H s (some v) []) ∧ (∀ a, to = some a → M a) ∧ Tp ⟨N, to⟩ tp H ∧ (∀ b, M b → H b ≠ none) ∧
  ∀ a H' vs' o, Fr ⟨N, to⟩ H H' → Tp ⟨N, to⟩ tp' H' → H a = none → H' a = some (.frz o (.tup vs')) → o.dict = none → Vls ⟨N, to⟩ (Mx M []) H' ds vs' → Q (.ref a) H'
def idxP (i : Int) (y : V) (H : Hp) (Q : VK) : Prop := ∃ t o, ∃ ns : List Int, y = .ref t ∧ H t = some (.frz o (.tup (ns.map .int))) ∧ o.dict = none ∧ i ∈ ns ∧ Q (.int (ns.idxOf i : Nat)) H
/-- Network(..): its __init__ at the new instance -/
def spMk (N : NetI) (f : FS) : Sp := fun vs H Q _ => ∃ (p dx : Addr) (ws : List V), vs = .ref p :: ws ∧ H p = some (.ins N.C dx []) ∧ H dx = some (.own p) ∧ p ≠ dx ∧
  ∃ (to : Option Addr) (args : List Sl) (tp : Tape) (w : Int) (cs : D) (tp' : Tape) (M : AP), f.fn args tp = some (.sh (.net w cs), tp') ∧
  ws.length = args.length ∧ (∀ (i : Nat) s v, args[i]? = some s → ws[i]? = some v → SlRep ⟨N, to⟩ (Mx M [p, dx]) (Mx (Tb ⟨N, to⟩) [p, dx]) H s (some v) []) ∧ (∀ a, to = some a → M a) ∧ Tp ⟨N, to⟩ tp H ∧ (∀ b, M b → H b ≠ none) ∧ ¬ M p ∧ ¬ M dx ∧
  ∀ H', (∀ b o, to ≠ some b → b ≠ p → H b = some o → H' b = some o) → Tp ⟨N, to⟩ tp' H' → Vl ⟨N, to⟩ M H' (.net w cs) (.ref p) → Q .non H'

def iSeq (K : PySem.W.Frag) (tl : TE) : TI := fun σ H R => tl σ H fun x H1 => ∃ a, x = .ref a ∧ (((∃ xs, SqL K H1 a xs) ∧ R (Itl K a) H1) ∨ ((∃ xs, SqT K H1 a xs) ∧ R (Itt K a) H1))
theorem pi_seq {X : Cx} {tg : Expr} {l : Expr} {tl : TE} (hl : PE X l tl) : PI X tg l (iSeq X.K tl) := by
  refine ⟨fun pins s σ H R I h => ?_⟩
  refine thn (hl.run pins s σ H _ I h) fun v s1 ⟨x, H1, I1, r1, q1⟩ => ?_
  obtain ⟨a, e, q⟩ := q1
  subst e
  cases r1
  have new : ∀ b ∈ [s1.heap.objs.size], FpOk X pins H1 b := fun b hb => by
    have e : b = s1.heap.objs.size := by simpa using hb
    subst e
    exact I1.fpOk (Nat.le_refl _) (I1.hok.fresh (Nat.le_refl _))
  rcases q with ⟨⟨xs, hq⟩, q⟩ | ⟨⟨xs, hq⟩, q⟩
  · obtain ⟨its, rv, p, hz⟩ := I1.list hq
    refine wpAny_pyIter_list p.isList ?_
    exact ⟨s1.heap.objs.size, [s1.heap.objs.size], _, _, H1, rfl, I1.kept (t' := s1.toks) fun b o e => Heap.get?_push_of_some _ e, turn_list a _, ⟨_, Heap.get?_push_size _ rfl, rfl, rfl⟩, new, q⟩
  · obtain ⟨its, rv, p, hz⟩ := I1.tuple hq
    refine wpAny_pyIter_tuple (show s1.heap.IsTuple a its.toArray from p) ?_
    exact ⟨s1.heap.objs.size, [s1.heap.objs.size], _, _, H1, rfl, I1.kept (t' := s1.toks) fun b o e => Heap.get?_push_of_some _ e, turn_tuple a _, ⟨_, Heap.get?_push_size _ rfl, rfl, rfl⟩, new, q⟩

def tChain3 (r r' r'' : R2) (ta tb tc td : TE) : TE := fun σ H Q => ta σ H fun x H1 => tb σ H1 fun y H2 => r x y H2 fun z H3 => ∃ k, z = .bl k ∧
  (if k = true then tc σ H3 fun w H4 => r' y w H4 fun z2 H5 => ∃ k2, z2 = .bl k2 ∧ (if k2 = true then td σ H5 fun u H6 => r'' w u H6 Q else Q (.bl false) H5) else Q (.bl false) H3)
def rSlAny (K : PySem.W.Frag) : V → Option Int → Option Int → Hp → VK → Prop := fun x lo hi H Q => rSlL K x lo hi H Q ∨ rSlA K x lo hi H Q
section
variable (K : PySem.W.Frag) (N : NetI)
def semG : SG → TG
  | .nm i => gName i
  | .tp2 a b => gTup K 2 (gCons (semG a) (gCons (semG b) gNil))
  | .tp3 a b c => gTup K 3 (gCons (semG a) (gCons (semG b) (gCons (semG c) gNil)))
mutual
def semE : SE → TE
  | .var i => tVar i
  | .cst d => tC (scalV d)
  | .op o as => tCB (semOp K o) (semA as)
  | .ix a i => tOp (rIx K) (semE a) (semE i)
  | .chain o1 o2 a b c => tChain (r2 K o1) (r2 K o2) (semE a) (semE b) (semE c)
  | .chain3 o1 o2 o3 a b c d => tChain3 (r2 K o1) (r2 K o2) (r2 K o3) (semE a) (semE b) (semE c) (semE d)
  | .andV a b => tAndV (semE a) (semE b)
  | .orV a b => tOrV (semE a) (semE b)
  | .notV a => tNotV (semE a)
  | .ifE c a b => tIf (semT c) (semE a) (semE b)
  | .tup as => tTup (semA as)
  | .lst _ as => tLst (semA as)
  | .sl a lo hi => tSl (rSlAny K) (semE a) (semO lo) (semO hi)
  | .lc _ it g c el vs => tLc (semI it) (semG K g) (semT c) (semE el) vs
  | .lc2 _ it g c it1 g1 c1 el vs vs1 => tLc2 (semI it) (semG K g) (semT c) (semI it1) (semG K g1) (semT c1) (semE el) vs vs1
  | .call f as => tCall (spOf N f) [] E0 (semA as)
  | .meth m f a as => tMeth N.C m (spOf N f) [] E0 (semE a) (semA as)
  | .mk f as => tMake N.C (spMk N f) [] E0 (semA as)
  | .fldW a => tFld K (semE a) sWires
  | .fldC a => tFld K (semE a) sComps
  | .prim f as => tCB (primP N f) (semA as)
  | .pm T f a as => tPM K N T f (semE a) (semA as)
  | .mIdx f a as i => fun σ H Q => tMeth N.C "run" (spOfN N f) [] E0 (semE a) (semA as) σ H fun y H1 => idxP i y H1 Q
def semA : SA → TA
  | .nil => tNil
  | .cons e r => tCons (semE e) (semA r)
def semT : ST → TT
  | .yes => tYes
  | .val e => tB (semE e)
  | .and a b => tAnd (semT a) (semT b)
  | .or a b => tOr (semT a) (semT b)
  | .not a => tNot (semT a)
def semO : SO → TO
  | .none => tNoPart
  | .some e => tPart (semE e)
def semI : SI → TI
  | .rng1 a => iRng1 (tCons (semE a) tNil)
  | .rng2 a b => iRng2 (tCons (semE a) (tCons (semE b) tNil))
  | .rng3 a b c => iRng3 (tCons (semE a) (tCons (semE b) (tCons (semE c) tNil)))
  | .seq e => iSeq K (semE e)
  | .rev e => RT.iRevA K (semE e)
  | .enum e => iEnumA K (tCons (semE e) tNil)
  | .zip a b => iZip K (tCons (semE a) (tCons (semE b) tNil))
end
def augF : Op → Int → Int → Int
  | .sub => fun i j => i - j
  | _ => fun i j => i + j
mutual
def semS : SS → TS
  | .asg g e => tAsg (semE K N e) (semG K g)
  | .asgN i e => tAsg (semE K N e) (gName i)
  | .asgF i e => tAsg (semE K N e) (gName i)
  | .aug i o e => tAug i (semE K N e) (ipI (augF o))
  | .set i ix e => tAsg (semE K N e) (gSub (tVar i) (semE K N ix) rSetL)
  | .swap i a b x y => tAsg (tTup (tCons (semE K N x) (tCons (semE K N y) tNil))) (gTup K 2 (gCons (gSub (tVar i) (semE K N a) rSetL) (gCons (gSub (tVar i) (semE K N b) rSetL) gNil)))
  | .app i e => tDrop (tBM K "list" rAppend (tVar i) (tCons (semE K N e) tNil))
  | .ext i e => tDrop (tBM K "list" rExtend (tVar i) (tCons (semE K N e) tNil))
  | .ifS c a b => tIfS (semT K N c) (semB a) (semB b)
  | .for it g b => tFor (semI K N it) (semG K g) (semB b)
  | .whl c b => tWhile (semT K N c) (semB b)
  | .ret e => tRet (semE K N e)
  | .retF e => tRet (semE K N e)
  | .brk => tBreak
  | .cnt => tCont
  | .pass => tNext
  | .exp e => tDrop (semE K N e)
  | .dead => fun _ _ _ => False
def semB : SB → TS
  | .nil => tNext
  | .cons s r => tSeq (semS s) (semB r)
  | .frz _ r => semB r
end
end
end Vs
/-! Vs7: states and results along a run. -/
namespace Vs
open PySem L2
section
variable {G : Rg} {M M' S S' B B' : AP} {H H' H1 : Hp} {K : PySem.W.Frag} {tp tp1 tp' : Tape} {env : Env} {σ : L2.St} {fs : List (List Addr)} {g g1 g2 : List Addr}

theorem Fr.refl : Fr G H H := fun _ _ _ h => h
theorem Fr.trans (a : Fr G H H1) (b : Fr G H1 H') : Fr G H H' := fun x o h e => b x o h (a x o h e)
theorem Fr.ofExt (a : Ext H H') : Fr G H H' := fun x o _ e => a x o e
theorem fr_back (a : Fr G H H') (t : Tp G tp H') {b : Addr} (h : H' b = none) : H b = none := by
  cases e : H b with
  | none => rfl
  | some o =>
    by_cases q : G.to = some b
    · rw [t b q] at h; cases h
    · rw [a b o q e] at h; cases h
theorem fr_def (a : Fr G H H') (t : Tp G tp H') {b : Addr} (h : H b ≠ none) : H' b ≠ none := fun e => h (fr_back a t e)
theorem tr_fr (hT : ∀ a, G.to = some a → M a) (a : Fr G H H') (hg : ∀ b ∈ g, H b = none) : ∀ b o, H b = some o → ¬ M b → ¬ Mx M g b ∧ H' b = some o := fun b o e m =>
  ⟨fun z => z.elim m fun z => absurd (e.symm.trans (hg b z)) (by simp), a b o (fun q => m (hT b q)) e⟩
theorem mono_h (h : ∀ b, M' b → M b) : ∀ b o, H b = some o → ¬ M b → ¬ M' b ∧ H b = some o := fun b o e m => ⟨fun z => m (h b z), e⟩

theorem rv_mono {r : Rv} {v : V} (h : RvRep G M B H r v g) (hM : ∀ b, M' b → M b) : RvRep G M' B H r v g := by
  cases r with
  | sh d => exact ⟨h.1, vl_tr (mono_h hM) d v h.2⟩
  | fr ds => obtain ⟨a, vs, e, ev, ha, hs⟩ := h; exact ⟨a, vs, e, ev, ha, vls_tr (mono_h hM) _ _ hs⟩
  | bw ds => obtain ⟨e, a, vs, ev, hn, ha, hs⟩ := h; exact ⟨e, a, vs, ev, hn, ha, vls_tr (mono_h hM) _ _ hs⟩
  | tp => exact h
  | nf ts => exact tl_tr (mono_h hM) _ _ _ h (fun _ _ _ e => e)
  | nb ts => obtain ⟨e, g', hg', ht⟩ := h; exact ⟨e, g', hg', tl_tr (mono_h hM) _ _ _ ht (fun _ _ _ e => e)⟩
theorem rv_next {r : Rv} {v : V} (h : RvRep G M B H r v g) (hT : ∀ a, G.to = some a → M a) (hB : ∀ a, G.to = some a → B a) (hn : ∀ b ∈ g, G.to ≠ some b) (a : Fr G H H') (hg : ∀ b ∈ g2, H b = none) : RvRep G (Mx M g2) B H' r v g := by
  cases r with
  | sh d => exact ⟨h.1, vl_tr (tr_fr hT a hg) d v h.2⟩
  | fr ds =>
    obtain ⟨x, vs, e, ev, ha, hs⟩ := h
    exact ⟨x, vs, e, ev, a x _ (hn x (by rw [e]; simp)) ha, vls_tr (tr_fr hT a hg) _ _ hs⟩
  | bw ds => obtain ⟨e, x, vs, ev, hx, ha, hs⟩ := h; exact ⟨e, x, vs, ev, hx, a x _ (fun q => hx (hB x q)) ha, vls_tr (tr_fr hT a hg) _ _ hs⟩
  | tp => exact h
  | nf ts => exact tl_tr (tr_fr hT a hg) _ _ _ h (fun b hb o e => a b o (hn b hb) e)
  | nb ts => obtain ⟨e, g', hg', ht⟩ := h; exact ⟨e, g', hg', tl_tr (tr_fr hT a hg) _ _ _ ht (fun b hb o e => a b o (fun q => hg' b hb (hB b q)) e)⟩
theorem rv_own {r : Rv} {v : V} (h : RvRep G M B H r v g) : ∀ b ∈ g, ∃ xs, H b = some (.lst xs) := by
  cases r with
  | sh d => rw [h.1]; simp
  | fr ds => obtain ⟨x, vs, e, ev, ha, hs⟩ := h; rw [e]; intro b hb; rw [List.mem_singleton.mp hb]; exact ⟨vs, ha⟩
  | bw ds => rw [h.1]; simp
  | tp => rw [h.1]; simp
  | nf ts => exact tl_own _ _ _ h
  | nb ts => rw [h.1]; simp
theorem own_def (h : ∀ b ∈ g, ∃ xs, H b = some (.lst xs)) : ∀ b ∈ g, H b ≠ none := fun b hb e => by
  obtain ⟨xs, q⟩ := h b hb
  rw [q] at e; cases e
/-- frozen, as shared data -/
theorem rv_shd {r : Rv} {v : V} {d : D} (h : RvRep G M B H r v g) (e : r.shd = some d) (hM : ∀ b, M' b → M b) (hg : ∀ b ∈ g, ¬ M' b) : Vl G M' H d v := by
  cases r with
  | sh d' => simp only [Rv.shd, Option.some.injEq] at e; subst e; exact vl_tr (mono_h hM) _ _ h.2
  | fr ds =>
    simp only [Rv.shd, Option.some.injEq] at e; subst e
    obtain ⟨x, vs, e, ev, ha, hs⟩ := h
    simp only [Vl]
    exact ⟨x, vs, ev, hg x (by rw [e]; simp), ha, vls_tr (mono_h hM) _ _ hs⟩
  | bw ds => simp [Rv.shd] at e
  | tp => simp [Rv.shd] at e
  | nf ts => simp only [Rv.shd, Option.some.injEq] at e; subst e; exact tl_frz hM _ _ _ h hg
  | nb ts => simp [Rv.shd] at e
theorem rv_tree {r : Rv} {v : V} {t : T} (h : RvRep G M B H r v g) (e : r.tree = some t) : Tl G M H t v g := by
  cases r with
  | sh d' => simp only [Rv.tree, Option.some.injEq] at e; subst e; simp only [Tl]; exact h
  | fr ds =>
    simp only [Rv.tree, Option.some.injEq] at e; subst e
    obtain ⟨x, vs, e, ev, ha, hs⟩ := h
    simp only [Tl]
    exact ⟨x, vs, [], e, ev, ha, tls_leaf hs⟩
  | bw ds => simp [Rv.tree] at e
  | tp => simp [Rv.tree] at e
  | nf ts => simp only [Rv.tree, Option.some.injEq] at e; subst e; exact h
  | nb ts => simp [Rv.tree] at e

/-- several results -/
def Rvs (G : Rg) (M B : AP) (H : Hp) : List Rv → List V → List Addr → Prop
  | [], vs, g => vs = [] ∧ g = []
  | r :: rs, vs, g => ∃ v vs' g1 g2, vs = v :: vs' ∧ g = g1 ++ g2 ∧ RvRep G M B H r v g1 ∧ Rvs G M B H rs vs' g2
theorem rvs_mono (hM : ∀ b, M' b → M b) : ∀ {rs : List Rv} {vs : List V} {g : List Addr}, Rvs G M B H rs vs g → Rvs G M' B H rs vs g
  | [], vs, g, h => h
  | r :: rs, vs, g, ⟨v, vs', g1, g2, e1, e2, h1, h2⟩ => ⟨v, vs', g1, g2, e1, e2, rv_mono h1 hM, rvs_mono hM h2⟩
theorem rvs_next (hT : ∀ a, G.to = some a → M a) (hB : ∀ a, G.to = some a → B a) (a : Fr G H H') {g2 : List Addr} (hg : ∀ b ∈ g2, H b = none) : ∀ {rs : List Rv} {vs : List V} {g : List Addr}, Rvs G M B H rs vs g → (∀ b ∈ g, G.to ≠ some b) → Rvs G (Mx M g2) B H' rs vs g
  | [], vs, g, h, hn => h
  | r :: rs, vs, g, ⟨v, vs', ga, gb, e1, e2, h1, h2⟩, hn => ⟨v, vs', ga, gb, e1, e2, rv_next h1 hT hB (fun b hb => hn b (by rw [e2]; simp [hb])) a hg, rvs_next hT hB a hg h2 (fun b hb => hn b (by rw [e2]; simp [hb]))⟩
theorem rvs_own : ∀ {rs : List Rv} {vs : List V} {g : List Addr}, Rvs G M B H rs vs g → ∀ b ∈ g, ∃ xs, H b = some (.lst xs)
  | [], vs, g, h => by rw [h.2]; simp
  | r :: rs, vs, g, ⟨v, vs', ga, gb, e1, e2, h1, h2⟩ => by
    intro b hb
    rw [e2] at hb
    rcases List.mem_append.mp hb with hb | hb
    · exact rv_own h1 b hb
    · exact rvs_own h2 b hb
theorem rvs_len : ∀ {rs : List Rv} {vs : List V} {g : List Addr}, Rvs G M B H rs vs g → vs.length = rs.length
  | [], vs, g, h => by rw [h.1]; rfl
  | r :: rs, vs, g, ⟨v, vs', ga, gb, e1, e2, h1, h2⟩ => by rw [e1]; simp [rvs_len h2]
theorem rvs_avs : ∀ {rs : List Rv} {vs : List V} {g : List Addr} {ds : List D}, Rvs G M B H rs vs g → Rv.avs rs = some ds → Avs G M H ds vs
  | [], vs, g, ds, h, e => by simp only [Rv.avs, Option.some.injEq] at e; subst e; exact h.1
  | r :: rs, vs, g, ds, ⟨v, vs', ga, gb, e1, e2, h1, h2⟩, e => by
    unfold Rv.avs at e
    split at e
    · rename_i d ds' q1 q2
      cases e
      exact ⟨v, vs', e1, rv_av h1 q1, rvs_avs h2 q2⟩
    · cases e
theorem rvs_shds (hM : ∀ b, M' b → M b) : ∀ {rs : List Rv} {vs : List V} {g : List Addr} {ds : List D}, Rvs G M B H rs vs g → shds rs = some ds → (∀ b ∈ g, ¬ M' b) → Vls G M' H ds vs
  | [], vs, g, ds, h, e, hg => by simp only [shds, Option.some.injEq] at e; subst e; simp only [Vls]; exact h.1
  | r :: rs, vs, g, ds, ⟨v, vs', ga, gb, e1, e2, h1, h2⟩, e, hg => by
    unfold shds at e
    split at e
    · rename_i d ds' q1 q2
      cases e
      simp only [Vls]
      exact ⟨v, vs', e1, rv_shd h1 q1 hM (fun b hb => hg b (by rw [e2]; simp [hb])), rvs_shds hM h2 q2 (fun b hb => hg b (by rw [e2]; simp [hb]))⟩
    · cases e
theorem rvs_trees : ∀ {rs : List Rv} {vs : List V} {g : List Addr} {ts : List T}, Rvs G M B H rs vs g → trees rs = some ts → Tls G M H ts vs g
  | [], vs, g, ts, h, e => by simp only [trees, Option.some.injEq] at e; subst e; simp only [Tls]; exact h
  | r :: rs, vs, g, ts, ⟨v, vs', ga, gb, e1, e2, h1, h2⟩, e => by
    unfold trees at e
    split at e
    · rename_i d ds' q1 q2
      cases e
      simp only [Tls]
      exact ⟨v, vs', ga, gb, e1, e2, rv_tree h1 q1, rvs_trees h2 q2⟩
    · cases e
theorem rvs_append : ∀ {rs rs' : List Rv} {vs vs' : List V} {g g' : List Addr}, Rvs G M B H rs vs g → Rvs G M B H rs' vs' g' → Rvs G M B H (rs ++ rs') (vs ++ vs') (g ++ g')
  | [], rs', vs, vs', g, g', h, h' => by rw [h.1, h.2]; exact h'
  | r :: rs, rs', vs, vs', g, g', ⟨v, vs1, ga, gb, e1, e2, h1, h2⟩, h' => by
    refine ⟨v, vs1 ++ vs', ga, gb ++ g', ?_, ?_, h1, rvs_append h2 h'⟩
    · rw [e1]; rfl
    · rw [e2, List.append_assoc]

/-! ### slots -/
theorem sl_tr {s : Sl} {ov : Option V} {f : List Addr} (hM : ∀ a o, H a = some o → ¬ M a → ¬ M' a ∧ H' a = some o) (hS : ∀ a o, H a = some o → ¬ S a → ¬ S' a ∧ H' a = some o) (hf : ∀ a ∈ f, ∀ o, H a = some o → H' a = some o)
    (h : SlRep G M S H s ov f) : SlRep G M' S' H' s ov f := by
  cases s with
  | un => exact h
  | sh d => obtain ⟨e, v, ev, hv⟩ := h; exact ⟨e, v, ev, vl_tr hM d v hv⟩
  | ow ds => obtain ⟨a, vs, e, ev, ha, hs⟩ := h; exact ⟨a, vs, e, ev, hf a (by rw [e]; simp) _ ha, vls_tr hM _ _ hs⟩
  | bw ds => obtain ⟨e, a, vs, ev, hn, ha, hs⟩ := h; exact ⟨e, a, vs, ev, (hS a _ ha hn).1, (hS a _ ha hn).2, vls_tr hM _ _ hs⟩
  | tp => exact h
  | nt ts => obtain ⟨v, ev, ht⟩ := h; exact ⟨v, ev, tl_tr hM _ _ _ ht hf⟩
  | nb ts =>
    obtain ⟨e, v, g', ev, hn, ht⟩ := h
    refine ⟨e, v, g', ev, fun a ha => ?_, tl_tr hM _ _ _ ht fun a ha o q => (hS a o q (hn a ha)).2⟩
    obtain ⟨xs, q⟩ := tl_own _ _ _ ht a ha
    exact (hS a _ q (hn a ha)).1
theorem SRep.hT' (R : SRep G M S env tp σ H fs) : ∀ a, G.to = some a → M a := fun a h => (R.hT a h).1
/-- further on, with new addresses of one's own -/
theorem srep_next (R : SRep G M S env tp σ H fs) (a : Fr G H H') (t : Tp G tp' H') (hg : ∀ b ∈ g, H b = none) (hg' : ∀ b ∈ g, H' b ≠ none) : SRep G (Mx M g) S env tp' σ H' fs where
  len := R.len
  len2 := R.len2
  slot := fun i s ov f h1 h2 h3 => sl_tr (tr_fr R.hT' a hg) (fun b o e hs => ⟨hs, a b o (fun q => hs (R.hS b q)) e⟩)
    (fun b hb o e => a b o (fun q => (R.hT b q).2 (List.mem_flatten.mpr ⟨f, List.mem_of_getElem? h3, hb⟩)) e) (R.slot i s ov f h1 h2 h3)
  nodup := R.nodup
  tpe := t
  hM := fun b hb => .inl (R.hM b hb)
  hT := fun b hb => ⟨.inl (R.hT b hb).1, (R.hT b hb).2⟩
  hD := fun b hb => hb.elim (fun hb => fr_def a t (R.hD b hb)) (hg' b)
  hS := R.hS
theorem srep_mono (R : SRep G M S env tp σ H fs) (hM : ∀ b, M' b → M b) (hF : ∀ b ∈ fs.flatten, M' b) (hT : ∀ a, G.to = some a → M' a) : SRep G M' S env tp σ H fs where
  len := R.len
  len2 := R.len2
  slot := fun i s ov f h1 h2 h3 => sl_tr (mono_h hM) (fun b o e hs => ⟨hs, e⟩) (fun b hb o e => e) (R.slot i s ov f h1 h2 h3)
  nodup := R.nodup
  tpe := R.tpe
  hM := hF
  hT := fun b hb => ⟨hT b hb, (R.hT b hb).2⟩
  hD := fun b hb => R.hD b (hM b hb)
  hS := R.hS
theorem srep_S (R : SRep G M S env tp σ H fs) (hS : ∀ b, S' b → S b) (hT : ∀ a, G.to = some a → S' a) : SRep G M S' env tp σ H fs where
  len := R.len
  len2 := R.len2
  slot := fun i s ov f h1 h2 h3 => sl_tr (fun b o e hs => ⟨hs, e⟩) (mono_h hS) (fun b hb o e => e) (R.slot i s ov f h1 h2 h3)
  nodup := R.nodup
  tpe := R.tpe
  hM := R.hM
  hT := R.hT
  hD := R.hD
  hS := hT
theorem srep_T (R : SRep G M S env tp σ H fs) : SRep G M (Tb G) env tp σ H fs := srep_S R (fun b h => R.hS b h) (fun _ h => h)
theorem flat_set {α : Type} : ∀ (l : List (List α)) (i : Nat) (f : List α), i < l.length → ∃ a b x, l[i]? = some x ∧ l.flatten = a ++ (x ++ b) ∧ (l.set i f).flatten = a ++ (f ++ b)
  | [], i, f, h => by simp at h
  | x :: l, 0, f, h => ⟨[], l.flatten, x, rfl, rfl, rfl⟩
  | x :: l, i + 1, f, h => by
    obtain ⟨a, b, y, e, e1, e2⟩ := flat_set l i f (by simpa using h)
    refine ⟨x ++ a, b, y, by simpa using e, ?_, ?_⟩
    · simp [e1, List.append_assoc]
    · simp [e2, List.append_assoc]
/-- a slot takes something else -/
theorem srep_set (R : SRep G M S env tp σ H fs) {i : Nat} {s : Sl} {ov : Option V} {f : List Addr} (hi : i < env.length) (h : SlRep G M S H s ov f) (nd : f.Nodup) (dis : ∀ b ∈ f, b ∉ fs.flatten) (hM : ∀ b ∈ f, M b) (hT : ∀ b ∈ f, G.to ≠ some b) :
    SRep G M S (env.set i s) tp (σ.set i ov) H (fs.set i f) ∧ ∀ b ∈ (fs.set i f).flatten, b ∈ fs.flatten ∨ b ∈ f := by
  have hi2 : i < fs.length := by rw [R.len2, ← R.len]; exact hi
  obtain ⟨a, c, x, ex, e1, e2⟩ := flat_set fs i f hi2
  have hsub : ∀ b ∈ (fs.set i f).flatten, b ∈ fs.flatten ∨ b ∈ f := fun b hb => by
    rw [e2] at hb
    rw [e1]
    simp only [List.mem_append] at hb ⊢
    rcases hb with hb | hb | hb
    · exact .inl (.inl hb)
    · exact .inr hb
    · exact .inl (.inr (.inr hb))
  refine ⟨?_, hsub⟩
  constructor
  · simp [R.len]
  · simp [R.len2]
  · intro j s' ov' f' h1 h2 h3
    by_cases e : i = j
    · subst e
      rw [List.getElem?_set_self hi] at h1
      rw [List.getElem?_set_self (by rw [← R.len]; exact hi)] at h2
      rw [List.getElem?_set_self hi2] at h3
      cases h1; cases h2; cases h3
      exact h
    · rw [List.getElem?_set_ne e] at h1 h2 h3
      exact R.slot j s' ov' f' h1 h2 h3
  · have nd0 := R.nodup
    rw [e1] at nd0
    rw [e2]
    have d2 : ∀ b ∈ f, b ∉ a ∧ b ∉ c := fun b hb => by
      have := dis b hb
      rw [e1] at this
      simp only [List.mem_append, not_or] at this
      exact ⟨this.1, this.2.2⟩
    rw [List.nodup_append] at nd0 ⊢
    obtain ⟨na, nxc, dxc⟩ := nd0
    rw [List.nodup_append] at nxc
    refine ⟨na, ?_, ?_⟩
    · rw [List.nodup_append]
      exact ⟨nd, nxc.2.1, fun p hp q hq z => (d2 p hp).2 (z ▸ hq)⟩
    · intro p hp q hq z
      rcases List.mem_append.mp hq with hq | hq
      · exact (d2 q hq).1 (z ▸ hp)
      · exact dxc p hp q (List.mem_append_right _ hq) z
  · exact R.tpe
  · intro b hb
    rcases hsub b hb with hb | hb
    · exact R.hM b hb
    · exact hM b hb
  · intro b hb
    refine ⟨(R.hT b hb).1, fun z => ?_⟩
    rcases hsub b z with z | z
    · exact (R.hT b hb).2 z
    · exact hT b z hb
  · exact R.hD
  · exact R.hS
theorem srep_set0 (R : SRep G M S env tp σ H fs) {i : Nat} {s : Sl} {ov : Option V} (hi : i < env.length) (h : SlRep G M S H s ov []) :
    SRep G M S (env.set i s) tp (σ.set i ov) H (fs.set i []) ∧ ∀ b ∈ (fs.set i []).flatten, b ∈ fs.flatten := by
  obtain ⟨r, q⟩ := srep_set R hi h .nil (by simp) (by simp) (by simp)
  exact ⟨r, fun b hb => (q b hb).elim id (by simp)⟩
def fsWipe (fs : List (List Addr)) : List Nat → List (List Addr)
  | [] => fs
  | v :: vs => (fsWipe fs vs).set v []
theorem envWipe_len (e : Env) : ∀ vs, (envWipe e vs).length = e.length
  | [] => rfl
  | v :: vs => by simp [envWipe, envWipe_len e vs]
theorem srep_wipe (R : SRep G M S env tp σ H fs) : ∀ vs : List Nat, SRep G M S (envWipe env vs) tp (wipe σ vs) H (fsWipe fs vs) ∧ ∀ b ∈ (fsWipe fs vs).flatten, b ∈ fs.flatten
  | [] => ⟨R, fun b h => h⟩
  | v :: vs => by
    obtain ⟨R1, q1⟩ := srep_wipe R vs
    by_cases hv : v < env.length
    · obtain ⟨R2, q2⟩ := srep_set0 R1 (i := v) (s := .un) (ov := none) (by rw [envWipe_len]; exact hv) rfl
      exact ⟨R2, fun b hb => q1 b (q2 b hb)⟩
    · have l1 : (envWipe env vs).set v .un = envWipe env vs := List.set_eq_of_length_le (by rw [envWipe_len]; omega)
      have l2 : (wipe σ vs).set v none = wipe σ vs := List.set_eq_of_length_le (by rw [wipe_length, ← R.len]; omega)
      have l3 : (fsWipe fs vs).set v [] = fsWipe fs vs := List.set_eq_of_length_le (by rw [R1.len2, wipe_length, ← R.len]; omega)
      unfold envWipe wipe fsWipe
      rw [l1, l2, l3]
      exact ⟨R1, q1⟩
theorem wipe_set {x : Option V} {i : Nat} : ∀ {vs : List Nat} {σ : L2.St}, i ∈ vs → wipe (σ.set i x) vs = wipe σ vs
  | [], σ, h => by simp at h
  | v :: vs, σ, h => by
    unfold wipe
    by_cases e : i ∈ vs
    · rw [wipe_set e]
    · have : i = v := by simpa [e] using h
      subst this
      have : ∀ (ws : List Nat), i ∉ ws → wipe (σ.set i x) ws = (wipe σ ws).set i x := by
        intro ws
        induction ws with
        | nil => intro _; rfl
        | cons w ws ih =>
          intro hw
          simp only [List.mem_cons, not_or] at hw
          unfold wipe
          rw [ih hw.2, List.set_comm _ _ hw.1]
      rw [this vs e, List.set_set]
theorem wipe_wipe {vs : List Nat} {σ : L2.St} : ∀ ws : List Nat, (∀ i ∈ ws, i ∈ vs) → wipe (wipe σ ws) vs = wipe σ vs
  | [], _ => rfl
  | w :: ws, h => by
    show wipe ((wipe σ ws).set w none) vs = wipe σ vs
    rw [wipe_set (h w (by simp)), wipe_wipe ws (fun i hi => h i (by simp [hi]))]

/-! ### targets -/
theorem vls2 {x y : D} {vs : List V} (h : Vls G M H [x, y] vs) : ∃ v w, vs = [v, w] ∧ Vl G M H x v ∧ Vl G M H y w := by
  simp only [Vls] at h
  obtain ⟨v, _, rfl, h1, w, _, rfl, h2, rfl⟩ := h
  exact ⟨v, w, rfl, h1, h2⟩
theorem vls3 {x y z : D} {vs : List V} (h : Vls G M H [x, y, z] vs) : ∃ v w u, vs = [v, w, u] ∧ Vl G M H x v ∧ Vl G M H y w ∧ Vl G M H z u := by
  simp only [Vls] at h
  obtain ⟨v, _, rfl, h1, w, _, rfl, h2, u, _, rfl, h3, rfl⟩ := h
  exact ⟨v, w, u, rfl, h1, h2, h3⟩
/-- what binding a target does -/
theorem bind_sound : ∀ (t : SG) (s : Sl) (env e1 : Env) (σ : L2.St) (fs : List (List Addr)) (x : V), t.bind s env = some e1 → SRep G M S env tp σ H fs → SlRep G M S H s (some x) [] →
    ∃ σ' fs', SRep G M S e1 tp σ' H fs' ∧ (∀ b ∈ fs'.flatten, b ∈ fs.flatten) ∧ (∀ vs, (∀ i ∈ t.ix, i ∈ vs) → wipe σ' vs = wipe σ vs) ∧ ∀ k : L2.St → Hp → Prop, k σ' H → semG K t x σ H k
  | .nm i, s, env, e1, σ, fs, x, h, R, hs => by
    unfold SG.bind at h
    split at h
    · rename_i hi
      cases h
      obtain ⟨R', q⟩ := srep_set0 R hi hs
      exact ⟨_, _, R', q, fun vs hv => wipe_set (hv i (by simp [SG.ix])), fun k hk => hk⟩
    · cases h
  | .tp2 a b, s, env, e1, σ, fs, x, h, R, hs => by
    simp only [SG.bind] at h
    split at h
    · rename_i p q
      split at h
      · rename_i e2 h2
        obtain ⟨_, v, ev, hv⟩ := hs
        cases ev
        simp only [Vl] at hv
        obtain ⟨ad, vs, rfl, hm, ha, hvs⟩ := hv
        obtain ⟨v1, v2, rfl, w1, w2⟩ := vls2 hvs
        obtain ⟨σ2, fs2, R2, q2, hw2, k2⟩ := bind_sound a (.sh p) env e2 σ fs v1 h2 R ⟨rfl, v1, rfl, w1⟩
        obtain ⟨σ3, fs3, R3, q3, hw3, k3⟩ := bind_sound b (.sh q) e2 e1 σ2 fs2 v2 h R2 ⟨rfl, v2, rfl, w2⟩
        refine ⟨σ3, fs3, R3, fun z hz => q2 z (q3 z hz), fun ws hz => ?_, fun k hk => ?_⟩
        · rw [hw3 ws (fun i hi => hz i (by simp [SG.ix, hi])), hw2 ws (fun i hi => hz i (by simp [SG.ix, hi]))]
        · exact ⟨ad, _, rfl, SqT.of ha, rfl, v1, [v2], rfl, k2 _ ⟨v2, [], rfl, k3 _ ⟨rfl, hk⟩⟩⟩
      · cases h
    · cases h
  | .tp3 a b c, s, env, e1, σ, fs, x, h, R, hs => by
    simp only [SG.bind] at h
    split at h
    · rename_i p q r
      split at h
      · rename_i e2 h2
        split at h
        · rename_i e3 h3
          obtain ⟨_, v, ev, hv⟩ := hs
          cases ev
          simp only [Vl] at hv
          obtain ⟨ad, vs, rfl, hm, ha, hvs⟩ := hv
          obtain ⟨v1, v2, v3, rfl, w1, w2, w3⟩ := vls3 hvs
          obtain ⟨σ2, fs2, R2, q2, hw2, k2⟩ := bind_sound a (.sh p) env e2 σ fs v1 h2 R ⟨rfl, v1, rfl, w1⟩
          obtain ⟨σ3, fs3, R3, q3, hw3, k3⟩ := bind_sound b (.sh q) e2 e3 σ2 fs2 v2 h3 R2 ⟨rfl, v2, rfl, w2⟩
          obtain ⟨σ4, fs4, R4, q4, hw4, k4⟩ := bind_sound c (.sh r) e3 e1 σ3 fs3 v3 h R3 ⟨rfl, v3, rfl, w3⟩
          refine ⟨σ4, fs4, R4, fun z hz => q2 z (q3 z (q4 z hz)), fun ws hz => ?_, fun k hk => ?_⟩
          · rw [hw4 ws (fun i hi => hz i (by simp [SG.ix, hi])), hw3 ws (fun i hi => hz i (by simp [SG.ix, hi])), hw2 ws (fun i hi => hz i (by simp [SG.ix, hi]))]
          · exact ⟨ad, _, rfl, SqT.of ha, rfl, v1, [v2, v3], rfl, k2 _ ⟨v2, [v3], rfl, k3 _ ⟨v3, [], rfl, k4 _ ⟨rfl, hk⟩⟩⟩⟩
        · cases h
      · cases h
    · cases h
end
end Vs
/-! Vs8: loops of comprehensions. -/
namespace Vs
open PySem L2
abbrev FrP (P : AP) (H H' : Hp) : Prop := ∀ b o, ¬ P b → H b = some o → H' b = some o
section
variable {G : Rg} {M M' S S' B B' P : AP} {H H' H1 : Hp} {K : PySem.W.Frag} {tp tp1 tp' : Tape} {env : Env} {σ : L2.St} {fs : List (List Addr)} {g g1 g2 : List Addr}
/-- further on, where more than the tape has changed -/
theorem srep_gen (R : SRep G M S env tp σ H fs) (hPM : ∀ b, P b → M b) (hPS : ∀ b, P b → S b) (hPF : ∀ b, P b → b ∉ fs.flatten) (a : FrP P H H') (t : Tp G tp' H') (hd : ∀ b, P b → H' b ≠ none) (hg : ∀ b ∈ g, H b = none) (hg' : ∀ b ∈ g, H' b ≠ none) :
    SRep G (Mx M g) S env tp' σ H' fs where
  len := R.len
  len2 := R.len2
  slot := fun i s ov f h1 h2 h3 => sl_tr (fun b o e m => ⟨fun z => z.elim m fun z => absurd (e.symm.trans (hg b z)) (by simp), a b o (fun q => m (hPM b q)) e⟩) (fun b o e hs => ⟨hs, a b o (fun q => hs (hPS b q)) e⟩)
    (fun b hb o e => a b o (fun q => hPF b q (List.mem_flatten.mpr ⟨f, List.mem_of_getElem? h3, hb⟩)) e) (R.slot i s ov f h1 h2 h3)
  nodup := R.nodup
  tpe := t
  hM := fun b hb => .inl (R.hM b hb)
  hT := fun b hb => ⟨.inl (R.hT b hb).1, (R.hT b hb).2⟩
  hD := fun b hb => hb.elim (fun hb => by
    by_cases q : P b
    · exact hd b q
    · cases e : H b with
      | none => exact absurd e (R.hD b hb)
      | some o => rw [a b o q e]; simp) (hg' b)
  hS := R.hS
theorem rv_gen {r : Rv} {v : V} (h : RvRep G M B H r v g) (hok : r.ok = true) (hPM : ∀ b, P b → M b) (hn : ∀ b ∈ g, ¬ P b) (a : FrP P H H') (hg : ∀ b ∈ g2, H b = none) : RvRep G (Mx M g2) B' H' r v g := by
  have tr : ∀ b o, H b = some o → ¬ M b → ¬ Mx M g2 b ∧ H' b = some o := fun b o e m => ⟨fun z => z.elim m fun z => absurd (e.symm.trans (hg b z)) (by simp), a b o (fun q => m (hPM b q)) e⟩
  cases r with
  | sh d => exact ⟨h.1, vl_tr tr d v h.2⟩
  | fr ds =>
    obtain ⟨x, vs, e, ev, ha, hs⟩ := h
    exact ⟨x, vs, e, ev, a x _ (hn x (by rw [e]; simp)) ha, vls_tr tr _ _ hs⟩
  | bw ds => simp [Rv.ok] at hok
  | tp => simp [Rv.ok] at hok
  | nf ts => exact tl_tr tr _ _ _ h (fun b hb o e => a b o (hn b hb) e)
  | nb ts => simp [Rv.ok] at hok
theorem rvs_gen (hPM : ∀ b, P b → M b) (a : FrP P H H') {g2 : List Addr} (hg : ∀ b ∈ g2, H b = none) : ∀ {rs : List Rv} {vs : List V} {g : List Addr}, Rvs G M B H rs vs g → (∀ r ∈ rs, r.ok = true) → (∀ b ∈ g, ¬ P b) → Rvs G (Mx M g2) B' H' rs vs g
  | [], vs, g, h, _, hn => h
  | r :: rs, vs, g, ⟨v, vs', ga, gb, e1, e2, h1, h2⟩, hok, hn => ⟨v, vs', ga, gb, e1, e2, rv_gen h1 (hok r (by simp)) hPM (fun b hb => hn b (by rw [e2]; simp [hb])) a hg,
      rvs_gen hPM a hg h2 (fun r hr => hok r (by simp [hr])) (fun b hb => hn b (by rw [e2]; simp [hb]))⟩

/-- what is walked -/
structure Itm (K : PySem.W.Frag) (G : Rg) (M L Z : AP) (H0 : Hp) (J : It) (ss : List Sl) : Prop where
  run : ∃ Y, Walk J ss.length (FrP L H0) Y ∧ ∀ (i : Nat) H x H' M' Z', i < ss.length → FrP L H0 H → (∀ b o, H0 b = some o → ¬ M b → ¬ M' b) → (∀ b o, H0 b = some o → ¬ Z b → ¬ Z' b) → (∀ b, M' b → H b ≠ none) → Y i H x H' →
    Ext H H' ∧ ∃ s, ss[i]? = some s ∧ SlRep G M' Z' H' s (some x) []
/-- the loop of a comprehension, whatever its body is -/
theorem lc_go {J : It} {n : Nat} {Gd : Hp → Prop} {Y : Nat → Hp → V → Hp → Prop} (w : Walk J n Gd Y) {Bd : V → Hp → (Hp → Prop) → Prop} {H0 : Hp} {Qd : Hp → Prop} (Pv : Nat → Hp → Prop) (h0 : Pv 0 H0) (hG : ∀ i H, i ≤ n → Pv i H → Gd H)
    (hs : ∀ i x H H', i < n → Pv i H → Y i H x H' → Bd x H' (Pv (i + 1))) (hd : ∀ H, Pv n H → Qd H) :
    ∃ W : Nat → Nat → Hp → Prop, (∃ m, W 0 m H0) ∧ ∀ i m H, W i m H → (J.stop i H ∧ Qd H) ∨ (J.go i H ∧ ∃ Nx : Hp → Prop, (∀ H', Nx H' → ∃ m', m' < m ∧ W (i + 1) m' H') ∧ ∀ x H', J.yld i H x H' → Bd x H' Nx) := by
  refine ⟨fun i m H => m = n - i ∧ i ≤ n ∧ Pv i H, ⟨n, by simp, Nat.zero_le _, h0⟩, ?_⟩
  rintro i m H ⟨rfl, hi, p⟩
  have q := hG i H hi p
  by_cases hlt : i < n
  · exact .inr ⟨w.goes i H hlt q, Pv (i + 1), fun H' p' => ⟨n - (i + 1), by omega, rfl, hlt, p'⟩, fun x H' y => hs i x H H' hlt p (w.yields i H x H' hlt q y)⟩
  · have e : i = n := by omega
    subst e
    exact .inl ⟨w.stops H q, hd H p⟩
/-- where a comprehension stands: the list at D has grown by acc -/
structure CInv (G : Rg) (M B : AP) (D : Addr) (acc0 : List V) (H0 : Hp) (rs : List Rv) (t : Tape) (H' : Hp) : Prop where
  run : ∃ acc gd, H' D = some (.lst (acc0 ++ acc)) ∧ Rvs G (Mx M gd) B H' rs acc gd ∧ gd.Nodup ∧ (∀ b ∈ gd, H0 b = none) ∧ FrP (fun b => G.to = some b ∨ b = D) H0 H' ∧ Tp G t H' ∧ ∀ r ∈ rs, r.ok = true
theorem FrP.refl : FrP P H H := fun _ _ _ h => h
theorem FrP.trans (a : FrP P H H1) (b : FrP P H1 H') : FrP P H H' := fun x o n e => b x o n (a x o n e)
theorem FrP.fr (h : ∀ b, G.to = some b → P b) (a : Fr G H H') : FrP P H H' := fun b o n e => a b o (fun q => n (h b q)) e

variable {c : Env → Tape → Option (Bool × Tape)} {el : Env → Tape → Option (List Rv × Tape)} {tt : TT}
/-- soundness of a test's closure, of a body's -/
def CSnd (G : Rg) (tt : TT) (c : Env → Tape → Option (Bool × Tape)) : Prop := ∀ env tp b tp', c env tp = some (b, tp') → ∀ M B σ H fs, SRep G M B env tp σ H fs → (∀ a, B a → a ∉ fs.flatten) → (∀ b, B b → M b) → ∀ Q : Bool → Hp → Prop, (∀ H', Fr G H H' → Tp G tp' H' → Q b H') → tt σ H Q
/-- .. the body stores into the list at D and goes on at Nx -/
def BSnd (G : Rg) (bd : L2.St → Hp → Addr → (Hp → Prop) → Prop) (el : Env → Tape → Option (List Rv × Tape)) : Prop := ∀ env tp rs tp', el env tp = some (rs, tp') → ∀ M B σ H fs D acc0, SRep G M B env tp σ H fs → (∀ a, B a → a ∉ fs.flatten) → (∀ b, B b → M b) → H D = some (.lst acc0) → M D → B D → G.to ≠ some D → acc0.length + rs.length ≤ 1000000 →
  ∀ Nx : Hp → Prop, (∀ H', CInv G M B D acc0 H rs tp' H' → Nx H') → bd σ H D Nx
theorem lcGo_len {g : SG} : ∀ {ss : List Sl} {env : Env} {t t' : Tape} {rs : List Rv}, lcGo g c el env ss t = some (rs, t') → True := fun _ => trivial
/-- the whole loop -/
theorem lcGo_sound (hc : CSnd G tt c) {bd : L2.St → Hp → Addr → (Hp → Prop) → Prop} (he : BSnd G bd el) {J : It} {ss : List Sl} {t : SG} {vs : List Nat} (hv : t.sub vs = true) {Hs : Hp} {D : Addr} {acc0 : List V} {tp0 tp9 : Tape} {rs9 : List Rv} {env : Env} {σ0 : L2.St}
    (I : Itm K G M B B Hs J ss) (h9 : lcGo t c el env ss tp0 = some (rs9, tp9)) (R : SRep G M B env tp0 (wipe σ0 vs) Hs fs) (hBF : ∀ a, B a → a ∉ fs.flatten) (hBM : ∀ b, B b → M b) (hD0 : Hs D = some (.lst acc0)) (hMD : M D) (hBD : B D) (hTD : G.to ≠ some D)
    (hz : acc0.length + rs9.length ≤ 1000000) {Qd : Hp → Prop} (hd : ∀ H', CInv G M B D acc0 Hs rs9 tp9 H' → Qd H') :
    ∃ W : Nat → Nat → Hp → Prop, (∃ m, W 0 m Hs) ∧ ∀ i m H, W i m H → (J.stop i H ∧ Qd H) ∨ (J.go i H ∧ ∃ Nx : Hp → Prop, (∀ H', Nx H' → ∃ m', m' < m ∧ W (i + 1) m' H') ∧ ∀ x H', J.yld i H x H' →
      semG K t x (wipe σ0 vs) H' fun σ2 H2 => wipe σ2 vs = wipe σ0 vs ∧ tt σ2 H2 fun b H3 => if b = true then bd σ2 H3 D Nx else Nx H3) := by
  obtain ⟨Y, w, hy⟩ := I.run
  have hsub : ∀ i ∈ t.ix, i ∈ vs := by
    intro i hi
    have := List.all_eq_true.mp hv i hi
    simpa using this
  refine lc_go (Bd := fun x H' Nx => semG K t x (wipe σ0 vs) H' fun σ2 H2 => wipe σ2 vs = wipe σ0 vs ∧ tt σ2 H2 fun b H3 => if b = true then bd σ2 H3 D Nx else Nx H3) w
    (fun i H' => ∃ rs ti rest, lcGo t c el env (ss.drop i) ti = some (rest, tp9) ∧ rs ++ rest = rs9 ∧ CInv G M B D acc0 Hs rs ti H') ?_ ?_ ?_ ?_
  · refine ⟨[], tp0, rs9, by simpa using h9, rfl, ⟨[], [], by simpa using hD0, ⟨rfl, rfl⟩, .nil, by simp, .refl, R.tpe, by simp⟩⟩
  · rintro i H' hi ⟨rs, ti, rest, e1, e2, ⟨acc, gd, hDD, hR, nd, fr0, frm, tpi, hok⟩⟩
    exact fun b o n e => frm b o (fun z => z.elim (fun z => n (R.hS b z)) (fun z => n (z ▸ hBD))) e
  · rintro i x H' H2 hi ⟨rs, ti, rest, e1, e2, ⟨acc, gd, hDD, hR, nd, fr0, frm, tpi, hok⟩⟩ hY
    have hgd : ∀ b ∈ gd, H' b ≠ none := own_def (rvs_own hR)
    have frB : FrP B Hs H' := fun b o n e => frm b o (fun z => z.elim (fun z => n (R.hS b z)) (fun z => n (z ▸ hBD))) e
    have hBdef : ∀ b, B b → H' b ≠ none := fun b hb => by
      by_cases q : G.to = some b
      · rw [tpi b q]; simp
      · by_cases q2 : b = D
        · rw [q2, hDD]; simp
        · cases e : Hs b with
          | none => exact absurd e (R.hD b (hBM b hb))
          | some o => rw [frm b o (fun z => z.elim q q2) e]; simp
    have R' : SRep G (Mx M gd) B env ti (wipe σ0 vs) H' fs := by
      refine srep_gen (P := fun b => G.to = some b ∨ b = D) R (fun b hb => hb.elim (R.hT' b) (fun z => z ▸ hMD)) (fun b hb => hb.elim (R.hS b) (fun z => z ▸ hBD)) (fun b hb => hb.elim (fun z => (R.hT b z).2) (fun z => z ▸ hBF D hBD)) frm tpi ?_ fr0 hgd
      rintro b (q | q)
      · rw [tpi b q]; simp
      · rw [q, hDD]; simp
    obtain ⟨ext, s, es, hsl⟩ := hy i H' x H2 (Mx M gd) B hi frB (fun b o e m z => z.elim m fun z => absurd (e.symm.trans (fr0 b z)) (by simp)) (fun b o e n => n) R'.hD hY
    have t2 : Tp G ti H2 := fun a ha => ext a _ (tpi a ha)
    have R2 : SRep G (Mx (Mx M gd) []) B env ti (wipe σ0 vs) H2 fs := srep_next R' (Fr.ofExt ext) t2 (by simp) (by simp)
    have R2 : SRep G (Mx M gd) B env ti (wipe σ0 vs) H2 fs := srep_mono R2 (fun b h => .inl h) R'.hM R'.hT'
    have ed : ss.drop i = s :: ss.drop (i + 1) := by
      have hi' : i < ss.length := hi
      rw [List.drop_eq_getElem_cons hi', (List.getElem?_eq_some_iff.mp es).2]
    rw [ed] at e1
    unfold lcGo at e1
    split at e1
    · cases e1
    rename_i en1 hb
    obtain ⟨σ2, fs2, R3, hF3, hw3, hk3⟩ := bind_sound (K := K) t s env en1 (wipe σ0 vs) fs x hb R2 hsl
    have hBF3 : ∀ a, B a → a ∉ fs2.flatten := fun a ha z => hBF a ha (hF3 a z)
    refine hk3 _ ⟨?_, ?_⟩
    · rw [hw3 vs hsub, wipe_wipe vs (fun i h => h)]
    have CI2 : ∀ H3, Fr G H2 H3 → ∀ t3, Tp G t3 H3 → CInv G M B D acc0 Hs rs t3 H3 := fun H3 fr t3 ht3 => by
      have fr' : Fr G H' H3 := (Fr.ofExt ext).trans fr
      refine ⟨acc, gd, fr' D _ hTD hDD, ?_, nd, fr0, fun b o n e => fr' b o (fun z => n (.inl z)) (frm b o n e), ht3, hok⟩
      exact rvs_mono (fun b h => .inl h) (rvs_next R'.hT' R'.hS fr' (g2 := []) (by simp) hR (fun b hb z => by
        have := fr0 b hb
        rw [R.tpe b z] at this
        cases this))
    split at e1
    · cases e1
    · rename_i t1 hb1
      refine hc _ _ _ _ hb1 _ _ _ _ _ R3 hBF3 (fun b hb => .inl (hBM b hb)) _ fun H3 fr3 tp3 => ?_
      rw [if_neg (by simp)]
      exact ⟨rs, t1, rest, e1, e2, CI2 H3 fr3 t1 tp3⟩
    · rename_i t1 hb1
      refine hc _ _ _ _ hb1 _ _ _ _ _ R3 hBF3 (fun b hb => .inl (hBM b hb)) _ fun H3 fr3 tp3 => ?_
      rw [if_pos rfl]
      split at e1
      · cases e1
      rename_i rs1 t2' hel
      split at e1
      · cases e1
      rename_i rs2 t3' hrest
      cases e1
      have fr13 : Fr G H' H3 := (Fr.ofExt ext).trans fr3
      have R4 : SRep G (Mx (Mx M gd) []) B en1 t1 σ2 H3 fs2 := srep_next R3 fr3 tp3 (by simp) (by simp)
      have R4 : SRep G (Mx M gd) B en1 t1 σ2 H3 fs2 := srep_mono R4 (fun b h => .inl h) R3.hM R3.hT'
      have hl : acc.length = rs.length := rvs_len hR
      refine he _ _ _ _ hel _ _ _ _ _ D (acc0 ++ acc) R4 hBF3 (fun b hb => .inl (hBM b hb)) (fr13 D _ hTD hDD) (.inl hMD) hBD hTD ?_ _ fun H4 C4 => ?_
      · have : rs9.length = rs.length + (rs1.length + rs2.length) := by rw [← e2]; simp
        rw [List.length_append]
        omega
      · refine ⟨rs ++ rs1, t2', rs2, hrest, by rw [← e2, List.append_assoc], ?_⟩
        obtain ⟨acc1, g1, d1, r1, n1, f1, m1, tt1, ok1⟩ := C4
        have hR3 : Rvs G (Mx M gd) B H3 rs acc gd := rvs_mono (fun b h => .inl h) (rvs_next R'.hT' R'.hS fr13 (g2 := []) (by simp) hR (fun b hb z => by
          have := fr0 b hb
          rw [R.tpe b z] at this
          cases this))
        have hgd3 : ∀ b ∈ gd, ¬ (G.to = some b ∨ b = D) := fun b hb z => by
          have := fr0 b hb
          rcases z with z | z
          · rw [R.tpe b z] at this; cases this
          · rw [z, hD0] at this; cases this
        have hR4 : Rvs G (Mx (Mx M gd) g1) B H4 rs acc gd := rvs_gen (P := fun b => G.to = some b ∨ b = D) (fun b hb => hb.elim (R'.hT' b) (fun z => z ▸ .inl hMD)) m1 f1 hR3 hok hgd3
        have dis : ∀ b ∈ gd, b ∉ g1 := fun b hb z => own_def (rvs_own hR3) b hb (f1 b z)
        refine ⟨acc ++ acc1, gd ++ g1, by rw [← List.append_assoc]; exact d1, rvs_mono (fun b h => ?_) (rvs_append hR4 r1), ?_, ?_, ?_, tt1, ?_⟩
        · rcases h with h | h
          · exact .inl (.inl h)
          · rcases List.mem_append.mp h with h | h
            · exact .inl (.inr h)
            · exact .inr h
        · rw [List.nodup_append]
          exact ⟨nd, n1, fun a ha b hb z => dis a ha (z ▸ hb)⟩
        · intro b hb
          rcases List.mem_append.mp hb with hb | hb
          · exact fr0 b hb
          · cases e : Hs b with
            | none => rfl
            | some o =>
              have q := f1 b hb
              by_cases z : G.to = some b ∨ b = D
              · rcases z with z | z
                · rw [tp3 b z] at q; cases q
                · rw [z, fr13 D _ hTD hDD] at q; cases q
              · rw [fr13 b o (fun y => z (.inl y)) (frm b o z e)] at q; cases q
        · exact fun b o n e => m1 b o n (fr13 b o (fun z => n (.inl z)) (frm b o n e))
        · intro r hr
          rcases List.mem_append.mp hr with hr | hr
          · exact hok r hr
          · exact ok1 r hr
  · rintro H' ⟨rs, ti, rest, e1, e2, C⟩
    have : ss.drop ss.length = [] := by simp
    rw [this] at e1
    unfold lcGo at e1
    cases e1
    rw [List.append_nil] at e2
    subst e2
    exact hd H' C
end
end Vs
/-! Vs9: what is walked, in each of its forms. -/
namespace Vs
open PySem L2
section
variable {G : Rg} {M M' S S' B B' P L Z : AP} {H H' H0 H1 : Hp} {K : PySem.W.Frag} {tp tp1 tp' : Tape} {env : Env} {σ : L2.St} {fs : List (List Addr)} {g g1 g2 : List Addr}
theorem itm_range {lo : Int} {n : Nat} : Itm K G M L Z H0 (Itr lo n) ((rngD lo n).map .sh) := by
  refine ⟨YFn fun i => .int (lo + i), ?_, ?_⟩
  · have w : Walk (Itr lo n) n (fun _ => True) (YFn fun i => .int (lo + i)) := walk_range
    have e : ((rngD lo n).map Sl.sh).length = n := by simp [rngD]
    rw [e]
    exact w.mono (fun _ _ => trivial) (fun _ _ _ _ _ _ y => y)
  · rintro i H x H' M' L' hi fr hM hL hD ⟨rfl, rfl⟩
    have hi' : i < n := by simpa [rngD] using hi
    refine ⟨fun _ _ e => e, .sh (.int (lo + i)), by simp [rngD, hi'], rfl, _, rfl, by simp [Vl]⟩
theorem itm_rangeC {lo c : Int} {n : Nat} : Itm K G M L Z H0 (Itc lo c n) ((rngC lo c n).map .sh) := by
  refine ⟨YFn fun i => .int (lo + (i : Nat) * c), ?_, ?_⟩
  · have w : Walk (Itc lo c n) n (fun _ => True) (YFn fun i => .int (lo + (i : Nat) * c)) := walk_rangeC
    have e : ((rngC lo c n).map Sl.sh).length = n := by simp [rngC]
    rw [e]
    exact w.mono (fun _ _ => trivial) (fun _ _ _ _ _ _ y => y)
  · rintro i H x H' M' L' hi fr hM hL hD ⟨rfl, rfl⟩
    have hi' : i < n := by simpa [rngC] using hi
    refine ⟨fun _ _ e => e, .sh (.int (lo + (i : Nat) * c)), by simp [rngC, hi'], rfl, _, rfl, by simp [Vl]⟩
/-- how the items stand at the loop's start -/
def ItAt (G : Rg) (M L Z : AP) (H0 : Hp) (ss : List Sl) (vs : List V) : Prop := vs.length = ss.length ∧ ∀ (i : Nat) x, vs[i]? = some x → ∃ s, ss[i]? = some s ∧
  ∀ H M' L', FrP L H0 H → (∀ b o, H0 b = some o → ¬ M b → ¬ M' b) → (∀ b o, H0 b = some o → ¬ Z b → ¬ L' b) → SlRep G M' L' H s (some x) []
theorem itat_sh (hLM : ∀ b, L b → M b) {ds : List D} {vs : List V} (h : Vls G M H0 ds vs) : ItAt G M L Z H0 (ds.map .sh) vs := by
  refine ⟨by simp [vls_len h], fun i x hx => ?_⟩
  obtain ⟨d, e, hv⟩ := vls_get' h hx
  refine ⟨.sh d, by simp [e], fun H M' L' fr hM hL => ⟨rfl, x, rfl, vl_tr (fun a o q m => ⟨hM a o q m, fr a o (fun z => m (hLM a z)) q⟩) d x hv⟩⟩
theorem itat_tree (hLM : ∀ b, L b → M b) {ts : List T} {vs : List V} {g : List Addr} (h : Tls G M H0 ts vs g) (hg : ∀ b ∈ g, ¬ L b) (hz : ∀ b ∈ g, ¬ Z b) : ItAt G M L Z H0 (ts.map treeSl) vs := by
  refine ⟨by simp [tls_len h], fun i x hx => ?_⟩
  have hi : i < ts.length := by rw [← tls_len h]; exact (List.getElem?_eq_some_iff.mp hx).1
  obtain ⟨v, g1, e, ht, sub⟩ := tls_get h (List.getElem?_eq_getElem hi)
  rw [hx] at e
  cases e
  refine ⟨treeSl ts[i], by simp [hi], fun H M' L' fr hM hL => ?_⟩
  have tr : ∀ a o, H0 a = some o → ¬ M a → ¬ M' a ∧ H a = some o := fun a o q m => ⟨hM a o q m, fr a o (fun z => m (hLM a z)) q⟩
  cases et : ts[i] with
  | lf d =>
    rw [et] at ht
    simp only [Tl] at ht
    exact ⟨rfl, x, rfl, vl_tr tr d x ht.2⟩
  | nd us =>
    rw [et] at ht
    have ht' := tl_tr tr _ _ _ ht (fun a ha o q => fr a o (hg a (sub.subset ha)) q)
    refine ⟨rfl, x, g1, rfl, fun a ha => ?_, ht'⟩
    obtain ⟨xs, q⟩ := tl_own _ _ _ ht a ha
    exact hL a _ q (hz a (sub.subset ha))
theorem itm_list {a : Addr} {vs : List V} {ss : List Sl} (ha : H0 a = some (.lst vs)) (hL : ¬ L a) (h : ItAt G M L Z H0 ss vs) : Itm K G M L Z H0 (Itl K a) ss := by
  refine ⟨YAt vs, ?_, ?_⟩
  · rw [← h.1]
    exact (walk_list (K := K)).mono (fun H fr => SqL.of (fr a _ hL ha)) (fun _ _ _ _ _ _ y => y)
  · rintro i H x H' M' L' hi fr hM hL' hD ⟨rfl, hx⟩
    obtain ⟨s, e, k⟩ := h.2 i x hx
    exact ⟨fun _ _ e => e, s, e, k _ _ _ fr hM hL'⟩
theorem itm_tup {a : Addr} {vs : List V} {ss : List Sl} (ha : H0 a = some (.tup vs)) (hL : ¬ L a) (h : ItAt G M L Z H0 ss vs) : Itm K G M L Z H0 (Itt K a) ss := by
  refine ⟨YAt vs, ?_, ?_⟩
  · rw [← h.1]
    exact (walk_tup (K := K)).mono (fun H fr => SqT.of (fr a _ hL ha)) (fun _ _ _ _ _ _ y => y)
  · rintro i H x H' M' L' hi fr hM hL' hD ⟨rfl, hx⟩
    obtain ⟨s, e, k⟩ := h.2 i x hx
    exact ⟨fun _ _ e => e, s, e, k _ _ _ fr hM hL'⟩
theorem itm_rev {a : Addr} {vs : List V} {ss : List Sl} (ha : H0 a = some (.lst vs)) (hL : ¬ L a) (h : ItAt G M L Z H0 ss vs) : Itm K G M L Z H0 (Itv K a vs.length) ss.reverse := by
  refine ⟨fun i H x H' => H' = H ∧ vs[vs.length - 1 - i]? = some x, ?_, ?_⟩
  · rw [List.length_reverse, ← h.1]
    exact (walk_rev (K := K)).mono (fun H fr => SqL.of (fr a _ hL ha)) (fun _ _ _ _ _ _ y => y)
  · rintro i H x H' M' L' hi fr hM hL' hD ⟨rfl, hx⟩
    obtain ⟨s, e, k⟩ := h.2 _ x hx
    rw [List.length_reverse, ← h.1] at hi
    exact ⟨fun _ _ e => e, s, by rw [List.getElem?_reverse (by rw [← h.1]; exact hi), ← h.1]; exact e, k _ _ _ fr hM hL'⟩
theorem walk_revT {a : Addr} {xs : List V} : Walk (RT.ItvT K a xs.length) xs.length (fun H => SqT K H a xs) (fun i H x H' => H' = H ∧ xs[xs.length - 1 - i]? = some x) :=
  ⟨fun i _ hi q => ⟨hi, xs, xs[xs.length - 1 - i]'(by omega), q, by simp [show xs.length - 1 - i < xs.length by omega]⟩, fun _ _ => Nat.le_refl _, fun _ _ _ _ _ q y => ⟨y.1, y.2 xs q⟩⟩
theorem itm_revT {a : Addr} {vs : List V} {ss : List Sl} (ha : H0 a = some (.tup vs)) (hL : ¬ L a) (h : ItAt G M L Z H0 ss vs) : Itm K G M L Z H0 (RT.ItvT K a vs.length) ss.reverse := by
  refine ⟨fun i H x H' => H' = H ∧ vs[vs.length - 1 - i]? = some x, ?_, ?_⟩
  · rw [List.length_reverse, ← h.1]
    exact (walk_revT (K := K)).mono (fun H fr => SqT.of (fr a _ hL ha)) (fun _ _ _ _ _ _ y => y)
  · rintro i H x H' M' L' hi fr hM hL' hD ⟨rfl, hx⟩
    obtain ⟨s, e, k⟩ := h.2 _ x hx
    rw [List.length_reverse, ← h.1] at hi
    exact ⟨fun _ _ e => e, s, by rw [List.getElem?_reverse (by rw [← h.1]; exact hi), ← h.1]; exact e, k _ _ _ fr hM hL'⟩
theorem enumD_len : ∀ (n : Nat) (ds : List D), (enumD n ds).length = ds.length
  | _, [] => rfl
  | n, d :: ds => by simp [enumD, enumD_len (n + 1) ds]
theorem enumD_get : ∀ (n : Nat) (ds : List D) (i : Nat) (d : D), ds[i]? = some d → (enumD n ds)[i]? = some (.tup [.int ((n + i : Nat) : Int), d])
  | n, [], i, d, h => by simp at h
  | n, d0 :: ds, 0, d, h => by
    simp only [List.getElem?_cons_zero, Option.some.injEq] at h
    subst h
    rfl
  | n, d0 :: ds, i + 1, d, h => by
    simp only [List.getElem?_cons_succ] at h
    simp only [enumD, List.getElem?_cons_succ]
    rw [enumD_get (n + 1) ds i d h]
    have : n + 1 + i = n + (i + 1) := by omega
    rw [this]
/-- a pair that has just been made -/
theorem pair_rep {x y : D} {v w : V} {T : Addr} {H : Hp} (hT : H T = none) (hD : ∀ b, M b → H b ≠ none) (h1 : Vl G M H x v) (h2 : Vl G M H y w) : SlRep G M S (upd H T (.tup [v, w])) (.sh (.tup [x, y])) (some (.ref T)) [] := by
  refine ⟨rfl, _, rfl, ?_⟩
  have tr : ∀ a o, H a = some o → ¬ M a → ¬ M a ∧ (upd H T (.tup [v, w])) a = some o := fun a o q m => ⟨m, by rw [upd_ne (ne_of_none q hT)]; exact q⟩
  simp only [Vl, Vls]
  exact ⟨T, _, rfl, fun m => hD T m hT, upd_same, v, _, rfl, vl_tr tr x v h1, w, _, rfl, vl_tr tr y w h2, rfl⟩
theorem itm_enum {a : Addr} {vs : List V} {ds : List D} (hLM : ∀ b, L b → M b) (ha : H0 a = some (.lst vs)) (hL : ¬ L a) (h : Vls G M H0 ds vs) : Itm K G M L Z H0 (Ite K a) ((enumD 0 ds).map .sh) := by
  refine ⟨YPair (fun i => some (.int (i : Nat))) (fun i => vs[i]?), ?_, ?_⟩
  · rw [List.length_map, enumD_len, ← vls_len h]
    exact (walk_enum (K := K)).mono (fun H fr => SqL.of (fr a _ hL ha)) (fun _ _ _ _ _ _ y => y)
  · rintro i H x H' M' L' hi fr hM hL' hD ⟨T, v, w, rfl, hT, rfl, e1, e2⟩
    cases e1
    obtain ⟨d, e, hv⟩ := vls_get' h e2
    refine ⟨ext_new hT, .sh (.tup [.int i, d]), ?_, pair_rep hT hD (by simp [Vl]) (vl_tr (fun a o q m => ⟨hM a o q m, fr a o (fun z => m (hLM a z)) q⟩) d w hv)⟩
    have := enumD_get 0 ds i d e
    simp only [Nat.zero_add] at this
    simp [this]
theorem walk_enumT {a : Addr} {xs : List V} : Walk (IteT K a) xs.length (fun H => SqT K H a xs) (YPair (fun i => some (.int (i : Nat))) (fun i => xs[i]?)) := by
  refine ⟨fun i _ hi q => ⟨xs, xs[i], q, by simp [hi]⟩, fun _ q => ⟨xs, q, rfl⟩, fun i H v H' _ q y => ?_⟩
  obtain ⟨T, x, h1, h2, h3, h4⟩ := y
  exact ⟨T, .int (i : Nat), x, h1, h2, h3, rfl, h4 xs q⟩
theorem itm_enumT {a : Addr} {vs : List V} {ds : List D} (hLM : ∀ b, L b → M b) (ha : H0 a = some (.tup vs)) (hL : ¬ L a) (h : Vls G M H0 ds vs) : Itm K G M L Z H0 (IteT K a) ((enumD 0 ds).map .sh) := by
  refine ⟨YPair (fun i => some (.int (i : Nat))) (fun i => vs[i]?), ?_, ?_⟩
  · rw [List.length_map, enumD_len, ← vls_len h]
    exact (walk_enumT (K := K)).mono (fun H fr => SqT.of (fr a _ hL ha)) (fun _ _ _ _ _ _ y => y)
  · rintro i H x H' M' L' hi fr hM hL' hD ⟨T, v, w, rfl, hT, rfl, e1, e2⟩
    cases e1
    obtain ⟨d, e, hv⟩ := vls_get' h e2
    refine ⟨ext_new hT, .sh (.tup [.int i, d]), ?_, pair_rep hT hD (by simp [Vl]) (vl_tr (fun a o q m => ⟨hM a o q m, fr a o (fun z => m (hLM a z)) q⟩) d w hv)⟩
    have := enumD_get 0 ds i d e
    simp only [Nat.zero_add] at this
    simp [this]
theorem itm_zip {a b : Addr} {vs ws : List V} {xs ys : List D} (hLM : ∀ b, L b → M b) (ha : H0 a = some (.lst vs)) (hL : ¬ L a) (hb : H0 b = some (.lst ws)) (hL2 : ¬ L b) (h : Vls G M H0 xs vs) (h2 : Vls G M H0 ys ws) :
    Itm K G M L Z H0 (Itz K a b) ((xs.zip ys).map fun p => .sh (.tup [p.1, p.2])) := by
  refine ⟨YPair (fun i => vs[i]?) (fun i => ws[i]?), ?_, ?_⟩
  · rw [List.length_map]
    exact (walk_zip (K := K) (n := (xs.zip ys).length) (by simp [vls_len h, vls_len h2])).mono (fun H fr => ⟨SqL.of (fr a _ hL ha), SqL.of (fr b _ hL2 hb)⟩) (fun _ _ _ _ _ _ y => y)
  · rintro i H x H' M' L' hi fr hM hL' hD ⟨T, v, w, rfl, hT, rfl, e1, e2⟩
    obtain ⟨d, e, hv⟩ := vls_get' h e1
    obtain ⟨d2, e', hv2⟩ := vls_get' h2 e2
    have tr : ∀ a o, H0 a = some o → ¬ M a → ¬ M' a ∧ H a = some o := fun a o q m => ⟨hM a o q m, fr a o (fun z => m (hLM a z)) q⟩
    refine ⟨ext_new hT, .sh (.tup [d, d2]), ?_, pair_rep hT hD (vl_tr tr d v hv) (vl_tr tr d2 w hv2)⟩
    rw [List.getElem?_map]
    have : (xs.zip ys)[i]? = some (d, d2) := by
      rw [List.getElem?_zip_eq_some]
      exact ⟨e, e'⟩
    rw [this]
    rfl
/-- beside a new list -/
theorem itm_new {J : It} {ss : List Sl} {D : Addr} {o : HO} (I : Itm K G M L Z H0 J ss) (hD : H0 D = none) : Itm K G (Mx M [D]) (fun b => L b ∨ b = D) (fun b => Z b ∨ b = D) (upd H0 D o) J ss := by
  obtain ⟨Y, w, hy⟩ := I.run
  have fr0 : ∀ {H : Hp}, FrP (fun b => L b ∨ b = D) (upd H0 D o) H → FrP L H0 H := fun fr b u n e => by
    have ne : b ≠ D := ne_of_none e hD
    exact fr b u (fun z => z.elim n ne) (by rw [upd_ne ne]; exact e)
  refine ⟨Y, w.mono (fun H fr => fr0 fr) (fun _ _ _ _ _ _ y => y), fun i H x H' M' L' hi fr hM hL' hDf hY => ?_⟩
  refine hy i H x H' M' L' hi (fr0 fr) (fun b u e m => ?_) (fun b u e m => ?_) hDf hY
  · have ne : b ≠ D := ne_of_none e hD
    exact hM b u (by rw [upd_ne ne]; exact e) (fun z => z.elim m (fun z => ne (List.mem_singleton.mp z)))
  · have ne : b ≠ D := ne_of_none e hD
    exact hL' b u (by rw [upd_ne ne]; exact e) (fun z => z.elim m ne)
theorem srep_new {D : Addr} {o : HO} (R : SRep G M S env tp σ H fs) (hD : H D = none) : SRep G (Mx M [D]) (fun b => S b ∨ b = D) env tp σ (upd H D o) fs where
  len := R.len
  len2 := R.len2
  slot := fun i s ov f h1 h2 h3 => sl_tr (fun a u e m => ⟨fun z => z.elim m (fun z => ne_of_none e hD (List.mem_singleton.mp z)), ext_new hD a u e⟩) (fun a u e m => ⟨fun z => z.elim m (ne_of_none e hD), ext_new hD a u e⟩) (fun b hb u e => ext_new hD b u e) (R.slot i s ov f h1 h2 h3)
  nodup := R.nodup
  tpe := fun a h => ext_new hD a _ (R.tpe a h)
  hM := fun b hb => .inl (R.hM b hb)
  hT := fun b hb => ⟨.inl (R.hT b hb).1, (R.hT b hb).2⟩
  hD := fun b hb => by
    rcases hb with hb | hb
    · cases e : H b with
      | none => exact absurd e (R.hD b hb)
      | some u => rw [ext_new hD b u e]; simp
    · rw [List.mem_singleton.mp hb, upd_same]; simp
  hS := fun a h => .inl (R.hS a h)
end
end Vs
/-! Vs10: what an expression computes is what it gives. -/
namespace Vs
open PySem L2
section
variable {G : Rg} {M M' S S' B B' P L : AP} {H H' H0 H1 : Hp} {K : PySem.W.Frag} {tp tp1 tp' : Tape} {env : Env} {σ : L2.St} {fs : List (List Addr)} {g g1 g2 : List Addr}
/-- what follows an expression -/
def EAft (G : Rg) (M B : AP) (H : Hp) (tp : Tape) (r : Rv) (Q : VK) : Prop := ∀ v H' g, Fr G H H' → Tp G tp H' → RvRep G (Mx M g) B H' r v g → g.Nodup → (∀ b ∈ g, H b = none) → Q v H'
def AAft (G : Rg) (M B : AP) (H : Hp) (tp : Tape) (rs : List Rv) (Q : List V → Hp → Prop) : Prop := ∀ vs H' g, Fr G H H' → Tp G tp H' → Rvs G (Mx M g) B H' rs vs g → g.Nodup → (∀ b ∈ g, H b = none) → Q vs H'
theorem mx_mx {b : Addr} (h : Mx M g b) : Mx (Mx M g1) g b := h.elim (fun h => .inl (.inl h)) .inr
theorem EAft.step {r : Rv} {Q : VK} (q : EAft G M B H tp' r Q) (a : Fr G H H1) (t : Tp G tp1 H1) : EAft G (Mx M g1) B H1 tp' r Q := fun v H' g fr tp rep nd fresh =>
  q v H' g (a.trans fr) tp (rv_mono rep fun b h => mx_mx h) nd fun b hb => fr_back a t (fresh b hb)
theorem EAft.step0 {r : Rv} {Q : VK} (q : EAft G M B H tp' r Q) (a : Fr G H H1) (t : Tp G tp1 H1) : EAft G M B H1 tp' r Q := fun v H' g fr tp rep nd fresh =>
  q v H' g (a.trans fr) tp rep nd fun b hb => fr_back a t (fresh b hb)
theorem EAft.after {r : Rv} {Q : VK} (q : EAft G M B H tp1 r Q) (a : Fr G H H1) (t : Tp G tp1 H1) : After G (Mx M g1) B H1 r Q := fun v H' g ext rep nd fresh =>
  q v H' g (a.trans (Fr.ofExt ext)) (fun x hx => ext x _ (t x hx)) (rv_mono rep fun b h => mx_mx h) nd fun b hb => fr_back a t (fresh b hb)
theorem EAft.here {d : D} {v : V} {Q : VK} (q : EAft G M B H tp (.sh d) Q) (a : Fr G H H1) (t : Tp G tp H1) (hv : Vl G M H1 d v) : Q v H1 := q v H1 [] a t ⟨rfl, vl_mx0 hv⟩ .nil (by simp)
theorem sh_vl {d : D} {v : V} (h : RvRep G M B H (.sh d) v g) : g = [] ∧ Vl G M H d v := h
theorem sh_int {i : Int} {v : V} (h : RvRep G M B H (.sh (.int i)) v g) : v = .int i := by simpa [Vl] using h.2
theorem sh_bl {i : Bool} {v : V} (h : RvRep G M B H (.sh (.bl i)) v g) : v = .bl i := by simpa [Vl] using h.2
theorem mx0 {b : Addr} (h : Mx M [] b) : M b := h.elim id (by simp)
theorem tb_sub (hS : ∀ a, G.to = some a → B a) : ∀ b, Tb G b → B b := fun b h => hS b h
theorem op2_sound (hW : WrOk K G.N) {o : Op} (ho : o.bin = true) {d e : D} {r : Rv} (he : evOp o [d, e] = some r) {v w : V} (h1 : Vl G M H d v) (h2 : Vl G M H e w) (hD : ∀ b, M b → H b ≠ none) {Q : VK} (q : After G M B H r Q) : r2 K o v w H Q := by
  have h := op_sound (K := K) (B := B) hW o [d, e] r he [v, w] ⟨v, [w], rfl, .inl h1, w, [], rfl, .inl h2, rfl⟩ hD Q q
  cases o <;> first | exact h | simp [Op.bin] at ho
theorem srep_nx (R : SRep G M B env tp σ H fs) (fr : Fr G H H1) (t : Tp G tp1 H1) : SRep G M B env tp1 σ H1 fs :=
  srep_mono (srep_next R fr t (g := []) (by simp) (by simp)) (fun b h => .inl h) R.hM R.hT'
theorem srep_mx (R : SRep G M B env tp σ H fs) (fr : Fr G H H1) (t : Tp G tp1 H1) (fresh : ∀ b ∈ g, H b = none) {r : Rv} {v : V} (rep : RvRep G (Mx M g) B H1 r v g) : SRep G (Mx M g) B env tp1 σ H1 fs :=
  srep_next R fr t fresh (own_def (rv_own rep))
theorem no_ta (R : SRep G M B env tp σ H fs) (fresh : ∀ b ∈ g, H b = none) : ∀ b ∈ g, G.to ≠ some b := fun b hb z => by
  have := fresh b hb
  rw [R.tpe b z] at this
  cases this
theorem atI_ixN {α : Type} {xs : List α} {i : Int} {v : α} (h : atI xs i = some v) : ∃ j, ixN xs.length i = some j ∧ xs[j]? = some v := by
  unfold atI at h
  cases e : ixN xs.length i with
  | none => rw [e] at h; cases h
  | some j => rw [e] at h; exact ⟨j, rfl, h⟩
theorem evIx_sound (hW : WrOk K G.N) {r r' : Rv} {i : Int} (he : evIx r i = some r') {v : V} (hr : RvRep G M B H r v g) (hD : ∀ b, M b → H b ≠ none) {Q : VK} (q : ∀ v H', H' = H → RvRep G M B H r' v [] → Q v H') : rIx K v (.int i) H Q := by
  have flat : ∀ ds : List D, ∀ d, Rv.av r = some d → evOp .ix [d, .int i] = some r' → rIx K v (.int i) H Q := fun _ d hav hop => by
    -- the value is read where it stands
    cases d with
    | lst xs =>
      simp only [evOp, Option.map_eq_some_iff] at hop
      obtain ⟨e', he', ee⟩ := hop
      cases ee
      obtain ⟨a, vx, rfl, e1, s1⟩ := (rv_av hr hav).lst
      obtain ⟨v', ev, hv⟩ := vls_atI s1 he'
      exact .inl ⟨a, vx, _, v', rfl, rfl, SqL.of e1, ev, q v' H rfl ⟨rfl, hv⟩⟩
    | tup xs =>
      simp only [evOp, Option.map_eq_some_iff] at hop
      obtain ⟨e', he', ee⟩ := hop
      cases ee
      obtain ⟨a, vx, rfl, m1, e1, s1⟩ := (rv_av hr hav).tup
      obtain ⟨v', ev, hv⟩ := vls_atI s1 he'
      exact .inr (.inl ⟨a, vx, _, v', rfl, rfl, SqT.of e1, ev, q v' H rfl ⟨rfl, hv⟩⟩)
    | non => simp [evOp] at hop
    | bl _ => simp [evOp] at hop
    | int _ => simp [evOp] at hop
    | str _ => simp [evOp] at hop
    | net _ _ => simp [evOp] at hop
    | scr ns =>
      simp only [evOp, Option.map_eq_some_iff] at hop
      obtain ⟨e', he', ee⟩ := hop
      cases ee
      obtain ⟨a, rfl, hs⟩ := scr_seq hW (rv_av hr hav)
      exact .inl ⟨a, _, _, _, rfl, rfl, hs, atI_map he', q _ H rfl ⟨rfl, by simp [Vl]⟩⟩
  cases r with
  | sh d => exact flat [] d rfl he
  | fr ds => exact flat [] _ rfl he
  | bw ds => exact flat [] _ rfl he
  | tp => simp [evIx] at he
  | nf ts => simp [evIx] at he
  | nb ts =>
    simp only [evIx] at he
    obtain ⟨_, g', hg', ht⟩ := hr
    simp only [Tl] at ht
    obtain ⟨a, vs, g2, rfl, rfl, ha, hts⟩ := ht
    split at he
    · rename_i d hat
      cases he
      obtain ⟨j, ej, ej2⟩ := atI_ixN hat
      obtain ⟨v', g1, ev, ht1, sub⟩ := tls_get hts ej2
      simp only [Tl] at ht1
      refine .inl ⟨a, vs, i, v', rfl, rfl, SqL.of ha, ?_, q v' H rfl ⟨rfl, ht1.2⟩⟩
      unfold atI; rw [tls_len hts, ej]; exact ev
    · rename_i us hat
      cases he
      obtain ⟨j, ej, ej2⟩ := atI_ixN hat
      obtain ⟨v', g1, ev, ht1, sub⟩ := tls_get hts ej2
      refine .inl ⟨a, vs, i, v', rfl, rfl, SqL.of ha, ?_, q v' H rfl ⟨rfl, g1, fun b hb => hg' b (by simp [sub.subset hb]), ht1⟩⟩
      unfold atI; rw [tls_len hts, ej]; exact ev
    · cases he
theorem cutV_rep {ds : List D} {vs : List V} (h : Vls G M H ds vs) (lo hi : Option Int) : Vls G M H (cutD ds lo hi) (cutV vs lo hi) := by
  unfold cutD cutV
  rw [vls_len h]
  exact vls_take _ (vls_drop _ h)
theorem evSl_sound {d : D} {lo hi : Option Int} {r : Rv} (he : evSl d lo hi = some r) {v : V} (hv : Av G M H d v) (hD : ∀ b, M b → H b ≠ none) {Q : VK} (q : After G M B H r Q) : rSlAny K v lo hi H Q := by
  unfold evSl at he
  split at he
  · cases he
    obtain ⟨a, vs, rfl, ha, hs⟩ := hv.lst
    exact .inl ⟨a, vs, rfl, SqL.of ha, fun p hp => q.fr (cutV_rep hs lo hi) p hp⟩
  · rename_i xs
    cases he
    obtain ⟨a, vs, rfl, hm, ha, hs⟩ := hv.tup
    refine .inr ⟨a, vs, rfl, SqT.of ha, fun hw => ?_, fun hw p hp => q.tup hD (cutV_rep hs lo hi) p hp⟩
    refine q.same ?_
    simp only [Vl]
    refine ⟨a, vs, rfl, hm, ha, ?_⟩
    have e : cutD xs lo hi = xs := by
      unfold cutD
      rw [vls_len hs] at hw
      rw [hw.1, hw.2]
      simp
    rw [e]
    exact hs
  · cases he
/-- arguments of a call -/
theorem args_rep (hTB : ∀ a, G.to = some a → B a) (hMD : ∀ b ∈ g, ¬ M b) : ∀ {rs : List Rv} {vs : List V} {g : List Addr}, Rvs G (Mx M g1) B H rs vs g → (∀ b ∈ g, ¬ M b) → (∀ b ∈ g, G.to ≠ some b) →
    vs.length = (rs.map Rv.arg).length ∧ ∀ (i : Nat) s v, (rs.map Rv.arg)[i]? = some s → vs[i]? = some v → SlRep G M (Tb G) H s (some v) []
  | [], vs, g, h, hg, ht => by
    refine ⟨by simp [h.1], fun i s v e => by simp at e⟩
  | r :: rs, vs, g, ⟨v0, vs', ga, gb, e1, e2, h1, h2⟩, hg, ht => by
    obtain ⟨l, k⟩ := args_rep hTB hMD h2 (fun b hb => hg b (by rw [e2]; simp [hb])) (fun b hb => ht b (by rw [e2]; simp [hb]))
    subst e1
    refine ⟨by simp [l], fun i s v es ev => ?_⟩
    cases i with
    | succ i => exact k i s v (by simpa using es) (by simpa using ev)
    | zero =>
      simp only [List.map_cons, List.getElem?_cons_zero, Option.some.injEq] at es ev
      subst es ev
      have hga : ∀ b ∈ ga, ¬ M b := fun b hb => hg b (by rw [e2]; simp [hb])
      cases r with
      | sh d => exact ⟨rfl, v0, rfl, vl_tr (mono_h fun b h => .inl h) d v0 h1.2⟩
      | fr ds => exact ⟨rfl, v0, rfl, rv_shd (B := B) h1 rfl (fun b h => .inl h) hga⟩
      | bw ds =>
        obtain ⟨_, a, vs, ev, hb, ha, hs⟩ := h1
        exact ⟨rfl, a, vs, by rw [ev], fun z => hb (hTB a z), ha, vls_tr (mono_h fun b h => .inl h) _ _ hs⟩
      | tp =>
        obtain ⟨_, a, ha, ev⟩ := h1
        exact ⟨rfl, a, ha, by rw [ev]⟩
      | nf ts => exact ⟨rfl, v0, rfl, rv_shd (B := B) h1 rfl (fun b h => .inl h) hga⟩
      | nb ts =>
        obtain ⟨_, g', hg', ht'⟩ := h1
        exact ⟨rfl, v0, g', rfl, fun a ha z => hg' a ha (hTB a z), tl_tr (mono_h fun b h => .inl h) _ _ _ ht' (fun _ _ _ e => e)⟩
theorem ok_B {r : Rv} {v : V} (h : RvRep G M B H r v g) (hok : r.ok = true) : RvRep G M B' H r v g := by
  cases r with
  | sh d => exact h
  | fr ds => exact h
  | bw ds => simp [Rv.ok] at hok
  | tp => simp [Rv.ok] at hok
  | nf ts => exact h
  | nb ts => simp [Rv.ok] at hok
end
end Vs
/-! Vs11: sndE, sndA, sndT, sndO, sndI. -/
namespace Vs
open PySem L2
section
variable {G : Rg} {M M' S S' B B' P L : AP} {H H' H0 H1 : Hp} {K : PySem.W.Frag} {tp tp1 tp' : Tape} {env : Env} {σ : L2.St} {fs : List (List Addr)} {g g1 g2 : List Addr}
/-- the class Network's facts, where there is one -/
def NetOk (K : PySem.W.Frag) (N : NetI) : Prop := (N.ok → Cls K N.C ∧ NoAttr K N.C sWires ∧ NoAttr K N.C sComps) ∧ WrOk K N
theorem chain_lem {o1 o2 : Op} {a b c : SE} {Q : VK} (ho : (o1.bin && o2.bin) = true) (hD : ∀ b, M b → H b ≠ none) : True := trivial
theorem after_bl {k : Bool} {Q : VK} (h : Q (.bl k) H) : After G M B H (.sh (.bl k)) (fun v H' => v = .bl k ∧ (∀ b o, H b = some o → H' b = some o)) := fun v H' g ext rep nd fresh => ⟨by simpa [Vl] using rep.2, ext⟩
/-- the body of a comprehension with one element -/
theorem bsnd_one {el : SE} (h : ∀ env tp r tp', evE el env tp = some (r, tp') → ∀ M B σ H fs, SRep G M B env tp σ H fs → (∀ a, B a → a ∉ fs.flatten) → (∀ b, B b → M b) → ∀ Q, EAft G M B H tp' r Q → semE K G.N el σ H Q) :
    ∀ env tp rs tp', el1 (evE el env tp) = some (rs, tp') → ∀ M B σ H fs D acc0, SRep G M B env tp σ H fs → (∀ a, B a → a ∉ fs.flatten) → (∀ b, B b → M b) → H D = some (.lst acc0) → M D → B D → G.to ≠ some D → acc0.length + rs.length ≤ 1000000 →
      ∀ Nx : Hp → Prop, (∀ H', CInv G M B D acc0 H rs tp' H' → Nx H') → semE K G.N el σ H fun y H4 => ∃ acc, H4 D = some (.lst acc) ∧ acc.length < sizeLine ∧ Nx (upd H4 D (.lst (acc ++ [y]))) := by
  intro env tp rs tp' he M B σ H fs D acc0 R hBF hBM hD0 hMD hBD hTD hz Nx k
  unfold el1 at he
  split at he
  · rename_i r t er
    split at he
    · rename_i hok
      cases he
      refine h _ _ _ _ er _ _ _ _ _ R hBF hBM _ fun v H' g fr tpe rep nd fresh => ?_
      refine ⟨acc0, fr D _ hTD hD0, ?_, k _ ⟨[v], g, upd_same, ⟨v, [], g, [], rfl, by simp, ?_, rfl, rfl⟩, nd, fresh, ?_, ?_, by simpa using hok⟩⟩
      · have : acc0.length < 1000000 := by simp only [List.length_singleton] at hz; omega
        exact Nat.lt_of_lt_of_le this (by decide)
      · refine rv_mono (rv_gen (P := fun b => b = D) (g2 := []) rep hok (fun b hb => hb ▸ .inl hMD) (fun b hb z => ?_) (fun b o n e => by rw [upd_ne n]; exact e) (by simp)) (fun b h => .inl h)
        rw [z] at hb
        have := fresh D hb
        rw [hD0] at this
        cases this
      · exact fun b o n e => by
          rw [upd_ne (fun z => n (.inr z))]
          exact fr b o (fun z => n (.inl z)) e
      · exact fun a ha => by
          rw [upd_ne (fun z : a = D => hTD (z ▸ ha))]
          exact tpe a ha
    · cases he
  · cases he
theorem collect_sound {n : Bool} {rs : List Rv} {r : Rv} {D : Addr} {Hs H' : Hp} {tp9 : Tape} {Q : VK} (hc : collect n rs = some r) (hD1 : H1 D = none) (eHs : Hs = upd H1 D (.lst [])) (C : CInv G (Mx M [D]) B' D [] Hs rs tp9 H') (hMd : ∀ b, M b → H1 b ≠ none)
    (hTM : ∀ a, G.to = some a → M a) (t1 : Tp G tp1 H1) (q : EAft G M B H1 tp9 r Q) : Q (.ref D) H' := by
  obtain ⟨acc, gd, dd, rr, nd, fresh, frm, tpe, hok⟩ := C
  subst eHs
  simp only [List.nil_append] at dd
  have hMD : ¬ M D := fun h => hMd D h hD1
  have hgd1 : ∀ b ∈ gd, H1 b = none := fun b hb => by
    have := fresh b hb
    by_cases e : b = D
    · rw [e]; exact hD1
    · rw [upd_ne e] at this; exact this
  have hDg : D ∉ gd := fun h => by
    have := fresh D h
    rw [upd_same] at this
    cases this
  have fr : Fr G H1 H' := fun b o n e => by
    have ne : b ≠ D := ne_of_none e hD1
    exact frm b o (fun z => z.elim n ne) (by rw [upd_ne ne]; exact e)
  unfold collect at hc
  split at hc
  · simp only [Option.map_eq_some_iff] at hc
    obtain ⟨ts, et, rfl⟩ := hc
    refine q _ _ (D :: gd) fr tpe ⟨D, acc, gd, rfl, rfl, dd, ?_⟩ ?_ ?_
    · refine tls_tr (mono_h fun b h => ?_) _ _ _ (rvs_trees rr et) (fun _ _ _ e => e)
      rcases h with h | h
      · exact .inl (.inl h)
      · rcases List.mem_cons.mp h with h | h
        · exact .inl (.inr (by simp [h]))
        · exact .inr h
    · exact List.nodup_cons.mpr ⟨hDg, nd⟩
    · intro b hb
      rcases List.mem_cons.mp hb with hb | hb
      · rw [hb]; exact hD1
      · exact hgd1 b hb
  · simp only [Option.map_eq_some_iff] at hc
    obtain ⟨ds, et, rfl⟩ := hc
    refine q _ _ [D] fr tpe ⟨D, acc, rfl, rfl, dd, ?_⟩ (by simp) (by simpa using hD1)
    refine rvs_shds (fun b h => .inl h) rr et fun b hb z => ?_
    rcases z with z | z
    · exact hMd b z (hgd1 b hb)
    · rw [List.mem_singleton] at z
      exact hDg (z ▸ hb)
theorem items_rep {r : Rv} {ss : List Sl} {v : V} (h : RvRep G (Mx M g) B H r v g) (hg : ∀ b ∈ g, ¬ M b) (e : r.items = some ss) (L : AP) (hLM : ∀ b, L b → M b) (hLB : ∀ b, L b → B b) (hBg : ∀ ts, r = .nf ts → ∀ b ∈ g, ¬ B b) :
    ∃ a vs, v = .ref a ∧ ¬ L a ∧ ItAt G M L B H ss vs ∧ (H a = some (.lst vs) ∨ H a = some (.tup vs)) := by
  have dn : ∀ {ds : List D} {vs : List V}, Vls G (Mx M g) H ds vs → Vls G M H ds vs := fun h => vls_tr (mono_h fun b h => .inl h) _ _ h
  cases r with
  | sh d =>
    cases d with
    | lst ds =>
      simp only [Rv.items, Option.some.injEq] at e
      subst e
      have hv := h.2
      simp only [Vl] at hv
      obtain ⟨a, vs, rfl, hm, ha, hs⟩ := hv
      exact ⟨a, vs, rfl, fun z => hm (.inl (hLM a z)), itat_sh hLM (dn hs), .inl ha⟩
    | tup ds =>
      simp only [Rv.items, Option.some.injEq] at e
      subst e
      have hv := h.2
      simp only [Vl] at hv
      obtain ⟨a, vs, rfl, hm, ha, hs⟩ := hv
      exact ⟨a, vs, rfl, fun z => hm (.inl (hLM a z)), itat_sh hLM (dn hs), .inr ha⟩
    | non => simp [Rv.items] at e
    | bl _ => simp [Rv.items] at e
    | int _ => simp [Rv.items] at e
    | str _ => simp [Rv.items] at e
    | net _ _ => simp [Rv.items] at e
    | scr _ => simp [Rv.items] at e
  | fr ds =>
    simp only [Rv.items, Option.some.injEq] at e
    subst e
    obtain ⟨a, vs, eg, rfl, ha, hs⟩ := h
    exact ⟨a, vs, rfl, fun z => hg a (by rw [eg]; simp) (hLM a z), itat_sh hLM (dn hs), .inl ha⟩
  | bw ds =>
    simp only [Rv.items, Option.some.injEq] at e
    subst e
    obtain ⟨_, a, vs, rfl, hb, ha, hs⟩ := h
    exact ⟨a, vs, rfl, fun z => hb (hLB a z), itat_sh hLM (dn hs), .inl ha⟩
  | tp => simp [Rv.items] at e
  | nf ts =>
    simp only [Rv.items, Option.some.injEq] at e
    subst e
    simp only [RvRep, Tl] at h
    obtain ⟨a, vs, g', rfl, rfl, ha, hs⟩ := h
    refine ⟨a, vs, rfl, fun z => hg a (by simp) (hLM a z), itat_tree hLM (tls_tr (mono_h fun b h => .inl h) _ _ _ hs (fun _ _ _ e => e)) (fun b hb z => hg b (by simp [hb]) (hLM b z)) (fun b hb => hBg ts rfl b (by simp [hb])), .inl ha⟩
  | nb ts =>
    simp only [Rv.items, Option.some.injEq] at e
    subst e
    obtain ⟨_, g', hg', ht⟩ := h
    simp only [Tl] at ht
    obtain ⟨a, vs, g2, rfl, rfl, ha, hs⟩ := ht
    exact ⟨a, vs, rfl, fun z => hg' a (by simp) (hLB a z), itat_tree hLM (tls_tr (mono_h fun b h => .inl h) _ _ _ hs (fun _ _ _ e => e)) (fun b hb z => hg' b (by simp [hb]) (hLB b z)) (fun b hb => hg' b (by simp [hb])), .inl ha⟩
theorem shds_len : ∀ {rs : List Rv} {ds : List D}, shds rs = some ds → ds.length = rs.length
  | [], ds, h => by simp only [shds, Option.some.injEq] at h; subst h; rfl
  | r :: rs, ds, h => by
    unfold shds at h
    split at h
    · rename_i d ds' q1 q2
      cases h
      simp [shds_len q2]
    · cases h
theorem ok_no {r : Rv} (h : r.ok = true) : True := trivial

theorem rgc_ok {i j c : Int} (hc : okR c = true) (h0 : c ≠ 0) (hs : Builtin.Range.small i j c = true) (hn : 0 ≤ Builtin.Range.rangeSize i j c) : RgC i j c (Builtin.Range.rangeSize i j c).toNat := by
  simp only [okR, decide_eq_true_eq] at hc
  exact ⟨h0, by omega, hs, by omega⟩
theorem stab_lem {e : SE} {r : Rv} (ih : ∀ (M B : AP) (σ : L2.St) (H : Hp) (fs : List (List Addr)), SRep G M B env tp σ H fs → (∀ a, B a → a ∉ fs.flatten) → (∀ b, B b → M b) → ∀ Q, EAft G M B H tp1 r Q → semE K G.N e σ H Q) (he : evE e env tp = some (r, tp1))
    (R : SRep G M S env tp σ H fs) (hTB : ∀ a, G.to = some a → B a) (hBS : ∀ b, B b → S b) (hBF : ∀ a, B a → a ∉ fs.flatten) (hBM : ∀ b, B b → M b) (Q : VK) (q : EAft G M (if stabE e r env = true then S else B) H tp1 r Q) : semE K G.N e σ H Q := by
  have R0 := srep_S R hBS hTB
  cases hst : stabE e r env with
  | false =>
    rw [hst] at q
    exact ih M B σ H fs R0 hBF hBM Q q
  | true =>
    rw [hst] at q
    by_cases hok : r.ok = true
    · exact ih M B σ H fs R0 hBF hBM Q fun v H' g fr t rep nd fresh => q v H' g fr t (ok_B rep hok) nd fresh
    · have hv : ∃ i s, e = .var i ∧ env[i]? = some s ∧ ((∃ ds, s = .bw ds) ∨ (∃ ts, s = .nb ts)) := by
        unfold stabE at hst
        split at hst
        · simp [Rv.ok] at hok
        · simp [Rv.ok] at hok
        · split at hst
          · split at hst
            · rename_i es; exact ⟨_, _, rfl, es, .inl ⟨_, rfl⟩⟩
            · cases hst
          · cases hst
        · split at hst
          · split at hst
            · rename_i es; exact ⟨_, _, rfl, es, .inr ⟨_, rfl⟩⟩
            · cases hst
          · cases hst
        · cases hst
      obtain ⟨i, s, rfl, es, hs⟩ := hv
      simp only [evE, es, Option.map_eq_some_iff] at he
      obtain ⟨_, er, ee⟩ := he
      cases ee
      have hi : i < σ.length := by rw [← R.len]; exact (List.getElem?_eq_some_iff.mp es).1
      have hi2 : i < fs.length := by rw [R.len2]; exact hi
      have rep := R.slot i s σ[i] fs[i] es (List.getElem?_eq_getElem hi) (List.getElem?_eq_getElem hi2)
      rcases hs with ⟨ds, rfl⟩ | ⟨ts, rfl⟩
      · cases er
        obtain ⟨_, a, vs, ev, hn, ha, hs⟩ := rep
        exact ⟨_, by rw [List.getElem?_eq_getElem hi, ev], q _ H [] Fr.refl R.tpe ⟨rfl, a, vs, rfl, hn, ha, vls_mx0 hs⟩ .nil (by simp)⟩
      · cases er
        obtain ⟨_, v, g', ev, hn, ht⟩ := rep
        exact ⟨_, by rw [List.getElem?_eq_getElem hi, ev], q _ H [] Fr.refl R.tpe ⟨rfl, g', hn, tl_tr (mono_h fun b h => mx0 h) _ _ _ ht (fun _ _ _ e => e)⟩ .nil (by simp)⟩
theorem flat_rep {r : Rv} {ds : List D} {v : V} (h : RvRep G (Mx M g) B H r v g) (hg : ∀ b ∈ g, ¬ M b) (e : r.av = some (.lst ds)) (hLM : ∀ b, L b → M b) (hLB : ∀ b, L b → B b) :
    ∃ a vs, v = .ref a ∧ ¬ L a ∧ Vls G M H ds vs ∧ H a = some (.lst vs) := by
  have dn : ∀ {ds : List D} {vs : List V}, Vls G (Mx M g) H ds vs → Vls G M H ds vs := fun h => vls_tr (mono_h fun b h => .inl h) _ _ h
  cases r with
  | sh d =>
    simp only [Rv.av, Option.some.injEq] at e
    subst e
    have hv := h.2
    simp only [Vl] at hv
    obtain ⟨a, vs, rfl, hm, ha, hs⟩ := hv
    exact ⟨a, vs, rfl, fun z => hm (.inl (hLM a z)), dn hs, ha⟩
  | fr ds' =>
    simp only [Rv.av, Option.some.injEq] at e
    cases e
    obtain ⟨a, vs, eg, rfl, ha, hs⟩ := h
    exact ⟨a, vs, rfl, fun z => hg a (by rw [eg]; simp) (hLM a z), dn hs, ha⟩
  | bw ds' =>
    simp only [Rv.av, Option.some.injEq] at e
    cases e
    obtain ⟨_, a, vs, rfl, hb, ha, hs⟩ := h
    exact ⟨a, vs, rfl, fun z => hb (hLB a z), dn hs, ha⟩
  | tp => simp [Rv.av] at e
  | nf ts =>
    simp only [Rv.av, Option.map_eq_some_iff] at e
    obtain ⟨ds', e, ee⟩ := e
    cases ee
    rw [lvs_eq e] at h
    simp only [RvRep, Tl] at h
    obtain ⟨a, vs, g', rfl, rfl, ha, hs⟩ := h
    exact ⟨a, vs, rfl, fun z => hg a (by simp) (hLM a z), dn (leaf_tls hs).2, ha⟩
  | nb ts =>
    simp only [Rv.av, Option.map_eq_some_iff] at e
    obtain ⟨ds', e, ee⟩ := e
    cases ee
    rw [lvs_eq e] at h
    simp only [RvRep, Tl] at h
    obtain ⟨_, g', hg', a, vs, g2, rfl, rfl, ha, hs⟩ := h
    exact ⟨a, vs, rfl, fun z => hg' a (by simp) (hLB a z), dn (leaf_tls hs).2, ha⟩
theorem flat_repT {r : Rv} {ds : List D} {v : V} (h : RvRep G (Mx M g) B H r v g) (e : r.av = some (.tup ds)) (hLM : ∀ b, L b → M b) :
    ∃ a vs, v = .ref a ∧ ¬ L a ∧ Vls G M H ds vs ∧ H a = some (.tup vs) := by
  have dn : ∀ {ds : List D} {vs : List V}, Vls G (Mx M g) H ds vs → Vls G M H ds vs := fun h => vls_tr (mono_h fun b h => .inl h) _ _ h
  cases r with
  | sh d =>
    simp only [Rv.av, Option.some.injEq] at e
    subst e
    have hv := h.2
    simp only [Vl] at hv
    obtain ⟨a, vs, rfl, hm, ha, hs⟩ := hv
    exact ⟨a, vs, rfl, fun z => hm (.inl (hLM a z)), dn hs, ha⟩
  | fr ds' => simp [Rv.av] at e
  | bw ds' => simp [Rv.av] at e
  | tp => simp [Rv.av] at e
  | nf ts => simp [Rv.av] at e
  | nb ts => simp [Rv.av] at e
theorem kind_ty {T : String} {d : D} {v : V} (hk : d.kindIs T = true) (h : Vl G M H d v) (hT : T = "tuple" → False) : tyV K T v H := by
  cases d <;> simp only [D.kindIs, Bool.false_eq_true, beq_iff_eq] at hk
  · subst hk
    simp only [Vl] at h
    subst h
    rfl
  · exact (hT hk).elim
  · subst hk
    simp only [Vl] at h
    obtain ⟨a, vs, rfl, _, ha, hs⟩ := h
    exact .inl ⟨rfl, vs, SqL.of ha⟩
theorem rep_after {r : Rv} {Q : VK} (q : EAft G M B H tp1 r Q) (fr : Fr G H H1) (t : Tp G tp1 H1) : After G M B H1 r Q := fun v H' g ext rep nd fresh =>
  q v H' g (fr.trans (Fr.ofExt ext)) (fun x hx => ext x _ (t x hx)) rep nd fun b hb => fr_back fr t (fresh b hb)
mutual
theorem sndE (hG : NetOk K G.N) : ∀ (e : SE) (env : Env) (tp : Tape) (r : Rv) (tp' : Tape), evE e env tp = some (r, tp') → ∀ (M B : AP) (σ : L2.St) (H : Hp) (fs : List (List Addr)), SRep G M B env tp σ H fs → (∀ a, B a → a ∉ fs.flatten) → (∀ b, B b → M b) →
    ∀ Q, EAft G M B H tp' r Q → semE K G.N e σ H Q
  | .var i, env, tp, r, tp', he, M, B, σ, H, fs, R, hBF, hBM, Q, q => by
    simp only [evE] at he
    split at he
    · rename_i s es
      simp only [Option.map_eq_some_iff] at he
      obtain ⟨r0, er, ee⟩ := he
      cases ee
      have hi : i < σ.length := by rw [← R.len]; exact (List.getElem?_eq_some_iff.mp es).1
      have hi2 : i < fs.length := by rw [R.len2]; exact hi
      have rep := R.slot i s σ[i] fs[i] es (List.getElem?_eq_getElem hi) (List.getElem?_eq_getElem hi2)
      have fin : ∀ v, σ[i] = some v → RvRep G M B H r v [] → semE K G.N (.var i) σ H Q := fun v ev hr => ⟨v, by rw [List.getElem?_eq_getElem hi, ev], q v H [] Fr.refl R.tpe (rv_next hr R.hT' R.hS (by simp) Fr.refl (by simp)) .nil (by simp)⟩
      have hf : ∀ b ∈ fs[i], ¬ B b := fun b hb z => hBF b z (List.mem_flatten.mpr ⟨fs[i], List.getElem_mem hi2, hb⟩)
      cases s with
      | un => cases er
      | sh d => cases er; obtain ⟨_, v, ev, hv⟩ := rep; exact fin v ev ⟨rfl, hv⟩
      | ow ds => cases er; obtain ⟨a, vs, ef, ev, ha, hs⟩ := rep; exact fin _ ev ⟨rfl, a, vs, rfl, hf a (by rw [ef]; simp), ha, hs⟩
      | bw ds => cases er; obtain ⟨_, a, vs, ev, hn, ha, hs⟩ := rep; exact fin _ ev ⟨rfl, a, vs, rfl, hn, ha, hs⟩
      | tp => cases er; obtain ⟨_, a, ha, ev⟩ := rep; exact fin _ ev ⟨rfl, a, ha, rfl⟩
      | nt ts => cases er; obtain ⟨v, ev, ht⟩ := rep; exact fin _ ev ⟨rfl, fs[i], hf, ht⟩
      | nb ts => cases er; obtain ⟨_, v, g', ev, hn, ht⟩ := rep; exact fin _ ev ⟨rfl, g', hn, ht⟩
    · cases he
  | .cst d, env, tp, r, tp', he, M, B, σ, H, fs, R, hBF, hBM, Q, q => by
    simp only [evE] at he
    split at he
    · rename_i hs
      cases he
      exact q _ H [] Fr.refl R.tpe ⟨rfl, by cases d <;> first | (simp [scalD] at hs; done) | simp [Vl, scalV]⟩ .nil (by simp)
    · cases he
  | .op o as, env, tp, r, tp', he, M, B, σ, H, fs, R, hBF, hBM, Q, q => by
    simp only [evE] at he
    split at he
    · rename_i rs tp1 ea
      split at he
      · rename_i ds eds
        simp only [Option.map_eq_some_iff] at he
        obtain ⟨r0, er, ee⟩ := he
        cases ee
        refine sndA hG as env tp rs _ ea M B σ H fs R hBF hBM _ fun vs H1 g fr t1 rep nd fresh => ?_
        exact op_sound hG.2 o ds _ er vs (rvs_avs rep eds) (srep_next R fr t1 fresh (own_def (rvs_own rep))).hD _ (q.after fr t1)
      · cases he
    · cases he
  | .ix a i, env, tp, r, tp', he, M, B, σ, H, fs, R, hBF, hBM, Q, q => by
    simp only [evE] at he
    split at he
    · rename_i ra tp1 ea
      split at he
      · rename_i k tp2 ei
        simp only [Option.map_eq_some_iff] at he
        obtain ⟨r0, er, ee⟩ := he
        cases ee
        refine sndE hG a env tp ra _ ea M B σ H fs R hBF hBM _ fun v H1 g fr t1 rep nd fresh => ?_
        have R1 := srep_mx R fr t1 fresh rep
        refine sndE hG i env tp1 _ _ ei _ B σ H1 fs R1 hBF (fun b hb => .inl (hBM b hb)) _ fun w H2 g2 fr2 t2 rep2 nd2 fresh2 => ?_
        rw [sh_int rep2]
        have rep' := rv_next rep R1.hT' R.hS (no_ta R fresh) fr2 fresh2
        refine evIx_sound hG.2 er rep' (srep_mx R1 fr2 t2 fresh2 rep2).hD fun v' H' eH rv => ?_
        subst eH
        refine q v' _ [] (fr.trans fr2) t2 (rv_mono rv fun b h => ?_) .nil (by simp)
        exact h.elim (fun h => .inl (.inl h)) (by simp)
      · cases he
    · cases he
  | .chain o1 o2 a b c, env, tp, r, tp', he, M, B, σ, H, fs, R, hBF, hBM, Q, q => by
    simp only [evE] at he
    split at he
    · rename_i ho
      simp only [Bool.and_eq_true] at ho
      split at he
      · rename_i da tp1 ea
        split at he
        · rename_i db tp2 eb
          refine sndE hG a env tp _ _ ea M B σ H fs R hBF hBM _ fun va H1 g fr1 t1 rep1 nd1 fresh1 => ?_
          have R1 := srep_nx R fr1 t1
          have w1 : Vl G M H1 da va := vl_tr (mono_h fun b h => .inl h) _ _ rep1.2
          refine sndE hG b env tp1 _ _ eb M B σ H1 fs R1 hBF hBM _ fun vb H2 g2 fr2 t2 rep2 nd2 fresh2 => ?_
          have R2 := srep_nx R1 fr2 t2
          have w1' : Vl G M H2 da va := vl_tr (fun b o e m => ⟨m, fr2 b o (fun z => m (R.hT' b z)) e⟩) _ _ w1
          have w2 : Vl G M H2 db vb := vl_tr (mono_h fun b h => .inl h) _ _ rep2.2
          split at he
          · rename_i e1
            refine op2_sound hG.2 ho.1 e1 w1' w2 R2.hD (B := B) fun vk H3 g3 ext3 rep3 nd3 fresh3 => ?_
            refine ⟨true, sh_bl rep3, ?_⟩
            rw [if_pos rfl]
            have t3 : Tp G tp2 H3 := fun x hx => ext3 x _ (t2 x hx)
            have R3 := srep_nx R2 (Fr.ofExt ext3) t3
            split at he
            · rename_i dc tp3 ec
              simp only [Option.map_eq_some_iff] at he
              obtain ⟨r0, er, ee⟩ := he
              cases ee
              refine sndE hG c env tp2 _ _ ec M B σ H3 fs R3 hBF hBM _ fun vc H4 g4 fr4 t4 rep4 nd4 fresh4 => ?_
              have R4 := srep_nx R3 fr4 t4
              have w2' : Vl G M H4 db vb := vl_tr (fun b o e m => ⟨m, fr4 b o (fun z => m (R.hT' b z)) (ext3 b o e)⟩) _ _ w2
              have w4 : Vl G M H4 dc vc := vl_tr (mono_h fun b h => .inl h) _ _ rep4.2
              exact op2_sound hG.2 ho.2 er w2' w4 R4.hD (rep_after (q := q) (fr := ((fr1.trans fr2).trans (Fr.ofExt ext3)).trans fr4) (t := t4))
            · cases he
          · rename_i e1
            cases he
            refine op2_sound hG.2 ho.1 e1 w1' w2 R2.hD (B := B) fun vk H3 g3 ext3 rep3 nd3 fresh3 => ?_
            refine ⟨false, sh_bl rep3, ?_⟩
            rw [if_neg (by simp)]
            exact q _ _ [] ((fr1.trans fr2).trans (Fr.ofExt ext3)) (fun x hx => ext3 x _ (t2 x hx)) ⟨rfl, by simp [Vl]⟩ .nil (by simp)
          · cases he
        · cases he
      · cases he
    · cases he
  | .chain3 o1 o2 o3 a b c d, env, tp, r, tp', he, M, B, σ, H, fs, R, hBF, hBM, Q, q => by
    simp only [evE] at he
    split at he
    · rename_i ho
      simp only [Bool.and_eq_true] at ho
      split at he
      · rename_i da tp1 ea
        split at he
        · rename_i db tp2 eb
          refine sndE hG a env tp _ _ ea M B σ H fs R hBF hBM _ fun va H1 g fr1 t1 rep1 nd1 fresh1 => ?_
          have R1 := srep_nx R fr1 t1
          have w1 : Vl G M H1 da va := vl_tr (mono_h fun b h => .inl h) _ _ rep1.2
          refine sndE hG b env tp1 _ _ eb M B σ H1 fs R1 hBF hBM _ fun vb H2 g2 fr2 t2 rep2 nd2 fresh2 => ?_
          have R2 := srep_nx R1 fr2 t2
          have w1' : Vl G M H2 da va := vl_tr (fun b o e m => ⟨m, fr2 b o (fun z => m (R.hT' b z)) e⟩) _ _ w1
          have w2 : Vl G M H2 db vb := vl_tr (mono_h fun b h => .inl h) _ _ rep2.2
          split at he
          · rename_i e1
            refine op2_sound hG.2 ho.1.1 e1 w1' w2 R2.hD (B := B) fun vk H3 g3 ext3 rep3 nd3 fresh3 => ?_
            refine ⟨true, sh_bl rep3, ?_⟩
            rw [if_pos rfl]
            have t3 : Tp G tp2 H3 := fun x hx => ext3 x _ (t2 x hx)
            have R3 := srep_nx R2 (Fr.ofExt ext3) t3
            split at he
            · rename_i dc tp3 ec
              refine sndE hG c env tp2 _ _ ec M B σ H3 fs R3 hBF hBM _ fun vc H4 g4 fr4 t4 rep4 nd4 fresh4 => ?_
              have R4 := srep_nx R3 fr4 t4
              have w2' : Vl G M H4 db vb := vl_tr (fun b o e m => ⟨m, fr4 b o (fun z => m (R.hT' b z)) (ext3 b o e)⟩) _ _ w2
              have w4 : Vl G M H4 dc vc := vl_tr (mono_h fun b h => .inl h) _ _ rep4.2
              split at he
              · rename_i e2
                refine op2_sound hG.2 ho.1.2 e2 w2' w4 R4.hD (B := B) fun vk H5 g5 ext5 rep5 nd5 fresh5 => ?_
                refine ⟨true, sh_bl rep5, ?_⟩
                rw [if_pos rfl]
                have t5 : Tp G tp3 H5 := fun x hx => ext5 x _ (t4 x hx)
                have R5 := srep_nx R4 (Fr.ofExt ext5) t5
                split at he
                · rename_i dd tp4 ed
                  simp only [Option.map_eq_some_iff] at he
                  obtain ⟨_, er, ee⟩ := he
                  cases ee
                  refine sndE hG d env tp3 _ _ ed M B σ H5 fs R5 hBF hBM _ fun vd H6 g6 fr6 t6 rep6 nd6 fresh6 => ?_
                  have R6 := srep_nx R5 fr6 t6
                  have w4' : Vl G M H6 dc vc := vl_tr (fun b o e m => ⟨m, fr6 b o (fun z => m (R.hT' b z)) (ext5 b o e)⟩) _ _ w4
                  have w6 : Vl G M H6 dd vd := vl_tr (mono_h fun b h => .inl h) _ _ rep6.2
                  exact op2_sound hG.2 ho.2 er w4' w6 R6.hD (rep_after (q := q) (fr := ((((fr1.trans fr2).trans (Fr.ofExt ext3)).trans fr4).trans (Fr.ofExt ext5)).trans fr6) (t := t6))
                · cases he
              · rename_i e2
                cases he
                refine op2_sound hG.2 ho.1.2 e2 w2' w4 R4.hD (B := B) fun vk H5 g5 ext5 rep5 nd5 fresh5 => ?_
                refine ⟨false, sh_bl rep5, ?_⟩
                rw [if_neg (by simp)]
                exact q _ _ [] ((((fr1.trans fr2).trans (Fr.ofExt ext3)).trans fr4).trans (Fr.ofExt ext5)) (fun x hx => ext5 x _ (t4 x hx)) ⟨rfl, by simp [Vl]⟩ .nil (by simp)
              · cases he
            · cases he
          · rename_i e1
            cases he
            refine op2_sound hG.2 ho.1.1 e1 w1' w2 R2.hD (B := B) fun vk H3 g3 ext3 rep3 nd3 fresh3 => ?_
            refine ⟨false, sh_bl rep3, ?_⟩
            rw [if_neg (by simp)]
            exact q _ _ [] ((fr1.trans fr2).trans (Fr.ofExt ext3)) (fun x hx => ext3 x _ (t2 x hx)) ⟨rfl, by simp [Vl]⟩ .nil (by simp)
          · cases he
        · cases he
      · cases he
    · cases he
  | .andV a b, env, tp, r, tp', he, M, B, σ, H, fs, R, hBF, hBM, Q, q => by
    simp only [evE] at he
    split at he
    · rename_i tp1 ea
      refine sndE hG a env tp _ _ ea M B σ H fs R hBF hBM _ fun va H1 g fr1 t1 rep1 nd1 fresh1 => ?_
      refine ⟨true, sh_bl rep1, ?_⟩
      rw [if_pos rfl]
      exact sndE hG b env tp1 _ _ he M B σ H1 fs (srep_nx R fr1 t1) hBF hBM _ (q.step0 fr1 t1)
    · rename_i tp1 ea
      cases he
      refine sndE hG a env tp _ _ ea M B σ H fs R hBF hBM _ fun va H1 g fr1 t1 rep1 nd1 fresh1 => ?_
      refine ⟨false, sh_bl rep1, ?_⟩
      rw [if_neg (by simp)]
      exact q _ _ [] fr1 t1 ⟨rfl, by simp [Vl]⟩ .nil (by simp)
    · cases he
  | .orV a b, env, tp, r, tp', he, M, B, σ, H, fs, R, hBF, hBM, Q, q => by
    simp only [evE] at he
    split at he
    · rename_i tp1 ea
      refine sndE hG a env tp _ _ ea M B σ H fs R hBF hBM _ fun va H1 g fr1 t1 rep1 nd1 fresh1 => ?_
      refine ⟨false, sh_bl rep1, ?_⟩
      rw [if_neg (by simp)]
      exact sndE hG b env tp1 _ _ he M B σ H1 fs (srep_nx R fr1 t1) hBF hBM _ (q.step0 fr1 t1)
    · rename_i tp1 ea
      cases he
      refine sndE hG a env tp _ _ ea M B σ H fs R hBF hBM _ fun va H1 g fr1 t1 rep1 nd1 fresh1 => ?_
      refine ⟨true, sh_bl rep1, ?_⟩
      rw [if_pos rfl]
      exact q _ _ [] fr1 t1 ⟨rfl, by simp [Vl]⟩ .nil (by simp)
    · cases he
  | .notV a, env, tp, r, tp', he, M, B, σ, H, fs, R, hBF, hBM, Q, q => by
    simp only [evE] at he
    split at he
    · rename_i b tp1 ea
      cases he
      refine sndE hG a env tp _ _ ea M B σ H fs R hBF hBM _ fun va H1 g fr1 t1 rep1 nd1 fresh1 => ?_
      exact ⟨b, sh_bl rep1, q _ _ [] fr1 t1 ⟨rfl, by simp [Vl]⟩ .nil (by simp)⟩
    · cases he
  | .ifE c a b, env, tp, r, tp', he, M, B, σ, H, fs, R, hBF, hBM, Q, q => by
    simp only [evE] at he
    split at he
    · rename_i tp1 ec
      refine sndT hG c env tp _ _ ec M B σ H fs R hBF hBM _ fun H1 fr1 t1 => ?_
      rw [if_pos rfl]
      exact sndE hG a env tp1 _ _ he M B σ H1 fs (srep_nx R fr1 t1) hBF hBM _ (q.step0 fr1 t1)
    · rename_i tp1 ec
      refine sndT hG c env tp _ _ ec M B σ H fs R hBF hBM _ fun H1 fr1 t1 => ?_
      rw [if_neg (by simp)]
      exact sndE hG b env tp1 _ _ he M B σ H1 fs (srep_nx R fr1 t1) hBF hBM _ (q.step0 fr1 t1)
    · cases he
  | .tup as, env, tp, r, tp', he, M, B, σ, H, fs, R, hBF, hBM, Q, q => by
    simp only [evE] at he
    split at he
    · rename_i rs tp1 ea
      split at he
      · rename_i ds eds
        split at he
        · rename_i hz
          cases he
          refine sndA hG as env tp rs _ ea M B σ H fs R hBF hBM _ fun vs H1 g fr t1 rep nd fresh => ?_
          have R1 := srep_nx R fr t1
          have w : Vls G M H1 ds vs := rvs_shds (fun b h => .inl h) rep eds fun b hb m => R.hD b m (fresh b hb)
          refine ⟨by rw [vls_len w]; exact sz_ok hz, fun p hp => ?_⟩
          exact (rep_after q fr t1).tup R1.hD w p hp
        · cases he
      · cases he
    · cases he
  | .lst n as, env, tp, r, tp', he, M, B, σ, H, fs, R, hBF, hBM, Q, q => by
    simp only [evE] at he
    split at he
    · rename_i rs tp1 ea
      split at he
      · rename_i hz
        simp only [Option.map_eq_some_iff] at he
        obtain ⟨_, er, ee⟩ := he
        cases ee
        refine sndA hG as env tp rs _ ea M B σ H fs R hBF hBM _ fun vs H1 g fr t1 rep nd fresh => ?_
        refine ⟨by rw [rvs_len rep]; exact sz_ok hz, fun p hp => ?_⟩
        have gdef := own_def (rvs_own rep)
        have hpg : p ∉ g := fun h => gdef p h hp
        unfold collect at er
        split at er
        · simp only [Option.map_eq_some_iff] at er
          obtain ⟨ts, et, rfl⟩ := er
          refine q _ _ (p :: g) (fr.trans (Fr.ofExt (ext_new hp))) (fun x hx => ext_new hp x _ (t1 x hx)) ⟨p, vs, g, rfl, rfl, upd_same, ?_⟩ (List.nodup_cons.mpr ⟨hpg, nd⟩) ?_
          · refine tls_tr (fun a o e m => ⟨fun z => ?_, ext_new hp a o e⟩) _ _ _ (rvs_trees rep et) (fun a _ o e => ext_new hp a o e)
            rcases z with z | z
            · exact m (.inl z)
            · rcases List.mem_cons.mp z with z | z
              · exact ne_of_none e hp z
              · exact m (.inr z)
          · intro b hb
            rcases List.mem_cons.mp hb with hb | hb
            · rw [hb]; exact fr_back fr t1 hp
            · exact fresh b hb
        · simp only [Option.map_eq_some_iff] at er
          obtain ⟨ds, et, rfl⟩ := er
          have w : Vls G M H1 ds vs := rvs_shds (fun b h => .inl h) rep et fun b hb m => R.hD b m (fresh b hb)
          exact (rep_after q fr t1).fr w p hp
      · cases he
    · cases he
  | .sl a lo hi, env, tp, r, tp', he, M, B, σ, H, fs, R, hBF, hBM, Q, q => by
    simp only [evE] at he
    split at he
    · rename_i ra tp1 ea
      split at he
      · rename_i d ed
        split at he
        · rename_i l tp2 el
          split at he
          · rename_i h tp3 eh
            simp only [Option.map_eq_some_iff] at he
            obtain ⟨_, er, ee⟩ := he
            cases ee
            refine sndE hG a env tp _ _ ea M B σ H fs R hBF hBM _ fun va H1 g fr1 t1 rep1 nd1 fresh1 => ?_
            have R1 := srep_mx R fr1 t1 fresh1 rep1
            refine sndO hG lo env tp1 _ _ el _ B σ H1 fs R1 hBF (fun b hb => .inl (hBM b hb)) _ fun H2 fr2 t2 => ?_
            have R2 := srep_nx R1 fr2 t2
            refine sndO hG hi env tp2 _ _ eh _ B σ H2 fs R2 hBF (fun b hb => .inl (hBM b hb)) _ fun H3 fr3 t3 => ?_
            have R3 := srep_nx R2 fr3 t3
            have rep3 := rv_mono (rv_next rep1 R1.hT' R.hS (no_ta R fresh1) (fr2.trans fr3) (g2 := []) (by simp)) (fun b h => .inl h) (M' := Mx M g)
            exact evSl_sound er (rv_av rep3 ed) R3.hD (q.after ((fr1.trans fr2).trans fr3) t3)
          · cases he
        · cases he
      · cases he
    · cases he
  | .lc n it t c el vs, env, tp, r, tp', he, M, B, σ, H, fs, R, hBF, hBM, Q, q => by
    simp only [evE] at he
    split at he
    · rename_i ss st tp1 ei
      split at he
      · rename_i hv
        split at he
        · rename_i rs tp2 el2
          split at he
          · rename_i hz
            simp only [Option.map_eq_some_iff] at he
            obtain ⟨_, er, ee⟩ := he
            cases ee
            refine sndI hG it env tp _ _ _ ei M B B σ H fs R R.hS (fun b h => h) hBF hBM B (fun b h => h) hBM (fun b h => h) _ fun J H1 fr1 t1 I1 => ?_
            have I1 : Itm K G M B B H1 J ss := by cases st <;> exact I1
            intro D hD
            have R1 := srep_nx R fr1 t1
            have Rn := (srep_wipe (srep_new R1 hD (o := .lst [])) vs)
            refine lcGo_sound (bd := fun σ2 H3 D Nx => semE K G.N el σ2 H3 fun y H4 => ∃ acc, H4 D = some (.lst acc) ∧ acc.length < sizeLine ∧ Nx (upd H4 D (.lst (acc ++ [y])))) (c := fun e t => evT c e t) (el := fun e t => el1 (evE el e t))
              (fun env tp b tp' h => sndT hG c env tp b tp' h) (bsnd_one fun env tp r tp' h => sndE hG el env tp r tp' h) hv (itm_new I1 hD) el2 Rn.1 (fun a ha z => ?_) (fun b hb => ?_) upd_same (.inr (by simp)) (.inr rfl) ?_ ?_ ?_
            · have z' := Rn.2 a z
              rcases ha with ha | ha
              · exact hBF a ha z'
              · subst ha; exact R1.hD a (R1.hM a z') hD
            · rcases hb with hb | hb
              · exact .inl (hBM b hb)
              · exact .inr (by simp [hb])
            · intro z
              rw [t1 D z] at hD
              cases hD
            · simp only [sizeOk, decide_eq_true_eq] at hz
              simpa using hz
            · intro H' C
              exact collect_sound er hD rfl C R1.hD R.hT' t1 (q.step0 fr1 t1)
          · cases he
        · cases he
      · cases he
    · cases he
  | .lc2 n it t c it1 t1 c1 el vs vs1, env, tp, r, tp', he, M, B, σ, H, fs, R, hBF, hBM, Q, q => by
    simp only [evE] at he
    split at he
    · rename_i ss st tp1 ei
      split at he
      · rename_i hv
        simp only [Bool.and_eq_true] at hv
        split at he
        · rename_i rs tp2 el2
          split at he
          · rename_i hz
            simp only [Option.map_eq_some_iff] at he
            obtain ⟨_, er, ee⟩ := he
            cases ee
            refine sndI hG it env tp _ _ _ ei M B B σ H fs R R.hS (fun b h => h) hBF hBM B (fun b h => h) hBM (fun b h => h) _ fun J H1 fr1 tt1 I1 => ?_
            have I1 : Itm K G M B B H1 J ss := by cases st <;> exact I1
            intro D hD
            have R1 := srep_nx R fr1 tt1
            have Rn := (srep_wipe (srep_new R1 hD (o := .lst [])) vs)
            refine lcGo_sound (bd := fun σ2 H3 D Nx => semI K G.N it1 σ2 H3 fun J1 H4 => ∃ W1 : Nat → Nat → Hp → Prop, (∃ m, W1 0 m H4) ∧ ∀ j k H, W1 j k H →
                (J1.stop j H ∧ Nx H) ∨ (J1.go j H ∧ ∃ Nx1 : Hp → Prop, (∀ H', Nx1 H' → ∃ k', k' < k ∧ W1 (j + 1) k' H') ∧ ∀ x H', J1.yld j H x H' → semG K t1 x (wipe σ2 vs1) H' fun σ3 H5 => wipe σ3 vs1 = wipe σ2 vs1 ∧ semT K G.N c1 σ3 H5 fun b H6 =>
                  if b = true then semE K G.N el σ3 H6 fun y H7 => ∃ acc, H7 D = some (.lst acc) ∧ acc.length < sizeLine ∧ Nx1 (upd H7 D (.lst (acc ++ [y]))) else Nx1 H6))
              (c := fun e t => evT c e t) (el := fun e t => match evI it1 e t with
                | some (ss1, _, t1') => lcGo t1 (fun e t => evT c1 e t) (fun e t => el1 (evE el e t)) (envWipe e vs1) ss1 t1'
                | none => none)
              (fun env tp b tp' h => sndT hG c env tp b tp' h) ?_ hv.1.1 (itm_new I1 hD) el2 Rn.1 (fun a ha z => ?_) (fun b hb => ?_) upd_same (.inr (by simp)) (.inr rfl) ?_ ?_ ?_
            · intro env tp rs tp' hh M B σ H fs D acc0 R hBF hBM hD0 hMD hBD hTD hz Nx k
              dsimp only at hh
              split at hh
              · rename_i ss1 st1 t1' ei1
                refine sndI hG it1 env tp _ _ _ ei1 M B B σ H fs R R.hS (fun b h => h) hBF hBM B (fun b h => h) hBM (fun b h => h) _ fun J1 H4 fr4 t4 I4 => ?_
                have I4 : Itm K G M B B H4 J1 ss1 := by cases st1 <;> exact I4
                have R4 := srep_nx R fr4 t4
                have R5 := srep_wipe R4 vs1
                refine lcGo_sound (bd := fun σ2 H3 D Nx => semE K G.N el σ2 H3 fun y H4 => ∃ acc, H4 D = some (.lst acc) ∧ acc.length < sizeLine ∧ Nx (upd H4 D (.lst (acc ++ [y])))) (c := fun e t => evT c1 e t) (el := fun e t => el1 (evE el e t))
                  (fun env tp b tp' h => sndT hG c1 env tp b tp' h) (bsnd_one fun env tp r tp' h => sndE hG el env tp r tp' h) hv.1.2 I4 hh R5.1 (fun a ha z => hBF a ha (R5.2 a z)) hBM (fr4 D _ hTD hD0) hMD hBD hTD hz ?_
                rintro H' ⟨acc, gd, e1, e2, e3, e4, e5, e6, e7⟩
                exact k H' ⟨acc, gd, e1, e2, e3, fun b hb => fr_back fr4 t4 (e4 b hb), fun b o n e => e5 b o n (fr4 b o (fun z => n (.inl z)) e), e6, e7⟩
              · cases hh
            · have z' := Rn.2 a z
              rcases ha with ha | ha
              · exact hBF a ha z'
              · subst ha; exact R1.hD a (R1.hM a z') hD
            · rcases hb with hb | hb
              · exact .inl (hBM b hb)
              · exact .inr (by simp [hb])
            · intro z
              rw [tt1 D z] at hD
              cases hD
            · simp only [sizeOk, decide_eq_true_eq] at hz
              simpa using hz
            · intro H' C
              exact collect_sound er hD rfl C R1.hD R.hT' tt1 (q.step0 fr1 tt1)
          · cases he
        · cases he
      · cases he
    · cases he
  | .call f as, env, tp, r, tp', he, M, B, σ, H, fs, R, hBF, hBM, Q, q => by
    simp only [evE] at he
    split at he
    · rename_i rs tp1 ea
      split at he
      · rename_i r1 tp2 ef
        split at he
        · rename_i hok
          cases he
          refine sndA hG as env tp rs _ ea M B σ H fs R hBF hBM _ fun vs H1 g fr t1 rep nd fresh => ?_
          have R1 := srep_nx R fr t1
          have hg : ∀ b ∈ g, ¬ M b := fun b hb m => R.hD b m (fresh b hb)
          obtain ⟨hl, hargs⟩ := args_rep (M := M) (g1 := g) (g := g) R.hS hg rep hg (no_ta R fresh)
          show spOf G.N f (vs ++ []) H1 Q E0
          rw [List.append_nil]
          refine ⟨G.to, rs.map Rv.arg, tp1, _, _, M, ef, hl, hargs, R.hT', t1, R1.hD, fun v H' g' fr' t' rep' nd' fresh' => ?_⟩
          exact q v H' g' (fr.trans fr') t' (ok_B rep' hok) nd' fun b hb => fr_back fr t1 (fresh' b hb)
        · cases he
      · cases he
    · cases he
  | .meth m f a as, env, tp, r, tp', he, M, B, σ, H, fs, R, hBF, hBM, Q, q => by
    simp only [evE] at he
    split at he
    · rename_i w cs tp1 ea
      split at he
      · cases he
      rename_i hm
      simp only [not_or] at hm
      split at he
      · rename_i rs tp2 eas
        split at he
        · rename_i r1 tp3 ef
          split at he
          · rename_i hok
            cases he
            refine sndE hG a env tp _ _ ea M B σ H fs R hBF hBM _ fun va H1 g fr1 t1 rep1 nd1 fresh1 => ?_
            have R1 := srep_nx R fr1 t1
            have w1 : Vl G M H1 (.net w cs) va := vl_tr (mono_h fun b h => .inl h) _ _ rep1.2
            have w1' := w1
            simp only [Vl] at w1'
            obtain ⟨_, ad, dx, fl, vc, rfl, hnm, had, _, _, hno, _⟩ := w1'
            refine ⟨ad, dx, fl, rfl, had, hno m hm.1 hm.2, ?_⟩
            refine sndA hG as env tp1 rs _ eas M B σ H1 fs R1 hBF hBM _ fun vs H2 g2 fr2 t2 rep2 nd2 fresh2 => ?_
            have R2 := srep_nx R1 fr2 t2
            have hg : ∀ b ∈ g2, ¬ M b := fun b hb m => R1.hD b m (fresh2 b hb)
            obtain ⟨hl, hargs⟩ := args_rep (M := M) (g1 := g2) (g := g2) R.hS hg rep2 hg (no_ta R1 fresh2)
            show spOf G.N f (.ref ad :: (vs ++ [])) H2 Q E0
            rw [List.append_nil]
            refine ⟨G.to, .sh (.net w cs) :: rs.map Rv.arg, tp2, _, _, M, ef, by simp [hl], fun i s v es ev => ?_, R.hT', t2, R2.hD, fun v H' g' fr' t' rep' nd' fresh' => ?_⟩
            · cases i with
              | succ i => exact hargs i s v (by simpa using es) (by simpa using ev)
              | zero =>
                simp only [List.getElem?_cons_zero, Option.some.injEq] at es ev
                subst es ev
                exact ⟨rfl, _, rfl, vl_tr (fun b o e m => ⟨m, fr2 b o (fun z => m (R.hT' b z)) e⟩) _ _ w1⟩
            · exact q v H' g' ((fr1.trans fr2).trans fr') t' (ok_B rep' hok) nd' fun b hb => fr_back (fr1.trans fr2) t2 (fresh' b hb)
          · cases he
        · cases he
      · cases he
    · cases he
  | .mk f as, env, tp, r, tp', he, M, B, σ, H, fs, R, hBF, hBM, Q, q => by
    simp only [evE] at he
    split at he
    · rename_i rs tp1 ea
      split at he
      · rename_i w cs tp2 ef
        cases he
        refine sndA hG as env tp rs _ ea M B σ H fs R hBF hBM _ fun vs H1 g fr t1 rep nd fresh => ?_
        have R1 := srep_nx R fr t1
        have hg : ∀ b ∈ g, ¬ M b := fun b hb m => R.hD b m (fresh b hb)
        intro x dx nx ndx nex
        show spMk G.N f (.ref x :: (vs ++ [])) _ _ E0
        rw [List.append_nil]
        have ext : Ext H1 (upd (upd H1 dx (.own x)) x (.ins G.N.C dx [])) := fun b o e => by
          rw [upd_ne (ne_of_none e nx), upd_ne (ne_of_none e ndx)]
          exact e
        obtain ⟨hl, hargs0⟩ := args_rep (M := M) (g1 := g) (g := g) R.hS hg rep hg (no_ta R fresh)
        have hargs : ∀ (i : Nat) s v, (rs.map Rv.arg)[i]? = some s → vs[i]? = some v → SlRep G (Mx M [x, dx]) (Mx (Tb G) [x, dx]) (upd (upd H1 dx (.own x)) x (.ins G.N.C dx [])) s (some v) [] := fun i s v e1 e2 =>
          sl_tr (fun a o e1 m => ⟨fun z => z.elim m fun z => (List.mem_cons.mp z).elim (fun z => by rw [z, nx] at e1; cases e1) (fun z => by rw [List.mem_singleton.mp z, ndx] at e1; cases e1), ext a o e1⟩) (fun a o e1 m => ⟨fun z => z.elim m fun z => (List.mem_cons.mp z).elim (fun z => by rw [z, nx] at e1; cases e1) (fun z => by rw [List.mem_singleton.mp z, ndx] at e1; cases e1), ext a o e1⟩) (by simp) (hargs0 i s v e1 e2)
        refine ⟨x, dx, vs, rfl, upd_same, by rw [upd_ne nex, upd_same], fun z => nex z.symm, G.to, rs.map Rv.arg, tp1, w, cs, _, M, ef, hl, hargs, R.hT', fun a ha => ext a _ (t1 a ha), fun b m => ?_, fun m => R1.hD x m nx, fun m => R1.hD dx m ndx, fun H' fr' t' hv => ⟨rfl, ?_⟩⟩
        · cases e : H1 b with
          | none => exact absurd e (R1.hD b m)
          | some o => rw [ext b o e]; simp
        · exact q _ _ [] (fun b o n e => fr' b o n (ne_of_none (fr b o n e) nx) (ext b o (fr b o n e))) t' ⟨rfl, vl_mx0 hv⟩ .nil (by simp)
      · cases he
    · cases he
  | .fldW a, env, tp, r, tp', he, M, B, σ, H, fs, R, hBF, hBM, Q, q => by
    simp only [evE] at he
    split at he
    · rename_i w cs tp1 ea
      cases he
      refine sndE hG a env tp _ _ ea M B σ H fs R hBF hBM _ fun va H1 g fr1 t1 rep1 nd1 fresh1 => ?_
      have w1 := rep1.2
      simp only [Vl] at w1
      obtain ⟨ok, ad, dx, fl, vc, rfl, hnm, had, h1, h2, hno, hc⟩ := w1
      exact ⟨ad, _, dx, fl, _, rfl, had, (hG.1 ok).1, (hG.1 ok).2.1, h1, q _ _ [] fr1 t1 ⟨rfl, by simp [Vl]⟩ .nil (by simp)⟩
    · cases he
  | .fldC a, env, tp, r, tp', he, M, B, σ, H, fs, R, hBF, hBM, Q, q => by
    simp only [evE] at he
    split at he
    · rename_i w cs tp1 ea
      cases he
      refine sndE hG a env tp _ _ ea M B σ H fs R hBF hBM _ fun va H1 g fr1 t1 rep1 nd1 fresh1 => ?_
      have w1 := rep1.2
      simp only [Vl] at w1
      obtain ⟨ok, ad, dx, fl, vc, rfl, hnm, had, h1, h2, hno, hc⟩ := w1
      exact ⟨ad, _, dx, fl, _, rfl, had, (hG.1 ok).1, (hG.1 ok).2.2, h2, q _ _ [] fr1 t1 ⟨rfl, vl_tr (mono_h fun b h => by simpa [Mx] using Or.inl h) _ _ hc⟩ .nil (by simp)⟩
    · cases he
  | .prim f as, env, tp, r, tp', he, M, B, σ, H, fs, R, hBF, hBM, Q, q => by
    simp only [evE] at he
    split at he
    · rename_i rs tp1 ea
      split at he
      · rename_i ds eds
        simp only [Option.map_eq_some_iff] at he
        obtain ⟨r0, er, ee⟩ := he
        cases ee
        refine sndA hG as env tp rs _ ea M B σ H fs R hBF hBM _ fun vs H1 g fr t1 rep nd fresh => ?_
        exact ⟨G.to, _, _, ds, _, er, rvs_avs rep eds, (srep_next R fr t1 fresh (own_def (rvs_own rep))).hD, q.after fr t1⟩
      · cases he
    · cases he
  | .pm T f a as, env, tp, r, tp', he, M, B, σ, H, fs, R, hBF, hBM, Q, q => by
    simp only [evE] at he
    split at he
    · rename_i d tp1 ea
      split at he
      · rename_i hk
        simp only [Bool.and_eq_true, bne_iff_ne, ne_eq] at hk
        split at he
        · rename_i rs tp2 eas
          split at he
          · rename_i ds eds
            simp only [Option.map_eq_some_iff] at he
            obtain ⟨r0, er, ee⟩ := he
            cases ee
            refine sndE hG a env tp _ _ ea M B σ H fs R hBF hBM _ fun v H1 g fr t1 rep nd fresh => ?_
            obtain ⟨hg0, hv⟩ := sh_vl rep
            subst hg0
            refine ⟨kind_ty hk.1 hv fun z => hk.2 z, ?_⟩
            have R1 := srep_nx R fr t1
            refine sndA hG as env tp1 rs _ eas M B σ H1 fs R1 hBF hBM _ fun vs H2 g2 fr2 t2 rep2 nd2 fresh2 => ?_
            refine ⟨G.to, _, _, d :: ds, _, er, ⟨v, vs, rfl, .inl ?_, rvs_avs rep2 eds⟩, (srep_next R1 fr2 t2 fresh2 (own_def (rvs_own rep2))).hD, q.after (fr.trans fr2) t2⟩
            exact vl_tr (tr_fr R1.hT' fr2 fresh2) d v (vl_tr (mono_h fun b h => .inl h) d v hv)
          · cases he
        · cases he
      · cases he
    · cases he
  | .mIdx f a as k, env, tp, r, tp', he, M, B, σ, H, fs, R, hBF, hBM, Q, q => by
    simp only [evE] at he
    split at he
    · rename_i w cs tp1 ea
      split at he
      · rename_i rs tp2 eas
        split at he
        · rename_i ds tp3 ef
          split at he
          · rename_i ns hns
            split at he
            · rename_i hk
              cases he
              refine sndE hG a env tp _ _ ea M B σ H fs R hBF hBM _ fun va H1 g fr1 t1 rep1 nd1 fresh1 => ?_
              have R1 := srep_nx R fr1 t1
              have w1 : Vl G M H1 (.net w cs) va := vl_tr (mono_h fun b h => .inl h) _ _ rep1.2
              have w1' := w1
              simp only [Vl] at w1'
              obtain ⟨_, ad, dx, fl, vc, rfl, hnm, had, _, _, hno, _⟩ := w1'
              refine ⟨ad, dx, fl, rfl, had, hno _ (by decide) (by decide), ?_⟩
              refine sndA hG as env tp1 rs _ eas M B σ H1 fs R1 hBF hBM _ fun vs H2 g2 fr2 t2 rep2 nd2 fresh2 => ?_
              have R2 := srep_nx R1 fr2 t2
              have hg : ∀ b ∈ g2, ¬ M b := fun b hb m => R1.hD b m (fresh2 b hb)
              obtain ⟨hl, hargs⟩ := args_rep (M := M) (g1 := g2) (g := g2) R.hS hg rep2 hg (no_ta R1 fresh2)
              show spOfN G.N f (.ref ad :: (vs ++ [])) H2 _ E0
              rw [List.append_nil]
              refine ⟨G.to, .sh (.net w cs) :: rs.map Rv.arg, tp2, _, _, M, ef, by simp [hl], fun i s v es ev => ?_, R.hT', t2, R2.hD, fun t H' vs' o fr' t' nt ht hd hvs => ?_⟩
              · cases i with
                | succ i => exact hargs i s v (by simpa using es) (by simpa using ev)
                | zero =>
                  simp only [List.getElem?_cons_zero, Option.some.injEq] at es ev
                  subst es ev
                  exact ⟨rfl, _, rfl, vl_tr (fun b o e m => ⟨m, fr2 b o (fun z => m (R.hT' b z)) e⟩) _ _ w1⟩
              · rw [ints_vls hns hvs] at ht
                exact ⟨t, o, ns, rfl, ht, hd, hk, q _ H' [] ((fr1.trans fr2).trans fr') t' ⟨rfl, by simp [Vl]⟩ .nil (by simp)⟩
            · cases he
          · cases he
        · cases he
      · cases he
    · cases he
theorem sndA (hG : NetOk K G.N) : ∀ (as : SA) (env : Env) (tp : Tape) (rs : List Rv) (tp' : Tape), evA as env tp = some (rs, tp') → ∀ (M B : AP) (σ : L2.St) (H : Hp) (fs : List (List Addr)), SRep G M B env tp σ H fs → (∀ a, B a → a ∉ fs.flatten) → (∀ b, B b → M b) →
    ∀ Q, AAft G M B H tp' rs Q → semA K G.N as σ H Q
  | .nil, env, tp, rs, tp', he, M, B, σ, H, fs, R, hBF, hBM, Q, q => by
    simp only [evA, Option.some.injEq] at he
    cases he
    exact q [] H [] Fr.refl R.tpe ⟨rfl, rfl⟩ .nil (by simp)
  | .cons e r, env, tp, rs, tp', he, M, B, σ, H, fs, R, hBF, hBM, Q, q => by
    simp only [evA] at he
    split at he
    · rename_i x tp1 ex
      split at he
      · rename_i xs tp2 exs
        cases he
        refine sndE hG e env tp _ _ ex M B σ H fs R hBF hBM _ fun v H1 g1 fr1 t1 rep1 nd1 fresh1 => ?_
        have R1 := srep_mx R fr1 t1 fresh1 rep1
        refine sndA hG r env tp1 _ _ exs _ B σ H1 fs R1 hBF (fun b hb => .inl (hBM b hb)) _ fun vs H2 g2 fr2 t2 rep2 nd2 fresh2 => ?_
        have rep1' := rv_next rep1 R1.hT' R.hS (no_ta R fresh1) fr2 fresh2
        have mx : ∀ b, Mx M (g1 ++ g2) b → Mx (Mx M g1) g2 b := fun b h => by
          rcases h with h | h
          · exact .inl (.inl h)
          · rcases List.mem_append.mp h with h | h
            · exact .inl (.inr h)
            · exact .inr h
        refine q (v :: vs) H2 (g1 ++ g2) (fr1.trans fr2) t2 ⟨v, vs, g1, g2, rfl, rfl, rv_mono rep1' mx, rvs_mono mx rep2⟩ ?_ ?_
        · rw [List.nodup_append]
          exact ⟨nd1, nd2, fun a ha b hb z => own_def (rv_own rep1) a ha (z ▸ fresh2 b hb)⟩
        · intro b hb
          rcases List.mem_append.mp hb with hb | hb
          · exact fresh1 b hb
          · exact fr_back fr1 t1 (fresh2 b hb)
      · cases he
    · cases he
theorem sndT (hG : NetOk K G.N) : ∀ (c : ST) (env : Env) (tp : Tape) (b : Bool) (tp' : Tape), evT c env tp = some (b, tp') → ∀ (M B : AP) (σ : L2.St) (H : Hp) (fs : List (List Addr)), SRep G M B env tp σ H fs → (∀ a, B a → a ∉ fs.flatten) → (∀ b, B b → M b) →
    ∀ Q : Bool → Hp → Prop, (∀ H', Fr G H H' → Tp G tp' H' → Q b H') → semT K G.N c σ H Q
  | .yes, env, tp, b, tp', he, M, B, σ, H, fs, R, hBF, hBM, Q, q => by
    simp only [evT, Option.some.injEq] at he
    cases he
    exact q H Fr.refl R.tpe
  | .val e, env, tp, b, tp', he, M, B, σ, H, fs, R, hBF, hBM, Q, q => by
    simp only [evT] at he
    split at he
    · rename_i k tp1 ee
      cases he
      refine sndE hG e env tp _ _ ee M B σ H fs R hBF hBM _ fun v H1 g1 fr1 t1 rep1 nd1 fresh1 => ?_
      exact ⟨_, sh_bl rep1, q H1 fr1 t1⟩
    · cases he
  | .and a b, env, tp, k, tp', he, M, B, σ, H, fs, R, hBF, hBM, Q, q => by
    simp only [evT] at he
    split at he
    · rename_i tp1 ea
      refine sndT hG a env tp _ _ ea M B σ H fs R hBF hBM _ fun H1 fr1 t1 => ?_
      rw [if_pos rfl]
      exact sndT hG b env tp1 _ _ he M B σ H1 fs (srep_nx R fr1 t1) hBF hBM _ fun H2 fr2 t2 => q H2 (fr1.trans fr2) t2
    · rename_i tp1 ea
      cases he
      refine sndT hG a env tp _ _ ea M B σ H fs R hBF hBM _ fun H1 fr1 t1 => ?_
      rw [if_neg (by simp)]
      exact q H1 fr1 t1
    · cases he
  | .or a b, env, tp, k, tp', he, M, B, σ, H, fs, R, hBF, hBM, Q, q => by
    simp only [evT] at he
    split at he
    · rename_i tp1 ea
      refine sndT hG a env tp _ _ ea M B σ H fs R hBF hBM _ fun H1 fr1 t1 => ?_
      rw [if_neg (by simp)]
      exact sndT hG b env tp1 _ _ he M B σ H1 fs (srep_nx R fr1 t1) hBF hBM _ fun H2 fr2 t2 => q H2 (fr1.trans fr2) t2
    · rename_i tp1 ea
      cases he
      refine sndT hG a env tp _ _ ea M B σ H fs R hBF hBM _ fun H1 fr1 t1 => ?_
      rw [if_pos rfl]
      exact q H1 fr1 t1
    · cases he
  | .not a, env, tp, k, tp', he, M, B, σ, H, fs, R, hBF, hBM, Q, q => by
    simp only [evT] at he
    split at he
    · rename_i b tp1 ea
      cases he
      exact sndT hG a env tp _ _ ea M B σ H fs R hBF hBM _ fun H1 fr1 t1 => q H1 fr1 t1
    · cases he
theorem sndO (hG : NetOk K G.N) : ∀ (c : SO) (env : Env) (tp : Tape) (b : Option Int) (tp' : Tape), evO c env tp = some (b, tp') → ∀ (M B : AP) (σ : L2.St) (H : Hp) (fs : List (List Addr)), SRep G M B env tp σ H fs → (∀ a, B a → a ∉ fs.flatten) → (∀ b, B b → M b) →
    ∀ Q : Option Int → Hp → Prop, (∀ H', Fr G H H' → Tp G tp' H' → Q b H') → semO K G.N c σ H Q
  | .none, env, tp, b, tp', he, M, B, σ, H, fs, R, hBF, hBM, Q, q => by
    simp only [evO, Option.some.injEq] at he
    cases he
    exact q H Fr.refl R.tpe
  | .some e, env, tp, b, tp', he, M, B, σ, H, fs, R, hBF, hBM, Q, q => by
    simp only [evO] at he
    split at he
    · rename_i k tp1 ee
      cases he
      refine sndE hG e env tp _ _ ee M B σ H fs R hBF hBM _ fun v H1 g1 fr1 t1 rep1 nd1 fresh1 => ?_
      exact ⟨_, sh_int rep1, q H1 fr1 t1⟩
    · cases he
theorem sndI (hG : NetOk K G.N) : ∀ (it : SI) (env : Env) (tp : Tape) (ss : List Sl) (st : Bool) (tp' : Tape), evI it env tp = some (ss, st, tp') → ∀ (M S B : AP) (σ : L2.St) (H : Hp) (fs : List (List Addr)), SRep G M S env tp σ H fs → (∀ a, G.to = some a → B a) → (∀ b, B b → S b) → (∀ a, B a → a ∉ fs.flatten) → (∀ b, B b → M b) →
    ∀ (L : AP), (∀ b, B b → L b) → (∀ b, L b → M b) → (∀ b, L b → S b) → ∀ R : It → Hp → Prop, (∀ J H1, Fr G H H1 → Tp G tp' H1 → Itm K G M (if st = true then L else B) (if st = true then S else B) H1 J ss → R J H1) → semI K G.N it σ H R
  | .rng1 a, env, tp, ss, st, tp', he, M, S, B, σ, H, fs, R, hTB, hBS, hBF, hBM, L, hBL, hLM, hLS, Rk, k => by
    simp only [evI] at he
    split at he
    · rename_i j tp1 ea
      split at he
      · rename_i hz
        cases he
        have R0 := srep_S R hBS hTB
        refine sndE hG a env tp _ _ ea M B σ H fs R0 hBF hBM _ fun v H1 g fr1 t1 rep1 nd1 fresh1 => ?_
        simp only [okR, decide_eq_true_eq] at hz
        exact ⟨j, by rw [sh_int rep1], by omega, by omega, k _ H1 fr1 t1 itm_range⟩
      · cases he
    · cases he
  | .rng2 a b, env, tp, ss, st, tp', he, M, S, B, σ, H, fs, R, hTB, hBS, hBF, hBM, L, hBL, hLM, hLS, Rk, k => by
    simp only [evI] at he
    split at he
    · rename_i i tp1 ea
      split at he
      · rename_i j tp2 eb
        split at he
        · rename_i hz
          cases he
          have R0 := srep_S R hBS hTB
          refine sndE hG a env tp _ _ ea M B σ H fs R0 hBF hBM _ fun v H1 g fr1 t1 rep1 nd1 fresh1 => ?_
          refine sndE hG b env tp1 _ _ eb M B σ H1 fs (srep_nx R0 fr1 t1) hBF hBM _ fun w H2 g2 fr2 t2 rep2 nd2 fresh2 => ?_
          simp only [okR, Bool.and_eq_true, decide_eq_true_eq] at hz
          exact ⟨i, j, by rw [sh_int rep1, sh_int rep2], by omega, k _ H2 (fr1.trans fr2) t2 itm_range⟩
        · cases he
      · cases he
    · cases he
  | .rng3 a b c, env, tp, ss, st, tp', he, M, S, B, σ, H, fs, R, hTB, hBS, hBF, hBM, L, hBL, hLM, hLS, Rk, k => by
    simp only [evI] at he
    split at he
    · rename_i i tp1 ea
      split at he
      · rename_i j tp2 eb
        split at he
        · rename_i l tp3 ec
          split at he
          · rename_i hz
            cases he
            have R0 := srep_S R hBS hTB
            refine sndE hG a env tp _ _ ea M B σ H fs R0 hBF hBM _ fun v H1 g fr1 t1 rep1 nd1 fresh1 => ?_
            have R1 := srep_nx R0 fr1 t1
            refine sndE hG b env tp1 _ _ eb M B σ H1 fs R1 hBF hBM _ fun w H2 g2 fr2 t2 rep2 nd2 fresh2 => ?_
            have R2 := srep_nx R1 fr2 t2
            refine sndE hG c env tp2 _ _ ec M B σ H2 fs R2 hBF hBM _ fun u H3 g3 fr3 t3 rep3 nd3 fresh3 => ?_
            simp only [Bool.and_eq_true, decide_eq_true_eq] at hz
            refine ⟨i, j, l, (Builtin.Range.rangeSize i j l).toNat, by rw [sh_int rep1, sh_int rep2, sh_int rep3], rgc_ok hz.1.1.1.2 hz.1.1.2 hz.1.2 hz.2, k _ H3 ((fr1.trans fr2).trans fr3) t3 itm_rangeC⟩
          · cases he
        · cases he
      · cases he
    · cases he
  | .seq e, env, tp, ss, st, tp', he, M, S, B, σ, H, fs, R, hTB, hBS, hBF, hBM, L, hBL, hLM, hLS, Rk, k => by
    simp only [evI] at he
    split at he
    · rename_i r tp1 ee
      simp only [Option.map_eq_some_iff] at he
      obtain ⟨ss', es, eq⟩ := he
      cases eq
      refine stab_lem (fun M B σ H fs R hBF hBM Q q => sndE hG e env tp r _ ee M B σ H fs R hBF hBM Q q) ee R hTB hBS hBF hBM _ fun v H1 g fr1 t1 rep1 nd1 fresh1 => ?_
      have hL' : ∀ b, (if stabE e r env = true then L else B) b → M b := by
        intro b; split
        · exact hLM b
        · exact hBM b
      have hLZ : ∀ b, (if stabE e r env = true then L else B) b → (if stabE e r env = true then S else B) b := by
        intro b; split
        · exact hLS b
        · exact id
      have hSg : ∀ (g : List Addr), (∀ b ∈ g, H b = none) → ∀ ts, r = .nf ts → ∀ b ∈ g, ¬ (if stabE e r env = true then S else B) b := by
        intro g hg ts er b hb z
        subst er
        exact R.hD b (hBM b z) (hg b hb)
      obtain ⟨a, vs, rfl, hn, hit, ha⟩ := items_rep rep1 (fun b hb m => R.hD b m (fresh1 b hb)) es _ hL' hLZ (hSg g fresh1)
      refine ⟨a, rfl, ?_⟩
      rcases ha with ha | ha
      · exact .inl ⟨⟨vs, SqL.of ha⟩, k _ H1 fr1 t1 (itm_list ha hn hit)⟩
      · exact .inr ⟨⟨vs, SqT.of ha⟩, k _ H1 fr1 t1 (itm_tup ha hn hit)⟩
    · cases he
  | .rev e, env, tp, ss, st, tp', he, M, S, B, σ, H, fs, R, hTB, hBS, hBF, hBM, L, hBL, hLM, hLS, Rk, k => by
    simp only [evI] at he
    split at he
    · rename_i r tp1 ee
      simp only [Option.map_eq_some_iff] at he
      obtain ⟨ss', es, eq⟩ := he
      cases eq
      refine stab_lem (fun M B σ H fs R hBF hBM Q q => sndE hG e env tp r _ ee M B σ H fs R hBF hBM Q q) ee R hTB hBS hBF hBM _ fun v H1 g fr1 t1 rep1 nd1 fresh1 => ?_
      have hL' : ∀ b, (if stabE e r env = true then L else B) b → M b := by
        intro b; split
        · exact hLM b
        · exact hBM b
      have hLZ : ∀ b, (if stabE e r env = true then L else B) b → (if stabE e r env = true then S else B) b := by
        intro b; split
        · exact hLS b
        · exact id
      have hSg : ∀ (g : List Addr), (∀ b ∈ g, H b = none) → ∀ ts, r = .nf ts → ∀ b ∈ g, ¬ (if stabE e r env = true then S else B) b := by
        intro g hg ts er b hb z
        subst er
        exact R.hD b (hBM b z) (hg b hb)
      obtain ⟨a, vs, rfl, hn, hit, ha⟩ := items_rep rep1 (fun b hb m => R.hD b m (fresh1 b hb)) es _ hL' hLZ (hSg g fresh1)
      refine ⟨a, vs, rfl, ?_⟩
      rcases ha with ha | ha
      · exact .inl ⟨SqL.of ha, k _ H1 fr1 t1 (itm_rev ha hn hit)⟩
      · exact .inr ⟨SqT.of ha, k _ H1 fr1 t1 (itm_revT ha hn hit)⟩
    · cases he
  | .enum e, env, tp, ss, st, tp', he, M, S, B, σ, H, fs, R, hTB, hBS, hBF, hBM, L, hBL, hLM, hLS, Rk, k => by
    simp only [evI] at he
    split at he
    · rename_i r tp1 ee
      split at he
      · rename_i ds ed
        cases he
        refine stab_lem (fun M B σ H fs R hBF hBM Q q => sndE hG e env tp r _ ee M B σ H fs R hBF hBM Q q) ee R hTB hBS hBF hBM _ fun v H1 g fr1 t1 rep1 nd1 fresh1 => ?_
        have hL' : ∀ b, (if stabE e r env = true then L else B) b → M b := by
          intro b; split
          · exact hLM b
          · exact hBM b
        have hLZ : ∀ b, (if stabE e r env = true then L else B) b → (if stabE e r env = true then S else B) b := by
          intro b; split
          · exact hLS b
          · exact id
        obtain ⟨a, vs, rfl, hn, hs, ha⟩ := flat_rep rep1 (fun b hb m => R.hD b m (fresh1 b hb)) ed hL' hLZ
        exact ⟨a, rfl, .inl ⟨vs, SqL.of ha, k _ H1 fr1 t1 (itm_enum hL' ha hn hs)⟩⟩
      · rename_i ds ed
        cases he
        refine stab_lem (fun M B σ H fs R hBF hBM Q q => sndE hG e env tp r _ ee M B σ H fs R hBF hBM Q q) ee R hTB hBS hBF hBM _ fun v H1 g fr1 t1 rep1 nd1 fresh1 => ?_
        have hL' : ∀ b, (if stabE e r env = true then L else B) b → M b := by
          intro b; split
          · exact hLM b
          · exact hBM b
        obtain ⟨a, vs, rfl, hn, hs, ha⟩ := flat_repT rep1 ed hL'
        exact ⟨a, rfl, .inr ⟨vs, SqT.of ha, k _ H1 fr1 t1 (itm_enumT hL' ha hn hs)⟩⟩
      · cases he
    · cases he
  | .zip a b, env, tp, ss, st, tp', he, M, S, B, σ, H, fs, R, hTB, hBS, hBF, hBM, L, hBL, hLM, hLS, Rk, k => by
    simp only [evI] at he
    split at he
    · rename_i ra tp1 ea
      split at he
      · rename_i rb tp2 eb
        split at he
        · rename_i xs ys exa exb
          cases he
          refine stab_lem (fun M B σ H fs R hBF hBM Q q => sndE hG a env tp ra _ ea M B σ H fs R hBF hBM Q q) ea R hTB hBS hBF hBM _ fun v H1 g fr1 t1 rep1 nd1 fresh1 => ?_
          have R1 := srep_nx R fr1 t1
          refine stab_lem (fun M B σ H fs R hBF hBM Q q => sndE hG b env tp1 rb _ eb M B σ H fs R hBF hBM Q q) eb R1 hTB hBS hBF hBM _ fun w H2 g2 fr2 t2 rep2 nd2 fresh2 => ?_
          have hL' : ∀ c : Bool, ∀ b, (if c = true then L else B) b → M b := by
            intro c b; split
            · exact hLM b
            · exact hBM b
          have hLZ : ∀ c : Bool, ∀ b, (if c = true then L else B) b → (if c = true then S else B) b := by
            intro c b; split
            · exact hLS b
            · exact id
          obtain ⟨a', vs, rfl, hn, hs, ha⟩ := flat_rep rep1 (fun b hb m => R.hD b m (fresh1 b hb)) exa (hL' _) (hLZ _)
          obtain ⟨b', ws, rfl, hn2, hs2, hb⟩ := flat_rep rep2 (fun b hb m => R1.hD b m (fresh2 b hb)) exb (hL' _) (hLZ _)
          have hL2 : ∀ (c c' : Bool) (b : Addr), (if (c && c') = true then L else B) b → (if c = true then L else B) b := by
            intro c c' b h
            cases c <;> cases c' <;> simp at h ⊢
            · exact h
            · exact h
            · exact hBL b h
            · exact h
          have hL3 : ∀ (c c' : Bool) (b : Addr), (if (c && c') = true then L else B) b → (if c' = true then L else B) b := by
            intro c c' b h
            cases c <;> cases c' <;> simp at h ⊢
            · exact h
            · exact hBL b h
            · exact h
            · exact h
          have hta : ∀ c : Bool, ∀ x, G.to = some x → (if c = true then L else B) x := by
            intro c x h; split
            · exact hBL x (hTB x h)
            · exact hTB x h
          have ha2 : H2 a' = some (.lst vs) := fr2 a' _ (fun z => hn (hta _ a' z)) ha
          have hs' : Vls G M H2 xs vs := vls_tr (fun b o e m => ⟨m, fr2 b o (fun z => m (R.hT' b z)) e⟩) _ _ hs
          exact ⟨a', b', vs, ws, rfl, SqL.of ha2, SqL.of hb, k _ H2 (fr1.trans fr2) t2 (itm_zip (fun b h => hL' _ b h) ha2 (fun z => hn (hL2 _ _ _ z)) hb (fun z => hn2 (hL3 _ _ _ z)) hs' hs2)⟩
        · cases he
      · cases he
    · cases he
end
end
end Vs
/-! Vs12: statements. -/
namespace Vs
open PySem L2
section
variable {G : Rg} {M M' S S' B B' P L R0 : AP} {H H' H0 H1 H2 : Hp} {K : PySem.W.Frag} {tp tp1 tp' : Tape} {env : Env} {σ : L2.St} {fs fs1 fs2 : List (List Addr)} {g g1 g2 : List Addr} {F F1 F2 : List Addr}
/-- what may change in a body's run; what is not shared -/
abbrev Ss (G : Rg) (H0 : Hp) : AP := fun b => H0 b = none ∨ G.to = some b
abbrev Mr (G : Rg) (R0 : AP) (fs : List (List Addr)) : AP := fun b => b ∈ fs.flatten ∨ G.to = some b ∨ R0 b
structure StI (G : Rg) (R0 : AP) (H0 : Hp) (env : Env) (tp : Tape) (σ : L2.St) (H : Hp) (fs : List (List Addr)) : Prop where
  rep : SRep G (Mr G R0 fs) (Ss G H0) env tp σ H fs
  fresh : ∀ b ∈ fs.flatten, H0 b = none
  r0 : ∀ b, R0 b → H0 b ≠ none
/-- from one point of the run to another -/
structure Stp (G : Rg) (H : Hp) (F : List Addr) (H' : Hp) (F' : List Addr) : Prop where
  fr : ∀ b o, b ∉ F → G.to ≠ some b → H b = some o → H' b = some o
  own : ∀ b ∈ F', b ∈ F ∨ H b = none
  td : ∀ a, G.to = some a → H' a ≠ none
theorem Stp.refl (h : ∀ a, G.to = some a → H a ≠ none) : Stp G H F H F := ⟨fun _ _ _ _ e => e, fun _ h => .inl h, h⟩
theorem Stp.back (a : Stp G H F H1 F1) {x : Addr} (h : H1 x = none) : x ∈ F ∨ H x = none := by
  by_cases n : x ∈ F
  · exact .inl n
  · cases e : H x with
    | none => exact .inr rfl
    | some o =>
      by_cases t : G.to = some x
      · exact absurd h (a.td x t)
      · rw [a.fr x o n t e] at h; cases h
theorem Stp.trans (a : Stp G H F H1 F1) (b : Stp G H1 F1 H2 F2) : Stp G H F H2 F2 where
  fr := fun x o n t e => b.fr x o (fun z => (a.own x z).elim n (fun q => by rw [q] at e; cases e)) t (a.fr x o n t e)
  own := fun x hx => by
    rcases b.own x hx with h | h
    · exact a.own x h
    · exact a.back h
  td := b.td
theorem StI.def_ (R : StI G R0 H0 env tp σ H fs) : ∀ a, G.to = some a → H a ≠ none := fun a h => by rw [R.rep.tpe a h]; simp
/-- what is wanted behind -/
def OutK (G : Rg) (R0 : AP) (H0 : Hp) (H : Hp) (F : List Addr) : Out → Ends → Prop
  | .nx e t, D => ∀ σ' H' fs', StI G R0 H0 e t σ' H' fs' → Stp G H F H' fs'.flatten → D.nx σ' H'
  | .bk e t, D => ∀ σ' H' fs', StI G R0 H0 e t σ' H' fs' → Stp G H F H' fs'.flatten → D.bk σ' H'
  | .ct e t, D => ∀ σ' H' fs', StI G R0 H0 e t σ' H' fs' → Stp G H F H' fs'.flatten → D.ct σ' H'
  | .rt r e t, D => ∀ v H' g, (∀ b o, b ∉ F → G.to ≠ some b → H b = some o → H' b = some o) → Tp G t H' → RvRep G (Mx (fun b => G.to = some b ∨ R0 b) g) (Tb G) H' r v g → g.Nodup → (∀ b ∈ g, b ∈ F ∨ H b = none) → D.rt v H'
theorem OutK.step {o : Out} {D : Ends} (q : OutK G R0 H0 H F o D) (s : Stp G H F H1 F1) : OutK G R0 H0 H1 F1 o D := by
  cases o with
  | nx e t => exact fun σ' H' fs' R s' => q σ' H' fs' R (s.trans s')
  | bk e t => exact fun σ' H' fs' R s' => q σ' H' fs' R (s.trans s')
  | ct e t => exact fun σ' H' fs' R s' => q σ' H' fs' R (s.trans s')
  | rt r e t => exact fun v H' g fr tp rep nd own => q v H' g (fun x o n t e => fr x o (fun z => (s.own x z).elim n (fun q => by rw [q] at e; cases e)) t (s.fr x o n t e)) tp rep nd (fun b hb => (own b hb).elim (fun h => s.own b h) (fun h => s.back h))
/-- an expression's start, from a statement's -/
theorem StI.eR (R : StI G R0 H0 env tp σ H fs) : SRep G (Mr G R0 fs) (Tb G) env tp σ H fs := srep_T R.rep
theorem StI.tf (R : StI G R0 H0 env tp σ H fs) : ∀ a, Tb G a → a ∉ fs.flatten := fun a h => (R.rep.hT a h).2
theorem StI.tM (R : StI G R0 H0 env tp σ H fs) : ∀ b, Tb G b → Mr G R0 fs b := fun b h => .inr (.inl h)
theorem StI.fS (R : StI G R0 H0 env tp σ H fs) : ∀ b ∈ fs.flatten, Ss G H0 b := fun b h => .inl (R.fresh b h)
/-- behind an expression that leaves nothing of its own -/
theorem StI.nx (R : StI G R0 H0 env tp σ H fs) (fr : Fr G H H1) (t : Tp G tp1 H1) : StI G R0 H0 env tp1 σ H1 fs := ⟨srep_nx R.rep fr t, R.fresh, R.r0⟩
theorem stp_fr (R : StI G R0 H0 env tp σ H fs) (fr : Fr G H H1) (t : Tp G tp1 H1) : Stp G H fs.flatten H1 fs.flatten :=
  ⟨fun b o _ n e => fr b o n e, fun b h => .inl h, fun a h => by rw [t a h]; simp⟩
theorem fresh0 (R : StI G R0 H0 env tp σ H fs) (h0 : Fr G H0 H) {b : Addr} (h : H b = none) : H0 b = none := fr_back h0 R.rep.tpe h
theorem sl_of_rv {r : Rv} {s : Sl} {v : V} (e : r.sl = some s) (h : RvRep G M B H r v g) : SlRep G M S H s (some v) g := by
  cases r with
  | sh d => cases e; exact ⟨h.1, v, rfl, h.2⟩
  | fr ds => cases e; obtain ⟨a, vs, eg, ev, ha, hs⟩ := h; exact ⟨a, vs, eg, by rw [ev], ha, hs⟩
  | bw ds => cases e
  | tp => cases e
  | nf ts => cases e; exact ⟨v, rfl, h⟩
  | nb ts => cases e
theorem slN_of_rv {r : Rv} {s : Sl} {v : V} (e : r.slN = some s) (h : RvRep G M B H r v g) : SlRep G M S H s (some v) g := by
  cases r with
  | sh d => cases e
  | fr ds => cases e; obtain ⟨a, vs, eg, ev, ha, hs⟩ := h; exact ⟨v, rfl, by simp only [Tl]; exact ⟨a, vs, [], eg, ev, ha, tls_leaf hs⟩⟩
  | bw ds => cases e
  | tp => cases e
  | nf ts => cases e; exact ⟨v, rfl, h⟩
  | nb ts => cases e
/-- a name takes a new value -/
theorem sti_set (R : StI G R0 H0 env tp σ H fs) (hF : Fr G H0 H ∨ ∀ b, H b = none → H0 b = none) (fr : Fr G H H1) (t : Tp G tp1 H1) {i : Nat} {s : Sl} {v : V} (hi : i < env.length) (h : SlRep G (Mx (Mr G R0 fs) g) (Ss G H0) H1 s (some v) g) (nd : g.Nodup) (fresh : ∀ b ∈ g, H b = none) (hd : ∀ b ∈ g, H1 b ≠ none) :
    StI G R0 H0 (env.set i s) tp1 (σ.set i (some v)) H1 (fs.set i g) ∧ Stp G H fs.flatten H1 (fs.set i g).flatten := by
  have fresh' : ∀ b ∈ g, H0 b = none := fun b hb => by
    rcases hF with hF | hF
    · exact fresh0 R hF (fresh b hb)
    · exact hF b (fresh b hb)
  have R1 := srep_next R.rep fr t fresh hd
  obtain ⟨R2, q⟩ := srep_set R1 hi h nd (fun b hb z => R.rep.hD b (.inl z) (fresh b hb)) (fun b hb => .inr hb) (no_ta R.eR fresh)
  refine ⟨⟨srep_mono R2 (fun b hb => ?_) (fun b hb => .inl hb) (fun a ha => .inr (.inl ha)), fun b hb => (q b hb).elim (R.fresh b) (fresh' b), R.r0⟩, ⟨fun b o _ n e => fr b o n e, fun b hb => (q b hb).elim .inl (fun h => .inr (fresh b h)), fun a h => by rw [t a h]; simp⟩⟩
  rcases hb with hb | hb
  · rcases q b hb with h | h
    · exact .inl (.inl h)
    · exact .inr h
  · exact .inl (.inr hb)
/-- a slot's list is changed where it stands -/
theorem srep_at (R : SRep G M S env tp σ H fs) {i : Nat} {s' : Sl} {v : V} {f0 f' : List Addr} {p : Addr} {o : HO} (hi : i < env.length) (ev : σ[i]? = some (some v)) (ef : fs[i]? = some f0) (hp : p ∈ f0) (hPS : S p) (h : SlRep G M S (upd H p o) s' (some v) f') (nd : f'.Nodup)
    (hf : ∀ b ∈ f', b ∈ f0 ∨ H b = none ∨ (b ∉ fs.flatten ∧ M b ∧ G.to ≠ some b)) (hM : ∀ b ∈ f', M b) :
    SRep G M S (env.set i s') tp σ (upd H p o) (fs.set i f') ∧ ∀ b ∈ (fs.set i f').flatten, b ∈ fs.flatten ∨ b ∈ f' := by
  have hi2 : i < fs.length := (List.getElem?_eq_some_iff.mp ef).1
  have hiσ : i < σ.length := (List.getElem?_eq_some_iff.mp ev).1
  have hpF : p ∈ fs.flatten := List.mem_flatten.mpr ⟨f0, List.mem_of_getElem? ef, hp⟩
  obtain ⟨R1, q1⟩ := srep_set0 R hi (s := .un) (ov := none) rfl
  -- p is no more among what is one's own
  obtain ⟨a, c, x, ex, e1, e2⟩ := flat_set fs i [] hi2
  rw [ef] at ex
  cases ex
  have nd0 := R.nodup
  rw [e1] at nd0
  have dis : ∀ b ∈ f0, b ∉ (fs.set i []).flatten := fun b hb z => by
    rw [e2] at z
    simp only [List.nil_append, List.mem_append] at z
    rw [List.nodup_append] at nd0
    obtain ⟨na, nxc, dxc⟩ := nd0
    rw [List.nodup_append] at nxc
    rcases z with z | z
    · exact dxc b z b (List.mem_append_left _ hb) rfl
    · exact nxc.2.2 b hb b z rfl
  have hpT : G.to ≠ some p := fun z => (R.hT p z).2 hpF
  have R2 : SRep G (Mx M []) S (env.set i .un) tp (σ.set i none) (upd H p o) (fs.set i []) := by
    refine srep_gen (P := fun b => b = p) R1 (fun b hb => hb ▸ R.hM p hpF) (fun b hb => hb ▸ hPS) (fun b hb => hb ▸ dis p hp) (fun b u n e => by rw [upd_ne n]; exact e) (fun x hx => by
      rw [upd_ne (fun z : x = p => hpT (z ▸ hx))]; exact R.tpe x hx) (fun b hb => by rw [hb, upd_same]; simp) (by simp) (by simp)
  have R3 : SRep G M S (env.set i .un) tp (σ.set i none) (upd H p o) (fs.set i []) := srep_mono R2 (fun b h => .inl h) R1.hM R1.hT'
  have d1 : ∀ b ∈ f', b ∉ (fs.set i []).flatten := fun b hb z => by
    rcases hf b hb with h | h | h
    · exact dis b h z
    · exact R.hD b (R.hM b (q1 b z)) h
    · exact h.1 (q1 b z)
  have d2 : ∀ b ∈ f', G.to ≠ some b := fun b hb z => by
    rcases hf b hb with h | h | h
    · exact (R.hT b z).2 (List.mem_flatten.mpr ⟨f0, List.mem_of_getElem? ef, h⟩)
    · rw [R.tpe b z] at h; cases h
    · exact h.2.2 z
  obtain ⟨R4, q4⟩ := srep_set R3 (i := i) (s := s') (ov := some v) (f := f') (by simpa using hi) h nd d1 hM d2
  rw [List.set_set, List.set_set, List.set_set] at R4
  have es : σ.set i (some v) = σ := by
    apply List.ext_getElem?
    intro j
    by_cases e : i = j
    · subst e; rw [List.getElem?_set_self hiσ, ev]
    · rw [List.getElem?_set_ne e]
  rw [es] at R4
  rw [List.set_set] at q4
  exact ⟨R4, fun b hb => (q4 b hb).elim (fun h => .inl (q1 b h)) .inr⟩
theorem slot_get (R : SRep G M S env tp σ H fs) {i : Nat} {s : Sl} (e : env[i]? = some s) : ∃ ov f, σ[i]? = some ov ∧ fs[i]? = some f ∧ SlRep G M S H s ov f := by
  have hi : i < σ.length := by rw [← R.len]; exact (List.getElem?_eq_some_iff.mp e).1
  have hi2 : i < fs.length := by rw [R.len2]; exact hi
  exact ⟨_, _, List.getElem?_eq_getElem hi, List.getElem?_eq_getElem hi2, R.slot i s _ _ e (List.getElem?_eq_getElem hi) (List.getElem?_eq_getElem hi2)⟩
theorem mem_flat {i : Nat} {f : List Addr} (e : fs[i]? = some f) {b : Addr} (h : b ∈ f) : b ∈ fs.flatten := List.mem_flatten.mpr ⟨f, List.mem_of_getElem? e, h⟩
/-- a flat list of one's own gets other items -/
theorem sti_upd (R : StI G R0 H0 env tp σ H fs) {i : Nat} {ds ds' : List D} {vs' : List V} {p : Addr} (e : env[i]? = some (.ow ds)) (ev : σ[i]? = some (some (.ref p))) (h' : Vls G (Mr G R0 fs) H ds' vs') :
    StI G R0 H0 (env.set i (.ow ds')) tp σ (upd H p (.lst vs')) fs ∧ Stp G H fs.flatten (upd H p (.lst vs')) fs.flatten := by
  obtain ⟨ov, f, e1, e2, rep⟩ := slot_get R.rep e
  rw [ev] at e1
  cases e1
  obtain ⟨a, vs, rfl, ea, ha, hs⟩ := rep
  cases ea
  have hpF : p ∈ fs.flatten := mem_flat e2 (by simp)
  have hi : i < env.length := (List.getElem?_eq_some_iff.mp e).1
  have hM : Mr G R0 fs p := .inl hpF
  have w : Vls G (Mr G R0 fs) (upd H p (.lst vs')) ds' vs' := vls_tr (fun b o q m => ⟨m, by rw [upd_ne (fun z : b = p => m (z ▸ hM))]; exact q⟩) _ _ h'
  obtain ⟨R1, q1⟩ := srep_at R.rep hi ev e2 (p := p) (by simp) (R.fS p hpF) (s' := .ow ds') (f' := [p]) (o := .lst vs') ⟨p, vs', rfl, rfl, upd_same, w⟩ (by simp) (fun b hb => .inl hb) (fun b hb => by rw [List.mem_singleton.mp hb]; exact hM)
  have es : fs.set i [p] = fs := by
    apply List.ext_getElem?
    intro j
    by_cases ej : i = j
    · subst ej; rw [List.getElem?_set_self (List.getElem?_eq_some_iff.mp e2).1, e2]
    · rw [List.getElem?_set_ne ej]
  rw [es] at R1
  exact ⟨⟨R1, R.fresh, R.r0⟩, ⟨fun b o n _ q => by rw [upd_ne (fun z : b = p => n (z ▸ hpF))]; exact q, fun b h => .inl h, fun x hx => by rw [R1.tpe x hx]; simp⟩⟩
end
end Vs
/-! Vs13: what a body computes is what it does. -/
namespace Vs
open PySem L2
section
variable {G : Rg} {M M' S S' B B' P L R0 : AP} {H H' H0 H1 H2 : Hp} {K : PySem.W.Frag} {tp tp1 tp' : Tape} {env : Env} {σ : L2.St} {fs fs1 fs2 : List (List Addr)} {g g1 g2 : List Addr} {F F1 F2 : List Addr} {n : Nat}
def SSnd (K : PySem.W.Frag) (G : Rg) (t : TS) (f : Env → Tape → Option Out) : Prop := ∀ env tp out, f env tp = some out → ∀ R0 H0 σ H fs, StI G R0 H0 env tp σ H fs → (∀ b, H b = none → H0 b = none) → ∀ D : Ends, OutK G R0 H0 H fs.flatten out D → t D σ H
theorem hb_step (h : ∀ b, H b = none → H0 b = none) (R : StI G R0 H0 env tp σ H fs) (s : Stp G H fs.flatten H1 F1) : ∀ b, H1 b = none → H0 b = none := fun b hb => (s.back hb).elim (fun z => R.fresh b z) (h b)
theorem for_sound {t : SG} {tb : TS} {body : Env → Tape → Option Out} (hb : SSnd K G tb body) {J : It} {ss : List Sl} {out : Out} (I : Itm K G (Mr G R0 fs) (fun b => b ∈ fs.flatten ∨ G.to = some b) (Ss G H0) H J ss) (h9 : forGo t body ss env tp = some out) (R : StI G R0 H0 env tp σ H fs) (hH : ∀ b, H b = none → H0 b = none)
    {D : Ends} (q : OutK G R0 H0 H fs.flatten out D) :
    ∃ W : Nat → Nat → L2.St → Hp → Prop, (∃ m, W 0 m σ H) ∧ ∀ i m σ H, W i m σ H →
      (J.stop i H ∧ D.nx σ H) ∨ (J.go i H ∧ ∃ N : L2.St → Hp → Prop, (∀ σ' H', N σ' H' → ∃ m', m' < m ∧ W (i + 1) m' σ' H') ∧ ∀ x H', J.yld i H x H' → semG K t x σ H' fun σ2 H2 => tb { D with nx := N, ct := N, bk := D.nx } σ2 H2) := by
  obtain ⟨Y, w, hy⟩ := I.run
  refine for_it w (fun i σ' H' => ∃ env' tp' fs', forGo t body (ss.drop i) env' tp' = some out ∧ StI G R0 H0 env' tp' σ' H' fs' ∧ Stp G H fs.flatten H' fs'.flatten) ⟨env, tp, fs, by simpa using h9, R, Stp.refl R.def_⟩ ?_ ?_ ?_
  · rintro i σ' H' hi ⟨env', tp', fs', e, R', s⟩
    exact fun b o n e => s.fr b o (fun z => n (.inl z)) (fun z => n (.inr z)) e
  · rintro i x σ' H' H2 hi ⟨env', tp', fs', e, R', s⟩ hY
    have frp : FrP (fun b => b ∈ fs.flatten ∨ G.to = some b) H H' := fun b o n e => s.fr b o (fun z => n (.inl z)) (fun z => n (.inr z)) e
    have hMM : ∀ b o, H b = some o → ¬ Mr G R0 fs b → ¬ Mr G R0 fs' b := fun b o e m z => by
      rcases z with z | z | z
      · rcases s.own b z with h | h
        · exact m (.inl h)
        · rw [h] at e; cases e
      · exact m (.inr (.inl z))
      · exact m (.inr (.inr z))
    obtain ⟨ext, s1, es, hsl⟩ := hy i H' x H2 (Mr G R0 fs') (Ss G H0) hi frp hMM (fun b o e m => m) R'.rep.hD hY
    · have ed : ss.drop i = s1 :: ss.drop (i + 1) := by
        have hi' : i < ss.length := hi
        rw [List.drop_eq_getElem_cons hi', (List.getElem?_eq_some_iff.mp es).2]
      rw [ed] at e
      unfold forGo at e
      split at e
      · cases e
      rename_i en1 hbd
      have t2 : Tp G tp' H2 := fun a ha => ext a _ (R'.rep.tpe a ha)
      have R2 := R'.nx (Fr.ofExt ext) t2
      have s2 : Stp G H fs.flatten H2 fs'.flatten := s.trans (stp_fr R' (Fr.ofExt ext) t2)
      obtain ⟨σ3, fs3, R3, hF3, hw3, hk3⟩ := bind_sound (K := K) t s1 env' en1 σ' fs' x hbd R2.rep hsl
      have R3' : StI G R0 H0 en1 tp' σ3 H2 fs3 := ⟨srep_mono R3 (fun b hb => hb.elim (fun h => .inl (hF3 b h)) .inr) (fun b hb => .inl hb) (fun a ha => .inr (.inl ha)), fun b hb => R'.fresh b (hF3 b hb), R.r0⟩
      have s3 : Stp G H fs.flatten H2 fs3.flatten := ⟨s2.fr, fun b hb => s2.own b (hF3 b hb), s2.td⟩
      have hH2 : ∀ b, H2 b = none → H0 b = none := hb_step hH R s2
      refine hk3 _ ?_
      split at e
      · rename_i e2 t2' hbo
        exact hb _ _ _ hbo R0 H0 σ3 H2 fs3 R3' hH2 _ fun σ4 H4 fs4 R4 s4 => ⟨e2, t2', fs4, e, R4, s3.trans s4⟩
      · rename_i e2 t2' hbo
        exact hb _ _ _ hbo R0 H0 σ3 H2 fs3 R3' hH2 _ fun σ4 H4 fs4 R4 s4 => ⟨e2, t2', fs4, e, R4, s3.trans s4⟩
      · rename_i e2 t2' hbo
        cases e
        exact hb _ _ _ hbo R0 H0 σ3 H2 fs3 R3' hH2 _ fun σ4 H4 fs4 R4 s4 => q σ4 H4 fs4 R4 (s3.trans s4)
      · rename_i r e2 t2' hbo
        cases e
        refine hb _ _ _ hbo R0 H0 σ3 H2 fs3 R3' hH2 _ ?_
        exact OutK.step (D := { D with nx := _, ct := _, bk := D.nx }) (o := .rt r e2 t2') q s3
      · cases e
  · rintro σ' H' ⟨env', tp', fs', e, R', s⟩
    have : ss.drop ss.length = [] := by simp
    rw [this] at e
    unfold forGo at e
    cases e
    exact q σ' H' fs' R' s

theorem whl_sound {tc : TT} {tb : TS} {c : Env → Tape → Option (Bool × Tape)} {body : Env → Tape → Option Out} (hc : ∀ env tp b tp', c env tp = some (b, tp') → ∀ R0 H0 σ H fs, StI G R0 H0 env tp σ H fs → ∀ Q : Bool → Hp → Prop, (∀ H', Fr G H H' → Tp G tp' H' → Q b H') → tc σ H Q) (hb : SSnd K G tb body) {out : Out}
    (h9 : whlGo c body n env tp = some out) (R : StI G R0 H0 env tp σ H fs) (hH : ∀ b, H b = none → H0 b = none) {D : Ends} (q : OutK G R0 H0 H fs.flatten out D) : tWhile tc tb D σ H := by
  refine ⟨fun m σ' H' => ∃ env' tp' fs', whlGo c body m env' tp' = some out ∧ StI G R0 H0 env' tp' σ' H' fs' ∧ Stp G H fs.flatten H' fs'.flatten, ⟨n, env, tp, fs, h9, R, Stp.refl R.def_⟩, ?_⟩
  rintro m σ' H' ⟨env', tp', fs', e, R', s⟩
  cases m with
  | zero => cases e
  | succ m =>
    unfold whlGo at e
    split at e
    · rename_i t1 ec
      cases e
      refine hc _ _ _ _ ec R0 H0 σ' H' fs' R' _ fun H2 fr2 t2 => ?_
      rw [if_neg (by simp)]
      exact q σ' H2 fs' (R'.nx fr2 t2) (s.trans (stp_fr R' fr2 t2))
    · rename_i t1 ec
      refine hc _ _ _ _ ec R0 H0 σ' H' fs' R' _ fun H2 fr2 t2 => ?_
      rw [if_pos rfl]
      have R2 := R'.nx fr2 t2
      have s2 := s.trans (stp_fr R' fr2 t2)
      have hH2 := hb_step hH R s2
      refine ⟨fun σ3 H3 => ∃ env3 tp3 fs3, whlGo c body m env3 tp3 = some out ∧ StI G R0 H0 env3 tp3 σ3 H3 fs3 ∧ Stp G H fs.flatten H3 fs3.flatten, fun σ3 H3 h => ⟨m, Nat.lt_succ_self m, h⟩, ?_⟩
      split at e
      · rename_i e2 t2' hbo
        exact hb _ _ _ hbo R0 H0 σ' H2 fs' R2 hH2 _ fun σ4 H4 fs4 R4 s4 => ⟨e2, t2', fs4, e, R4, s2.trans s4⟩
      · rename_i e2 t2' hbo
        exact hb _ _ _ hbo R0 H0 σ' H2 fs' R2 hH2 _ fun σ4 H4 fs4 R4 s4 => ⟨e2, t2', fs4, e, R4, s2.trans s4⟩
      · rename_i e2 t2' hbo
        cases e
        exact hb _ _ _ hbo R0 H0 σ' H2 fs' R2 hH2 _ fun σ4 H4 fs4 R4 s4 => q σ4 H4 fs4 R4 (s2.trans s4)
      · rename_i r e2 t2' hbo
        cases e
        refine hb _ _ _ hbo R0 H0 σ' H2 fs' R2 hH2 _ ?_
        exact OutK.step (D := { D with nx := _, ct := _, bk := D.nx }) (o := .rt r e2 t2') q s2
      · cases e
    · cases e
theorem ret_sound {r : Rv} {v : V} {t : Tape} (R : StI G R0 H0 env tp σ H fs) (fr : Fr G H H1) (t1 : Tp G tp1 H1) (rep : RvRep G (Mx (Mr G R0 fs) g) (Tb G) H1 r v g) (nd : g.Nodup) (fresh : ∀ b ∈ g, b ∈ fs.flatten ∨ H b = none) {D : Ends} {env' : Env} (q : OutK G R0 H0 H fs.flatten (.rt r env' tp1) D) : D.rt v H1 :=
  q v H1 g (fun b o _ n e => fr b o n e) t1 (rv_mono rep fun b h => h.elim (fun h => .inl (.inr h)) .inr) nd fresh
theorem nodup_slot (nd : fs.flatten.Nodup) {i : Nat} {f : List Addr} (e : fs[i]? = some f) : f.Nodup := by
  obtain ⟨a, b, x, ex, e1, e2⟩ := flat_set fs i [] (List.getElem?_eq_some_iff.mp e).1
  rw [e] at ex
  cases ex
  rw [e1, List.nodup_append] at nd
  rw [List.nodup_append] at nd
  exact nd.2.1.1
/-- a name's value, moved out -/
theorem mv_rep (R : StI G R0 H0 env tp σ H fs) {i : Nat} {s : Sl} {r : Rv} (e : env[i]? = some s) (er : rdMv s = some r) : ∃ v f, σ[i]? = some (some v) ∧ fs[i]? = some f ∧ RvRep G (Mr G R0 fs) (Tb G) H r v f := by
  obtain ⟨ov, f, e1, e2, rep⟩ := slot_get R.rep e
  cases s with
  | un => cases er
  | sh d => cases er; obtain ⟨rfl, v, rfl, hv⟩ := rep; exact ⟨v, [], e1, e2, rfl, hv⟩
  | ow ds => cases er; obtain ⟨a, vs, ef, rfl, ha, hs⟩ := rep; exact ⟨_, f, e1, e2, a, vs, ef, rfl, ha, hs⟩
  | bw ds => cases er
  | tp => cases er
  | nt ts => cases er; obtain ⟨v, rfl, ht⟩ := rep; exact ⟨v, f, e1, e2, ht⟩
  | nb ts => cases er

theorem set_self {α : Type} {l : List α} {i : Nat} {x : α} (e : l[i]? = some x) : l.set i x = l := by
  apply List.ext_getElem?
  intro j
  by_cases ej : i = j
  · subst ej; rw [List.getElem?_set_self (List.getElem?_eq_some_iff.mp e).1, e]
  · rw [List.getElem?_set_ne ej]
/-- from here on the name's list changes no more -/
theorem frz_sound (R : StI G R0 H0 env tp σ H fs) {i : Nat} {s s' : Sl} (e : env[i]? = some s) (es : frzSl s = some s') : StI G R0 H0 (env.set i s') tp σ H (fs.set i []) ∧ Stp G H fs.flatten H (fs.set i []).flatten := by
  have hm : ∃ r d, rdMv s = some r ∧ r.shd = some d ∧ s' = .sh d := by
    cases s with
    | un => cases es
    | sh d => cases es; exact ⟨_, _, rfl, rfl, rfl⟩
    | ow ds => cases es; exact ⟨_, _, rfl, rfl, rfl⟩
    | bw ds => cases es
    | tp => cases es
    | nt ts => cases es; exact ⟨_, _, rfl, rfl, rfl⟩
    | nb ts => cases es
  obtain ⟨r, d, er, ed, rfl⟩ := hm
  obtain ⟨v, f, e1, e2, rep⟩ := mv_rep R e er
  have hi : i < env.length := (List.getElem?_eq_some_iff.mp e).1
  obtain ⟨R1, q1⟩ := srep_set0 R.rep hi (s := .un) (ov := none) rfl
  have R2 : SRep G (Mr G R0 (fs.set i [])) (Ss G H0) (env.set i .un) tp (σ.set i none) H (fs.set i []) := srep_mono R1 (fun b hb => hb.elim (fun h => .inl (q1 b h)) .inr) (fun b hb => .inl hb) (fun a ha => .inr (.inl ha))
  have hf : ∀ b ∈ f, ¬ Mr G R0 (fs.set i []) b := fun b hb m => by
    have hbF := mem_flat e2 hb
    rcases m with m | m | m
    · obtain ⟨a, c, x, ex, e3, e4⟩ := flat_set fs i [] (List.getElem?_eq_some_iff.mp e2).1
      rw [e2] at ex
      cases ex
      have nd := R.rep.nodup
      rw [e3, List.nodup_append] at nd
      obtain ⟨na, nxc, dxc⟩ := nd
      rw [List.nodup_append] at nxc
      rw [e4] at m
      simp only [List.nil_append, List.mem_append] at m
      rcases m with m | m
      · exact dxc b m b (List.mem_append_left _ hb) rfl
      · exact nxc.2.2 b hb b m rfl
    · exact (R.rep.hT b m).2 hbF
    · exact R.r0 b m (R.fresh b hbF)
  have w : Vl G (Mr G R0 (fs.set i [])) H d v := rv_shd rep ed (fun b hb => hb.elim (fun h => .inl (q1 b h)) .inr) hf
  obtain ⟨R3, q3⟩ := srep_set0 R2 (i := i) (s := .sh d) (ov := some v) (by simpa using hi) ⟨rfl, v, rfl, w⟩
  rw [List.set_set, List.set_set, List.set_set, set_self e1] at R3
  exact ⟨⟨R3, fun b hb => R.fresh b (q1 b hb), R.r0⟩, ⟨fun b o _ _ e => e, fun b hb => .inl (q1 b hb), R.def_⟩⟩
mutual
theorem sndS (hG : NetOk K G.N) (n : Nat) : ∀ s : SS, SSnd K G (semS K G.N s) (evS n s)
  | .asg t e, env, tp, out, he, R0, H0, σ, H, fs, R, hH, D, q => by
    simp only [evS] at he
    split at he
    · rename_i r tp1 ee
      split at he
      · rename_i i r
        split at he
        · rename_i s es
          split at he
          · rename_i hi
            cases he
            refine sndE hG e env tp _ _ ee _ _ σ H fs R.eR R.tf R.tM _ fun v H1 g fr1 t1 rep1 nd1 fresh1 => ?_
            obtain ⟨R1, s1⟩ := sti_set R (.inr hH) fr1 t1 hi (sl_of_rv es rep1) nd1 fresh1 (own_def (rv_own rep1))
            exact q _ H1 _ R1 s1
          · cases he
        · cases he
      · rename_i d hn
        simp only [Option.map_eq_some_iff] at he
        obtain ⟨e1, hb, rfl⟩ := he
        refine sndE hG e env tp _ _ ee _ _ σ H fs R.eR R.tf R.tM _ fun v H1 g fr1 t1 rep1 nd1 fresh1 => ?_
        have R1 := R.nx fr1 t1
        have w : Vl G (Mr G R0 fs) H1 d v := vl_tr (mono_h fun b h => .inl h) _ _ rep1.2
        obtain ⟨σ3, fs3, R3, hF3, hw3, hk3⟩ := bind_sound (K := K) t (.sh d) env e1 σ fs v hb R1.rep ⟨rfl, v, rfl, w⟩
        refine hk3 _ (q σ3 H1 fs3 ⟨srep_mono R3 (fun b hb => hb.elim (fun h => .inl (hF3 b h)) .inr) (fun b hb => .inl hb) (fun a ha => .inr (.inl ha)), fun b hb => R.fresh b (hF3 b hb), R.r0⟩ ?_)
        have s1 := stp_fr R fr1 t1
        exact ⟨s1.fr, fun b hb => .inl (hF3 b hb), s1.td⟩
      · cases he
    · cases he
  | .asgN i e, env, tp, out, he, R0, H0, σ, H, fs, R, hH, D, q => by
    simp only [evS] at he
    split at he
    · rename_i r tp1 ee
      split at he
      · rename_i s es
        split at he
        · rename_i hi
          cases he
          refine sndE hG e env tp _ _ ee _ _ σ H fs R.eR R.tf R.tM _ fun v H1 g fr1 t1 rep1 nd1 fresh1 => ?_
          obtain ⟨R1, s1⟩ := sti_set R (.inr hH) fr1 t1 hi (slN_of_rv es rep1) nd1 fresh1 (own_def (rv_own rep1))
          exact q _ H1 _ R1 s1
        · cases he
      · cases he
    · cases he
  | .asgF i e, env, tp, out, he, R0, H0, σ, H, fs, R, hH, D, q => by
    simp only [evS] at he
    split at he
    · rename_i r tp1 ee
      split at he
      · rename_i d ed
        split at he
        · rename_i hi
          cases he
          refine sndE hG e env tp _ _ ee _ _ σ H fs R.eR R.tf R.tM _ fun v H1 g fr1 t1 rep1 nd1 fresh1 => ?_
          have w : Vl G (Mx (Mr G R0 fs) []) H1 d v := vl_mx0 (rv_shd rep1 ed (fun b h => .inl h) fun b hb m => R.rep.hD b m (fresh1 b hb))
          obtain ⟨R1, s1⟩ := sti_set R (.inr hH) fr1 t1 hi (s := .sh d) ⟨rfl, v, rfl, w⟩ .nil (by simp) (by simp)
          exact q _ H1 _ R1 s1
        · cases he
      · cases he
    · cases he
  | .aug i o e, env, tp, out, he, R0, H0, σ, H, fs, R, hH, D, q => by
    simp only [evS] at he
    split at he
    · rename_i a ea
      obtain ⟨ov, f, e1, e2, rep⟩ := slot_get R.rep ea
      obtain ⟨_, v, rfl, hv⟩ := rep
      have ev : v = .int a := by simpa [Vl] using hv
      subst ev
      have hi : i < env.length := (List.getElem?_eq_some_iff.mp ea).1
      split at he
      · rename_i b tp1 ee
        have fin : ∀ z : Int, out = .nx (env.set i (.sh (.int z))) tp1 → augF o a b = z → semS K G.N (.aug i o e) D σ H := fun z eo ez => by
          subst eo
          refine ⟨.int a, e1, sndE hG e env tp _ _ ee _ _ σ H fs R.eR R.tf R.tM _ fun v H1 g fr1 t1 rep1 nd1 fresh1 => ?_⟩
          refine ⟨a, b, rfl, sh_int rep1, ?_⟩
          obtain ⟨R1, s1⟩ := sti_set R (.inr hH) fr1 t1 hi (s := .sh (.int z)) (v := .int z) (g := []) ⟨rfl, _, rfl, by simp [Vl]⟩ .nil (by simp) (by simp)
          rw [ez]
          exact q _ H1 _ R1 s1
        split at he
        · cases he; exact fin _ rfl rfl
        · cases he; exact fin _ rfl rfl
        · cases he
      · cases he
    · cases he
  | .set i ix e, env, tp, out, he, R0, H0, σ, H, fs, R, hH, D, q => by
    simp only [evS] at he
    split at he
    · rename_i r tp1 ee
      split at he
      · rename_i d ed
        split at he
        · rename_i k tp2 ei
          split at he
          · rename_i ds es
            split at he
            · rename_i j ej
              cases he
              refine sndE hG e env tp _ _ ee _ _ σ H fs R.eR R.tf R.tM _ fun v H1 g fr1 t1 rep1 nd1 fresh1 => ?_
              have R1 := R.nx fr1 t1
              have w : Vl G (Mr G R0 fs) H1 d v := rv_shd rep1 ed (fun b h => .inl h) fun b hb m => R.rep.hD b m (fresh1 b hb)
              obtain ⟨ov, f, e1, e2, rep⟩ := slot_get R1.rep es
              obtain ⟨p, vs, rfl, rfl, ha, hs⟩ := rep
              refine ⟨.ref p, e1, ?_⟩
              refine sndE hG ix env tp1 _ _ ei _ _ σ H1 fs R1.eR R1.tf R1.tM _ fun w2 H2 g2 fr2 t2 rep2 nd2 fresh2 => ?_
              have R2 := R1.nx fr2 t2
              obtain ⟨ov2, f2, e12, e22, rep3⟩ := slot_get R2.rep es
              rw [e1] at e12
              cases e12
              obtain ⟨p', vs2, _, ep, ha2, hs2⟩ := rep3
              cases ep
              refine ⟨p, vs2, k, j, rfl, sh_int rep2, ha2, by rw [vls_len hs2]; exact ej, ?_⟩
              have w' : Vl G (Mr G R0 fs) H2 d v := vl_tr (fun b o e m => ⟨m, fr2 b o (fun z => m (R1.rep.hT' b z)) e⟩) _ _ w
              obtain ⟨R3, s3⟩ := sti_upd R2 es e1 (vls_set j hs2 w')
              exact q _ _ _ R3 (((stp_fr R fr1 t1).trans (stp_fr R1 fr2 t2)).trans s3)
            · cases he
          · cases he
        · cases he
      · cases he
    · cases he
  | .swap i a b x y, env, tp, out, he, R0, H0, σ, H, fs, R, hH, D, q => by
    simp only [evS] at he
    split at he
    · rename_i dx tp1 ex
      split at he
      · rename_i dy tp2 ey
        split at he
        · rename_i ds es
          split at he
          · rename_i ka tp3 ea
            split at he
            · rename_i ja eja
              split at he
              · rename_i kb tp4 eb
                split at he
                · rename_i jb ejb
                  cases he
                  refine sndE hG x env tp _ _ ex _ _ σ H fs R.eR R.tf R.tM _ fun vx H1 g fr1 t1 rep1 nd1 fresh1 => ?_
                  have R1 := R.nx fr1 t1
                  have wx : Vl G (Mr G R0 fs) H1 dx vx := vl_tr (mono_h fun b h => .inl h) _ _ rep1.2
                  refine sndE hG y env tp1 _ _ ey _ _ σ H1 fs R1.eR R1.tf R1.tM _ fun vy H2 g2 fr2 t2 rep2 nd2 fresh2 => ?_
                  have R2 := R1.nx fr2 t2
                  have wx2 : Vl G (Mr G R0 fs) H2 dx vx := vl_tr (fun b o e m => ⟨m, fr2 b o (fun z => m (R1.rep.hT' b z)) e⟩) _ _ wx
                  have wy : Vl G (Mr G R0 fs) H2 dy vy := vl_tr (mono_h fun b h => .inl h) _ _ rep2.2
                  refine ⟨by show 2 ≤ sizeLine; decide, fun p hp => ?_⟩
                  have ext : Ext H2 (upd H2 p (.tup [vx, vy])) := ext_new hp
                  have t2' : Tp G tp2 (upd H2 p (.tup [vx, vy])) := fun a ha => ext a _ (t2 a ha)
                  have R3 := R2.nx (Fr.ofExt ext) t2'
                  have trp : ∀ b o, H2 b = some o → ¬ Mr G R0 fs b → ¬ Mr G R0 fs b ∧ (upd H2 p (.tup [vx, vy])) b = some o := fun b o e m => ⟨m, ext b o e⟩
                  have wx3 := vl_tr trp _ _ wx2
                  have wy3 := vl_tr trp _ _ wy
                  refine ⟨p, [vx, vy], rfl, SqT.of upd_same, rfl, vx, [vy], rfl, ?_⟩
                  obtain ⟨ov, f, e1, e2, rep⟩ := slot_get R3.rep es
                  obtain ⟨pl, vs, rfl, rfl, ha, hs⟩ := rep
                  refine ⟨.ref pl, e1, ?_⟩
                  refine sndE hG a env tp2 _ _ ea _ _ σ _ fs R3.eR R3.tf R3.tM _ fun va H4 g4 fr4 t4 rep4 nd4 fresh4 => ?_
                  have R4 := R3.nx fr4 t4
                  have tr4 : ∀ b o, (upd H2 p (.tup [vx, vy])) b = some o → ¬ Mr G R0 fs b → ¬ Mr G R0 fs b ∧ H4 b = some o := fun b o e m => ⟨m, fr4 b o (fun z => m (R3.rep.hT' b z)) e⟩
                  have wx4 := vl_tr tr4 _ _ wx3
                  have wy4 := vl_tr tr4 _ _ wy3
                  obtain ⟨ov2, f2, e12, e22, rep5⟩ := slot_get R4.rep es
                  rw [e1] at e12
                  cases e12
                  obtain ⟨p', vs2, _, ep, ha2, hs2⟩ := rep5
                  cases ep
                  refine ⟨pl, vs2, ka, ja, rfl, sh_int rep4, ha2, by rw [vls_len hs2]; exact eja, ?_⟩
                  obtain ⟨R5, s5⟩ := sti_upd R4 es e1 (vls_set ja hs2 wx4)
                  have hplF : pl ∈ fs.flatten := mem_flat e2 (by simp)
                  have tr5 : ∀ b o, H4 b = some o → ¬ Mr G R0 fs b → ¬ Mr G R0 fs b ∧ (upd H4 pl (.lst (vs2.set ja vx))) b = some o := fun b o e m => ⟨m, s5.fr b o (fun z => m (.inl z)) (fun z => m (.inr (.inl z))) e⟩
                  have wy5 := vl_tr tr5 _ _ wy4
                  refine ⟨vy, [], rfl, ?_⟩
                  refine ⟨.ref pl, e1, ?_⟩
                  refine sndE hG b (env.set i (.ow (ds.set ja dx))) tp3 _ _ eb _ _ σ _ fs R5.eR R5.tf R5.tM _ fun vb H6 g6 fr6 t6 rep6 nd6 fresh6 => ?_
                  have R6 := R5.nx fr6 t6
                  have wy6 : Vl G (Mr G R0 fs) H6 dy vy := vl_tr (fun b o e m => ⟨m, fr6 b o (fun z => m (R5.rep.hT' b z)) e⟩) _ _ wy5
                  have hi : i < env.length := (List.getElem?_eq_some_iff.mp es).1
                  have es6 : (env.set i (.ow (ds.set ja dx)))[i]? = some (.ow (ds.set ja dx)) := by rw [List.getElem?_set_self hi]
                  obtain ⟨ov7, f7, e17, e27, rep7⟩ := slot_get R6.rep es6
                  rw [e1] at e17
                  cases e17
                  obtain ⟨p7, vs7, _, ep7, ha7, hs7⟩ := rep7
                  cases ep7
                  refine ⟨pl, vs7, kb, jb, rfl, sh_int rep6, ha7, by rw [vls_len hs7, List.length_set]; exact ejb, ?_⟩
                  obtain ⟨R8, s8⟩ := sti_upd R6 es6 e1 (vls_set jb hs7 wy6)
                  rw [List.set_set] at R8
                  refine ⟨rfl, q _ _ _ R8 ?_⟩
                  exact ((((((stp_fr R fr1 t1).trans (stp_fr R1 fr2 t2)).trans (stp_fr R2 (Fr.ofExt ext) t2')).trans (stp_fr R3 fr4 t4)).trans s5).trans (stp_fr R5 fr6 t6)).trans s8
                · cases he
              · cases he
            · cases he
          · cases he
        · cases he
      · cases he
    · cases he
  | .app i e, env, tp, out, he, R0, H0, σ, H, fs, R, hH, D, q => by
    simp only [evS] at he
    split at he
    · rename_i r tp1 ee
      split at he
      · rename_i ds es
        split at he
        · rename_i d ed
          split at he
          · rename_i hz
            cases he
            obtain ⟨ov, f, e1, e2, rep⟩ := slot_get R.rep es
            obtain ⟨p, vs, rfl, rfl, ha, hs⟩ := rep
            refine ⟨.ref p, e1, .inl ⟨rfl, _, SqL.of ha⟩, ?_⟩
            refine sndE hG e env tp _ _ ee _ _ σ H fs R.eR R.tf R.tM _ fun v H1 g fr1 t1 rep1 nd1 fresh1 => ?_
            have R1 := R.nx fr1 t1
            have w : Vl G (Mr G R0 fs) H1 d v := rv_shd rep1 ed (fun b h => .inl h) fun b hb m => R.rep.hD b m (fresh1 b hb)
            obtain ⟨ov2, f2, e12, e22, rep3⟩ := slot_get R1.rep es
            rw [e1] at e12
            cases e12
            obtain ⟨p', vs2, _, ep, ha2, hs2⟩ := rep3
            cases ep
            refine ⟨p, vs2, v, rfl, rfl, ha2, ?_, ?_⟩
            · rw [vls_len hs2]
              have := sz_ok hz
              exact Nat.lt_of_succ_le this
            · obtain ⟨R3, s3⟩ := sti_upd R1 es e1 (vls_append hs2 (show Vls G (Mr G R0 fs) H1 [d] [v] by simp only [Vls]; exact ⟨v, [], rfl, w, rfl⟩))
              exact q _ _ _ R3 ((stp_fr R fr1 t1).trans s3)
          · cases he
        · cases he
      · rename_i ts es
        split at he
        · rename_i t et
          split at he
          · rename_i hz
            cases he
            obtain ⟨ov, f, e1, e2, rep⟩ := slot_get R.rep es
            obtain ⟨v0, rfl, ht0⟩ := rep
            simp only [Tl] at ht0
            obtain ⟨p, vs, g', rfl, rfl, ha, hs⟩ := ht0
            refine ⟨.ref p, e1, .inl ⟨rfl, _, SqL.of ha⟩, ?_⟩
            refine sndE hG e env tp _ _ ee _ _ σ H fs R.eR R.tf R.tM _ fun v H1 g fr1 t1 rep1 nd1 fresh1 => ?_
            have R1 := srep_next R.rep fr1 t1 fresh1 (own_def (rv_own rep1))
            obtain ⟨ov2, f2, e12, e22, rep3⟩ := slot_get R1 es
            rw [e1] at e12
            cases e12
            rw [e2] at e22
            cases e22
            obtain ⟨v3, ev3, ht3⟩ := rep3
            cases ev3
            simp only [Tl] at ht3
            obtain ⟨p', vs2, g2', eg, ep, ha2, hs2⟩ := ht3
            cases ep
            cases eg
            refine ⟨p, vs2, v, rfl, rfl, ha2, ?_, ?_⟩
            · rw [tls_len hs2]
              have := sz_ok hz
              exact Nat.lt_of_succ_le this
            · have hpF : p ∈ fs.flatten := mem_flat e2 (by simp)
              have hi : i < env.length := (List.getElem?_eq_some_iff.mp es).1
              have hall : Tls G (Mx (Mr G R0 fs) g) H1 (ts ++ [t]) (vs2 ++ [v]) (g' ++ g) := tls_append hs2 (by simp only [Tls]; exact ⟨v, [], g, [], rfl, by simp, rv_tree rep1 et, rfl, rfl⟩)
              have ndf : (p :: g').Nodup := nodup_slot R.rep.nodup e2
              have hpg : ∀ b ∈ g, b ∉ fs.flatten := fun b hb z => R.rep.hD b (.inl z) (fresh1 b hb)
              have hall' : Tls G (Mx (Mr G R0 fs) g) (upd H1 p (.lst (vs2 ++ [v]))) (ts ++ [t]) (vs2 ++ [v]) (g' ++ g) := tls_tr (fun b o e m => ⟨m, by rw [upd_ne (fun z : b = p => m (z ▸ .inl (.inl hpF)))]; exact e⟩) _ _ _ hall (fun b hb o e => by
                have ne : b ≠ p := fun z => by
                  subst z
                  rcases List.mem_append.mp hb with hb | hb
                  · exact (List.nodup_cons.mp ndf).1 hb
                  · exact hpg b hb hpF
                rw [upd_ne ne]; exact e)
              have ndn : (p :: (g' ++ g)).Nodup := by
                rw [List.nodup_cons] at ndf ⊢
                refine ⟨fun z => (List.mem_append.mp z).elim ndf.1 (fun z => hpg p z hpF), ?_⟩
                rw [List.nodup_append]
                exact ⟨ndf.2, nd1, fun a ha b hb z => hpg b hb (mem_flat e2 (by rw [← z]; simp [ha]))⟩
              obtain ⟨R3, q3⟩ := srep_at R1 hi e1 e2 (p := p) (by simp) (R.fS p hpF) (s' := .nt (ts ++ [t])) (f' := p :: (g' ++ g)) (o := .lst (vs2 ++ [v])) ⟨_, rfl, by simp only [Tl]; exact ⟨p, _, g' ++ g, rfl, rfl, upd_same, hall'⟩⟩ ndn
                (fun b hb => by
                  rcases List.mem_cons.mp hb with hb | hb
                  · exact .inl (by simp [hb])
                  · rcases List.mem_append.mp hb with hb | hb
                    · exact .inl (by simp [hb])
                    · exact .inr (.inr ⟨hpg b hb, .inr hb, no_ta R.eR fresh1 b hb⟩))
                (fun b hb => by
                  rcases List.mem_cons.mp hb with hb | hb
                  · exact .inl (.inl (hb ▸ hpF))
                  · rcases List.mem_append.mp hb with hb | hb
                    · exact .inl (.inl (mem_flat e2 (by simp [hb])))
                    · exact .inr hb)
              have q3' : ∀ b ∈ (fs.set i (p :: (g' ++ g))).flatten, b ∈ fs.flatten ∨ b ∈ g := fun b hb => by
                rcases q3 b hb with h | h
                · exact .inl h
                · rcases List.mem_cons.mp h with h | h
                  · exact .inl (h ▸ hpF)
                  · rcases List.mem_append.mp h with h | h
                    · exact .inl (mem_flat e2 (by simp [h]))
                    · exact .inr h
              refine q _ _ (fs.set i (p :: (g' ++ g))) ⟨srep_mono R3 (fun b hb => ?_) (fun b hb => .inl hb) (fun a ha => .inr (.inl ha)), fun b hb => (q3' b hb).elim (R.fresh b) (fun h => hH b (fresh1 b h)), R.r0⟩ ⟨fun b o n t e => ?_, fun b hb => (q3' b hb).elim .inl (fun h => .inr (fresh1 b h)), fun a ha => by rw [R3.tpe a ha]; simp⟩
              · rcases hb with hb | hb
                · exact (q3' b hb).elim (fun h => .inl (.inl h)) .inr
                · exact .inl (.inr hb)
              · rw [upd_ne (fun z : b = p => n (z ▸ hpF))]; exact fr1 b o t e
          · cases he
        · cases he
      · cases he
    · cases he
  | .ext i e, env, tp, out, he, R0, H0, σ, H, fs, R, hH, D, q => by
    simp only [evS] at he
    split at he
    · rename_i r tp1 ee
      split at he
      · rename_i ds es
        obtain ⟨ov, f, e1, e2, rep⟩ := slot_get R.rep es
        obtain ⟨p, vs, rfl, rfl, ha, hs⟩ := rep
        have fin : ∀ es' : List Vs.D, (r = .sh (.lst es') ∨ r = .fr es') → sizeOk (ds.length + es'.length) = true → out = .nx (env.set i (.ow (ds ++ es'))) tp1 → semS K G.N (.ext i e) D σ H := fun es' hr hz eo => by
          subst eo
          refine ⟨.ref p, e1, .inl ⟨rfl, _, SqL.of ha⟩, ?_⟩
          refine sndE hG e env tp _ _ ee _ _ σ H fs R.eR R.tf R.tM _ fun v H1 g fr1 t1 rep1 nd1 fresh1 => ?_
          have R1 := R.nx fr1 t1
          have hl : ∃ b ws, v = .ref b ∧ H1 b = some (.lst ws) ∧ Vls G (Mr G R0 fs) H1 es' ws := by
            rcases hr with rfl | rfl
            · have h := rep1.2
              simp only [Vl] at h
              obtain ⟨b, ws, rfl, _, hb, hw⟩ := h
              exact ⟨b, ws, rfl, hb, vls_tr (mono_h fun b h => .inl h) _ _ hw⟩
            · obtain ⟨b, ws, _, rfl, hb, hw⟩ := rep1
              exact ⟨b, ws, rfl, hb, vls_tr (mono_h fun b h => .inl h) _ _ hw⟩
          obtain ⟨b, ws, rfl, hb, hw⟩ := hl
          obtain ⟨ov2, f2, e12, e22, rep3⟩ := slot_get R1.rep es
          rw [e1] at e12
          cases e12
          obtain ⟨p', vs2, _, ep, ha2, hs2⟩ := rep3
          cases ep
          refine ⟨p, b, vs2, ws, rfl, rfl, ha2, hb, by rw [vls_len hs2, vls_len hw]; exact sz_ok hz, ?_⟩
          obtain ⟨R3, s3⟩ := sti_upd R1 es e1 (vls_append hs2 hw)
          exact q _ _ _ R3 ((stp_fr R fr1 t1).trans s3)
        split at he
        · rename_i es'
          split at he
          · rename_i hz; cases he; exact fin es' (.inl rfl) hz rfl
          · cases he
        · rename_i es'
          split at he
          · rename_i hz; cases he; exact fin es' (.inr rfl) hz rfl
          · cases he
        · cases he
      · cases he
    · cases he
  | .ifS c a b, env, tp, out, he, R0, H0, σ, H, fs, R, hH, D, q => by
    simp only [evS] at he
    split at he
    · rename_i tp1 ec
      refine sndT hG c env tp _ _ ec _ _ σ H fs R.eR R.tf R.tM _ fun H1 fr1 t1 => ?_
      rw [if_pos rfl]
      exact sndB hG n a env tp1 out he R0 H0 σ H1 fs (R.nx fr1 t1) (hb_step hH R (stp_fr R fr1 t1)) D (q.step (stp_fr R fr1 t1))
    · rename_i tp1 ec
      refine sndT hG c env tp _ _ ec _ _ σ H fs R.eR R.tf R.tM _ fun H1 fr1 t1 => ?_
      rw [if_neg (by simp)]
      exact sndB hG n b env tp1 out he R0 H0 σ H1 fs (R.nx fr1 t1) (hb_step hH R (stp_fr R fr1 t1)) D (q.step (stp_fr R fr1 t1))
    · cases he
  | .for it t b, env, tp, out, he, R0, H0, σ, H, fs, R, hH, D, q => by
    simp only [evS] at he
    split at he
    · rename_i ss tp1 ei
      refine sndI hG it env tp _ _ _ ei _ (Ss G H0) (Tb G) σ H fs R.rep (fun a h => h) (fun b h => .inr h) R.tf R.tM (fun b => b ∈ fs.flatten ∨ G.to = some b) (fun b h => .inr h) (fun b h => h.elim .inl (fun h => .inr (.inl h))) (fun b h => h.elim (R.fS b) .inr) _ fun J H1 fr1 t1 I1 => ?_
      rw [if_pos rfl, if_pos rfl] at I1
      exact for_sound (fun env tp out h => sndB hG n b env tp out h) I1 he (R.nx fr1 t1) (hb_step hH R (stp_fr R fr1 t1)) (q.step (stp_fr R fr1 t1))
    · cases he
    · cases he
  | .whl c b, env, tp, out, he, R0, H0, σ, H, fs, R, hH, D, q => by
    simp only [evS] at he
    refine whl_sound (K := K) (n := n) (c := fun e t => evT c e t) (body := fun e t => evB n b e t) ?_ ?_ he R hH q
    · exact fun env tp b tp' h R0 H0 σ H fs R Q k => sndT hG c env tp b tp' h _ _ σ H fs R.eR R.tf R.tM Q k
    · exact fun env tp out h => sndB hG n b env tp out h
  | .ret e, env, tp, out, he, R0, H0, σ, H, fs, R, hH, D, q => by
    have gen : (∃ r tp1, evE e env tp = some (r, tp1) ∧ r.ok = true ∧ out = .rt r env tp1) → semS K G.N (.ret e) D σ H := fun ⟨r, tp1, ee, hok, eo⟩ => by
      subst eo
      exact sndE hG e env tp _ _ ee _ _ σ H fs R.eR R.tf R.tM _ fun v H1 g fr1 t1 rep1 nd1 fresh1 => ret_sound (t := tp1) R fr1 t1 rep1 nd1 (fun b hb => .inr (fresh1 b hb)) q
    cases e with
    | var i =>
      simp only [evS] at he
      split at he
      · rename_i s es
        simp only [Option.map_eq_some_iff] at he
        obtain ⟨r, er, rfl⟩ := he
        obtain ⟨v, f, e1, e2, rep⟩ := mv_rep R es er
        exact ⟨v, e1, ret_sound (t := tp) R Fr.refl R.rep.tpe (rv_mono rep fun b h => h.elim id (fun h => .inl (mem_flat e2 h))) (nodup_slot R.rep.nodup e2) (fun b hb => .inl (mem_flat e2 hb)) q⟩
      · cases he
    | _ =>
      refine gen ?_
      simp only [evS] at he
      split at he
      · rename_i r tp1 ee
        split at he
        · rename_i hok
          cases he
          exact ⟨r, tp1, ee, hok, rfl⟩
        · cases he
      · cases he
  | .retF e, env, tp, out, he, R0, H0, σ, H, fs, R, hH, D, q => by
    have gen : (∃ r d tp1, evE e env tp = some (r, tp1) ∧ r.shd = some d ∧ out = .rt (.sh d) env tp1) → semS K G.N (.retF e) D σ H := fun ⟨r, d, tp1, ee, ed, eo⟩ => by
      subst eo
      exact sndE hG e env tp _ _ ee _ _ σ H fs R.eR R.tf R.tM _ fun v H1 g fr1 t1 rep1 nd1 fresh1 =>
        ret_sound (t := tp1) (r := .sh d) R fr1 t1 (g := []) (show RvRep G (Mx (Mr G R0 fs) []) (Tb G) H1 (.sh d) v [] from ⟨rfl, vl_mx0 (rv_shd rep1 ed (fun b h => .inl h) fun b hb m => R.rep.hD b m (fresh1 b hb))⟩) .nil (by simp) q
    cases e with
    | var i =>
      simp only [evS] at he
      split at he
      · rename_i s es
        split at he
        · rename_i r er
          split at he
          · rename_i d ed
            cases he
            obtain ⟨v, f, e1, e2, rep⟩ := mv_rep R es er
            refine ⟨v, e1, q v H [] (fun b o _ _ e => e) R.rep.tpe ⟨rfl, vl_mx0 (rv_shd rep ed (fun b h => .inr h) fun b hb m => ?_)⟩ .nil (by simp)⟩
            have hbF := mem_flat e2 hb
            rcases m with m | m
            · exact (R.rep.hT b m).2 hbF
            · exact R.r0 b m (R.fresh b hbF)
          · cases he
        · cases he
      · cases he
    | _ =>
      refine gen ?_
      simp only [evS] at he
      split at he
      · rename_i r tp1 ee
        split at he
        · rename_i d ed
          cases he
          exact ⟨r, d, tp1, ee, ed, rfl⟩
        · cases he
      · cases he
  | .brk, env, tp, out, he, R0, H0, σ, H, fs, R, hH, D, q => by
    simp only [evS, Option.some.injEq] at he
    subst he
    exact q σ H fs R (Stp.refl R.def_)
  | .cnt, env, tp, out, he, R0, H0, σ, H, fs, R, hH, D, q => by
    simp only [evS, Option.some.injEq] at he
    subst he
    exact q σ H fs R (Stp.refl R.def_)
  | .pass, env, tp, out, he, R0, H0, σ, H, fs, R, hH, D, q => by
    simp only [evS, Option.some.injEq] at he
    subst he
    exact q σ H fs R (Stp.refl R.def_)
  | .dead, env, tp, out, he, R0, H0, σ, H, fs, R, hH, D, q => by
    simp only [evS] at he
    cases he
  | .exp e, env, tp, out, he, R0, H0, σ, H, fs, R, hH, D, q => by
    simp only [evS] at he
    split at he
    · rename_i r tp1 ee
      cases he
      exact sndE hG e env tp _ _ ee _ _ σ H fs R.eR R.tf R.tM _ fun v H1 g fr1 t1 rep1 nd1 fresh1 => q σ H1 fs (R.nx fr1 t1) (stp_fr R fr1 t1)
    · cases he
theorem sndB (hG : NetOk K G.N) (n : Nat) : ∀ s : SB, SSnd K G (semB K G.N s) (evB n s)
  | .nil, env, tp, out, he, R0, H0, σ, H, fs, R, hH, D, q => by
    simp only [evB, Option.some.injEq] at he
    subst he
    exact q σ H fs R (Stp.refl R.def_)
  | .cons s r, env, tp, out, he, R0, H0, σ, H, fs, R, hH, D, q => by
    simp only [evB] at he
    split at he
    · rename_i e1 t1 es
      exact sndS hG n s env tp _ es R0 H0 σ H fs R hH { D with nx := semB K G.N r D } fun σ1 H1 fs1 R1 s1 => sndB hG n r e1 t1 out he R0 H0 σ1 H1 fs1 R1 (hb_step hH R s1) D (q.step s1)
    · rename_i o hn es
      cases he
      refine sndS hG n s env tp _ es R0 H0 σ H fs R hH { D with nx := semB K G.N r D } ?_
      cases out with
      | nx e t => exact absurd rfl (hn e t)
      | bk e t => exact q
      | ct e t => exact q
      | rt r e t => exact q
    · cases he
  | .frz i r, env, tp, out, he, R0, H0, σ, H, fs, R, hH, D, q => by
    simp only [evB] at he
    split at he
    · rename_i s es
      split at he
      · rename_i s' es'
        obtain ⟨R1, s1⟩ := frz_sound R es es'
        exact sndB hG n r _ tp out he R0 H0 σ H _ R1 hH D (q.step s1)
      · cases he
    · cases he
end
end
end Vs
/-! Vs14: defs; the derivation of a form from the text. -/
namespace Vs
open PySem L2
/-- what a def's body computes from its arguments -/
def runFn (n : Nat) (code : SB) (slots np : Nat) : FS := ⟨fun args tp => if args.length = np then match evB n code (args ++ List.replicate (slots - args.length) .un) tp with
  | some (.rt r _ t) => some (r, t)
  | some (.nx _ t) => some (.sh .non, t)
  | _ => none
  else none⟩
section
variable {P : Program} {w : World} {K : PySem.W.Frag} {mg : Str → Option Value} {base : Heap} {Nt : NetI}
theorem get_app_rep {α : Type} {l : List α} {n : Nat} {x y : α} {i : Nat} (h : (l ++ List.replicate n x)[i]? = some y) : (l[i]? = some y ∧ i < l.length) ∨ (y = x ∧ l.length ≤ i) := by
  by_cases hi : i < l.length
  · rw [List.getElem?_append_left hi] at h
    exact .inl ⟨h, hi⟩
  · rw [List.getElem?_append_right (by omega)] at h
    rw [List.getElem?_replicate] at h
    split at h
    · cases h; exact .inr ⟨rfl, by omega⟩
    · cases h
theorem flat_rep_nil {n : Nat} : (List.replicate n ([] : List Addr)).flatten = [] := by
  induction n with
  | zero => rfl
  | succ n ih => simp
theorem fn_ok {x qual : Str} {st : Stmt} {f : Addr} {fd : FuncData} {N ps : List Str} {k : Nat} (F : Fun K x qual st f fd) (S : FnScope N ps (defScope st)) (hG : NetOk K Nt) (hN : ps.length ≤ N.length) (n : Nat) (code : SB)
    (der : ∀ (cdv : Value) (A : Around) (outer : List PySem.Env) (s : Shared) (H : Hp) (E : XK), Room k (A.deeper (PyProof.Rows.envOfC qual (defScope st) s.heap.objs.size f cdv)) → PSs (cxOf CX0 P w K mg base N qual (defScope st) f cdv A outer s H E).nox (defBody st) (semB K Nt code)) :
    FnOk P w K mg base CX0 (k + 1) f fd ps (spOf Nt (runFn n code N.length ps.length)) := by
  refine F.ok S (fun vs H Q E h => ?_) (fun cdv A outer s H vs Q E hr h => ⟨_, der cdv A outer s H E hr, ?_⟩)
  · obtain ⟨to, args, tp, r, tp', M, e, hl, _⟩ := h
    simp only [runFn] at e
    split at e
    · rename_i hnp; rw [hl, hnp]
    · cases e
  · obtain ⟨to, args, tp, r, tp', M, e, hl, hargs, hT, t, hD, k⟩ := h
    simp only [runFn] at e
    split at e
    · rename_i hnp
      have lens : (args ++ List.replicate (N.length - args.length) Sl.un).length = (L2.start N vs).length := by simp [L2.start, hl]
      have R : StI ⟨Nt, to⟩ M H (args ++ List.replicate (N.length - args.length) .un) tp (L2.start N vs) H (List.replicate (L2.start N vs).length []) := by
        refine ⟨⟨lens, by simp, fun i s ov f h1 h2 h3 => ?_, ?_, t, ?_, ?_, ?_, ?_⟩, ?_, hD⟩
        · have ef : f = [] := by
            rw [List.getElem?_replicate] at h3
            split at h3
            · exact (Option.some.inj h3).symm
            · cases h3
          subst ef
          rcases get_app_rep h1 with ⟨h1, hi⟩ | ⟨rfl, hi⟩
          · unfold L2.start at h2
            rw [List.getElem?_append_left (by simp [hl, hi])] at h2
            rw [List.getElem?_map] at h2
            have hi2 : i < vs.length := by rw [hl]; exact hi
            rw [List.getElem?_eq_getElem hi2] at h2
            cases h2
            refine sl_tr (fun a o e m => ⟨fun z => ?_, e⟩) (fun a o e m => ⟨fun z => z.elim (fun z => by rw [z] at e; cases e) m, e⟩) (by simp) (hargs i s _ h1 (List.getElem?_eq_getElem hi2))
            rcases z with z | z | z
            · rw [flat_rep_nil] at z; cases z
            · exact m (hT a z)
            · exact m z
          · rfl
        · rw [flat_rep_nil]; exact .nil
        · rw [flat_rep_nil]; simp
        · intro a ha
          exact ⟨.inr (.inl ha), by rw [flat_rep_nil]; simp⟩
        · intro b hb
          rcases hb with hb | hb | hb
          · rw [flat_rep_nil] at hb; cases hb
          · rw [t b hb]; simp
          · exact hD b hb
        · exact fun a ha => .inr ha
        · rw [flat_rep_nil]; simp
      have mono : ∀ {g : List Addr} {b : Addr}, Mx M g b → Mx (fun b => to = some b ∨ M b) g b := fun h => h.elim (fun h => .inl (.inr h)) .inr
      have frk : ∀ {H' : Hp}, (∀ b o, b ∉ (List.replicate (L2.start N vs).length ([] : List Addr)).flatten → to ≠ some b → H b = some o → H' b = some o) → Fr ⟨Nt, to⟩ H H' := fun h b o n e => h b o (by rw [flat_rep_nil]; simp) n e
      split at e
      · rename_i r' e' t' ev
        cases e
        refine sndB (G := ⟨Nt, to⟩) hG n code _ _ _ ev M H _ _ _ R (fun b h => h) _ fun v H' g fr tp' rep nd own => ?_
        refine k v H' g (frk fr) tp' (rv_mono rep fun b h => mono h) nd fun b hb => ?_
        rcases own b hb with h | h
        · rw [flat_rep_nil] at h; cases h
        · exact h
      · rename_i e' t' ev
        cases e
        refine sndB (G := ⟨Nt, to⟩) hG n code _ _ _ ev M H _ _ _ R (fun b h => h) _ fun σ' H' fs' R' s => ?_
        exact k _ H' [] (frk s.fr) R'.rep.tpe ⟨rfl, by simp [Vl]⟩ .nil (by simp)
      · cases e
    · cases e
theorem spOf_mono {f f' : FS} (h : ∀ args tp r, f'.fn args tp = some r → f.fn args tp = some r) (vs : List V) (H : Hp) (Q : VK) (E : XK) (q : spOf Nt f' vs H Q E) : spOf Nt f vs H Q E := by
  obtain ⟨to, args, tp, r, tp', M, e, rest⟩ := q
  exact ⟨to, args, tp, r, tp', M, h _ _ _ e, rest⟩
/-- a def of the text, where it stands -/
structure DefAt (K : PySem.W.Frag) (mg : Str → Option Value) (x : Str) (st : Stmt) (ps : List Str) : Prop where
  ex : ∃ f fd, Fun K x x st f fd ∧ mg x = some (.ref f) ∧ Binds K fd ps []
/-- .. that keeps its promise -/
structure Callee (P : Program) (w : World) (K : PySem.W.Frag) (mg : Str → Option Value) (base : Heap) (Nt : NetI) (x : Str) (k : Nat) (ps : List Str) (fs : FS) : Prop where
  ex : ∃ f fd, mg x = some (.ref f) ∧ PySem.W.keepIn K (.ref f) = true ∧ Binds K fd ps [] ∧ FnOk P w K mg base CX0 k f fd ps (spOf Nt fs)
theorem Callee.mono {x : Str} {j k : Nat} {ps : List Str} {fs : FS} (c : Callee P w K mg base Nt x j ps fs) (h : j ≤ k) : Callee P w K mg base Nt x k ps fs := by
  obtain ⟨f, fd, h1, h2, h3, h4⟩ := c.ex
  exact ⟨f, fd, h1, h2, h3, h4.mono h⟩
theorem Callee.imp {x : Str} {k : Nat} {ps : List Str} {fs fs' : FS} (c : Callee P w K mg base Nt x k ps fs) (h : ∀ args tp r, fs'.fn args tp = some r → fs.fn args tp = some r) : Callee P w K mg base Nt x k ps fs' := by
  obtain ⟨f, fd, h1, h2, h3, h4⟩ := c.ex
  exact ⟨f, fd, h1, h2, h3, h4.imp (spOf_mono h)⟩
theorem callee_mk {x : Str} {st : Stmt} {N ps : List Str} {k : Nat} (D : DefAt K mg x st ps) (S : FnScope N ps (defScope st)) (hG : NetOk K Nt) (hN : ps.length ≤ N.length) (n : Nat) (code : SB)
    (der : ∀ (f : Addr) (cdv : Value) (A : Around) (outer : List PySem.Env) (s : Shared) (H : Hp) (E : XK), Room k (A.deeper (PyProof.Rows.envOfC x (defScope st) s.heap.objs.size f cdv)) → PSs (cxOf CX0 P w K mg base N x (defScope st) f cdv A outer s H E).nox (defBody st) (semB K Nt code)) :
    Callee P w K mg base Nt x (k + 1) ps (runFn n code N.length ps.length) := by
  obtain ⟨f, fd, F, hm, hb⟩ := D.ex
  exact ⟨f, fd, hm, F.kp, hb, fn_ok F S hG hN n code (der f)⟩
end

/-! ### derivations -/
section
variable {X : Cx} {Nt : NetI} {pos p p2 : Pos} {a b c d e : Expr} {es : List Expr} {A B C E' : SE} {As : SA} {x : Str}
theorem d_var (i : Nat) {x : Str} {pos : Pos} (hN : X.N[i]? = some x := by rfl) (hv : Vis X.env.scope x := by first | exact Or.inl rfl | exact Or.inr (Or.inl rfl) | exact Or.inr (Or.inr rfl)) (hd : (x == ("__debug__" : Str)) = false := by decide)
    (hcd : (x == ("__classdict__" : Str)) = false := by decide) : PE X (.Name x pos) (semE X.K Nt (.var i)) := pe_var hN hv hd hcd
theorem d_int {i j pos} : PE X (.Constant (.int i) j pos) (semE X.K Nt (.cst (.int i))) := pe_int
theorem d_bl {i j pos} : PE X (.Constant (.bool i) j pos) (semE X.K Nt (.cst (.bl i))) := pe_bl
theorem d_non {j pos} : PE X (.Constant .none j pos) (semE X.K Nt (.cst .non)) := pe_non
theorem d_str {x j pos} : PE X (.Constant (.str x) j pos) (semE X.K Nt (.cst (.str x))) := pe_str
theorem d_gint {x : Str} {i : Int} {u : Value} {pos : Pos} (hg : Gl X x) (hm : X.mg x = some u) (r : RelV (.int i) u) (hd : (x == ("__debug__" : Str)) = false := by decide) : PE X (.Name x pos) (semE X.K Nt (.cst (.int i))) := pe_glob hg hm r hd
theorem d_nil : PA X [] (semA X.K Nt .nil) := pa_nil
theorem d_cons (ha : PE X e (semE X.K Nt A)) (hr : PA X es (semA X.K Nt As)) (hs : starEach (e :: es) X.env = (false, eval e X.env) :: starEach es X.env := by rfl) : PA X (e :: es) (semA X.K Nt (.cons A As)) := pa_cons ha hr hs
theorem bin_eq {o : Op} (he : semOp X.K o = lift2 (r2 X.K o)) : semE X.K Nt (.op o (.cons A (.cons B .nil))) = tOp (r2 X.K o) (semE X.K Nt A) (semE X.K Nt B) := by
  show tCB (semOp X.K o) (tCons (semE X.K Nt A) (tCons (semE X.K Nt B) tNil)) = _
  rw [he]
  rfl
theorem d_bin {o : Op} {op : Operator} (ho : OpR X (binaryOp op) (r2 X.K o)) (he : semOp X.K o = lift2 (r2 X.K o)) (ha : PE X a (semE X.K Nt A)) (hb : PE X b (semE X.K Nt B)) : PE X (.BinOp a op b pos) (semE X.K Nt (.op o (.cons A (.cons B .nil)))) := by
  rw [bin_eq he]; exact pe_op ho ha hb
theorem d_cmp {o : Op} {op : CmpOp} (ho : OpR X (compareOp op) (r2 X.K o)) (he : semOp X.K o = lift2 (r2 X.K o)) (ha : PE X a (semE X.K Nt A)) (hb : PE X b (semE X.K Nt B)) (hm : behindInMarks op b = false) : PE X (.Compare a [op] [b] pos) (semE X.K Nt (.op o (.cons A (.cons B .nil)))) := by
  rw [bin_eq he]; exact pe_cmpR ho ha hb hm
theorem t_cmp {o : Op} {op : CmpOp} (ho : OpR X (compareOp op) (r2 X.K o)) (he : semOp X.K o = lift2 (r2 X.K o)) (ha : PE X a (semE X.K Nt A)) (hb : PE X b (semE X.K Nt B)) (hm : behindInMarks op b = false) : PT X (.Compare a [op] [b] pos) (semT X.K Nt (.val (.op o (.cons A (.cons B .nil))))) := by
  show PT X _ (tB (semE X.K Nt (.op o (.cons A (.cons B .nil)))))
  rw [bin_eq he]; exact pt_cmpR ho ha hb hm
-- the operators
theorem o_add : OpR X (binaryOp .Add) (r2 X.K .add) := OpR.or op_add (OpR.or op_catA (OpR.or op_cat op_add_str))
theorem o_sub : OpR X (binaryOp .Sub) (r2 X.K .sub) := op_sub
theorem o_mul : OpR X (binaryOp .Mult) (r2 X.K .mul) := OpR.or op_mul op_rep
theorem o_fdiv : OpR X (binaryOp .FloorDiv) (r2 X.K .fdiv) := op_fdiv
theorem o_mod : OpR X (binaryOp .Mod) (r2 X.K .mod) := op_mod
theorem o_pow : OpR X (binaryOp .Pow) (r2 X.K .pow) := op_pow
theorem o_shl : OpR X (binaryOp .LShift) (r2 X.K .shl) := op_shl
theorem o_bor : OpR X (binaryOp .BitOr) (r2 X.K .bor) := op_or
theorem o_band : OpR X (binaryOp .BitAnd) (r2 X.K .band) := op_and
theorem o_lt (hu : X.A.units < cLine) : OpR X (compareOp .Lt) (r2 X.K .lt) := OpR.or op_lt (op_ltT hu)
theorem o_le : OpR X (compareOp .LtE) (r2 X.K .le) := op_le
theorem o_gt : OpR X (compareOp .Gt) (r2 X.K .gt) := op_gt
theorem o_ge : OpR X (compareOp .GtE) (r2 X.K .ge) := op_ge
theorem o_eq (hu : X.A.units + 64 < cLine) : OpR X (compareOp .Eq) (r2 X.K .eq) := OpR.or op_eq (op_eqD hu)
theorem o_ne (hu : X.A.units + 64 < cLine) : OpR X (compareOp .NotEq) (r2 X.K .ne) := OpR.or op_ne (op_neD hu)
theorem o_in (hu : X.A.units + 65 < cLine) : OpR X (compareOp .In) (r2 X.K .isin) := OpR.or op_in_seq (op_inD hu)
theorem o_notin (hu : X.A.units + 65 < cLine) : OpR X (compareOp .NotIn) (r2 X.K .notin) := OpR.or op_notIn_seq (op_notInD hu)
theorem o_isB : OpR X (compareOp .Is) (r2 X.K .isB) := op_isBl
theorem o_notB : OpR X (compareOp .IsNot) (r2 X.K .notB) := op_notBl
theorem d_neg {i j pos p2 : _} : PE X (.UnaryOp .USub (.Constant (.int i) j p2) pos) (semE X.K Nt (.cst (.int (-i)))) := ⟨fun pins s σ H Q I h => (pe_un (X := X) un_neg (pe_int (i := i))).run pins s σ H Q I ⟨i, rfl, h⟩⟩
theorem d_blt {o : Op} {id : String} (hc : CallR X (.builtin id) (semOp X.K o)) (hg : Gl X x) (hm : X.mg x = none) (hv : bootBuiltins x = some (.builtin id)) (ha : PA X (e :: es) (semA X.K Nt As)) (hn : x ≠ "__name__" := by decide) (hdb : (x == ("__debug__" : Str)) = false := by decide)
    (he : starEach (e :: es) X.env = (false, eval e X.env) :: starEach es X.env := by rfl) (hpl : (backTo pos (starEach es X.env)).any (·.1) = false := by rfl) : PE X (.Call (.Name x p) (e :: es) [] pos) (semE X.K Nt (.op o As)) := pe_callB hc hg hm hv ha hn hdb he hpl
theorem d_ty {o : Op} {T : String} (hc : CallR X (.type T) (semOp X.K o)) (hg : Gl X x) (hm : X.mg x = none) (hv : bootBuiltins x = some (.type T)) (ha : PA X (e :: es) (semA X.K Nt As)) (hn : x ≠ "__name__" := by decide) (hdb : (x == ("__debug__" : Str)) = false := by decide)
    (he : starEach (e :: es) X.env = (false, eval e X.env) :: starEach es X.env := by rfl) (hpl : (backTo pos (starEach es X.env)).any (·.1) = false := by rfl) : PE X (.Call (.Name x p) (e :: es) [] pos) (semE X.K Nt (.op o As)) := pe_callTy hc hg hm hv ha hn hdb he hpl
theorem c_len : CallR X (.builtin "len") (semOp X.K .len) := call_len
theorem c_list : CallR X (.type "list") (semOp X.K .list) := call_list_of
theorem c_tuple : CallR X (.type "tuple") (semOp X.K .tuple) := call_tuple_of
theorem c_int : CallR X (.type "int") (semOp X.K .int) := call_int1
theorem c_max (hc : X.calm = true) : CallR X (.builtin "max") (semOp X.K .max) := (call_max2 hc).or (cr_max hc)
theorem c_min (hc : X.calm = true) : CallR X (.builtin "min") (semOp X.K .min) := (call_min2 hc).or (cr_min hc)
theorem c_sum (hc : X.calm = true) : CallR X (.builtin "sum") (semOp X.K .sum) := cr_sum hc
theorem c_all (hc : X.calm = true) : CallR X (.builtin "all") (semOp X.K .all) := cr_all hc
theorem c_any (hc : X.calm = true) : CallR X (.builtin "any") (semOp X.K .any) := cr_any hc
theorem c_sorted : CallR X (.builtin "sorted") (semOp X.K .sorted) := cr_sortedI
theorem d_ix (ha : PE X a (semE X.K Nt A)) (hb : PE X b (semE X.K Nt B)) (hs : PlainIx b) : PE X (.Subscript a b pos) (semE X.K Nt (.ix A B)) := pe_ix ix_seq ha hb hs
theorem d_chain {o o' : Op} {op op' : CmpOp} (ho : OpR X (compareOp op) (r2 X.K o)) (ho' : OpR X (compareOp op') (r2 X.K o')) (ha : PE X a (semE X.K Nt A)) (hb : PE X b (semE X.K Nt B)) (hc : PE X c (semE X.K Nt C)) (hm : lastMarks [op, op'] [b, c] = false := by with_unfolding_all rfl) :
    PE X (.Compare a [op, op'] [b, c] pos) (semE X.K Nt (.chain o o' A B C)) := pe_chain ho ho' ha hb hc hm
theorem t_chain {o o' : Op} {op op' : CmpOp} (ho : OpR X (compareOp op) (r2 X.K o)) (ho' : OpR X (compareOp op') (r2 X.K o')) (ha : PE X a (semE X.K Nt A)) (hb : PE X b (semE X.K Nt B)) (hc : PE X c (semE X.K Nt C)) (hm : lastMarks [op, op'] [b, c] = false := by with_unfolding_all rfl) :
    PT X (.Compare a [op, op'] [b, c] pos) (semT X.K Nt (.val (.chain o o' A B C))) := pt_chain ho ho' ha hb hc hm
theorem t_chain3 {o o' o'' : Op} {op op' op'' : CmpOp} (ho : OpR X (compareOp op) (r2 X.K o)) (ho' : OpR X (compareOp op') (r2 X.K o')) (ho'' : OpR X (compareOp op'') (r2 X.K o'')) (ha : PE X a (semE X.K Nt A)) (hb : PE X b (semE X.K Nt B)) (hc : PE X c (semE X.K Nt C)) (hd : PE X d (semE X.K Nt E'))
    (hm : lastMarks [op, op', op''] [b, c, d] = false := by with_unfolding_all rfl) : PT X (.Compare a [op, op', op''] [b, c, d] pos) (semT X.K Nt (.val (.chain3 o o' o'' A B C E'))) := by
  refine ⟨fun pins s σ H Q I h => ?_⟩
  refine PyProof.Rows.isTrue_chain (thn (ha.run pins s σ H _ I h) fun v s1 ⟨x, H1, I1, r1, q1⟩ => PyProof.Rows.test_link (thn (hb.run pins s1 σ H1 _ I1 q1) fun u s2 ⟨y, H2, I2, r2, q2⟩ =>
    thn (ho pins s2 σ H2 x y v u _ I2 r1 r2 q2) fun z s3 ⟨zz, H3, I3, r3, k, e, q3⟩ => ?_)) hm
  subst e
  cases r3
  refine wpAny_truthy_bool ?_
  cases k with
  | false =>
    obtain ⟨k', e', q'⟩ := q3
    cases e'
    exact PyProof.Rows.ite_ff ⟨H3, I3, q'⟩
  | true =>
    refine PyProof.Rows.ite_tt (PyProof.Rows.test_link (thn (hc.run pins s3 σ H3 _ I3 q3) fun w4 s4 ⟨y4, H4, I4, r4, q4⟩ => thn (ho' pins s4 σ H4 y y4 u w4 _ I4 r2 r4 q4) fun z5 s5 ⟨zz5, H5, I5, r5, k5, e5, q5⟩ => ?_))
    subst e5
    cases r5
    refine wpAny_truthy_bool ?_
    cases k5 with
    | false =>
      obtain ⟨k', e', q'⟩ := q5
      cases e'
      exact PyProof.Rows.ite_ff ⟨H5, I5, q'⟩
    | true =>
      refine PyProof.Rows.ite_tt (PyProof.Rows.test_last (thn (hd.run pins s5 σ H5 _ I5 q5) fun w6 s6 ⟨y6, H6, I6, r6, q6⟩ => thn (ho'' pins s6 σ H6 y4 y6 w4 w6 _ I6 r4 r6 q6) fun z7 s7 ⟨zz7, H7, I7, r7, k7, e7, q7⟩ => ?_))
      subst e7
      cases r7
      exact wpAny_truthy_bool ⟨H7, I7, q7⟩
end
end Vs
/-! Vs15: derivations, the rest. -/
namespace Vs
open PySem L2
section
variable {X : Cx} {Nt : NetI} {pos p p2 pos' : Pos} {a b c d e : Expr} {es : List Expr} {A B C E' : SE} {As : SA} {x : Str} {TA' TB' : ST}
theorem t_val (h : PE X e (semE X.K Nt A)) (he : ∀ whole, isTrue e X.env whole = (do let v ← whole; standAt e.pos; holding [v] (truthy v)) := by intro _; rfl) : PT X e (semT X.K Nt (.val A)) := pt_val h he
theorem t_not (ha : PT X a (semT X.K Nt TA')) : PT X (.UnaryOp .Not a pos) (semT X.K Nt (.not TA')) := pt_not ha
theorem w_and1 (ha : PT X a (semT X.K Nt TA')) : PW X (.BoolOp .And [a] pos) (semT X.K Nt TA') := pw_and1 ha
theorem w_or1 (ha : PT X a (semT X.K Nt TA')) : PW X (.BoolOp .Or [a] pos) (semT X.K Nt TA') := pw_or1 ha
theorem w_and (ha : PT X a (semT X.K Nt TA')) (hb : PW X (.BoolOp .And (b :: es) pos) (semT X.K Nt TB')) : PW X (.BoolOp .And (a :: b :: es) pos) (semT X.K Nt (.and TA' TB')) := pw_and ha hb
theorem w_or (ha : PT X a (semT X.K Nt TA')) (hb : PW X (.BoolOp .Or (b :: es) pos) (semT X.K Nt TB')) : PW X (.BoolOp .Or (a :: b :: es) pos) (semT X.K Nt (.or TA' TB')) := pw_or ha hb
theorem t_w (h : PW X e (semT X.K Nt TA')) : PT X e (semT X.K Nt TA') := h.pt
theorem d_one {op} (h : PE X a (semE X.K Nt A)) : PE X (.BoolOp op [a] pos) (semE X.K Nt A) := pe_one h
theorem d_and (ha : PE X a (semE X.K Nt A)) (hb : PE X (.BoolOp .And (b :: es) pos) (semE X.K Nt B)) : PE X (.BoolOp .And (a :: b :: es) pos) (semE X.K Nt (.andV A B)) := pe_and ha hb
theorem d_or (ha : PE X a (semE X.K Nt A)) (hb : PE X (.BoolOp .Or (b :: es) pos) (semE X.K Nt B)) : PE X (.BoolOp .Or (a :: b :: es) pos) (semE X.K Nt (.orV A B)) := pe_or ha hb
theorem d_not (ha : PE X a (semE X.K Nt A)) : PE X (.UnaryOp .Not a pos) (semE X.K Nt (.notV A)) := pe_not ha
theorem d_if (hc : PT X c (semT X.K Nt TA')) (ha : PE X a (semE X.K Nt A)) (hb : PE X b (semE X.K Nt B)) : PE X (.IfExp c a b pos) (semE X.K Nt (.ifE TA' A B)) := pe_ifExp hc ha hb
theorem d_tup {k} (h : PA X es (semA X.K Nt As)) : PE X (.Tuple es k pos) (semE X.K Nt (.tup As)) := pe_tup h
theorem d_lst {n} (h : PA X es (semA X.K Nt As)) : PE X (.List es pos) (semE X.K Nt (.lst n As)) := pe_lst h
theorem p_none : PO X none (semO X.K Nt .none) := po_none
theorem p_some (h : PE X e (semE X.K Nt A)) : PO X (some e) (semO X.K Nt (.some A)) := po_some h
theorem d_sl {lo hi : Option Expr} {lo' hi' : SO} (ha : PE X a (semE X.K Nt A)) (hl : PO X lo (semO X.K Nt lo')) (hh : PO X hi (semO X.K Nt hi')) : PE X (.Subscript a (.Slice lo hi none p2) pos) (semE X.K Nt (.sl A lo' hi')) := pe_slice (SlR.or sl_list sl_tupA) ha hl hh
-- targets
theorem g_nm (i : Nat) {x : Str} (hN : X.N.Nodup) (hi : X.N[i]? = some x) (hx : Loc X.env.scope x) (hf : X.fn x = true ∨ X.env.scope.names.lookup x = some .local := by first | exact .inl rfl | exact .inr rfl | assumption) : PG X (.Name x pos) (semG X.K (.nm i)) := pg_name hN hi hx hf
theorem g_tp2 {e1 e2 : Expr} {k : Nat} {g1 g2 : SG} (hc : X.calm = true) (h1 : PG X e1 (semG X.K g1)) (h2 : PG X e2 (semG X.K g2)) (hs1 : (assignEach [e1, e2] X.env).map (·.2) = assign e1 X.env :: (assignEach [e2] X.env).map (·.2) := by rfl) (hs2 : (assignEach [e2] X.env).map (·.2) = assign e2 X.env :: (assignEach [] X.env).map (·.2) := by rfl)
    (hn : (assignEach [e1, e2] X.env).length = 2 := by rfl) (hst : (assignEach [e1, e2] X.env).findIdx? (·.1) = none := by rfl) : PG X (.Tuple [e1, e2] k pos) (semG X.K (.tp2 g1 g2)) := pg_tup hc (pgs_cons h1 (pgs_cons h2 pgs_nil hs2) hs1) hn hst
theorem g_tp3 {e1 e2 e3 : Expr} {k : Nat} {g1 g2 g3 : SG} (hc : X.calm = true) (h1 : PG X e1 (semG X.K g1)) (h2 : PG X e2 (semG X.K g2)) (h3 : PG X e3 (semG X.K g3)) (hs1 : (assignEach [e1, e2, e3] X.env).map (·.2) = assign e1 X.env :: (assignEach [e2, e3] X.env).map (·.2) := by rfl) (hs2 : (assignEach [e2, e3] X.env).map (·.2) = assign e2 X.env :: (assignEach [e3] X.env).map (·.2) := by rfl) (hs3 : (assignEach [e3] X.env).map (·.2) = assign e3 X.env :: (assignEach [] X.env).map (·.2) := by rfl)
    (hn : (assignEach [e1, e2, e3] X.env).length = 3 := by rfl) (hst : (assignEach [e1, e2, e3] X.env).findIdx? (·.1) = none := by rfl) : PG X (.Tuple [e1, e2, e3] k pos) (semG X.K (.tp3 g1 g2 g3)) := pg_tup hc (pgs_cons h1 (pgs_cons h2 (pgs_cons h3 pgs_nil hs3) hs2) hs1) hn hst
-- what is walked
theorem i_rng1 {tg : Expr} (hg : Gl X "range") (hm : X.mg "range" = none) (ha : PE X a (semE X.K Nt A)) (h0 : starEach [a] X.env = (false, eval a X.env) :: starEach [] X.env := by rfl) (hs : starEach [a] X.env = [(false, eval a X.env)] := by rfl) : PI X tg (.Call (.Name "range" p) [a] [] pos) (semI X.K Nt (.rng1 A)) := pi_range1 hg hm (pa_cons ha pa_nil h0) hs
theorem i_rng2 {tg : Expr} (hg : Gl X "range") (hm : X.mg "range" = none) (ha : PE X a (semE X.K Nt A)) (hb : PE X b (semE X.K Nt B)) (h0 : starEach [a, b] X.env = (false, eval a X.env) :: starEach [b] X.env := by rfl) (h1 : starEach [b] X.env = (false, eval b X.env) :: starEach [] X.env := by rfl)
    (hs : starEach [a, b] X.env = [(false, eval a X.env), (false, eval b X.env)] := by rfl) (hs2 : starEach [b] X.env = [(false, eval b X.env)] := by rfl) : PI X tg (.Call (.Name "range" p) [a, b] [] pos) (semI X.K Nt (.rng2 A B)) := pi_range2 hg hm (pa_cons ha (pa_cons hb pa_nil h1) h0) hs hs2
theorem i_seq {tg : Expr} (ha : PE X a (semE X.K Nt A)) : PI X tg a (semI X.K Nt (.seq A)) := pi_seq ha
theorem i_rev {tg : Expr} (hg : Gl X "reversed") (hm : X.mg "reversed" = none) (ha : PE X a (semE X.K Nt A)) (hs : starEach [a] X.env = (false, eval a X.env) :: starEach [] X.env := by rfl) : PI X tg (.Call (.Name "reversed" p) [a] [] pos) (semI X.K Nt (.rev A)) := RT.pi_revA hg hm ha hs
theorem i_enum {elts : List Expr} {kk : Nat} {tpos : Pos} (hg : Gl X "enumerate") (hm : X.mg "enumerate" = none) (ha : PE X a (semE X.K Nt A)) (h0 : starEach [a] X.env = (false, eval a X.env) :: starEach [] X.env := by rfl) (hs : starEach [a] X.env = [(false, eval a X.env)] := by rfl) : PI X (.Tuple elts kk tpos) (.Call (.Name "enumerate" p) [a] [] pos) (semI X.K Nt (.enum A)) := pi_enumA hg hm (pa_cons ha pa_nil h0) hs
-- comprehensions
theorem f_nil : PTs X [] (semT X.K Nt .yes) := pts_nil
theorem f_one (h : PT X c (semT X.K Nt TA')) : PTs X [c] (semT X.K Nt TA') := pts_one h
variable {elt tg iter tg1 iter1 : Expr} {ifs ifs1 : List Expr} {scope : Scope} {own : List (Str × Nat)} {vs1 : List Nat} {it it1 : SI} {g g1 : SG} {T1 T2 : ST} {El : SE} {n : Bool}
theorem d_lc (own : List (Str × Nat)) (hc : X.calm = true) (hN : X.N.Nodup) (hi : PI X tg iter (semI X.K Nt it)) (ok : BlkOk X.N X.env.scope scope own)
    (hg : ∀ (s : Shared) (H : Hp) (C : Addr) (cl : List (Str × Addr)) (fp : List Addr), PG (X.blk s H scope (compEnvC scope cl C X.env) fp) tg (semG X.K g)) (ht : ∀ (s : Shared) (H : Hp) (C : Addr) (cl : List (Str × Addr)) (fp : List Addr), PTs (X.blk s H scope (compEnvC scope cl C X.env) fp) ifs (semT X.K Nt T1))
    (he : ∀ (s : Shared) (H : Hp) (C : Addr) (cl : List (Str × Addr)) (fp : List Addr), PE (X.blk s H scope (compEnvC scope cl C X.env) fp) elt (semE X.K Nt El)) (hs : ∀ x, foldedSetIterable iter X.env x = pure x := by intro _; rfl) :
    PE X (.ListComp elt [⟨tg, iter, ifs, 0⟩] scope pos) (semE X.K Nt (.lc n it g T1 El (own.map (·.2)))) := pe_lc hc hN hi ok hg ht he hs
theorem d_lc2 (own : List (Str × Nat)) (vs1 : List Nat) (hc : X.calm = true) (hN : X.N.Nodup) (hi : PI X tg iter (semI X.K Nt it)) (ok : BlkOk X.N X.env.scope scope own) (hv : ∀ i ∈ vs1, i ∈ own.map (·.2))
    (hg : ∀ (s : Shared) (H : Hp) (C : Addr) (cl : List (Str × Addr)) (fp : List Addr), PG (X.blk s H scope (compEnvC scope cl C X.env) fp) tg (semG X.K g)) (ht : ∀ (s : Shared) (H : Hp) (C : Addr) (cl : List (Str × Addr)) (fp : List Addr), PTs (X.blk s H scope (compEnvC scope cl C X.env) fp) ifs (semT X.K Nt T1))
    (hi1 : ∀ (s : Shared) (H : Hp) (C : Addr) (cl : List (Str × Addr)) (fp : List Addr), PI (X.blk s H scope (compEnvC scope cl C X.env) fp) tg1 iter1 (semI X.K Nt it1))
    (hg1 : ∀ (s : Shared) (H : Hp) (C : Addr) (cl : List (Str × Addr)) (fp : List Addr), PG (X.blk s H scope (compEnvC scope cl C X.env) fp) tg1 (semG X.K g1)) (ht1 : ∀ (s : Shared) (H : Hp) (C : Addr) (cl : List (Str × Addr)) (fp : List Addr), PTs (X.blk s H scope (compEnvC scope cl C X.env) fp) ifs1 (semT X.K Nt T2))
    (he : ∀ (s : Shared) (H : Hp) (C : Addr) (cl : List (Str × Addr)) (fp : List Addr), PE (X.blk s H scope (compEnvC scope cl C X.env) fp) elt (semE X.K Nt El)) (hs : ∀ x, foldedSetIterable iter X.env x = pure x := by intro _; rfl) (hs1 : ∀ env x, foldedSetIterable iter1 env x = pure x := by intro _ _; rfl) :
    PE X (.ListComp elt [⟨tg, iter, ifs, 0⟩, ⟨tg1, iter1, ifs1, 0⟩] scope pos) (semE X.K Nt (.lc2 n it g T1 it1 g1 T2 El (own.map (·.2)) vs1)) := pe_lc2 hc hN hi ok hv hg ht hi1 hg1 ht1 he hs hs1
-- calls
theorem d_call {k : Nat} {ps : List Str} {fs : FS} (c : Callee X.prog X.w X.K X.mg X.base Nt x k ps fs) (hr : Room k X.A) (hg : Gl X x) (ha : PA X (e :: es) (semA X.K Nt As)) (hdb : (x == ("__debug__" : Str)) = false := by decide) (he : starEach (e :: es) X.env = (false, eval e X.env) :: starEach es X.env := by rfl)
    (hpl : (backTo pos (starEach es X.env)).any (·.1) = false := by rfl) : PE X (.Call (.Name x p) (e :: es) [] pos) (semE X.K Nt (.call fs As)) := by
  obtain ⟨f, fd, h1, h2, h3, h4⟩ := c.ex
  exact pe_call h4 hr hg h1 h2 h3 .nil pass0 ha hdb he hpl
/-- a class's method, an __init__ -/
structure MethAt (P : Program) (w : World) (K : PySem.W.Frag) (mg : Str → Option Value) (base : Heap) (Nt : NetI) (m : Str) (k : Nat) (ps : List Str) (fs : FS) : Prop where
  ex : ∃ f fd, Meth K Nt.C m f ∧ Cls K Nt.C ∧ Binds K fd ps [] ∧ FnOk P w K mg base CX0 k f fd ps (spOf Nt fs)
structure MakeAt (P : Program) (w : World) (K : PySem.W.Frag) (mg : Str → Option Value) (base : Heap) (Nt : NetI) (x : Str) (k : Nat) (ps : List Str) (fs : FS) : Prop where
  ex : ∃ f fd, mg x = some (.ref Nt.C) ∧ Mk K Nt.C f ∧ Binds K fd ps [] ∧ FnOk P w K mg base CX0 k f fd ps (spMk Nt fs)
theorem d_meth {k : Nat} {ps : List Str} {fs : FS} {m : Str} {o : Expr} {apos : Pos} {pl : Sem Bool} (c : MethAt X.prog X.w X.K X.mg X.base Nt m k ps fs) (hr : Room k X.A) (ho : PE X o (semE X.K Nt A)) (ha : PA X (e :: es) (semA X.K Nt As))
    (hst : starEach (e :: es) X.env = (false, eval e X.env) :: starEach es X.env := by rfl) (hpl : (backTo pos (starEach es X.env)).any (·.1) = false := by rfl)
    (ht : eval (.Call (.Attribute o m apos) (e :: es) [] pos) X.env = (do
      let ov ← eval o X.env
      standAt apos.atName
      let (f, first) ← holding [ov] (getMethod ov m pl)
      callWith pos f first (backTo pos (starEach (e :: es) X.env)) (backToKw pos (keywordEach [] X.env))) := by rfl) :
    PE X (.Call (.Attribute o m apos) (e :: es) [] pos) (semE X.K Nt (.meth m fs A As)) := by
  obtain ⟨f, fd, h1, h2, h3, h4⟩ := c.ex
  exact pe_meth ho h2 h1 h4 hr h3 .nil pass0 ha hst hpl ht
theorem d_make {k : Nat} {ps : List Str} {fs : FS} (c : MakeAt X.prog X.w X.K X.mg X.base Nt x k ps fs) (hr : Room (k + 1) X.A) (hg : Gl X x) (ha : PA X (e :: es) (semA X.K Nt As)) (hdb : (x == ("__debug__" : Str)) = false := by decide) (he : starEach (e :: es) X.env = (false, eval e X.env) :: starEach es X.env := by rfl)
    (hpl : (backTo pos (starEach es X.env)).any (·.1) = false := by rfl) : PE X (.Call (.Name x p) (e :: es) [] pos) (semE X.K Nt (.mk fs As)) := by
  obtain ⟨f, fd, h1, h2, h3, h4⟩ := c.ex
  exact pe_make h2 h4 hr hg h1 h3 .nil pass0 ha hdb he hpl
theorem d_fldW (ha : PE X a (semE X.K Nt A)) (hb : attributeBase a "wires" X.env (eval a X.env) = eval a X.env) : PE X (.Attribute a "wires" pos) (semE X.K Nt (.fldW A)) := pe_fld ha hb
theorem d_fldC (ha : PE X a (semE X.K Nt A)) (hb : attributeBase a "comparers" X.env (eval a X.env) = eval a X.env) : PE X (.Attribute a "comparers" pos) (semE X.K Nt (.fldC A)) := pe_fld ha hb
-- statements
variable {st : Stmt} {rest : List Stmt} {s : SS} {r : SB}
theorem b_nil : PSs X [] (semB X.K Nt .nil) := pss_nil
theorem b_cons (h1 : PS X st (semS X.K Nt s)) (h2 : PSs X rest (semB X.K Nt r)) : PSs X (st :: rest) (semB X.K Nt (.cons s r)) := pss_cons h1 h2
theorem b_frz (i : Nat) (h : PSs X rest (semB X.K Nt r)) : PSs X rest (semB X.K Nt (.frz i r)) := h
theorem s_asg {i : Nat} {x : Str} {pos'} (hN : X.N.Nodup) (hi : X.N[i]? = some x) (hx : Loc X.env.scope x) (he : PE X e (semE X.K Nt A)) (hs : swapsWith e (some (.Name x pos')) pos.line X.env = pure false := by rfl) (hf : X.fn x = true ∨ X.env.scope.names.lookup x = some .local := by first | exact .inl rfl | exact .inr rfl | assumption) : PS X (.Assign [.Name x pos'] e pos) (semS X.K Nt (.asg (.nm i) A)) := ps_set hN hi hx he hs hf
theorem s_asgN {i : Nat} {x : Str} {pos'} (hN : X.N.Nodup) (hi : X.N[i]? = some x) (hx : Loc X.env.scope x) (he : PE X e (semE X.K Nt A)) (hs : swapsWith e (some (.Name x pos')) pos.line X.env = pure false := by rfl) (hf : X.fn x = true ∨ X.env.scope.names.lookup x = some .local := by first | exact .inl rfl | exact .inr rfl | assumption) : PS X (.Assign [.Name x pos'] e pos) (semS X.K Nt (.asgN i A)) := ps_set hN hi hx he hs hf
theorem s_asgF {i : Nat} {x : Str} {pos'} (hN : X.N.Nodup) (hi : X.N[i]? = some x) (hx : Loc X.env.scope x) (he : PE X e (semE X.K Nt A)) (hs : swapsWith e (some (.Name x pos')) pos.line X.env = pure false := by rfl) (hf : X.fn x = true ∨ X.env.scope.names.lookup x = some .local := by first | exact .inl rfl | exact .inr rfl | assumption) : PS X (.Assign [.Name x pos'] e pos) (semS X.K Nt (.asgF i A)) := ps_set hN hi hx he hs hf
theorem s_asgT {tg : Expr} {t : SG} (he : PE X e (semE X.K Nt A)) (hg : PG X tg (semG X.K t)) (hs : swapsWithSole [tg] e pos.line X.env = pure false := by rfl) (hw : swappedStores [tg] e X.env = pure none := by rfl) (h1 : (assignEach [tg] X.env).map (·.2) = [assign tg X.env] := by rfl) : PS X (.Assign [tg] e pos) (semS X.K Nt (.asg t A)) := ps_asg he hg hs hw h1
-- name = [..]
theorem s_setLc {i : Nat} {y : Str} {py spos : Pos} (own : List (Str × Nat)) (hc : X.calm = true) (hN : X.N.Nodup) (hy : X.N[i]? = some y) (hyl : X.env.scope.names.lookup y = some .local)
    (hsw : swapsWith (.ListComp elt [⟨tg, iter, ifs, 0⟩] scope pos) (some (.Name y py)) spos.line X.env = pure true) (hi : PI X tg iter (semI X.K Nt it)) (ok : BlkOk X.N X.env.scope scope own)
    (hg : ∀ (s : Shared) (H : Hp) (C : Addr) (cl : List (Str × Addr)) (fp : List Addr), PG (X.blk s H scope (compEnvC scope cl C X.env) fp) tg (semG X.K g)) (ht : ∀ (s : Shared) (H : Hp) (C : Addr) (cl : List (Str × Addr)) (fp : List Addr), PTs (X.blk s H scope (compEnvC scope cl C X.env) fp) ifs (semT X.K Nt T1))
    (he : ∀ (s : Shared) (H : Hp) (C : Addr) (cl : List (Str × Addr)) (fp : List Addr), PE (X.blk s H scope (compEnvC scope cl C X.env) fp) elt (semE X.K Nt El)) (hs : ∀ x, foldedSetIterable iter X.env x = pure x := by intro _; rfl) :
    PS X (.Assign [.Name y py] (.ListComp elt [⟨tg, iter, ifs, 0⟩] scope pos) spos) (semS X.K Nt (.asg (.nm i) (.lc n it g T1 El (own.map (·.2))))) := ps_setLc hc hN hy hyl hsw hi ok hg ht he hs
theorem s_setLcF {i : Nat} {y : Str} {py spos : Pos} (own : List (Str × Nat)) (hc : X.calm = true) (hN : X.N.Nodup) (hy : X.N[i]? = some y) (hyl : X.env.scope.names.lookup y = some .local)
    (hsw : swapsWith (.ListComp elt [⟨tg, iter, ifs, 0⟩] scope pos) (some (.Name y py)) spos.line X.env = pure true) (hi : PI X tg iter (semI X.K Nt it)) (ok : BlkOk X.N X.env.scope scope own)
    (hg : ∀ (s : Shared) (H : Hp) (C : Addr) (cl : List (Str × Addr)) (fp : List Addr), PG (X.blk s H scope (compEnvC scope cl C X.env) fp) tg (semG X.K g)) (ht : ∀ (s : Shared) (H : Hp) (C : Addr) (cl : List (Str × Addr)) (fp : List Addr), PTs (X.blk s H scope (compEnvC scope cl C X.env) fp) ifs (semT X.K Nt T1))
    (he : ∀ (s : Shared) (H : Hp) (C : Addr) (cl : List (Str × Addr)) (fp : List Addr), PE (X.blk s H scope (compEnvC scope cl C X.env) fp) elt (semE X.K Nt El)) (hs : ∀ x, foldedSetIterable iter X.env x = pure x := by intro _; rfl) :
    PS X (.Assign [.Name y py] (.ListComp elt [⟨tg, iter, ifs, 0⟩] scope pos) spos) (semS X.K Nt (.asgF i (.lc n it g T1 El (own.map (·.2))))) := ps_setLc hc hN hy hyl hsw hi ok hg ht he hs
theorem s_setLc2 {i : Nat} {y : Str} {py spos : Pos} (own : List (Str × Nat)) (vs1 : List Nat) (hc : X.calm = true) (hN : X.N.Nodup) (hy : X.N[i]? = some y) (hyl : X.env.scope.names.lookup y = some .local)
    (hsw : swapsWith (.ListComp elt [⟨tg, iter, ifs, 0⟩, ⟨tg1, iter1, ifs1, 0⟩] scope pos) (some (.Name y py)) spos.line X.env = pure true) (hi : PI X tg iter (semI X.K Nt it)) (ok : BlkOk X.N X.env.scope scope own) (hv : ∀ i ∈ vs1, i ∈ own.map (·.2))
    (hg : ∀ (s : Shared) (H : Hp) (C : Addr) (cl : List (Str × Addr)) (fp : List Addr), PG (X.blk s H scope (compEnvC scope cl C X.env) fp) tg (semG X.K g)) (ht : ∀ (s : Shared) (H : Hp) (C : Addr) (cl : List (Str × Addr)) (fp : List Addr), PTs (X.blk s H scope (compEnvC scope cl C X.env) fp) ifs (semT X.K Nt T1))
    (hi1 : ∀ (s : Shared) (H : Hp) (C : Addr) (cl : List (Str × Addr)) (fp : List Addr), PI (X.blk s H scope (compEnvC scope cl C X.env) fp) tg1 iter1 (semI X.K Nt it1))
    (hg1 : ∀ (s : Shared) (H : Hp) (C : Addr) (cl : List (Str × Addr)) (fp : List Addr), PG (X.blk s H scope (compEnvC scope cl C X.env) fp) tg1 (semG X.K g1)) (ht1 : ∀ (s : Shared) (H : Hp) (C : Addr) (cl : List (Str × Addr)) (fp : List Addr), PTs (X.blk s H scope (compEnvC scope cl C X.env) fp) ifs1 (semT X.K Nt T2))
    (he : ∀ (s : Shared) (H : Hp) (C : Addr) (cl : List (Str × Addr)) (fp : List Addr), PE (X.blk s H scope (compEnvC scope cl C X.env) fp) elt (semE X.K Nt El)) (hs : ∀ x, foldedSetIterable iter X.env x = pure x := by intro _; rfl) (hs1 : ∀ env x, foldedSetIterable iter1 env x = pure x := by intro _ _; rfl) :
    PS X (.Assign [.Name y py] (.ListComp elt [⟨tg, iter, ifs, 0⟩, ⟨tg1, iter1, ifs1, 0⟩] scope pos) spos) (semS X.K Nt (.asg (.nm i) (.lc2 n it g T1 it1 g1 T2 El (own.map (·.2)) vs1))) := ps_setLc2 hc hN hy hyl hsw hi ok hv hg ht hi1 hg1 ht1 he hs hs1
theorem s_augA {i : Nat} {x : Str} {pos' : Pos} (hN : X.N.Nodup) (hi : X.N[i]? = some x) (hx : Loc X.env.scope x) (he : PE X e (semE X.K Nt A)) (hf : X.fn x = true ∨ X.env.scope.names.lookup x = some .local := by first | exact .inl rfl | exact .inr rfl | assumption) : PS X (.AugAssign (.Name x pos') .Add e pos) (semS X.K Nt (.aug i .add A)) := ps_aug hN hi hx he ip_add hf
theorem s_augS {i : Nat} {x : Str} {pos' : Pos} (hN : X.N.Nodup) (hi : X.N[i]? = some x) (hx : Loc X.env.scope x) (he : PE X e (semE X.K Nt A)) (hf : X.fn x = true ∨ X.env.scope.names.lookup x = some .local := by first | exact .inl rfl | exact .inr rfl | assumption) : PS X (.AugAssign (.Name x pos') .Sub e pos) (semS X.K Nt (.aug i .sub A)) := ps_aug hN hi hx he ip_sub hf
theorem s_setIx {o ix : Expr} {i : Nat} (ho : PE X o (tVar i)) (hi : PE X ix (semE X.K Nt A)) (he : PE X e (semE X.K Nt B))
    (hs : swapsWithSole [.Subscript o ix pos'] e pos.line X.env = pure false := by rfl) (hw : swappedStores [.Subscript o ix pos'] e X.env = pure none := by rfl) (h1 : (assignEach [.Subscript o ix pos'] X.env).map (·.2) = [assign (.Subscript o ix pos') X.env] := by rfl)
    (ha : ∀ v, assign (.Subscript o ix pos') X.env v = (do
      let ov ← holding [v] (eval o X.env)
      let iv ← holding [v, ov] (eval ix X.env)
      standAt pos'
      holding [v, ov, iv] (setItem ov iv v)
      release [v, ov, iv] []) := by intro _; rfl) : PS X (.Assign [.Subscript o ix pos'] e pos) (semS X.K Nt (.set i A B)) := ps_asg he (pg_sub ho hi set_list ha) hs hw h1
theorem s_swap {o1 o2 ix1 ix2 e1 e2 : Expr} {i k k2 : Nat} {p1 p3 p4 p5 : Pos} (hc : X.calm = true) (ho : PE X o1 (tVar i)) (hi : PE X ix1 (semE X.K Nt A)) (ho2 : PE X o2 (tVar i)) (hi2 : PE X ix2 (semE X.K Nt B)) (he1 : PE X e1 (semE X.K Nt C)) (he2 : PE X e2 (semE X.K Nt E'))
    (ha1 : starEach [e1, e2] X.env = (false, eval e1 X.env) :: starEach [e2] X.env := by rfl) (ha2 : starEach [e2] X.env = (false, eval e2 X.env) :: starEach [] X.env := by rfl)
    (hs1 : (assignEach [.Subscript o1 ix1 p1, .Subscript o2 ix2 p3] X.env).map (·.2) = assign (.Subscript o1 ix1 p1) X.env :: (assignEach [.Subscript o2 ix2 p3] X.env).map (·.2) := by rfl) (hs2 : (assignEach [.Subscript o2 ix2 p3] X.env).map (·.2) = assign (.Subscript o2 ix2 p3) X.env :: (assignEach [] X.env).map (·.2) := by rfl)
    (hn : (assignEach [.Subscript o1 ix1 p1, .Subscript o2 ix2 p3] X.env).length = 2 := by rfl) (hst : (assignEach [.Subscript o1 ix1 p1, .Subscript o2 ix2 p3] X.env).findIdx? (·.1) = none := by rfl)
    (hb1 : ∀ v, assign (.Subscript o1 ix1 p1) X.env v = (do
      let ov ← holding [v] (eval o1 X.env)
      let iv ← holding [v, ov] (eval ix1 X.env)
      standAt p1
      holding [v, ov, iv] (setItem ov iv v)
      release [v, ov, iv] []) := by intro _; rfl)
    (hb2 : ∀ v, assign (.Subscript o2 ix2 p3) X.env v = (do
      let ov ← holding [v] (eval o2 X.env)
      let iv ← holding [v, ov] (eval ix2 X.env)
      standAt p3
      holding [v, ov, iv] (setItem ov iv v)
      release [v, ov, iv] []) := by intro _; rfl)
    (hs : swapsWithSole [.Tuple [.Subscript o1 ix1 p1, .Subscript o2 ix2 p3] k p4] (.Tuple [e1, e2] k2 p5) pos.line X.env = pure false := by rfl) (hw : swappedStores [.Tuple [.Subscript o1 ix1 p1, .Subscript o2 ix2 p3] k p4] (.Tuple [e1, e2] k2 p5) X.env = pure none := by rfl)
    (h1 : (assignEach [.Tuple [.Subscript o1 ix1 p1, .Subscript o2 ix2 p3] k p4] X.env).map (·.2) = [assign (.Tuple [.Subscript o1 ix1 p1, .Subscript o2 ix2 p3] k p4) X.env] := by rfl) :
    PS X (.Assign [.Tuple [.Subscript o1 ix1 p1, .Subscript o2 ix2 p3] k p4] (.Tuple [e1, e2] k2 p5) pos) (semS X.K Nt (.swap i A B C E')) :=
  ps_asg (pe_tup (pa_cons he1 (pa_cons he2 pa_nil ha2) ha1)) (pg_tup hc (pgs_cons (pg_sub ho hi set_list hb1) (pgs_cons (pg_sub ho2 hi2 set_list hb2) pgs_nil hs2) hs1) hn hst) hs hw h1
theorem s_if {c : Expr} {a b : List Stmt} {sa sb : SB} (hc : PT X c (semT X.K Nt TA')) (ha : PSs X a (semB X.K Nt sa)) (hb : PSs X b (semB X.K Nt sb)) : PS X (.If c a b pos) (semS X.K Nt (.ifS TA' sa sb)) := ps_if hc ha hb
theorem s_for {tg iter : Expr} {body : List Stmt} {it : SI} {g : SG} {sb : SB} (hp : PassesOwn (model X.prog X.w) X.A X.env X.xe) (hc : X.calm = true) (hi : PI X tg iter (semI X.K Nt it)) (hg : PG X tg (semG X.K g)) (hb : PSs X body (semB X.K Nt sb))
    (hs : ∀ x, foldedSetIterable iter X.env x = pure x := by intro _; rfl) : PS X (.For tg iter body [] pos) (semS X.K Nt (.for it g sb)) := ps_for hp hc hi hg hb hs
theorem s_app {o : Expr} {i : Nat} {apos cpos : Pos} (ho : PE X o (tVar i)) (he : PE X e (semE X.K Nt A)) (h1 : starEach [e] X.env = (false, eval e X.env) :: starEach [] X.env := by rfl)
    (hbase : attributeBase o "append" X.env (eval o X.env) = eval o X.env := by rfl)
    (hfew : ((backTo cpos (starEach [e] X.env)).all (fun x => !x.1) && (backToKw cpos (keywordEach [] X.env)).all (fun x => x.1.isSome)
      && decide ([e].length + ([] : List Keyword).length + (if ([] : List Keyword).isEmpty then 0 else 1) < 30)) = true := by rfl)
    (hline : (apos.endLine == cpos.line) = true := by rfl) (hs : starEach [e] X.env = (false, eval e X.env) :: starEach [] X.env := by rfl) (hplain : (backTo cpos (starEach [] X.env)).any (·.1) = false := by rfl)
    (hsw : swapsWith (.Call (.Attribute o "append" apos) [e] [] cpos) none pos.line X.env = pure false := by rfl) :
    PS X (.Expr (.Call (.Attribute o "append" apos) [e] [] cpos) pos) (semS X.K Nt (.app i A)) :=
  ps_expr (pe_bm PySem.F.plainAttrs_list PySem.F.slot_list_append PySem.F.type_list_append mt_append ho (pa_cons he pa_nil h1) hbase hfew hline hs hplain) hsw
theorem s_ext {o : Expr} {i : Nat} {apos cpos : Pos} (ho : PE X o (tVar i)) (he : PE X e (semE X.K Nt A)) (h1 : starEach [e] X.env = (false, eval e X.env) :: starEach [] X.env := by rfl)
    (hbase : attributeBase o "extend" X.env (eval o X.env) = eval o X.env := by rfl)
    (hfew : ((backTo cpos (starEach [e] X.env)).all (fun x => !x.1) && (backToKw cpos (keywordEach [] X.env)).all (fun x => x.1.isSome)
      && decide ([e].length + ([] : List Keyword).length + (if ([] : List Keyword).isEmpty then 0 else 1) < 30)) = true := by rfl)
    (hline : (apos.endLine == cpos.line) = true := by rfl) (hs : starEach [e] X.env = (false, eval e X.env) :: starEach [] X.env := by rfl) (hplain : (backTo cpos (starEach [] X.env)).any (·.1) = false := by rfl)
    (hsw : swapsWith (.Call (.Attribute o "extend" apos) [e] [] cpos) none pos.line X.env = pure false := by rfl) :
    PS X (.Expr (.Call (.Attribute o "extend" apos) [e] [] cpos) pos) (semS X.K Nt (.ext i A)) :=
  ps_expr (pe_bm PySem.F.plainAttrs_list PySem.F.slot_list_extend PySem.F.type_list_extend mt_extend ho (pa_cons he pa_nil h1) hbase hfew hline hs hplain) hsw
theorem s_whl {c : Expr} {body : List Stmt} {sb : SB} (hp : PassesOwn (model X.prog X.w) X.A X.env X.xe) (hc : PT X c (semT X.K Nt TA')) (hb : PSs X body (semB X.K Nt sb)) : PS X (.While c body [] pos) (semS X.K Nt (.whl TA' sb)) := ps_while hp hc hb
theorem s_ret (he : PE X e (semE X.K Nt A)) : PS X (.Return (some e) pos) (semS X.K Nt (.ret A)) := ps_ret he
theorem s_retF (he : PE X e (semE X.K Nt A)) : PS X (.Return (some e) pos) (semS X.K Nt (.retF A)) := ps_ret he
theorem s_brk : PS X (.Break pos) (semS X.K Nt .brk) := ps_break
theorem s_cnt : PS X (.Continue pos) (semS X.K Nt .cnt) := ps_continue
theorem s_pass : PS X (.Pass pos) (semS X.K Nt .pass) := ps_pass
theorem s_exp (he : PE X e (semE X.K Nt A)) (hs : swapsWith e none pos.line X.env = pure false := by rfl) : PS X (.Expr e pos) (semS X.K Nt (.exp A)) := ps_expr he hs
end
end Vs
/-! Vs16: more derivations: operations of their own. -/
namespace SrtO
open PySem PyProof.Rows Srt
section
variable {prog : Program} {w : World} {A : Around} {E : Value → Shared → Prop} {s : Shared}
/-- sorted(t), t a tuple -/
theorem sorted_ordT {l : Addr} {vs : List Value} {ltv : Value → Value → Bool} {Q : Value → Shared → Prop} (O : Swo ltv) (hl : s.heap.IsTuple l vs.toArray) (hz : vs.length ≤ sizeLine)
    (hS : 2 ≤ vs.length → ∀ (h₁ : Heap) (a : Addr), h₁.get? a = some (seqObj "list" vs.toArray 0) → (∀ b o, s.heap.get? b = some o → b ≠ a ∧ h₁.get? b = some o) → SortableO prog w A.in1.in1 { s with heap := h₁ } a vs ltv)
    (h : ∀ (h' : Heap) (out : List Value), (∀ b o', s.heap.get? b = some o' → h'.get? b = some o') → (h'.push (seqObj "list" vs.toArray 0)).get? h'.objs.size = some (seqObj "list" vs.toArray 0) → Srtd ltv out → Stb ltv out vs → Q (.ref h'.objs.size) { s with heap := sortedHeap (h'.push (seqObj "list" vs.toArray 0)) h'.objs.size vs out.toArray }) :
    wpAny (model prog w) A (call (.builtin "sorted") [.ref l]) Q E s := by
  refine Calls.call_function_entry kind_sorted plain_sorted entry_sorted (args_sorted1 _) ?_
  unfold Builtin.«sorted»
  refine wpAny_bind (m := checkCount "sorted" 1 1 _) (wpAny_pure ?_)
  obtain ⟨o, ho, hc, n, hd⟩ := hl
  refine wpAny_bind (wpAny_collect_seq l (.inr rfl) ho hc hd (fun h' hk => ?_) (by rw [List.size_toArray]; exact hz))
  rw [show vs.toArray.toList = vs by simp]
  refine wpAny_bind (wpAny_newList ?_ hz)
  have hoL : (h'.push (seqObj "list" vs.toArray 0)).get? h'.objs.size = some (seqObj "list" vs.toArray 0) := Heap.get?_push_size _ rfl
  have keep : ∀ b o, s.heap.get? b = some o → b ≠ h'.objs.size ∧ (h'.push (seqObj "list" vs.toArray 0)).get? b = some o := fun b o q =>
    ⟨Nat.ne_of_lt (Heap.lt_size (hk b o q)), Heap.get?_push_of_some _ (hk b o q)⟩
  show wpAny _ _ _ _ _ { s with heap := h'.push (seqObj "list" vs.toArray 0) }
  refine wpAny_bind (wpAny_holding (wpAny_call_entry slot_list_sort ⟨_, hoL, rfl⟩ entry_list_sort (list_sort_ord O hoL hz (fun h2 => hS h2 _ _ hoL keep) fun out hs hb => ⟨_, rfl, ?_⟩) (args_list_sort _)))
  exact wpAny_pure ⟨_, rfl, h h' out hk hoL hs hb⟩
end
end SrtO
namespace Vs
open PySem PySem.Spec PyProof.Rows L2
section
variable {X : Cx} {Nt : NetI} {pos p p2 : Pos} {a b c d e : Expr} {es : List Expr} {A B C E' : SE} {As : SA} {x : Str}
theorem hu65_of {k : Nat} {A : Around} (hr : Room k A) : A.units + 65 < cLine := by
  have := hr.un
  omega
theorem pe_mono {t t' : TE} (h : PE X e t) (hm : ∀ σ H Q, t' σ H Q → t σ H Q) : PE X e t' := ⟨fun pins s σ H Q I q => h.run pins s σ H Q I (hm σ H Q q)⟩
theorem i_rng3 {tg : Expr} (hg : Gl X "range") (hm : X.mg "range" = none) (ha : PE X a (semE X.K Nt A)) (hb : PE X b (semE X.K Nt B)) (hc : PE X c (semE X.K Nt C)) (h0 : starEach [a, b, c] X.env = (false, eval a X.env) :: starEach [b, c] X.env := by rfl) (h1 : starEach [b, c] X.env = (false, eval b X.env) :: starEach [c] X.env := by rfl) (h2 : starEach [c] X.env = (false, eval c X.env) :: starEach [] X.env := by rfl)
    (hpl : (backTo pos (starEach [b, c] X.env)).any (·.1) = false := by rfl) : PI X tg (.Call (.Name "range" p) [a, b, c] [] pos) (semI X.K Nt (.rng3 A B C)) := pi_range3 hg hm (pa_cons ha (pa_cons hb (pa_cons hc pa_nil h2) h1) h0) h0 hpl
theorem i_zip {elts : List Expr} {kk : Nat} {tpos : Pos} (hg : Gl X "zip") (hm : X.mg "zip" = none) (ha : PE X a (semE X.K Nt A)) (hb : PE X b (semE X.K Nt B)) (h0 : starEach [a, b] X.env = (false, eval a X.env) :: starEach [b] X.env := by rfl) (h1 : starEach [b] X.env = (false, eval b X.env) :: starEach [] X.env := by rfl)
    (hpl : (backTo pos (starEach [b] X.env)).any (·.1) = false := by rfl) : PI X (.Tuple elts kk tpos) (.Call (.Name "zip" p) [a, b] [] pos) (semI X.K Nt (.zip A B)) := pi_zip hg hm (pa_cons ha (pa_cons hb pa_nil h1) h0) h0 hpl
-- operations of their own
theorem d_prB {f : PF} {id : String} (hc : CallR X (.builtin id) (primP Nt f)) (hg : Gl X x) (hm : X.mg x = none) (hv : bootBuiltins x = some (.builtin id)) (ha : PA X (e :: es) (semA X.K Nt As)) (hn : x ≠ "__name__" := by decide) (hdb : (x == ("__debug__" : Str)) = false := by decide)
    (he : starEach (e :: es) X.env = (false, eval e X.env) :: starEach es X.env := by rfl) (hpl : (backTo pos (starEach es X.env)).any (·.1) = false := by rfl) : PE X (.Call (.Name x p) (e :: es) [] pos) (semE X.K Nt (.prim f As)) := pe_callB hc hg hm hv ha hn hdb he hpl
/-- sorted of a tuple or list of ints -/
def sortF : PF := ⟨fun ds => match ds with
  | [.lst xs] => match ints? xs with
    | some ns => some (.fr ((sortI ns).map .int))
    | none => none
  | [.tup xs] => match ints? xs with
    | some ns => some (.fr ((sortI ns).map .int))
    | none => none
  | _ => none⟩
def rSortedTI (K : PySem.W.Frag) : List V → Hp → VK → Prop := fun vs H Q => ∃ (a : Addr) (ns : List Int), vs = [.ref a] ∧ SqT K H a (ns.map .int) ∧ ∀ (ns' : List Int) p, ns'.Perm ns → ns'.Pairwise (· ≤ ·) → H p = none → Q (.ref p) (upd H p (.lst (ns'.map .int)))
theorem cr_sortedTI : CallR X (.builtin "sorted") (rSortedTI X.K) := by
  intro pins s σ H vs us Q I r h
  obtain ⟨a, ns, rfl, hs, q⟩ := h
  obtain ⟨its, rv, hl, hz⟩ := I.tuple hs
  rw [Vals.ref1 r]
  have hi := rv.ints
  refine SrtO.sorted_ordT SrtO.swo_int (show s.heap.IsTuple a its.toArray from hl) (by rw [← rv.length]; exact hz) (fun h2 h₁ a' _ _ => SrtO.ints_sortable hi h2) fun h' out hk hoL h1 h2 => ?_
  obtain ⟨k1, k2, k3⟩ := SrtO.ints_out hi h1 h2
  have I2 : Inv X pins σ H { s with heap := h' } := I.kept (t' := s.toks) hk
  obtain ⟨ep, he'⟩ := PyProof.Rows.sortedHeap_at (vs := its) (out := out.toArray) hoL
  have hlen : ((out.map SrtO.iv).map V.int).length ≤ sizeLine := by
    rw [List.length_map, k2.length_eq]
    rw [List.length_map] at hz
    exact hz
  refine ⟨.ref _, upd H h'.objs.size (.lst ((out.map SrtO.iv).map V.int)), I2.laid (t' := s.toks) (fun b o e => ?_) (Nat.le_refl _) ⟨hlen, out, ep, vals_of_ints k1, he'⟩, rfl, q _ _ k2 k3 (I2.hok.fresh (Nat.le_refl _))⟩
  have hlt : b < h'.objs.size := Heap.lt_size e
  rw [PyProof.Rows.sortedHeap_old (Nat.ne_of_lt hlt) (by rw [Heap.size_push]; exact Nat.lt_succ_of_lt hlt)]
  exact Heap.get?_push_of_some _ e
theorem c_sortF : CallR X (.builtin "sorted") (primP Nt sortF) := by
  have hh : CallR X (.builtin "sorted") (fun vs H Q => rSortedI X.K vs H Q ∨ rSortedTI X.K vs H Q) := cr_sortedI.or cr_sortedTI
  intro pins s σ H vs us Q I r h
  refine hh pins s σ H vs us Q I r ?_
  obtain ⟨to, M, B, ds, rr, he, ha, hD, q⟩ := h
  simp only [sortF] at he
  split at he
  · obtain ⟨v, rfl, h1⟩ := avs1 ha
    split at he
    · rename_i ns hz
      cases he
      obtain ⟨a, vx, rfl, e1, s1⟩ := h1.lst
      rw [ints_vls hz s1] at e1
      refine .inl ⟨a, ns, rfl, SqL.of e1, fun ns' p pm so hp => ?_⟩
      rw [sorted_unique (pm.trans (sortI_perm ns).symm) so (sortI_sorted ns)]
      exact q.fr (vls_ints _) p hp
    · cases he
  · obtain ⟨v, rfl, h1⟩ := avs1 ha
    split at he
    · rename_i ns hz
      cases he
      obtain ⟨a, vx, rfl, m1, e1, s1⟩ := h1.tup
      rw [ints_vls hz s1] at e1
      refine .inr ⟨a, ns, rfl, SqT.of e1, fun ns' p pm so hp => ?_⟩
      rw [sorted_unique (pm.trans (sortI_perm ns).symm) so (sortI_sorted ns)]
      exact q.fr (vls_ints _) p hp
    · cases he
  · cases he
/-- isinstance(x, T) -/
def tyS : D → Option String
  | .non => some "NoneType"
  | .bl _ => some "bool"
  | .int _ => some "int"
  | .str _ => some "str"
  | .tup _ => some "tuple"
  | .lst _ => some "list"
  | _ => none
def isiF (T : String) : PF := ⟨fun ds => match ds with
  | [d] => match tyS d with
    | some u => (kitB u T).map fun b => .sh (.bl b)
    | none => none
  | _ => none⟩
theorem ty_av {G : Rg} {M : AP} {H : Hp} {d : D} {v : V} {u : String} (h : Av G M H d v) (e : tyS d = some u) : TyX X.K H v (.type u) := by
  cases d with
  | non => cases e; rcases h with h | ⟨_, _, _, e, _⟩; · simp only [Vl] at h; subst h; exact .base .non
           · cases e
  | bl b => cases e; rw [h.bl]; exact .base (.bl _)
  | int i => cases e; rw [h.int]; exact .base (.int _)
  | str i => cases e; rw [h.str]; exact .base (.str _)
  | tup ds => cases e; obtain ⟨a, vs, rfl, _, ha, _⟩ := h.tup; exact .base (.tup ha)
  | lst ds => cases e; obtain ⟨a, vs, rfl, ha, _⟩ := h.lst; exact .base (.lst ha)
  | net _ _ => cases e
  | scr _ => cases e
theorem pe_tyN {T : String} {T' : Str} (hg : Gl X T') (hm : X.mg T' = none) (hv : bootBuiltins T' = some (.type T)) (hn : T' ≠ "__name__" := by decide) (hd : (T' == ("__debug__" : Str)) = false := by decide) : PE X (.Name T' p) (tC (.ty T)) :=
  ⟨fun pins s σ H Q I h => ld_blt I hg hm hv ⟨.ty T, H, I, rfl, h⟩ hn hd⟩
theorem d_isi (T : String) {T' : Str} (hg : Gl X "isinstance") (hm : X.mg "isinstance" = none) (hg2 : Gl X T') (hm2 : X.mg T' = none) (ha : PE X a (semE X.K Nt A)) (hv2 : bootBuiltins T' = some (.type T) := by decide +kernel) (hn2 : T' ≠ "__name__" := by decide) (hd2 : (T' == ("__debug__" : Str)) = false := by decide)
    (hv : bootBuiltins "isinstance" = some (.builtin "isinstance") := by decide +kernel) (h0 : starEach [a, .Name T' p2] X.env = (false, eval a X.env) :: starEach [.Name T' p2] X.env := by rfl) (h1 : starEach [.Name T' p2] X.env = (false, eval (.Name T' p2) X.env) :: starEach [] X.env := by rfl)
    (hpl : (backTo pos (starEach [.Name T' p2] X.env)).any (·.1) = false := by rfl) : PE X (.Call (.Name "isinstance" p) [a, .Name T' p2] [] pos) (semE X.K Nt (.prim (isiF T) (.cons A .nil))) := by
  refine ⟨fun pins s σ H Q I h => ?_⟩
  have h' : semE X.K Nt A σ H fun x H1 => primP Nt (isiF T) [x] H1 Q := h
  refine Call_ (ld_blt I hg hm hv (PyProof.Rows.callWith_builtin1 (args_cons (thn (ha.run pins s σ H _ I h') fun v s1 ⟨x, H1, I1, r1, q1⟩ => args_cons (ld_blt I1 hg2 hm2 hv2 (args_nil ?_) hn2 hd2) h1) h0) h0 hpl) (by decide) (by decide))
  obtain ⟨to, M, B, ds, rr, he, hav, hD, q⟩ := q1
  simp only [isiF] at he
  split at he
  · rename_i d
    split at he
    · rename_i u hu
      simp only [Option.map_eq_some_iff] at he
      obtain ⟨b, hb, rfl⟩ := he
      obtain ⟨v', ev, hv'⟩ := avs1 hav
      cases ev
      exact call_isi pins s1 σ H1 [x, .ty T] [v, .type T] Q I1 (.cons r1 (.cons rfl .nil)) ⟨x, .ty T, .type u, .type T, b, rfl, .ty T, ty_av hv' hu, kit_ty hb, q.bl⟩
    · cases he
  · cases he
/-- list(range(n)) -/
def lrngF : PF := ⟨fun ds => match ds with
  | [.int n] => if okR n then some (.fr (rngD 0 n.toNat)) else none
  | _ => none⟩
theorem d_lrng (hg : Gl X "list") (hm : X.mg "list" = none) (hg2 : Gl X "range") (hm2 : X.mg "range" = none) (hc : X.calm = true) (ha : PE X a (semE X.K Nt A)) {pos2 : Pos} (na : starEach [a] X.env = (false, eval a X.env) :: starEach [] X.env := by rfl)
    (nb : starEach [.Call (.Name "range" p2) [a] [] pos2] X.env = (false, eval (.Call (.Name "range" p2) [a] [] pos2) X.env) :: starEach [] X.env := by rfl) : PE X (.Call (.Name "list" p) [.Call (.Name "range" p2) [a] [] pos2] [] pos) (semE X.K Nt (.prim lrngF (.cons A .nil))) := by
  refine ⟨fun pins s σ H Q I h => ?_⟩
  have h' : semE X.K Nt A σ H fun x H1 => primP Nt lrngF [x] H1 Q := h
  have hr : wpAny (model X.prog X.w) X.A (eval (.Call (.Name "range" p2) [a] [] pos2) X.env) (fun v s1 => ∃ (r : Addr) (n : Int) (t u w : Tok) (H1 : Hp), v = .ref r ∧ IsRange s1.heap r 0 n 1 t u w ∧ Inv X pins σ H1 s1 ∧ primP Nt lrngF [.int n] H1 Q) X.xe s := by
    refine Call_ (ld_blt I hg2 hm2 boot_range (PyProof.Rows.callWith_type1 (one_arg ha I h' (fun v s2 x H2 I2 r q => ?_) na) na))
    have hx : ∃ n, x = .int n := by
      obtain ⟨to, M, B, ds, rr, he, hav, hD, q⟩ := q
      simp only [lrngF] at he
      split at he
      · obtain ⟨v', ev, hv'⟩ := avs1 hav
        cases ev
        exact ⟨_, hv'.int⟩
      · cases he
    obtain ⟨n, rfl⟩ := hx
    obtain ⟨t, rfl⟩ := r
    exact call_range_1 ⟨_, n, _, _, _, H2, rfl, IsRange.new _ _ _ _ _ _ _, I2.kept fun b u e => Heap.get?_push_of_some _ e, q⟩
  refine Call_ (ld_blt I hg hm boot_list (PyProof.Rows.callWith_type1 (args_cons (thn hr fun x s1 ⟨r, n, t, u, v, H1, ex, hr, I1, q⟩ => args_nil ?_) nb) nb))
  subst ex
  obtain ⟨to, M, B, ds, rr, he, hav, hD, q⟩ := q
  simp only [lrngF] at he
  split at he
  · rename_i m
    obtain ⟨v', ev, hv'⟩ := avs1 hav
    cases ev
    have := hv'.int
    cases this
    split at he
    · rename_i hz
      cases he
      simp only [okR, decide_eq_true_eq] at hz
      refine call_list_range (n := (n - 0).toNat) (I1.ok.hd hc) hr (small_one (by omega) (by omega) (by omega) (by omega)) (rangeSize_nat 0 n) (by omega) fun h' tk acc c' hk e' hi => ?_
      refine ⟨.ref s1.heap.objs.size, upd H1 s1.heap.objs.size (.lst (rgV 0 n)), I1.laid hk (Nat.le_refl _) (show ObjOk X.prog X.w _ _ _ (.lst (rgV 0 n)) from ⟨?_, acc.toList, c', vals_rg hi, ?_⟩), rfl, ?_⟩
      · rw [rgV_length, sizeLine_eq]; omega
      · rw [Array.toArray_toList]; exact e'
      · have hvs : Vls ⟨Nt, to⟩ M H1 (rngD 0 n.toNat) (rgV 0 n) := by
          have : rgV 0 n = ((List.range n.toNat).map fun (k : Nat) => (0 : Int) + (k : Nat)).map V.int := by simp [rgV]
          rw [this]
          have : rngD 0 n.toNat = ((List.range n.toNat).map fun (k : Nat) => (0 : Int) + (k : Nat)).map D.int := by simp [rngD]
          rw [this]
          exact vls_ints _
        exact q.fr hvs _ (I1.hok.fresh (Nat.le_refl _))
    · cases he
  · cases he
end
end Vs
/-! Vs17: Network: its __init__, its run. -/
namespace Vs
open PySem PySem.Spec PyProof.Rows L2
section
variable {X : Cx} {Nt : NetI} {pos p p2 : Pos} {a b c d e : Expr} {es : List Expr} {A B C E' : SE} {As : SA} {x : Str} {st : Stmt} {rest : List Stmt}
theorem s_dead : PS X st (semS X.K Nt .dead) := ⟨fun _ _ _ _ _ _ h => h.elim⟩
/-- a block with something else behind it -/
def semBk (K : PySem.W.Frag) (N : NetI) : SB → TS → TS
  | .nil, T => T
  | .cons s r, T => tSeq (semS K N s) (semBk K N r T)
  | .frz _ r, T => semBk K N r T
theorem bk_nil {T : TS} (h : PSs X rest T) : PSs X rest (semBk X.K Nt .nil T) := h
theorem bk_cons {T : TS} {s : SS} {r : SB} (h1 : PS X st (semS X.K Nt s)) (h2 : PSs X rest (semBk X.K Nt r T)) : PSs X (st :: rest) (semBk X.K Nt (.cons s r) T) := pss_cons h1 h2
theorem bk_frz {T : TS} {r : SB} (i : Nat) (h2 : PSs X rest (semBk X.K Nt r T)) : PSs X rest (semBk X.K Nt (.frz i r) T) := h2
end
section
variable {G : Rg} {K : PySem.W.Frag}
theorem sndBk (hG : NetOk K G.N) (n : Nat) (T : TS) : ∀ (s : SB) (env : Env) (tp : Tape) (e1 : Env) (t1 : Tape), evB n s env tp = some (.nx e1 t1) → ∀ (R0 : AP) (H0 : Hp) (σ : L2.St) (H : Hp) (fs : List (List Addr)), StI G R0 H0 env tp σ H fs → (∀ b, H b = none → H0 b = none) → ∀ D : Ends,
    (∀ σ' H' fs', StI G R0 H0 e1 t1 σ' H' fs' → Stp G H fs.flatten H' fs'.flatten → T D σ' H') → semBk K G.N s T D σ H
  | .nil, env, tp, e1, t1, he, R0, H0, σ, H, fs, R, hH, D, q => by
    simp only [evB, Option.some.injEq, Out.nx.injEq] at he
    obtain ⟨rfl, rfl⟩ := he
    exact q σ H fs R (Stp.refl R.def_)
  | .cons s r, env, tp, e1, t1, he, R0, H0, σ, H, fs, R, hH, D, q => by
    simp only [evB] at he
    split at he
    · rename_i e2 t2 es
      exact sndS hG n s env tp _ es R0 H0 σ H fs R hH { D with nx := semBk K G.N r T D } fun σ1 H1 fs1 R1 s1 => sndBk hG n T r e2 t2 e1 t1 he R0 H0 σ1 H1 fs1 R1 (hb_step hH R s1) D fun σ' H' fs' R' s' => q σ' H' fs' R' (s1.trans s')
    · rename_i o hn es
      cases he
      exact absurd rfl (hn e1 t1)
    · cases he
  | .frz i r, env, tp, e1, t1, he, R0, H0, σ, H, fs, R, hH, D, q => by
    simp only [evB] at he
    split at he
    · rename_i s es
      split at he
      · rename_i s' es'
        obtain ⟨R1, s1⟩ := frz_sound R es es'
        exact sndBk hG n T r _ tp e1 t1 he R0 H0 σ H _ R1 hH D fun σ' H' fs' R' s' => q σ' H' fs' R' (s1.trans s')
      · cases he
    · cases he
end
/-- tuple(l), its object known -/
def tTupN (K : PySem.W.Frag) (ta : TE) : TE := fun σ H Q => ta σ H fun x H1 => ∃ l xs, x = .ref l ∧ SqL K H1 l xs ∧ ∀ p o, H1 p = none → o.dict = none → Q (.ref p) (upd H1 p (.frz o (.tup xs)))
section
variable {X : Cx} {Nt : NetI} {pos p p2 : Pos} {a b c d e : Expr} {es : List Expr} {A B C E' : SE} {As : SA} {x : Str} {ta : TE}
theorem pe_tupN {p pos : Pos} (hg : Gl X "tuple") (hm : X.mg "tuple" = none) (ha : PE X a ta) (na : starEach [a] X.env = (false, eval a X.env) :: starEach [] X.env := by rfl) :
    PE X (.Call (.Name "tuple" p) [a] [] pos) (tTupN X.K ta) := by
  refine ⟨fun pins s σ H Q I h => ?_⟩
  refine Call_ (ld_blt I hg hm boot_tuple (PyProof.Rows.callWith_type1 (one_arg ha I h (fun v s2 x H2 I2 r q => ?_) na) na))
  obtain ⟨l, xs, rfl, hs, q⟩ := q
  obtain rfl : v = .ref l := r
  obtain ⟨its, rv, pl, hz⟩ := I2.list hs
  refine call_tuple_list pl.isList (fun h' hk => ?_) (by rw [List.size_toArray, ← rv.length]; exact hz)
  have I1 : Inv X pins σ H2 { s2 with heap := h' } := I2.kept (t' := s2.toks) hk
  have I3 : Inv X pins σ (upd H2 h'.objs.size (.frz { cls := .type "tuple", data := .seq its.toArray } (.tup xs))) { s2 with heap := h'.push { cls := .type "tuple", data := .seq its.toArray } } :=
    I1.laid (t' := s2.toks) (fun b o e => Heap.get?_push_of_some _ e) (Nat.le_refl _) (show ObjOk X.prog X.w _ _ _ (.frz _ (.tup xs)) from ⟨Heap.get?_push_size _ rfl, hz, its, rv, IsTup.new _ _⟩)
  exact ⟨.ref h'.objs.size, _, I3, rfl, q _ _ (I1.hok.fresh (Nat.le_refl _)) rfl⟩
/-- o.run(..).index(i) -/
structure MethN (P : Program) (w : World) (K : PySem.W.Frag) (mg : Str → Option Value) (base : Heap) (Nt : NetI) (m : Str) (k : Nat) (ps : List Str) (fs : FS) : Prop where
  ex : ∃ f fd, Meth K Nt.C m f ∧ Cls K Nt.C ∧ Binds K fd ps [] ∧ FnOk P w K mg base CX0 k f fd ps (spOfN Nt fs)
theorem d_mIdx {k : Nat} {ps : List Str} {fs : FS} {o : Expr} {apos apos2 cpos cp : Pos} {i : Int} {kd : _} {pl : Sem Bool} (c : MethN X.prog X.w X.K X.mg X.base Nt "run" k ps fs) (hr : Room k X.A) (ho : PE X o (semE X.K Nt A)) (ha : PA X (e :: es) (semA X.K Nt As))
    (hst : starEach (e :: es) X.env = (false, eval e X.env) :: starEach es X.env := by rfl) (hpl : (backTo pos (starEach es X.env)).any (·.1) = false := by rfl)
    (ht : eval (.Call (.Attribute o "run" apos) (e :: es) [] pos) X.env = (do
      let ov ← eval o X.env
      standAt apos.atName
      let (f, first) ← holding [ov] (getMethod ov "run" pl)
      callWith pos f first (backTo pos (starEach (e :: es) X.env)) (backToKw pos (keywordEach [] X.env))) := by rfl)
    (hbase : attributeBase (.Call (.Attribute o "run" apos) (e :: es) [] pos) "index" X.env (eval (.Call (.Attribute o "run" apos) (e :: es) [] pos) X.env) = eval (.Call (.Attribute o "run" apos) (e :: es) [] pos) X.env := by rfl)
    (hfew : ((backTo cpos (starEach [.Constant (.int i) kd cp] X.env)).all (fun x => !x.1) && (backToKw cpos (keywordEach [] X.env)).all (fun x => x.1.isSome)
      && decide ([Expr.Constant (.int i) kd cp].length + ([] : List Keyword).length + (if ([] : List Keyword).isEmpty then 0 else 1) < 30)) = true := by rfl)
    (hline : (apos2.endLine == cpos.line) = true := by rfl) (hs : starEach [.Constant (.int i) kd cp] X.env = (false, eval (.Constant (.int i) kd cp) X.env) :: starEach [] X.env := by rfl) (hplain : (backTo cpos (starEach [] X.env)).any (·.1) = false := by rfl) :
    PE X (.Call (.Attribute (.Call (.Attribute o "run" apos) (e :: es) [] pos) "index" apos2) [.Constant (.int i) kd cp] [] cpos) (semE X.K Nt (.mIdx fs A As i)) := by
  obtain ⟨f, fd, h1, h2, h3, h4⟩ := c.ex
  have hin := pe_meth ho h2 h1 h4 hr h3 .nil pass0 ha hst hpl ht
  refine ⟨fun pins s σ H Q I h => ?_⟩
  refine wpAny_Call_method_late hbase hfew hline rfl (thn (hin.run pins s σ H _ I h) fun v s1 ⟨y, H1, I1, r1, q1⟩ => ?_)
  obtain ⟨t, ob, ns, rfl, htu, hdn, hi, q⟩ := q1
  obtain rfl : v = .ref t := r1
  obtain ⟨hget, hz, its, rv, htup⟩ := (show ObjOk X.prog X.w H1 s1.heap t (.frz ob (.tup (ns.map .int))) from I1.hok t _ htu)
  obtain ⟨o2, ho2, hc2, n2, hd2⟩ := id htup
  rw [hget] at ho2
  cases ho2
  refine ⟨"tuple", "tuple.index", PySem.F.plainAttrs_tuple, PySem.F.slot_tuple_index, PySem.F.type_tuple_index, ⟨_, hget, hc2⟩, fun a ea => by cases ea; exact ⟨_, hget, hdn⟩, ?_⟩
  have hA := (pa_cons (X := X) (pe_int (i := i) (j := kd) (pos := cp)) pa_nil hs).run cpos pins s1 σ H1 (fun vs H2 => vs = [.int i] ∧ H2 = H1) I1 ⟨rfl, rfl⟩
  rw [hs] at hA ⊢
  refine Calls.callWith_builtin (by show (false || (backTo cpos (starEach [] X.env)).any (·.1)) = false; rw [hplain] <;> rfl) (Calls.evalArgs_plain ?_)
  refine thn hA fun us s2 ⟨vs, H2, I2, r2, e2, eH⟩ => ?_
  subst e2 eH
  obtain ⟨u, rfl, tk, rfl⟩ := vals1 r2
  obtain ⟨hget2, hz2, its2, rv2, htup2⟩ := (show ObjOk X.prog X.w H2 s2.heap t (.frz ob (.tup (ns.map .int))) from I2.hok t _ htu)
  exact PySem.SeqAt.tuple_index_ints (show s2.heap.IsTuple t its2.toArray from htup2) rv2.ints hi ⟨.int (ns.idxOf i : Nat), H2, I2.tok _, ⟨_, rfl⟩, q⟩
end
end Vs
/-! Vs18: Network's __init__ and run keep their promises. -/
namespace Vs
open PySem L2
section
variable {P : Program} {w : World} {K : PySem.W.Frag} {mg : Str → Option Value} {base : Heap} {Nt : NetI}
theorem sti_start {to : Option Addr} {M : AP} {H : Hp} {args : List Sl} {tp : Tape} {vs : List V} {N : List Str} (hl : vs.length = args.length) (hN : args.length ≤ N.length)
    (hargs : ∀ (i : Nat) s v, args[i]? = some s → vs[i]? = some v → SlRep ⟨Nt, to⟩ M (Tb ⟨Nt, to⟩) H s (some v) []) (hT : ∀ a, to = some a → M a) (t : Tp ⟨Nt, to⟩ tp H) (hD : ∀ b, M b → H b ≠ none) :
    StI ⟨Nt, to⟩ M H (args ++ List.replicate (N.length - args.length) .un) tp (L2.start N vs) H (List.replicate (L2.start N vs).length []) := by
  have lens : (args ++ List.replicate (N.length - args.length) Sl.un).length = (L2.start N vs).length := by simp [L2.start, hl]
  refine ⟨⟨lens, by simp, fun i s ov f h1 h2 h3 => ?_, ?_, t, ?_, ?_, ?_, ?_⟩, ?_, hD⟩
  · have ef : f = [] := by
      rw [List.getElem?_replicate] at h3
      split at h3
      · exact (Option.some.inj h3).symm
      · cases h3
    subst ef
    rcases get_app_rep h1 with ⟨h1, hi⟩ | ⟨rfl, hi⟩
    · unfold L2.start at h2
      rw [List.getElem?_append_left (by simp [hl, hi])] at h2
      rw [List.getElem?_map] at h2
      have hi2 : i < vs.length := by rw [hl]; exact hi
      rw [List.getElem?_eq_getElem hi2] at h2
      cases h2
      refine sl_tr (fun a o e m => ⟨fun z => ?_, e⟩) (fun a o e m => ⟨fun z => z.elim (fun z => by rw [z] at e; cases e) m, e⟩) (by simp) (hargs i s _ h1 (List.getElem?_eq_getElem hi2))
      rcases z with z | z | z
      · rw [flat_rep_nil] at z; cases z
      · exact m (hT a z)
      · exact m z
    · rfl
  · rw [flat_rep_nil]; exact .nil
  · rw [flat_rep_nil]; simp
  · intro a ha
    exact ⟨.inr (.inl ha), by rw [flat_rep_nil]; simp⟩
  · intro b hb
    rcases hb with hb | hb | hb
    · rw [flat_rep_nil] at hb; cases hb
    · rw [t b hb]; simp
    · exact hD b hb
  · exact fun a ha => .inr ha
  · rw [flat_rep_nil]; simp
def initFn (n : Nat) (eC : SE) (code : SB) (slots : Nat) : FS := ⟨fun args tp => match args with
  | [.sh (.int w), a] => match evE eC ([.un, .sh (.int w), a] ++ List.replicate (slots - 3) .un) tp with
    | some (.sh cs, t1) => match evB n code ([.sh (.net w cs), .sh (.int w), a] ++ List.replicate (slots - 3) .un) t1 with
      | some (.nx _ t2) => some (.sh (.net w cs), t2)
      | _ => none
    | _ => none
  | _ => none⟩
theorem putF_look {f g : Str} {v : V} {fs : List (Str × V)} (h : g ≠ f) : (putF f v fs).lookup g = fs.lookup g := by rw [lookup_putF, if_neg h]
theorem putF_same {f : Str} {v : V} {fs : List (Str × V)} : (putF f v fs).lookup f = some v := by rw [lookup_putF, if_pos rfl]
theorem init_ok {x qual : Str} {st : Stmt} {f : Addr} {fd : FuncData} {N ps : List Str} {k : Nat} (F : Fun K x qual st f fd) (S : FnScope N ps (defScope st)) (hG : NetOk K Nt) (hok : Nt.ok) (hN : 3 ≤ N.length) (hps : ps.length = 3) (n : Nat) (eC : SE) (code : SB)
    (der : ∀ (cdv : Value) (A : Around) (outer : List PySem.Env) (s : Shared) (H : Hp) (E : XK), Room k (A.deeper (PyProof.Rows.envOfC qual (defScope st) s.heap.objs.size f cdv)) →
      PSs (cxOf CX0 P w K mg base N qual (defScope st) f cdv A outer s H E).nox (defBody st) (tSeq (sFld K (tVar 0) (tVar 1) sWires) (tSeq (sFld K (tVar 0) (semE K Nt eC) sComps) (semB K Nt code)))) :
    FnOk P w K mg base CX0 (k + 1) f fd ps (spMk Nt (initFn n eC code N.length)) := by
  refine F.ok S (fun vs H Q E h => ?_) (fun cdv A outer s H vs Q E hr h => ⟨_, der cdv A outer s H E hr, ?_⟩)
  · obtain ⟨p, dx, ws, rfl, _, _, _, to, args, tp, w, cs, tp', M, e, hl, _⟩ := h
    simp only [initFn] at e
    split at e
    · rw [List.length_cons, hl, hps]; rfl
    · cases e
  · obtain ⟨p, dx, ws, rfl, hp, hdx, hne, to, args, tp, w, cs, tp', M, e, hl, hargs, hT, t, hD, hMp, hMd, k⟩ := h
    simp only [initFn] at e
    split at e
    · rename_i w' ac
      split at e
      · rename_i cs' t1 eE
        split at e
        · rename_i e2 t2 eB
          simp only [Option.some.injEq, Prod.mk.injEq, Rv.sh.injEq, D.net.injEq] at e
          obtain ⟨⟨rfl, rfl⟩, rfl⟩ := e
          obtain ⟨cl, na1, na2⟩ := hG.1 hok
          -- the arguments
          have h0 := hargs 0 _ _ rfl (List.getElem?_eq_getElem (by rw [hl]; simp))
          have h1 := hargs 1 _ _ rfl (List.getElem?_eq_getElem (by rw [hl]; simp))
          match ws, hl with
          | [v0, v1], _ =>
          simp only [List.getElem_cons_zero, List.getElem_cons_succ] at h0 h1
          have ev0 : v0 = .int w' := by
            obtain ⟨_, v, ev, hv⟩ := h0
            cases ev
            simpa [Vl] using hv
          subst ev0
          have hTp : to ≠ some p := fun z => hMp (hT p z)
          have st0 : (L2.start N [V.ref p, .int w', v1])[0]? = some (some (.ref p)) := rfl
          have st1 : (L2.start N [V.ref p, .int w', v1])[1]? = some (some (.int w')) := rfl
          -- self.wires = wires
          refine ⟨.int w', st1, .ref p, st0, p, Nt.C, dx, [], rfl, hp, cl, na1, by decide, ?_⟩
          generalize hH1 : upd H p (.ins Nt.C dx (putF sWires (V.int w') [])) = H1
          have old1 : ∀ b o, b ≠ p → H b = some o → H1 b = some o := fun b o n e => by rw [← hH1, upd_ne n]; exact e
          have p1 : H1 p = some (.ins Nt.C dx (putF sWires (V.int w') [])) := by rw [← hH1]; exact upd_same
          have t1' : Tp ⟨Nt, to⟩ tp H1 := fun b hb => old1 b _ (fun z => hTp (z ▸ hb)) (t b hb)
          have sl1' : SlRep ⟨Nt, to⟩ (Mx M [p, dx]) (Mx (Tb ⟨Nt, to⟩) [p, dx]) H1 ac (some v1) [] := sl_tr (fun b o e m => ⟨m, old1 b o (fun z => m (.inr (by rw [z]; simp))) e⟩) (fun b o e m => ⟨m, old1 b o (fun z => m (.inr (by rw [z]; simp))) e⟩) (by simp) h1
          have sl1 : SlRep ⟨Nt, to⟩ (Mx M [p, dx]) (Tb ⟨Nt, to⟩) H1 ac (some v1) [] := sl_tr (fun b o e m => ⟨m, e⟩) (fun b o e m => ⟨fun z => m (.inl z), e⟩) (by simp) sl1'
          have hD1 : ∀ b, Mx M [p, dx] b → H1 b ≠ none := fun b hb => by
            by_cases z : b = p
            · rw [z, p1]; simp
            · rcases hb with hb | hb
              · cases q : H b with
                | none => exact absurd q (hD b hb)
                | some o => rw [old1 b o z q]; simp
              · rcases List.mem_cons.mp hb with q | q
                · exact absurd q z
                · rw [List.mem_singleton.mp q] at z ⊢
                  rw [old1 dx _ z hdx]; simp
          have R1 := sti_start (Nt := Nt) (to := to) (M := Mx M [p, dx]) (H := H1) (args := [.un, .sh (.int w'), ac]) (tp := tp) (vs := [.ref p, .int w', v1]) (N := N) rfl hN (fun i s v e1 e2 => by
            match i with
            | 0 => cases e1; exact rfl
            | 1 => cases e1; cases e2; exact ⟨rfl, _, rfl, by simp [Vl]⟩
            | 2 => cases e1; cases e2; exact sl1
            | i + 3 => simp at e1) (fun a ha => .inl (hT a ha)) t1' hD1
          refine sndE hG eC _ _ _ _ eE _ _ _ _ _ R1.eR (fun a h => R1.tf a h) (fun b h => R1.tM b h) _ fun v H2 g fr2 t2' rep nd fresh => ?_
          have hg : g = [] := rep.1
          subst hg
          have p2 : H2 p = some (.ins Nt.C dx (putF sWires (V.int w') [])) := fr2 p _ hTp p1
          refine ⟨.ref p, st0, p, Nt.C, dx, _, rfl, p2, cl, na2, by simp [putF], ?_⟩
          generalize hH3 : upd H2 p (.ins Nt.C dx (putF sComps v (putF sWires (V.int w') []))) = H3
          have old3 : ∀ b o, b ≠ p → H2 b = some o → H3 b = some o := fun b o n e => by rw [← hH3, upd_ne n]; exact e
          have p3 : H3 p = some (.ins Nt.C dx (putF sComps v (putF sWires (V.int w') []))) := by rw [← hH3]; exact upd_same
          have t3 : Tp ⟨Nt, to⟩ t1 H3 := fun b hb => old3 b _ (fun z => hTp (z ▸ hb)) (t2' b hb)
          have old13 : ∀ b o, b ≠ p → to ≠ some b → H1 b = some o → H3 b = some o := fun b o n n2 e => old3 b o n (fr2 b o n2 e)
          have vcs : Vl ⟨Nt, to⟩ M H3 cs' v := vl_tr (fun b o e m => ⟨fun z => m (.inl (.inr (.inr (.inl z)))), old3 b o (fun z => m (.inl (.inr (.inr (.inr (by rw [z]; simp)))))) e⟩) _ _ rep.2
          have vnet : Vl ⟨Nt, to⟩ M H3 (.net w' cs') (.ref p) := by
            simp only [Vl]
            refine ⟨hok, p, dx, _, v, rfl, hMp, p3, ?_, putF_same, fun m m1 m2 => ?_, vcs⟩
            · rw [putF_look (by decide)]; exact putF_same
            · rw [putF_look m2, putF_look m1]; rfl
          have hD3 : ∀ b, M b → H3 b ≠ none := fun b hb => by
            have hbp : b ≠ p := fun z => hMp (z ▸ hb)
            by_cases q : to = some b
            · rw [t3 b q]; simp
            · cases q2 : H1 b with
              | none => exact absurd q2 (hD1 b (.inl hb))
              | some o => rw [old13 b o hbp q q2]; simp
          have sl3 : SlRep ⟨Nt, to⟩ M (Tb ⟨Nt, to⟩) H3 ac (some v1) [] := sl_tr (fun b o e m => ⟨fun z => m (.inl z), old13 b o (fun z => m (.inr (by rw [z]; simp))) (fun z => m (.inl (hT b z))) e⟩) (fun b o e m => ⟨fun z => m (.inl z), old13 b o (fun z => m (.inr (by rw [z]; simp))) (fun z => m (.inl z)) e⟩) (by simp) sl1'
          have R3 := sti_start (Nt := Nt) (to := to) (M := M) (H := H3) (args := [.sh (.net w' cs'), .sh (.int w'), ac]) (tp := t1) (vs := [.ref p, .int w', v1]) (N := N) rfl hN (fun i s v e1 e2 => by
            match i with
            | 0 => cases e1; cases e2; exact ⟨rfl, _, rfl, vnet⟩
            | 1 => cases e1; cases e2; exact ⟨rfl, _, rfl, by simp [Vl]⟩
            | 2 => cases e1; cases e2; exact sl3
            | i + 3 => simp at e1) hT t3 hD3
          refine sndB hG n code _ _ _ eB M H3 _ _ _ R3 (fun b h => h) _ fun σ' H' fs' R' s => ?_
          have fr' : ∀ b o, to ≠ some b → H3 b = some o → H' b = some o := fun b o n e => s.fr b o (by rw [flat_rep_nil]; simp) n e
          refine k H' (fun b o n1 n2 e => fr' b o n1 (old13 b o n2 n1 (old1 b o n2 e))) R'.rep.tpe (vl_tr (fun b o e m => ⟨m, fr' b o (fun z => m (hT b z)) e⟩) _ _ vnet)
        · cases e
      · cases e
    · cases e
/-- a def that ends in «return tuple(e)», e a list: its new tuple -/
def runFnN (n : Nat) (pre : SB) (e : SE) (slots np : Nat) : FS := ⟨fun args tp => if args.length = np then match evB n pre (args ++ List.replicate (slots - args.length) .un) tp with
  | some (.nx e1 t1) => match evE e e1 t1 with
    | some (r, t2) => match r.av with
      | some (.lst ds) => some (.sh (.tup ds), t2)
      | _ => none
    | none => none
  | _ => none
  else none⟩
theorem runN_ok {x qual : Str} {st : Stmt} {f : Addr} {fd : FuncData} {N ps : List Str} {k : Nat} (F : Fun K x qual st f fd) (S : FnScope N ps (defScope st)) (hG : NetOk K Nt) (hN : ps.length ≤ N.length) (n : Nat) (pre : SB) (e : SE)
    (der : ∀ (cdv : Value) (A : Around) (outer : List PySem.Env) (s : Shared) (H : Hp) (E : XK), Room k (A.deeper (PyProof.Rows.envOfC qual (defScope st) s.heap.objs.size f cdv)) →
      PSs (cxOf CX0 P w K mg base N qual (defScope st) f cdv A outer s H E).nox (defBody st) (semBk K Nt pre (tSeq (tRet (tTupN K (semE K Nt e))) tNext))) :
    FnOk P w K mg base CX0 (k + 1) f fd ps (spOfN Nt (runFnN n pre e N.length ps.length)) := by
  refine F.ok S (fun vs H Q E h => ?_) (fun cdv A outer s H vs Q E hr h => ⟨_, der cdv A outer s H E hr, ?_⟩)
  · obtain ⟨to, args, tp, ds, tp', M, ee, hl, _⟩ := h
    simp only [runFnN] at ee
    split at ee
    · rename_i hnp; rw [hl, hnp]
    · cases ee
  · obtain ⟨to, args, tp, ds, tp', M, ee, hl, hargs, hT, t, hD, k⟩ := h
    simp only [runFnN] at ee
    split at ee
    · rename_i hnp
      split at ee
      · rename_i e1 t1 eB
        split at ee
        · rename_i r t2 eE
          split at ee
          · rename_i ds' eav
            cases ee
            have R := sti_start (Nt := Nt) (to := to) (N := N) hl (by omega) hargs hT t hD
            refine sndBk (G := ⟨Nt, to⟩) hG n _ pre _ _ _ _ eB M H _ _ _ R (fun b h => h) _ fun σ1 H1 fs1 R1 s1 => ?_
            refine sndE (G := ⟨Nt, to⟩) hG e _ _ _ _ eE _ _ _ _ _ R1.eR (fun a h => R1.tf a h) (fun b h => R1.tM b h) _ fun v H2 g fr2 t2' rep nd fresh => ?_
            obtain ⟨a, vs', rfl, ha, hs⟩ := (rv_av rep eav).lst
            refine ⟨a, vs', rfl, SqL.of ha, fun p o hp ho => ?_⟩
            have fr1 : Fr ⟨Nt, to⟩ H H1 := fun b u n e => s1.fr b u (by rw [flat_rep_nil]; simp) n e
            have hp1 : H1 p = none := fr_back fr2 t2' hp
            have hp0 : H p = none := fr_back fr1 R1.rep.tpe hp1
            refine k p _ vs' o (fun b u n e => by rw [upd_ne (ne_of_none (fr2 b u n (fr1 b u n e)) hp)]; exact fr2 b u n (fr1 b u n e)) (fun b hb => by rw [upd_ne (ne_of_none (t2' b hb) hp)]; exact t2' b hb) hp0 upd_same ho ?_
            exact vls_tr (fun b u e m => ⟨fun z => z.elim (fun z => m (.inl (.inr (.inr z)))) (by simp), by rw [upd_ne (ne_of_none e hp)]; exact e⟩) _ _ hs
          · cases ee
        · cases ee
      · cases ee
    · cases ee
end
end Vs
/-! Vs19: words for computing: loops, comprehensions. -/
namespace Vs
open PySem L2
theorem forGo_inv {g : SG} {body : Env → Tape → Option Out} {t : Tape} (I : Nat → Env → Prop) : ∀ (ss : List Sl) (k : Nat), (∀ (i : Nat) s env, ss[i]? = some s → I (k + i) env → ∃ e1 e2, g.bind s env = some e1 ∧ body e1 t = some (.nx e2 t) ∧ I (k + i + 1) e2) →
    ∀ env, I k env → ∃ e', forGo g body ss env t = some (.nx e' t) ∧ I (k + ss.length) e'
  | [], k, h, env, h0 => ⟨env, rfl, h0⟩
  | s :: ss, k, h, env, h0 => by
    obtain ⟨e1, e2, h1, h2, h3⟩ := h 0 s env rfl h0
    obtain ⟨e', h4, h5⟩ := forGo_inv I ss (k + 1) (fun i s' env' hs hi => by
      have := h (i + 1) s' env' (by simpa using hs) (by rw [show k + (i + 1) = k + 1 + i by omega]; exact hi)
      rw [show k + 1 + i = k + (i + 1) by omega]
      exact this) e2 h3
    refine ⟨e', ?_, by rw [List.length_cons, show k + (ss.length + 1) = k + 1 + ss.length by omega]; exact h5⟩
    simp only [forGo, h1, h2, h4]
theorem forGo_inv0 {g : SG} {body : Env → Tape → Option Out} {t : Tape} (I : Nat → Env → Prop) (ss : List Sl) (h : ∀ (i : Nat) s env, ss[i]? = some s → I i env → ∃ e1 e2, g.bind s env = some e1 ∧ body e1 t = some (.nx e2 t) ∧ I (i + 1) e2)
    (env : Env) (h0 : I 0 env) : ∃ e', forGo g body ss env t = some (.nx e' t) ∧ I ss.length e' := by
  have := forGo_inv I ss 0 (fun i s env hs hi => by simpa using h i s env hs (by simpa using hi)) env h0
  simpa using this
theorem lcGo_map {g : SG} {c : Env → Tape → Option (Bool × Tape)} {el : Env → Tape → Option (List Rv × Tape)} {env : Env} {t : Tape} (p : Sl → Bool) (r : Sl → Rv) : ∀ (ss : List Sl), (∀ s ∈ ss, ∃ e1, g.bind s env = some e1 ∧ c e1 t = some (p s, t) ∧ (p s = true → el e1 t = some ([r s], t))) →
    lcGo g c el env ss t = some ((ss.filter p).map r, t)
  | [], h => rfl
  | s :: ss, h => by
    obtain ⟨e1, h1, h2, h3⟩ := h s (by simp)
    have ih := lcGo_map p r ss fun s' hs => h s' (by simp [hs])
    cases hp : p s with
    | false => simp [lcGo, h1, h2, hp, ih, List.filter_cons]
    | true => simp [lcGo, h1, h2, hp, h3 hp, ih, List.filter_cons]
theorem ints_map (ns : List Int) : ints? (ns.map .int) = some ns := by
  induction ns with
  | nil => rfl
  | cons n ns ih => simp [ints?, ih]
theorem shds_sh (ds : List D) : shds (ds.map .sh) = some ds := by
  induction ds with
  | nil => rfl
  | cons n ns ih => simp [shds, Rv.shd, ih]
theorem atI_nat {α : Type} (xs : List α) (i : Nat) : atI xs (i : Int) = xs[i]? := by
  unfold atI ixN
  by_cases h : i < xs.length
  · simp [h]
  · simp [h, List.getElem?_eq_none (Nat.le_of_not_lt h)]
end Vs
/-! Vs20: computing by steps. -/
namespace Vs
section
variable {env e1 e2 : Env} {tp t1 t2 t3 : Tape} {a b c e : SE} {as : SA} {r ra rb rc : Rv} {d da db : D} {i n : Nat} {o : Op} {ds : List D} {rs : List Rv}
theorem ev_var {s : Sl} (h : env[i]? = some s) (h2 : rdSl s = some r) : evE (.var i) env tp = some (r, tp) := by simp only [evE, h, h2, Option.map_some]
theorem ev_cst (h : scalD d = true) : evE (.cst d) env tp = some (.sh d, tp) := by simp only [evE, h, if_true]
theorem ev_nil : evA .nil env tp = some ([], tp) := rfl
theorem ev_cons (h1 : evE e env tp = some (r, t1)) (h2 : evA as env t1 = some (rs, t2)) : evA (.cons e as) env tp = some (r :: rs, t2) := by simp only [evA, h1, h2]
theorem ev_op (h1 : evA as env tp = some (rs, t1)) (h2 : Rv.avs rs = some ds) (h3 : evOp o ds = some r) : evE (.op o as) env tp = some (r, t1) := by simp only [evE, h1, h2, h3, Option.map_some]
theorem ev_prim {f : PF} (h1 : evA as env tp = some (rs, t1)) (h2 : Rv.avs rs = some ds) (h3 : f.fn ds = some r) : evE (.prim f as) env tp = some (r, t1) := by simp only [evE, h1, h2, h3, Option.map_some]
theorem ev_ix {k : Int} (h1 : evE a env tp = some (ra, t1)) (h2 : evE b env t1 = some (.sh (.int k), t2)) (h3 : evIx ra k = some r) : evE (.ix a b) env tp = some (r, t2) := by simp only [evE, h1, h2, h3, Option.map_some]
theorem ev_tup (h1 : evA as env tp = some (rs, t1)) (h2 : shds rs = some ds) (h3 : sizeOk ds.length = true) : evE (.tup as) env tp = some (.sh (.tup ds), t1) := by simp only [evE, h1, h2, h3, if_true]
theorem ev_lst {nn : Bool} (h1 : evA as env tp = some (rs, t1)) (h3 : sizeOk rs.length = true) (h2 : collect nn rs = some r) : evE (.lst nn as) env tp = some (r, t1) := by simp only [evE, h1, h2, h3, if_true, Option.map_some]
theorem ev_call {f : FS} (h1 : evA as env tp = some (rs, t1)) (h2 : f.fn (rs.map Rv.arg) t1 = some (r, t2)) (h3 : r.ok = true) : evE (.call f as) env tp = some (r, t2) := by simp only [evE, h1, h2, h3, if_true]
theorem ev_meth {m : PySem.Str} {f : FS} {w : Int} {cs : D} (hm : ¬ (m = sWires ∨ m = sComps)) (h0 : evE a env tp = some (.sh (.net w cs), t1)) (h1 : evA as env t1 = some (rs, t2)) (h2 : f.fn (.sh (.net w cs) :: rs.map Rv.arg) t2 = some (r, t3)) (h3 : r.ok = true) : evE (.meth m f a as) env tp = some (r, t3) := by simp only [evE, h0, if_neg hm, h1, h2, h3, if_true]
theorem ev_mk {f : FS} {w : Int} {cs : D} (h1 : evA as env tp = some (rs, t1)) (h2 : f.fn (rs.map Rv.arg) t1 = some (.sh (.net w cs), t2)) : evE (.mk f as) env tp = some (.sh (.net w cs), t2) := by simp only [evE, h1, h2]
theorem ev_fldW {w : Int} {cs : D} (h0 : evE a env tp = some (.sh (.net w cs), t1)) : evE (.fldW a) env tp = some (.sh (.int w), t1) := by simp only [evE, h0]
theorem ev_fldC {w : Int} {cs : D} (h0 : evE a env tp = some (.sh (.net w cs), t1)) : evE (.fldC a) env tp = some (.sh cs, t1) := by simp only [evE, h0]
theorem ev_mIdx {f : FS} {w k : Int} {cs : D} {ns : List Int} (h0 : evE a env tp = some (.sh (.net w cs), t1)) (h1 : evA as env t1 = some (rs, t2)) (h2 : f.fn (.sh (.net w cs) :: rs.map Rv.arg) t2 = some (.sh (.tup ds), t3)) (h3 : ints? ds = some ns) (h4 : k ∈ ns) : evE (.mIdx f a as k) env tp = some (.sh (.int (ns.idxOf k : Nat)), t3) := by simp only [evE, h0, h1, h2, h3, h4, if_true]
theorem ev_sl {lo hi : SO} {l h : Option Int} (h1 : evE a env tp = some (ra, t1)) (h2 : ra.av = some d) (h3 : evO lo env t1 = some (l, t2)) (h4 : evO hi env t2 = some (h, t3)) (h5 : evSl d l h = some r) : evE (.sl a lo hi) env tp = some (r, t3) := by simp only [evE, h1, h2, h3, h4, h5, Option.map_some]
theorem ev_o0 : evO .none env tp = some (none, tp) := rfl
theorem ev_o1 {k : Int} (h1 : evE a env tp = some (.sh (.int k), t1)) : evO (.some a) env tp = some (some k, t1) := by simp only [evO, h1]
theorem ev_notV {x : Bool} (h1 : evE a env tp = some (.sh (.bl x), t1)) : evE (.notV a) env tp = some (.sh (.bl (!x)), t1) := by simp only [evE, h1]
theorem ev_andV {x y : Bool} (h1 : evE a env tp = some (.sh (.bl x), t1)) (h2 : x = true → evE b env t1 = some (.sh (.bl y), t1)) : evE (.andV a b) env tp = some (.sh (.bl (x && y)), t1) := by
  cases x with
  | true => simp only [evE, h1, h2 rfl, Bool.true_and]
  | false => simp only [evE, h1, Bool.false_and]
theorem ev_orV {x y : Bool} (h1 : evE a env tp = some (.sh (.bl x), t1)) (h2 : x = false → evE b env t1 = some (.sh (.bl y), t1)) : evE (.orV a b) env tp = some (.sh (.bl (x || y)), t1) := by
  cases x with
  | false => simp only [evE, h1, h2 rfl, Bool.false_or]
  | true => simp only [evE, h1, Bool.true_or]
theorem ev_chain {o1 o2 : Op} {dc : D} {x y : Bool} (ho : (o1.bin && o2.bin) = true) (h1 : evE a env tp = some (.sh da, t1)) (h2 : evE b env t1 = some (.sh db, t1)) (h3 : evOp o1 [da, db] = some (.sh (.bl x))) (h4 : x = true → evE c env t1 = some (.sh dc, t1)) (h5 : x = true → evOp o2 [db, dc] = some (.sh (.bl y))) :
    evE (.chain o1 o2 a b c) env tp = some (.sh (.bl (x && y)), t1) := by
  cases x with
  | true => simp only [evE, ho, if_true, h1, h2, h3, h4 rfl, h5 rfl, Option.map_some, Bool.true_and]
  | false => simp only [evE, ho, if_true, h1, h2, h3, Bool.false_and]
-- tests
theorem ev_val {x : Bool} (h : evE a env tp = some (.sh (.bl x), t1)) : evT (.val a) env tp = some (x, t1) := by simp only [evT, h]
theorem ev_yes : evT .yes env tp = some (true, tp) := rfl
theorem ev_and {c d : ST} {x y : Bool} (h1 : evT c env tp = some (x, t1)) (h2 : x = true → evT d env t1 = some (y, t1)) : evT (.and c d) env tp = some (x && y, t1) := by
  cases x with
  | true => simp only [evT, h1, h2 rfl, Bool.true_and]
  | false => simp only [evT, h1, Bool.false_and]
theorem ev_or {c d : ST} {x y : Bool} (h1 : evT c env tp = some (x, t1)) (h2 : x = false → evT d env t1 = some (y, t1)) : evT (.or c d) env tp = some (x || y, t1) := by
  cases x with
  | false => simp only [evT, h1, h2 rfl, Bool.false_or]
  | true => simp only [evT, h1, Bool.true_or]
theorem ev_not {c : ST} {x : Bool} (h1 : evT c env tp = some (x, t1)) : evT (.not c) env tp = some (!x, t1) := by simp only [evT, h1]
-- what is walked
theorem ev_rng1 {j : Int} (h : evE a env tp = some (.sh (.int j), t1)) (h2 : okR j = true) : evI (.rng1 a) env tp = some ((rngD 0 j.toNat).map .sh, true, t1) := by simp only [evI, h, h2, if_true]
theorem ev_rng2 {i j : Int} (h : evE a env tp = some (.sh (.int i), t1)) (h' : evE b env t1 = some (.sh (.int j), t2)) (h2 : (okR i && okR j) = true) : evI (.rng2 a b) env tp = some ((rngD i (j - i).toNat).map .sh, true, t2) := by simp only [evI, h, h', h2, if_true]
theorem ev_seqL (h : evE a env tp = some (.sh (.lst ds), t1)) : evI (.seq a) env tp = some (ds.map .sh, true, t1) := by simp only [evI, h, Rv.items, Option.map_some, stabE]
theorem ev_seqT (h : evE a env tp = some (.sh (.tup ds), t1)) : evI (.seq a) env tp = some (ds.map .sh, true, t1) := by simp only [evI, h, Rv.items, Option.map_some, stabE]
theorem ev_seqF (h : evE a env tp = some (.fr ds, t1)) : evI (.seq a) env tp = some (ds.map .sh, true, t1) := by simp only [evI, h, Rv.items, Option.map_some, stabE]
theorem ev_seqB (h : evE a env tp = some (.bw ds, t1)) : evI (.seq a) env tp = some (ds.map .sh, stabE a (.bw ds) env, t1) := by simp only [evI, h, Rv.items, Option.map_some]
theorem ev_enumT (h : evE a env tp = some (.sh (.tup ds), t1)) : evI (.enum a) env tp = some ((enumD 0 ds).map .sh, true, t1) := by simp only [evI, h, Rv.av, stabE]
theorem ev_enumL (h : evE a env tp = some (.sh (.lst ds), t1)) : evI (.enum a) env tp = some ((enumD 0 ds).map .sh, true, t1) := by simp only [evI, h, Rv.av, stabE]
theorem ev_lc {nn : Bool} {it : SI} {g : SG} {c : ST} {el : SE} {vs : List Nat} {ss : List Sl} {st : Bool} (h1 : evI it env tp = some (ss, st, t1)) (hg : g.sub vs = true) (h2 : lcGo g (fun e t => evT c e t) (fun e t => el1 (evE el e t)) (envWipe env vs) ss t1 = some (rs, t2)) (h3 : sizeOk rs.length = true) (h4 : collect nn rs = some r) :
    evE (.lc nn it g c el vs) env tp = some (r, t2) := by simp only [evE, h1, hg, h2, h3, h4, if_true, Option.map_some]
theorem lcGo_flat {g : SG} {c : Env → Tape → Option (Bool × Tape)} {el : Env → Tape → Option (List Rv × Tape)} {env : Env} {t : Tape} (R : Sl → List Rv) : ∀ (ss : List Sl), (∀ s ∈ ss, ∃ e1, g.bind s env = some e1 ∧ c e1 t = some (true, t) ∧ el e1 t = some (R s, t)) →
    lcGo g c el env ss t = some (ss.flatMap R, t)
  | [], h => rfl
  | s :: ss, h => by
    obtain ⟨e1, h1, h2, h3⟩ := h s (by simp)
    have ih := lcGo_flat R ss fun s' hs => h s' (by simp [hs])
    simp [lcGo, h1, h2, h3, ih]
theorem ev_lc2 {nn : Bool} {it it1 : SI} {g g1 : SG} {c c1 : ST} {el : SE} {vs vs1 : List Nat} {ss : List Sl} {st : Bool} (h1 : evI it env tp = some (ss, st, t1)) (hg : (g.sub vs && g1.sub vs1 && vs1.all (fun i => vs.contains i)) = true)
    (h2 : lcGo g (fun e t => evT c e t) (fun e t => match evI it1 e t with
        | some (ss1, _, t1) => lcGo g1 (fun e t => evT c1 e t) (fun e t => el1 (evE el e t)) (envWipe e vs1) ss1 t1
        | none => none) (envWipe env vs) ss t1 = some (rs, t2)) (h3 : sizeOk rs.length = true) (h4 : collect nn rs = some r) :
    evE (.lc2 nn it g c it1 g1 c1 el vs vs1) env tp = some (r, t2) := by
  simp only [evE, h1]
  rw [if_pos hg]
  generalize hX : lcGo g _ _ (envWipe env vs) ss t1 = X
  have hX' : X = some (rs, t2) := hX.symm.trans h2
  subst hX'
  simp only [h3, if_true, h4, Option.map_some]
def Pin (p : Int → Bool) : Sl → Bool
  | .sh (.int k) => p k
  | _ => false
def R0 : Sl → Rv
  | .sh d => .sh d
  | _ => .tp
theorem filt_ints (p : Int → Bool) : ∀ ns : List Int, (((ns.map D.int).map Sl.sh).filter (Pin p)).map R0 = ((ns.filter p).map D.int).map Rv.sh
  | [] => rfl
  | k :: ns => by
    have ih := filt_ints p ns
    have hp : Pin p (Sl.sh (D.int k)) = p k := rfl
    by_cases h : p k = true
    · rw [List.map_cons, List.map_cons, List.filter_cons_of_pos (by rw [hp]; exact h), List.filter_cons_of_pos h, List.map_cons, List.map_cons, List.map_cons, ih]
      rfl
    · rw [List.map_cons, List.map_cons, List.filter_cons_of_neg (by rw [hp]; exact h), List.filter_cons_of_neg h]
      exact ih
theorem ev_el (h1 : evE e env tp = some (r, t1)) (h2 : r.ok = true) : el1 (evE e env tp) = some ([r], t1) := by simp only [el1, h1, h2, if_true]
-- statements
theorem ev_asg {s : Sl} (h1 : evE e env tp = some (r, t1)) (h2 : r.sl = some s) (h3 : i < env.length) : evS n (.asg (.nm i) e) env tp = some (.nx (env.set i s) t1) := by simp only [evS, h1, h2, h3, if_true]
theorem ev_asgF (h1 : evE e env tp = some (r, t1)) (h2 : r.shd = some d) (h3 : i < env.length) : evS n (.asgF i e) env tp = some (.nx (env.set i (.sh d)) t1) := by simp only [evS, h1, h2, h3, if_true]
theorem ev_asgT {g : SG} (hg : ∀ i, g ≠ .nm i) (h1 : evE e env tp = some (.sh d, t1)) (h2 : g.bind (.sh d) env = some e1) : evS n (.asg g e) env tp = some (.nx e1 t1) := by
  cases g with
  | nm i => exact absurd rfl (hg i)
  | tp2 a b => simp only [evS, h1, h2, Option.map_some]
  | tp3 a b c => simp only [evS, h1, h2, Option.map_some]
theorem ev_ifT {c : ST} {a b : SB} {out : Out} (h1 : evT c env tp = some (true, t1)) (h2 : evB n a env t1 = some out) : evS n (.ifS c a b) env tp = some out := by simp only [evS, h1, h2]
theorem ev_ifF {c : ST} {a b : SB} {out : Out} (h1 : evT c env tp = some (false, t1)) (h2 : evB n b env t1 = some out) : evS n (.ifS c a b) env tp = some out := by simp only [evS, h1, h2]
theorem ev_for {it : SI} {g : SG} {b : SB} {ss : List Sl} {out : Out} (h1 : evI it env tp = some (ss, true, t1)) (h2 : forGo g (fun e t => evB n b e t) ss env t1 = some out) : evS n (.for it g b) env tp = some out := by simp only [evS, h1, h2]
theorem ev_app (h1 : evE e env tp = some (r, t1)) (h2 : env[i]? = some (.ow ds)) (h3 : r.shd = some d) (h4 : sizeOk (ds.length + 1) = true) : evS n (.app i e) env tp = some (.nx (env.set i (.ow (ds ++ [d]))) t1) := by simp only [evS, h1, h2, h3, h4, if_true]
theorem ev_set {k : Int} {j : Nat} {ix : SE} (h1 : evE e env tp = some (r, t1)) (h2 : r.shd = some d) (h3 : evE ix env t1 = some (.sh (.int k), t2)) (h4 : env[i]? = some (.ow ds)) (h5 : L2.ixN ds.length k = some j) : evS n (.set i ix e) env tp = some (.nx (env.set i (.ow (ds.set j d))) t2) := by simp only [evS, h1, h2, h3, h4, h5]
theorem ev_swap {t4 : Tape} {a b x y : SE} {dx dy : D} {ka kb : Int} {ja jb : Nat} (h1 : evE x env tp = some (.sh dx, t1)) (h2 : evE y env t1 = some (.sh dy, t2)) (h3 : env[i]? = some (.ow ds)) (h4 : evE a env t2 = some (.sh (.int ka), t3)) (h5 : L2.ixN ds.length ka = some ja) (h6 : evE b (env.set i (.ow (ds.set ja dx))) t3 = some (.sh (.int kb), t4)) (h7 : L2.ixN ds.length kb = some jb) :
    evS n (.swap i a b x y) env tp = some (.nx (env.set i (.ow ((ds.set ja dx).set jb dy))) t4) := by simp only [evS, h1, h2, h3, h4, h5, h6, h7]
theorem ev_augA {x y : Int} (h1 : env[i]? = some (.sh (.int x))) (h2 : evE e env tp = some (.sh (.int y), t1)) : evS n (.aug i .add e) env tp = some (.nx (env.set i (.sh (.int (x + y)))) t1) := by simp only [evS, h1, h2]
theorem ev_augS {x y : Int} (h1 : env[i]? = some (.sh (.int x))) (h2 : evE e env tp = some (.sh (.int y), t1)) : evS n (.aug i .sub e) env tp = some (.nx (env.set i (.sh (.int (x - y)))) t1) := by simp only [evS, h1, h2]
theorem ev_retF (hv : ∀ i, e ≠ .var i) (h1 : evE e env tp = some (r, t1)) (h2 : r.shd = some d) : evS n (.retF e) env tp = some (.rt (.sh d) env t1) := by
  cases e <;> first | exact absurd rfl (hv _) | simp only [evS, h1, h2]
theorem ev_retV {s : Sl} (h1 : env[i]? = some s) (h2 : rdMv s = some r) (h3 : r.shd = some d) : evS n (.retF (.var i)) env tp = some (.rt (.sh d) (env.set i .un) tp) := by simp only [evS, h1, h2, h3]
theorem ev_b0 : evB n .nil env tp = some (.nx env tp) := rfl
theorem ev_b {s : SS} {rest : SB} {out : Out} (h1 : evS n s env tp = some (.nx e1 t1)) (h2 : evB n rest e1 t1 = some out) : evB n (.cons s rest) env tp = some out := by simp only [evB, h1, h2]
theorem ev_br {s : SS} {rest : SB} (h1 : evS n s env tp = some (.rt r e1 t1)) : evB n (.cons s rest) env tp = some (.rt r e1 t1) := by simp only [evB, h1]
theorem ev_fz {s s' : Sl} {rest : SB} {out : Out} (h1 : env[i]? = some s) (h2 : frzSl s = some s') (h3 : evB n rest (env.set i s') tp = some out) : evB n (.frz i rest) env tp = some out := by simp only [evB, h1, h2, h3]
-- operations
variable {x y : Int}
theorem op_mod (h : 0 < y) : evOp .mod [.int x, .int y] = some (.sh (.int (x % y))) := by simp only [evOp, h, if_true]
theorem op_fdiv (h : 0 < y ∧ y < 1073741824) : evOp .fdiv [.int x, .int y] = some (.sh (.int (x / y))) := by simp only [evOp, h, and_self, if_true]
theorem op_mulR (h : -(2 ^ 64) < y ∧ y < 2 ^ 64) : evOp .mul [.int x, .int y] = some (.sh (.int (x * y))) := by simp only [evOp]; rw [if_pos (Or.inr h)]
theorem op_mulL (h : -(2 ^ 64) < x ∧ x < 2 ^ 64) : evOp .mul [.int x, .int y] = some (.sh (.int (x * y))) := by simp only [evOp]; rw [if_pos (Or.inl h)]
theorem op_catT {xs ys : List D} (h : sizeOk (xs.length + ys.length) = true) : evOp .add [.tup xs, .tup ys] = some (.sh (.tup (xs ++ ys))) := by simp only [evOp, h, if_true]
theorem op_catL {xs ys : List D} (h : sizeOk (xs.length + ys.length) = true) : evOp .add [.lst xs, .lst ys] = some (.fr (xs ++ ys)) := by simp only [evOp, h, if_true]
theorem op_maxL {xs : List D} {m : Int} {ns : List Int} (h : ints? xs = some (m :: ns)) : evOp .max [.lst xs] = some (.sh (.int (maxI (m :: ns)))) := by simp only [evOp, h]
theorem op_minL {xs : List D} {m : Int} {ns : List Int} (h : ints? xs = some (m :: ns)) : evOp .min [.lst xs] = some (.sh (.int (minI (m :: ns)))) := by simp only [evOp, h]
theorem ix_tup {xs : List D} {k : Int} {d : D} (h : L2.atI xs k = some d) : evIx (.sh (.tup xs)) k = some (.sh d) := by simp only [evIx, evOp, h, Option.map_some]
theorem ix_lst {xs : List D} {k : Int} {d : D} (h : L2.atI xs k = some d) : evIx (.sh (.lst xs)) k = some (.sh d) := by simp only [evIx, evOp, h, Option.map_some]
theorem ix_bw {xs : List D} {k : Int} {d : D} (h : L2.atI xs k = some d) : evIx (.bw xs) k = some (.sh d) := by simp only [evIx, evOp, h, Option.map_some]
theorem ix_fr {xs : List D} {k : Int} {d : D} (h : L2.atI xs k = some d) : evIx (.fr xs) k = some (.sh d) := by simp only [evIx, evOp, h, Option.map_some]
theorem ix_scr {xs : List Int} {k d : Int} (h : L2.atI xs k = some d) : evIx (.sh (.scr xs)) k = some (.sh (.int d)) := by simp only [evIx, evOp, h, Option.map_some]
theorem run_rt {n : Nat} {code : SB} {slots np : Nat} {args : List Sl} {tp t : Tape} {e : Env} {r : Rv} (hn : args.length = np) (h : evB n code (args ++ List.replicate (slots - args.length) .un) tp = some (.rt r e t)) : (runFn n code slots np).fn args tp = some (r, t) := by
  subst hn
  simp only [runFn, if_true]
  rw [h]
theorem mod_b (z : Int) (m : Int) (h : 0 < m) : 0 ≤ z % m ∧ z % m < m := ⟨Int.emod_nonneg _ (by omega), Int.emod_lt_of_pos _ h⟩
theorem rng_at {lo : Int} {c i : Nat} {sl : Sl} (hs : ((rngD lo c).map Sl.sh)[i]? = some sl) : i < c ∧ sl = .sh (.int (lo + i)) := by
  have hi : i < c := by simpa [rngD] using (List.getElem?_eq_some_iff.mp hs).1
  simp [rngD, hi] at hs
  exact ⟨hi, hs.symm⟩
theorem map_at {α : Type} {f : α → D} {xs : List α} {i : Nat} {sl : Sl} (hs : ((xs.map f).map Sl.sh)[i]? = some sl) : ∃ x, xs[i]? = some x ∧ sl = .sh (f x) := by
  simp only [List.getElem?_map, Option.map_map, Option.map_eq_some_iff] at hs
  obtain ⟨x, h, rfl⟩ := hs
  exact ⟨x, h, rfl⟩
theorem atI_nn {α : Type} {xs : List α} {k : Int} (h0 : 0 ≤ k) (h1 : k < xs.length) : ∃ x, L2.atI xs k = some x ∧ xs[k.toNat]? = some x := by
  obtain ⟨n, rfl⟩ := Int.eq_ofNat_of_zero_le h0
  have : n < xs.length := by omega
  exact ⟨xs[n], by rw [atI_nat, List.getElem?_eq_getElem this], by simp [this]⟩
theorem atI_mapI {ns : List Int} {k : Int} {v : Int} (h : L2.atI ns k = some v) : L2.atI (ns.map D.int) k = some (.int v) := by
  unfold L2.atI at h ⊢
  rw [List.length_map]
  cases q : L2.ixN ns.length k with
  | none => rw [q] at h; cases h
  | some j => rw [q] at h; simp only [Option.bind_some] at h ⊢; rw [List.getElem?_map, h]; rfl
theorem sz_of {n : Nat} (h : n ≤ 1000000) : sizeOk n = true := by simp [sizeOk, h]
theorem okR_of {i : Int} (h : -1000000 ≤ i ∧ i ≤ 1000000) : okR i = true := by simp only [okR, decide_eq_true_eq]; exact h
abbrev rowD (ns : List Int) : D := .tup (ns.map .int)
abbrev pairD (p : Int × Int) : D := .tup [.int p.1, .int p.2]
end
end Vs
namespace Pf
open PySem PySem.Spec PyProof.Rows L2 Vs
def top (i : Nat) : Stmt := PySem.Challenge.pw_neededrows_k38_late_and_early.main.body.getD i (.Pass ⟨0, 0, 0, 0⟩)
structure Bt (mg : Str → Option Value) : Prop where
  b_bool : mg "bool" = none
  b_enumerate : mg "enumerate" = none
  b_isinstance : mg "isinstance" = none
  b_len : mg "len" = none
  b_list : mg "list" = none
  b_max : mg "max" = none
  b_min : mg "min" = none
  b_range : mg "range" = none
  b_sorted : mg "sorted" = none
  b_tuple : mg "tuple" = none
section
variable {P : Program} {w : World} {K : PySem.W.Frag} {mg : Str → Option Value} {base : Heap} {Nt : NetI}
abbrev s_Network___init__ : Stmt := inClass (top 5) 0
abbrev n_Network___init__ : List Str := ["self", "wires", "comparers", "one", "two", "pair"]
theorem sc_Network___init__ : FnScope n_Network___init__ ["self", "wires", "comparers"] (defScope s_Network___init__) := ⟨rfl, rfl, rfl, by decide +kernel, rfl, by decide +kernel, by decide +kernel⟩
def b_Network___init___1 : SB := (.cons (.ifS (.or (.not (.val (.chain .le .lt (.cst (.int 0)) (.var 3) (.var 1)))) (.or (.not (.val (.chain .le .lt (.cst (.int 0)) (.var 4) (.var 1)))) (.val (.op .eq (.cons (.var 3) (.cons (.var 4) .nil)))))) (.cons .dead .nil) .nil) .nil)
def c_Network___init__ : SB := (.cons (.ifS (.val (.op .lt (.cons (.var 1) (.cons (.cst (.int 1)) .nil)))) (.cons .dead .nil) .nil) (.cons (.for (.seq (.fldC (.var 0))) (.tp2 (.nm 3) (.nm 4)) b_Network___init___1) .nil))
def e_Network___init__ : SE := (.op .tuple (.cons (.lc false (.seq (.var 2)) (.nm 5) .yes (.op .tuple (.cons (.var 5) .nil)) [5]) .nil))
theorem k_Network___init__ {f : Addr} {fd : FuncData} (F : Fun K "__init__" "Network.__init__" s_Network___init__ f fd) (hG : NetOk K Nt) (hok : Nt.ok) (B : Bt mg) : FnOk P w K mg base CX0 1 f fd ["self", "wires", "comparers"] (spMk Nt (initFn 0 (e_Network___init__) (c_Network___init__) 6)) :=
  init_ok F sc_Network___init__ hG hok (by decide) rfl 0 (e_Network___init__) (c_Network___init__) fun cdv A outer s H E hr => by
    have hu := hr.units
    have hu0 := hr.units0
    have hu65 := hu65_of hr
    exact (pss_cons (ps_fld (pv 0) (pv 1) rfl) (pss_cons (ps_fld (pv 0) (d_ty (c_tuple) (by rfl) B.b_tuple (by decide +kernel) (d_cons (d_lc [("pair", 5)] rfl sc_Network___init__.nd (i_seq (d_var 2)) (blkOk_by (own := [("pair", 5)]) (N := n_Network___init__) (sc := defScope s_Network___init__) (by decide +kernel)) (fun _ _ _ _ _ => (g_nm 5 sc_Network___init__.nd rfl (by first | exact Or.inl rfl | exact Or.inr rfl))) (fun _ _ _ _ _ => f_nil) (fun _ _ _ _ _ => (d_ty (c_tuple) (by rfl) B.b_tuple (by decide +kernel) (d_cons (d_var 5) d_nil)))) d_nil)) rfl) (b_cons (s_if (t_cmp (o_lt hu0) rfl (d_var 1) d_int (nomark _)) (b_cons s_dead b_nil) b_nil) (b_cons (s_for PassesOwn.never rfl (i_seq (d_fldC (d_var 0) rfl)) (g_tp2 rfl (g_nm 3 sc_Network___init__.nd rfl (by first | exact Or.inl rfl | exact Or.inr rfl)) (g_nm 4 sc_Network___init__.nd rfl (by first | exact Or.inl rfl | exact Or.inr rfl))) (b_cons (s_if (t_w (w_or (t_not (t_chain (o_le) (o_lt hu0) d_int (d_var 3) (d_var 1))) (w_or (t_not (t_chain (o_le) (o_lt hu0) d_int (d_var 4) (d_var 1))) (w_or1 (t_cmp (o_eq hu) rfl (d_var 3) (d_var 4) (nomark _)))))) (b_cons s_dead b_nil) b_nil) b_nil)) b_nil))))
abbrev s_Network_run : Stmt := inClass (top 5) 3
abbrev n_Network_run : List Str := ["self", "row", "cells", "one", "two"]
theorem sc_Network_run : FnScope n_Network_run ["self", "row"] (defScope s_Network_run) := ⟨rfl, rfl, rfl, by decide +kernel, rfl, by decide +kernel, by decide +kernel⟩
def b_Network_run_1 : SB := (.cons (.ifS (.val (.op .gt (.cons (.ix (.var 2) (.var 3)) (.cons (.ix (.var 2) (.var 4)) .nil)))) (.cons (.swap 2 (.var 3) (.var 4) (.ix (.var 2) (.var 4)) (.ix (.var 2) (.var 3))) .nil) .nil) .nil)
def c_Network_run : SB := (.cons (.asg (.nm 2) (.op .list (.cons (.var 1) .nil))) (.cons (.for (.seq (.fldC (.var 0))) (.tp2 (.nm 3) (.nm 4)) b_Network_run_1) (.cons (.retF (.op .tuple (.cons (.var 2) .nil))) .nil)))
theorem k_Network_run {f : Addr} {fd : FuncData} (F : Fun K "run" "Network.run" s_Network_run f fd) (hG : NetOk K Nt) (B : Bt mg) : FnOk P w K mg base CX0 1 f fd ["self", "row"] (spOf Nt (runFn 0 (c_Network_run) 5 2)) :=
  fn_ok F sc_Network_run hG (by decide) 0 (c_Network_run) fun cdv A outer s H E hr => by
    have hu := hr.units
    have hu0 := hr.units0
    have hu65 := hu65_of hr
    exact (b_cons (s_asg sc_Network_run.nd rfl (by first | exact Or.inl rfl | exact Or.inr rfl) (d_ty (c_list) (by rfl) B.b_list (by decide +kernel) (d_cons (d_var 1) d_nil))) (b_cons (s_for PassesOwn.never rfl (i_seq (d_fldC (d_var 0) rfl)) (g_tp2 rfl (g_nm 3 sc_Network_run.nd rfl (by first | exact Or.inl rfl | exact Or.inr rfl)) (g_nm 4 sc_Network_run.nd rfl (by first | exact Or.inl rfl | exact Or.inr rfl))) (b_cons (s_if (t_cmp (o_gt) rfl (d_ix (d_var 2) (d_var 3) (fun _ _ => rfl)) (d_ix (d_var 2) (d_var 4) (fun _ _ => rfl)) (nomark _)) (b_cons (s_swap rfl (pv 2) (d_var 3) (pv 2) (d_var 4) (d_ix (d_var 2) (d_var 4) (fun _ _ => rfl)) (d_ix (d_var 2) (d_var 3) (fun _ _ => rfl))) b_nil) b_nil) b_nil)) (b_cons (s_retF (d_ty (c_tuple) (by rfl) B.b_tuple (by decide +kernel) (d_cons (d_var 2) d_nil))) b_nil)))
abbrev s_Network_runN : Stmt := inClass (top 5) 3
abbrev n_Network_runN : List Str := ["self", "row", "cells", "one", "two"]
theorem sc_Network_runN : FnScope n_Network_runN ["self", "row"] (defScope s_Network_runN) := ⟨rfl, rfl, rfl, by decide +kernel, rfl, by decide +kernel, by decide +kernel⟩
def b_Network_runN_1 : SB := (.cons (.ifS (.val (.op .gt (.cons (.ix (.var 2) (.var 3)) (.cons (.ix (.var 2) (.var 4)) .nil)))) (.cons (.swap 2 (.var 3) (.var 4) (.ix (.var 2) (.var 4)) (.ix (.var 2) (.var 3))) .nil) .nil) .nil)
def c_Network_runN : SB := (.cons (.asg (.nm 2) (.op .list (.cons (.var 1) .nil))) (.cons (.for (.seq (.fldC (.var 0))) (.tp2 (.nm 3) (.nm 4)) b_Network_runN_1) .nil))
def e_Network_runN : SE := (.var 2)
theorem k_Network_runN {f : Addr} {fd : FuncData} (F : Fun K "run" "Network.run" s_Network_runN f fd) (hG : NetOk K Nt) (B : Bt mg) : FnOk P w K mg base CX0 1 f fd ["self", "row"] (spOfN Nt (runFnN 0 (c_Network_runN) (e_Network_runN) 5 2)) :=
  runN_ok F sc_Network_runN hG (by decide) 0 (c_Network_runN) (e_Network_runN) fun cdv A outer s H E hr => by
    have hu := hr.units
    have hu0 := hr.units0
    have hu65 := hu65_of hr
    exact (bk_cons (s_asg sc_Network_runN.nd rfl (by first | exact Or.inl rfl | exact Or.inr rfl) (d_ty (c_list) (by rfl) B.b_list (by decide +kernel) (d_cons (d_var 1) d_nil))) (bk_cons (s_for PassesOwn.never rfl (i_seq (d_fldC (d_var 0) rfl)) (g_tp2 rfl (g_nm 3 sc_Network_runN.nd rfl (by first | exact Or.inl rfl | exact Or.inr rfl)) (g_nm 4 sc_Network_runN.nd rfl (by first | exact Or.inl rfl | exact Or.inr rfl))) (b_cons (s_if (t_cmp (o_gt) rfl (d_ix (d_var 2) (d_var 3) (fun _ _ => rfl)) (d_ix (d_var 2) (d_var 4) (fun _ _ => rfl)) (nomark _)) (b_cons (s_swap rfl (pv 2) (d_var 3) (pv 2) (d_var 4) (d_ix (d_var 2) (d_var 4) (fun _ _ => rfl)) (d_ix (d_var 2) (d_var 3) (fun _ _ => rfl))) b_nil) b_nil) b_nil)) (bk_nil (pss_cons (ps_ret (pe_tupN (by rfl) B.b_tuple (d_var 2))) pss_nil))))
abbrev s_plain_rows : Stmt := top 7
abbrev n_plain_rows : List Str := ["wires", "found", "_", "row", "digit"]
theorem sc_plain_rows : FnScope n_plain_rows ["wires"] (defScope s_plain_rows) := ⟨rfl, rfl, rfl, by decide +kernel, rfl, by decide +kernel, by decide +kernel⟩
def b_plain_rows_1 : SB := (.cons (.asg (.nm 1) (.lc2 false (.seq (.var 1)) (.nm 3) .yes (.seq (.tup (.cons (.cst (.int 0)) (.cons (.cst (.int 1)) .nil)))) (.nm 4) .yes (.op .add (.cons (.var 3) (.cons (.tup (.cons (.var 4) .nil)) .nil))) [3, 4] [4])) .nil)
def c_plain_rows : SB := (.cons (.asg (.nm 1) (.lst false (.cons (.tup .nil) .nil))) (.cons (.for (.rng1 (.var 0)) (.nm 2) b_plain_rows_1) (.cons (.retF (.var 1)) .nil)))
theorem k_plain_rows (D : DefAt K mg "plain_rows" s_plain_rows ["wires"]) (hG : NetOk K Nt) (B : Bt mg) : Callee P w K mg base Nt "plain_rows" 1 ["wires"] (runFn 0 (c_plain_rows) 5 1) :=
  callee_mk D sc_plain_rows hG (by decide) 0 (c_plain_rows) fun f cdv A outer s H E hr => by
    have hu := hr.units
    have hu0 := hr.units0
    have hu65 := hu65_of hr
    exact (b_cons (s_asg sc_plain_rows.nd rfl (by first | exact Or.inl rfl | exact Or.inr rfl) (d_lst (d_cons (d_tup d_nil) d_nil))) (b_cons (s_for PassesOwn.never rfl (i_rng1 (by rfl) B.b_range (d_var 0)) (g_nm 2 sc_plain_rows.nd rfl (by first | exact Or.inl rfl | exact Or.inr rfl)) (b_cons (s_setLc2 (i := 1) [("row", 3), ("digit", 4)] [4] rfl sc_plain_rows.nd rfl rfl (sw_true rfl rfl rfl (by decide +kernel)) (i_seq (d_var 1)) (blkOk_by (own := [("row", 3), ("digit", 4)]) (N := n_plain_rows) (sc := defScope s_plain_rows) (by decide +kernel)) (by decide) (fun _ _ _ _ _ => (g_nm 3 sc_plain_rows.nd rfl (by first | exact Or.inl rfl | exact Or.inr rfl))) (fun _ _ _ _ _ => f_nil) (fun _ _ _ _ _ => (i_seq (d_tup (d_cons d_int (d_cons d_int d_nil))))) (fun _ _ _ _ _ => (g_nm 4 sc_plain_rows.nd rfl (by first | exact Or.inl rfl | exact Or.inr rfl))) (fun _ _ _ _ _ => f_nil) (fun _ _ _ _ _ => (d_bin o_add rfl (d_var 3) (d_tup (d_cons (d_var 4) d_nil))))) b_nil)) (b_cons (s_retF (d_var 1)) b_nil)))
abbrev s_noughts : Stmt := top 8
abbrev n_noughts : List Str := ["row", "digit"]
theorem sc_noughts : FnScope n_noughts ["row"] (defScope s_noughts) := ⟨rfl, rfl, rfl, by decide +kernel, rfl, by decide +kernel, by decide +kernel⟩
def c_noughts : SB := (.cons (.retF (.op .len (.cons (.lc false (.seq (.var 0)) (.nm 1) (.val (.op .eq (.cons (.var 1) (.cons (.cst (.int 0)) .nil)))) (.var 1) [1]) .nil))) .nil)
theorem k_noughts (D : DefAt K mg "noughts" s_noughts ["row"]) (hG : NetOk K Nt) (B : Bt mg) : Callee P w K mg base Nt "noughts" 1 ["row"] (runFn 0 (c_noughts) 2 1) :=
  callee_mk D sc_noughts hG (by decide) 0 (c_noughts) fun f cdv A outer s H E hr => by
    have hu := hr.units
    have hu0 := hr.units0
    have hu65 := hu65_of hr
    exact (b_cons (s_retF (d_blt (c_len) (by rfl) B.b_len (by decide +kernel) (d_cons (d_lc [("digit", 1)] rfl sc_noughts.nd (i_seq (d_var 0)) (blkOk_by (own := [("digit", 1)]) (N := n_noughts) (sc := defScope s_noughts) (by decide +kernel)) (fun _ _ _ _ _ => (g_nm 1 sc_noughts.nd rfl (by first | exact Or.inl rfl | exact Or.inr rfl))) (fun _ _ _ _ _ => (f_one (t_cmp (o_eq hu) rfl (d_var 1) d_int (nomark _)))) (fun _ _ _ _ _ => (d_var 1))) d_nil))) b_nil)
abbrev s_late : Stmt := top 10
abbrev n_late : List Str := ["network", "most", "row", "count", "result", "last", "wire", "digit"]
theorem sc_late : FnScope n_late ["network"] (defScope s_late) := ⟨rfl, rfl, rfl, by decide +kernel, rfl, by decide +kernel, by decide +kernel⟩
def b_late_1 (f_noughts : FS) (f_Network_run : FS) : SB := (.cons (.asg (.nm 3) (.call f_noughts (.cons (.var 2) .nil))) (.cons (.ifS (.val (.op .gt (.cons (.var 3) (.cons (.cst (.int 0)) .nil)))) (.cons (.asg (.nm 4) (.meth "run" f_Network_run (.var 0) (.cons (.var 2) .nil))) (.cons (.asg (.nm 5) (.op .max (.cons (.lc false (.enum (.var 4)) (.tp2 (.nm 6) (.nm 7)) (.val (.op .eq (.cons (.var 7) (.cons (.cst (.int 0)) .nil)))) (.var 6) [6, 7]) .nil))) (.cons (.asg (.nm 1) (.op .max (.cons (.var 1) (.cons (.op .sub (.cons (.var 5) (.cons (.op .sub (.cons (.var 3) (.cons (.cst (.int 1)) .nil))) .nil))) .nil)))) .nil))) .nil) .nil))
def c_late (f_plain_rows : FS) (f_noughts : FS) (f_Network_run : FS) : SB := (.cons (.asg (.nm 1) (.cst (.int 0))) (.cons (.for (.seq (.call f_plain_rows (.cons (.fldW (.var 0)) .nil))) (.nm 2) (b_late_1 f_noughts f_Network_run)) (.cons (.retF (.var 1)) .nil)))
theorem k_late (D : DefAt K mg "late" s_late ["network"]) (hG : NetOk K Nt) (B : Bt mg) {f_plain_rows : FS} (C_plain_rows : Callee P w K mg base Nt "plain_rows" 1 ["wires"] f_plain_rows) {f_noughts : FS} (C_noughts : Callee P w K mg base Nt "noughts" 1 ["row"] f_noughts) {f_Network_run : FS} (C_Network_run : MethAt P w K mg base Nt "run" 1 ["self", "row"] f_Network_run) : Callee P w K mg base Nt "late" 2 ["network"] (runFn 0 (c_late f_plain_rows f_noughts f_Network_run) 8 1) :=
  callee_mk D sc_late hG (by decide) 0 (c_late f_plain_rows f_noughts f_Network_run) fun f cdv A outer s H E hr => by
    have hu := hr.units
    have hu0 := hr.units0
    have hu65 := hu65_of hr
    exact (b_cons (s_asg sc_late.nd rfl (by first | exact Or.inl rfl | exact Or.inr rfl) d_int) (b_cons (s_for PassesOwn.never rfl (i_seq (d_call C_plain_rows (hr.mono (by decide)) (by rfl) (d_cons (d_fldW (d_var 0) rfl) d_nil))) (g_nm 2 sc_late.nd rfl (by first | exact Or.inl rfl | exact Or.inr rfl)) (b_cons (s_asg sc_late.nd rfl (by first | exact Or.inl rfl | exact Or.inr rfl) (d_call C_noughts (hr.mono (by decide)) (by rfl) (d_cons (d_var 2) d_nil))) (b_cons (s_if (t_cmp (o_gt) rfl (d_var 3) d_int (nomark _)) (b_cons (s_asg sc_late.nd rfl (by first | exact Or.inl rfl | exact Or.inr rfl) (d_meth C_Network_run (hr.mono (by decide)) (d_var 0) (d_cons (d_var 2) d_nil))) (b_cons (s_asg sc_late.nd rfl (by first | exact Or.inl rfl | exact Or.inr rfl) (d_blt (c_max rfl) (by rfl) B.b_max (by decide +kernel) (d_cons (d_lc [("wire", 6), ("digit", 7)] rfl sc_late.nd (i_enum (by rfl) B.b_enumerate (d_var 4)) (blkOk_by (own := [("wire", 6), ("digit", 7)]) (N := n_late) (sc := defScope s_late) (by decide +kernel)) (fun _ _ _ _ _ => (g_tp2 rfl (g_nm 6 sc_late.nd rfl (by first | exact Or.inl rfl | exact Or.inr rfl)) (g_nm 7 sc_late.nd rfl (by first | exact Or.inl rfl | exact Or.inr rfl)))) (fun _ _ _ _ _ => (f_one (t_cmp (o_eq hu) rfl (d_var 7) d_int (nomark _)))) (fun _ _ _ _ _ => (d_var 6))) d_nil))) (b_cons (s_asg sc_late.nd rfl (by first | exact Or.inl rfl | exact Or.inr rfl) (d_blt (c_max rfl) (by rfl) B.b_max (by decide +kernel) (d_cons (d_var 1) (d_cons (d_bin o_sub rfl (d_var 5) (d_bin o_sub rfl (d_var 3) d_int)) d_nil)))) b_nil))) b_nil) b_nil))) (b_cons (s_retF (d_var 1)) b_nil)))
abbrev s_early : Stmt := top 11
abbrev n_early : List Str := ["network", "most", "row", "count", "first"]
theorem sc_early : FnScope n_early ["network"] (defScope s_early) := ⟨rfl, rfl, rfl, by decide +kernel, rfl, by decide +kernel, by decide +kernel⟩
def b_early_1 (f_noughts : FS) (f_Network_runN : FS) : SB := (.cons (.asg (.nm 3) (.call f_noughts (.cons (.var 2) .nil))) (.cons (.ifS (.val (.op .lt (.cons (.var 3) (.cons (.fldW (.var 0)) .nil)))) (.cons (.asg (.nm 4) (.mIdx f_Network_runN (.var 0) (.cons (.var 2) .nil) 1)) (.cons (.asg (.nm 1) (.op .max (.cons (.var 1) (.cons (.op .sub (.cons (.var 3) (.cons (.var 4) .nil))) .nil)))) .nil)) .nil) .nil))
def c_early (f_plain_rows : FS) (f_noughts : FS) (f_Network_runN : FS) : SB := (.cons (.asg (.nm 1) (.cst (.int 0))) (.cons (.for (.seq (.call f_plain_rows (.cons (.fldW (.var 0)) .nil))) (.nm 2) (b_early_1 f_noughts f_Network_runN)) (.cons (.retF (.var 1)) .nil)))
theorem k_early (D : DefAt K mg "early" s_early ["network"]) (hG : NetOk K Nt) (B : Bt mg) {f_plain_rows : FS} (C_plain_rows : Callee P w K mg base Nt "plain_rows" 1 ["wires"] f_plain_rows) {f_noughts : FS} (C_noughts : Callee P w K mg base Nt "noughts" 1 ["row"] f_noughts) {f_Network_runN : FS} (C_Network_runN : MethN P w K mg base Nt "run" 1 ["self", "row"] f_Network_runN) : Callee P w K mg base Nt "early" 2 ["network"] (runFn 0 (c_early f_plain_rows f_noughts f_Network_runN) 5 1) :=
  callee_mk D sc_early hG (by decide) 0 (c_early f_plain_rows f_noughts f_Network_runN) fun f cdv A outer s H E hr => by
    have hu := hr.units
    have hu0 := hr.units0
    have hu65 := hu65_of hr
    exact (b_cons (s_asg sc_early.nd rfl (by first | exact Or.inl rfl | exact Or.inr rfl) d_int) (b_cons (s_for PassesOwn.never rfl (i_seq (d_call C_plain_rows (hr.mono (by decide)) (by rfl) (d_cons (d_fldW (d_var 0) rfl) d_nil))) (g_nm 2 sc_early.nd rfl (by first | exact Or.inl rfl | exact Or.inr rfl)) (b_cons (s_asg sc_early.nd rfl (by first | exact Or.inl rfl | exact Or.inr rfl) (d_call C_noughts (hr.mono (by decide)) (by rfl) (d_cons (d_var 2) d_nil))) (b_cons (s_if (t_cmp (o_lt hu0) rfl (d_var 3) (d_fldW (d_var 0) rfl) (nomark _)) (b_cons (s_asg sc_early.nd rfl (by first | exact Or.inl rfl | exact Or.inr rfl) (d_mIdx C_Network_runN (hr.mono (by decide)) (d_var 0) (d_cons (d_var 2) d_nil))) (b_cons (s_asg sc_early.nd rfl (by first | exact Or.inl rfl | exact Or.inr rfl) (d_blt (c_max rfl) (by rfl) B.b_max (by decide +kernel) (d_cons (d_var 1) (d_cons (d_bin o_sub rfl (d_var 3) (d_var 4)) d_nil)))) b_nil)) b_nil) b_nil))) (b_cons (s_retF (d_var 1)) b_nil)))
abbrev s_L_numbers : Stmt := top 13
abbrev n_L_numbers : List Str := ["_law_script", "_law_count", "_law_rest", "_law_by_digits", "_law_numbers_here", "_law_k", "_law_cell"]
theorem sc_L_numbers : FnScope n_L_numbers ["_law_script", "_law_count"] (defScope s_L_numbers) := ⟨rfl, rfl, rfl, by decide +kernel, rfl, by decide +kernel, by decide +kernel⟩
def b_L_numbers_1 : SB := (.cons (.ifS (.and (.val (.var 3)) (.val (.op .gt (.cons (.var 2) (.cons (.cst (.int 0)) .nil))))) (.cons (.app 4 (.op .mod (.cons (.var 2) (.cons (.cst (.int 1000000)) .nil)))) (.cons (.asg (.nm 2) (.op .fdiv (.cons (.var 2) (.cons (.cst (.int 1000000)) .nil)))) .nil)) (.cons (.asg (.nm 6) (.cst (.int 13))) (.cons (.ifS (.val (.op .gt (.cons (.op .len (.cons (.var 0) .nil)) (.cons (.cst (.int 0)) .nil)))) (.cons (.asg (.nm 6) (.op .add (.cons (.ix (.var 0) (.op .mod (.cons (.var 5) (.cons (.op .len (.cons (.var 0) .nil)) .nil)))) (.cons (.op .mul (.cons (.cst (.int 7919)) (.cons (.var 5) .nil))) .nil)))) .nil) .nil) (.cons (.app 4 (.op .mod (.cons (.op .mod (.cons (.op .mul (.cons (.op .mod (.cons (.op .mul (.cons (.var 6) (.cons (.cst (.int 48271)) .nil))) (.cons (.cst (.int 2147483647)) .nil))) (.cons (.cst (.int 69621)) .nil))) (.cons (.cst (.int 2147483629)) .nil))) (.cons (.cst (.int 1000000)) .nil)))) .nil)))) .nil)
def c_L_numbers : SB := (.cons (.asg (.nm 2) (.cst (.int 0))) (.cons (.ifS (.val (.op .gt (.cons (.op .len (.cons (.var 0) .nil)) (.cons (.cst (.int 0)) .nil)))) (.cons (.asg (.nm 2) (.ix (.var 0) (.cst (.int 0)))) .nil) .nil) (.cons (.asg (.nm 3) (.op .ge (.cons (.var 2) (.cons (.op .pow (.cons (.cst (.int 10)) (.cons (.cst (.int 18)) .nil))) .nil)))) (.cons (.asg (.nm 4) (.lst false .nil)) (.cons (.for (.rng1 (.var 1)) (.nm 5) b_L_numbers_1) (.cons (.retF (.var 4)) .nil))))))
theorem k_L_numbers (D : DefAt K mg "_law_numbers" s_L_numbers ["_law_script", "_law_count"]) (hG : NetOk K Nt) (B : Bt mg) : Callee P w K mg base Nt "_law_numbers" 1 ["_law_script", "_law_count"] (runFn 0 (c_L_numbers) 7 2) :=
  callee_mk D sc_L_numbers hG (by decide) 0 (c_L_numbers) fun f cdv A outer s H E hr => by
    have hu := hr.units
    have hu0 := hr.units0
    have hu65 := hu65_of hr
    exact (b_cons (s_asg sc_L_numbers.nd rfl (by first | exact Or.inl rfl | exact Or.inr rfl) d_int) (b_cons (s_if (t_cmp (o_gt) rfl (d_blt (c_len) (by rfl) B.b_len (by decide +kernel) (d_cons (d_var 0) d_nil)) d_int (nomark _)) (b_cons (s_asg sc_L_numbers.nd rfl (by first | exact Or.inl rfl | exact Or.inr rfl) (d_ix (d_var 0) d_int (fun _ _ => rfl))) b_nil) b_nil) (b_cons (s_asg sc_L_numbers.nd rfl (by first | exact Or.inl rfl | exact Or.inr rfl) (d_cmp (o_ge) rfl (d_var 2) (d_bin o_pow rfl d_int d_int) (nomark _))) (b_cons (s_asg sc_L_numbers.nd rfl (by first | exact Or.inl rfl | exact Or.inr rfl) (d_lst d_nil)) (b_cons (s_for PassesOwn.never rfl (i_rng1 (by rfl) B.b_range (d_var 1)) (g_nm 5 sc_L_numbers.nd rfl (by first | exact Or.inl rfl | exact Or.inr rfl)) (b_cons (s_if (t_w (w_and (t_val (d_var 3)) (w_and1 (t_cmp (o_gt) rfl (d_var 2) d_int (nomark _))))) (b_cons (s_app (pv 4) (d_bin o_mod rfl (d_var 2) d_int)) (b_cons (s_asg sc_L_numbers.nd rfl (by first | exact Or.inl rfl | exact Or.inr rfl) (d_bin o_fdiv rfl (d_var 2) d_int)) b_nil)) (b_cons (s_asg sc_L_numbers.nd rfl (by first | exact Or.inl rfl | exact Or.inr rfl) d_int) (b_cons (s_if (t_cmp (o_gt) rfl (d_blt (c_len) (by rfl) B.b_len (by decide +kernel) (d_cons (d_var 0) d_nil)) d_int (nomark _)) (b_cons (s_asg sc_L_numbers.nd rfl (by first | exact Or.inl rfl | exact Or.inr rfl) (d_bin o_add rfl (d_ix (d_var 0) (d_bin o_mod rfl (d_var 5) (d_blt (c_len) (by rfl) B.b_len (by decide +kernel) (d_cons (d_var 0) d_nil))) (fun _ _ => rfl)) (d_bin o_mul rfl d_int (d_var 5)))) b_nil) b_nil) (b_cons (s_app (pv 4) (d_bin o_mod rfl (d_bin o_mod rfl (d_bin o_mul rfl (d_bin o_mod rfl (d_bin o_mul rfl (d_var 6) d_int) d_int) d_int) d_int) d_int)) b_nil)))) b_nil)) (b_cons (s_retF (d_var 4)) b_nil))))))
abbrev s_L_pairs : Stmt := top 14
abbrev n_L_pairs : List Str := ["_law_numbers_here", "_law_place", "_law_wires", "_law_many", "_law_standard", "_law_pairs_here", "_law_k", "_law_number", "_law_one", "_law_two"]
theorem sc_L_pairs : FnScope n_L_pairs ["_law_numbers_here", "_law_place", "_law_wires", "_law_many", "_law_standard"] (defScope s_L_pairs) := ⟨rfl, rfl, rfl, by decide +kernel, rfl, by decide +kernel, by decide +kernel⟩
def b_L_pairs_1 : SB := (.cons (.asg (.nm 7) (.op .fdiv (.cons (.ix (.var 0) (.op .add (.cons (.op .add (.cons (.var 1) (.cons (.cst (.int 1)) .nil))) (.cons (.op .fdiv (.cons (.var 6) (.cons (.cst (.int 3)) .nil))) .nil)))) (.cons (.ix (.lst false (.cons (.cst (.int 1)) (.cons (.cst (.int 97)) (.cons (.cst (.int 9409)) .nil)))) (.op .mod (.cons (.var 6) (.cons (.cst (.int 3)) .nil)))) .nil)))) (.cons (.asg (.nm 8) (.op .mod (.cons (.var 7) (.cons (.var 2) .nil)))) (.cons (.asg (.nm 9) (.op .mod (.cons (.op .fdiv (.cons (.var 7) (.cons (.var 2) .nil))) (.cons (.op .sub (.cons (.var 2) (.cons (.cst (.int 1)) .nil))) .nil)))) (.cons (.ifS (.val (.op .ge (.cons (.var 9) (.cons (.var 8) .nil)))) (.cons (.asg (.nm 9) (.op .add (.cons (.var 9) (.cons (.cst (.int 1)) .nil)))) .nil) .nil) (.cons (.ifS (.and (.val (.var 4)) (.val (.op .gt (.cons (.var 8) (.cons (.var 9) .nil))))) (.cons (.app 5 (.tup (.cons (.var 9) (.cons (.var 8) .nil)))) .nil) (.cons (.app 5 (.tup (.cons (.var 8) (.cons (.var 9) .nil)))) .nil)) .nil)))))
def c_L_pairs : SB := (.cons (.asg (.nm 5) (.lst false .nil)) (.cons (.ifS (.val (.op .eq (.cons (.var 2) (.cons (.cst (.int 1)) .nil)))) (.cons (.retF (.var 5)) .nil) .nil) (.cons (.for (.rng1 (.op .mod (.cons (.ix (.var 0) (.var 1)) (.cons (.op .add (.cons (.var 3) (.cons (.cst (.int 1)) .nil))) .nil)))) (.nm 6) b_L_pairs_1) (.cons (.retF (.var 5)) .nil))))
theorem k_L_pairs (D : DefAt K mg "_law_pairs" s_L_pairs ["_law_numbers_here", "_law_place", "_law_wires", "_law_many", "_law_standard"]) (hG : NetOk K Nt) (B : Bt mg) : Callee P w K mg base Nt "_law_pairs" 1 ["_law_numbers_here", "_law_place", "_law_wires", "_law_many", "_law_standard"] (runFn 0 (c_L_pairs) 10 5) :=
  callee_mk D sc_L_pairs hG (by decide) 0 (c_L_pairs) fun f cdv A outer s H E hr => by
    have hu := hr.units
    have hu0 := hr.units0
    have hu65 := hu65_of hr
    exact (b_cons (s_asg sc_L_pairs.nd rfl (by first | exact Or.inl rfl | exact Or.inr rfl) (d_lst d_nil)) (b_cons (s_if (t_cmp (o_eq hu) rfl (d_var 2) d_int (nomark _)) (b_cons (s_retF (d_var 5)) b_nil) b_nil) (b_cons (s_for PassesOwn.never rfl (i_rng1 (by rfl) B.b_range (d_bin o_mod rfl (d_ix (d_var 0) (d_var 1) (fun _ _ => rfl)) (d_bin o_add rfl (d_var 3) d_int))) (g_nm 6 sc_L_pairs.nd rfl (by first | exact Or.inl rfl | exact Or.inr rfl)) (b_cons (s_asg sc_L_pairs.nd rfl (by first | exact Or.inl rfl | exact Or.inr rfl) (d_bin o_fdiv rfl (d_ix (d_var 0) (d_bin o_add rfl (d_bin o_add rfl (d_var 1) d_int) (d_bin o_fdiv rfl (d_var 6) d_int)) (fun _ _ => rfl)) (d_ix (d_lst (d_cons d_int (d_cons d_int (d_cons d_int d_nil)))) (d_bin o_mod rfl (d_var 6) d_int) (fun _ _ => rfl)))) (b_cons (s_asg sc_L_pairs.nd rfl (by first | exact Or.inl rfl | exact Or.inr rfl) (d_bin o_mod rfl (d_var 7) (d_var 2))) (b_cons (s_asg sc_L_pairs.nd rfl (by first | exact Or.inl rfl | exact Or.inr rfl) (d_bin o_mod rfl (d_bin o_fdiv rfl (d_var 7) (d_var 2)) (d_bin o_sub rfl (d_var 2) d_int))) (b_cons (s_if (t_cmp (o_ge) rfl (d_var 9) (d_var 8) (nomark _)) (b_cons (s_asg sc_L_pairs.nd rfl (by first | exact Or.inl rfl | exact Or.inr rfl) (d_bin o_add rfl (d_var 9) d_int)) b_nil) b_nil) (b_cons (s_if (t_w (w_and (t_val (d_var 4)) (w_and1 (t_cmp (o_gt) rfl (d_var 8) (d_var 9) (nomark _))))) (b_cons (s_app (pv 5) (d_tup (d_cons (d_var 9) (d_cons (d_var 8) d_nil)))) b_nil) (b_cons (s_app (pv 5) (d_tup (d_cons (d_var 8) (d_cons (d_var 9) d_nil)))) b_nil)) b_nil)))))) (b_cons (s_retF (d_var 5)) b_nil))))
abbrev s_L_run : Stmt := top 15
abbrev n_L_run : List Str := ["_law_pairs_here", "_law_row_here", "_law_cells", "_law_pair", "_law_low"]
theorem sc_L_run : FnScope n_L_run ["_law_pairs_here", "_law_row_here"] (defScope s_L_run) := ⟨rfl, rfl, rfl, by decide +kernel, rfl, by decide +kernel, by decide +kernel⟩
def b_L_run_1 : SB := (.cons (.asg (.nm 4) (.op .min (.cons (.ix (.var 2) (.ix (.var 3) (.cst (.int 0)))) (.cons (.ix (.var 2) (.ix (.var 3) (.cst (.int 1)))) .nil)))) (.cons (.set 2 (.ix (.var 3) (.cst (.int 1))) (.op .max (.cons (.ix (.var 2) (.ix (.var 3) (.cst (.int 0)))) (.cons (.ix (.var 2) (.ix (.var 3) (.cst (.int 1)))) .nil)))) (.frz 4 (.cons (.set 2 (.ix (.var 3) (.cst (.int 0))) (.var 4)) .nil))))
def c_L_run : SB := (.cons (.asg (.nm 2) (.op .list (.cons (.var 1) .nil))) (.cons (.for (.seq (.var 0)) (.nm 3) b_L_run_1) (.cons (.retF (.op .tuple (.cons (.var 2) .nil))) .nil)))
theorem k_L_run (D : DefAt K mg "_law_run" s_L_run ["_law_pairs_here", "_law_row_here"]) (hG : NetOk K Nt) (B : Bt mg) : Callee P w K mg base Nt "_law_run" 1 ["_law_pairs_here", "_law_row_here"] (runFn 0 (c_L_run) 5 2) :=
  callee_mk D sc_L_run hG (by decide) 0 (c_L_run) fun f cdv A outer s H E hr => by
    have hu := hr.units
    have hu0 := hr.units0
    have hu65 := hu65_of hr
    exact (b_cons (s_asg sc_L_run.nd rfl (by first | exact Or.inl rfl | exact Or.inr rfl) (d_ty (c_list) (by rfl) B.b_list (by decide +kernel) (d_cons (d_var 1) d_nil))) (b_cons (s_for PassesOwn.never rfl (i_seq (d_var 0)) (g_nm 3 sc_L_run.nd rfl (by first | exact Or.inl rfl | exact Or.inr rfl)) (b_cons (s_asg sc_L_run.nd rfl (by first | exact Or.inl rfl | exact Or.inr rfl) (d_blt (c_min rfl) (by rfl) B.b_min (by decide +kernel) (d_cons (d_ix (d_var 2) (d_ix (d_var 3) d_int (fun _ _ => rfl)) (fun _ _ => rfl)) (d_cons (d_ix (d_var 2) (d_ix (d_var 3) d_int (fun _ _ => rfl)) (fun _ _ => rfl)) d_nil)))) (b_cons (s_setIx (pv 2) (d_ix (d_var 3) d_int (fun _ _ => rfl)) (d_blt (c_max rfl) (by rfl) B.b_max (by decide +kernel) (d_cons (d_ix (d_var 2) (d_ix (d_var 3) d_int (fun _ _ => rfl)) (fun _ _ => rfl)) (d_cons (d_ix (d_var 2) (d_ix (d_var 3) d_int (fun _ _ => rfl)) (fun _ _ => rfl)) d_nil)))) (b_frz 4 (b_cons (s_setIx (pv 2) (d_ix (d_var 3) d_int (fun _ _ => rfl)) (d_var 4)) b_nil))))) (b_cons (s_retF (d_ty (c_tuple) (by rfl) B.b_tuple (by decide +kernel) (d_cons (d_var 2) d_nil))) b_nil)))
abbrev s_L_plain : Stmt := top 16
abbrev n_L_plain : List Str := ["_law_wires", "_law_rows", "_law_k", "_law_longer", "_law_row_here"]
theorem sc_L_plain : FnScope n_L_plain ["_law_wires"] (defScope s_L_plain) := ⟨rfl, rfl, rfl, by decide +kernel, rfl, by decide +kernel, by decide +kernel⟩
def b_L_plain_2 : SB := (.cons (.asg (.nm 3) (.op .add (.cons (.var 3) (.cons (.lst false (.cons (.op .add (.cons (.var 4) (.cons (.tup (.cons (.cst (.int 0)) .nil)) .nil))) (.cons (.op .add (.cons (.var 4) (.cons (.tup (.cons (.cst (.int 1)) .nil)) .nil))) .nil))) .nil)))) .nil)
def b_L_plain_1 : SB := (.cons (.asg (.nm 3) (.lst false .nil)) (.frz 1 (.cons (.for (.seq (.var 1)) (.nm 4) b_L_plain_2) (.frz 3 (.cons (.asg (.nm 1) (.var 3)) .nil)))))
def c_L_plain : SB := (.cons (.asg (.nm 1) (.lst false (.cons (.tup .nil) .nil))) (.cons (.for (.rng1 (.var 0)) (.nm 2) b_L_plain_1) (.cons (.retF (.var 1)) .nil)))
theorem k_L_plain (D : DefAt K mg "_law_plain" s_L_plain ["_law_wires"]) (hG : NetOk K Nt) (B : Bt mg) : Callee P w K mg base Nt "_law_plain" 1 ["_law_wires"] (runFn 0 (c_L_plain) 5 1) :=
  callee_mk D sc_L_plain hG (by decide) 0 (c_L_plain) fun f cdv A outer s H E hr => by
    have hu := hr.units
    have hu0 := hr.units0
    have hu65 := hu65_of hr
    exact (b_cons (s_asg sc_L_plain.nd rfl (by first | exact Or.inl rfl | exact Or.inr rfl) (d_lst (d_cons (d_tup d_nil) d_nil))) (b_cons (s_for PassesOwn.never rfl (i_rng1 (by rfl) B.b_range (d_var 0)) (g_nm 2 sc_L_plain.nd rfl (by first | exact Or.inl rfl | exact Or.inr rfl)) (b_cons (s_asg sc_L_plain.nd rfl (by first | exact Or.inl rfl | exact Or.inr rfl) (d_lst d_nil)) (b_frz 1 (b_cons (s_for PassesOwn.never rfl (i_seq (d_var 1)) (g_nm 4 sc_L_plain.nd rfl (by first | exact Or.inl rfl | exact Or.inr rfl)) (b_cons (s_asg sc_L_plain.nd rfl (by first | exact Or.inl rfl | exact Or.inr rfl) (d_bin o_add rfl (d_var 3) (d_lst (d_cons (d_bin o_add rfl (d_var 4) (d_tup (d_cons d_int d_nil))) (d_cons (d_bin o_add rfl (d_var 4) (d_tup (d_cons d_int d_nil))) d_nil))))) b_nil)) (b_frz 3 (b_cons (s_asg sc_L_plain.nd rfl (by first | exact Or.inl rfl | exact Or.inr rfl) (d_var 3)) b_nil)))))) (b_cons (s_retF (d_var 1)) b_nil)))
abbrev s_L_order : Stmt := top 18
abbrev n_L_order : List Str := ["_law_number", "_law_count", "_law_left", "_law_order_here", "_law_k", "_law_place"]
theorem sc_L_order : FnScope n_L_order ["_law_number", "_law_count"] (defScope s_L_order) := ⟨rfl, rfl, rfl, by decide +kernel, rfl, by decide +kernel, by decide +kernel⟩
def b_L_order_1 : SB := (.cons (.asg (.nm 5) (.op .mod (.cons (.var 0) (.cons (.op .len (.cons (.var 2) .nil)) .nil)))) (.cons (.asg (.nm 0) (.op .fdiv (.cons (.var 0) (.cons (.op .len (.cons (.var 2) .nil)) .nil)))) (.cons (.app 3 (.ix (.var 2) (.var 5))) (.cons (.asg (.nm 2) (.op .add (.cons (.sl (.var 2) .none (.some (.var 5))) (.cons (.sl (.var 2) (.some (.op .add (.cons (.var 5) (.cons (.cst (.int 1)) .nil)))) .none) .nil)))) .nil))))
def c_L_order : SB := (.cons (.asg (.nm 2) (.prim lrngF (.cons (.var 1) .nil))) (.cons (.asg (.nm 3) (.lst false .nil)) (.cons (.for (.rng1 (.var 1)) (.nm 4) b_L_order_1) (.cons (.retF (.op .tuple (.cons (.var 3) .nil))) .nil))))
theorem k_L_order (D : DefAt K mg "_law_order" s_L_order ["_law_number", "_law_count"]) (hG : NetOk K Nt) (B : Bt mg) : Callee P w K mg base Nt "_law_order" 1 ["_law_number", "_law_count"] (runFn 0 (c_L_order) 6 2) :=
  callee_mk D sc_L_order hG (by decide) 0 (c_L_order) fun f cdv A outer s H E hr => by
    have hu := hr.units
    have hu0 := hr.units0
    have hu65 := hu65_of hr
    exact (b_cons (s_asg sc_L_order.nd rfl (by first | exact Or.inl rfl | exact Or.inr rfl) (d_lrng (by rfl) B.b_list (by rfl) B.b_range rfl (d_var 1))) (b_cons (s_asg sc_L_order.nd rfl (by first | exact Or.inl rfl | exact Or.inr rfl) (d_lst d_nil)) (b_cons (s_for PassesOwn.never rfl (i_rng1 (by rfl) B.b_range (d_var 1)) (g_nm 4 sc_L_order.nd rfl (by first | exact Or.inl rfl | exact Or.inr rfl)) (b_cons (s_asg sc_L_order.nd rfl (by first | exact Or.inl rfl | exact Or.inr rfl) (d_bin o_mod rfl (d_var 0) (d_blt (c_len) (by rfl) B.b_len (by decide +kernel) (d_cons (d_var 2) d_nil)))) (b_cons (s_asg sc_L_order.nd rfl (by first | exact Or.inl rfl | exact Or.inr rfl) (d_bin o_fdiv rfl (d_var 0) (d_blt (c_len) (by rfl) B.b_len (by decide +kernel) (d_cons (d_var 2) d_nil)))) (b_cons (s_app (pv 3) (d_ix (d_var 2) (d_var 5) (fun _ _ => rfl))) (b_cons (s_asg sc_L_order.nd rfl (by first | exact Or.inl rfl | exact Or.inr rfl) (d_bin o_add rfl (d_sl (d_var 2) p_none (p_some (d_var 5))) (d_sl (d_var 2) (p_some (d_bin o_add rfl (d_var 5) d_int)) p_none))) b_nil))))) (b_cons (s_retF (d_ty (c_tuple) (by rfl) B.b_tuple (by decide +kernel) (d_cons (d_var 3) d_nil))) b_nil))))
abbrev s_L_orders : Stmt := top 19
abbrev n_L_orders : List Str := ["_law_wires", "_law_orders_here", "_law_k", "_law_longer", "_law_order_here", "_law_number"]
theorem sc_L_orders : FnScope n_L_orders ["_law_wires"] (defScope s_L_orders) := ⟨rfl, rfl, rfl, by decide +kernel, rfl, by decide +kernel, by decide +kernel⟩
def b_L_orders_2 : SB := (.cons (.asg (.nm 3) (.op .add (.cons (.var 3) (.cons (.lc false (.rng1 (.var 0)) (.nm 5) (.val (.op .notin (.cons (.var 5) (.cons (.var 4) .nil)))) (.op .add (.cons (.var 4) (.cons (.tup (.cons (.var 5) .nil)) .nil))) [5]) .nil)))) .nil)
def b_L_orders_1 : SB := (.cons (.asg (.nm 3) (.lst false .nil)) (.frz 1 (.cons (.for (.seq (.var 1)) (.nm 4) b_L_orders_2) (.frz 3 (.cons (.asg (.nm 1) (.var 3)) .nil)))))
def c_L_orders : SB := (.cons (.asg (.nm 1) (.lst false (.cons (.tup .nil) .nil))) (.cons (.for (.rng1 (.var 0)) (.nm 2) b_L_orders_1) (.cons (.retF (.var 1)) .nil)))
theorem k_L_orders (D : DefAt K mg "_law_orders" s_L_orders ["_law_wires"]) (hG : NetOk K Nt) (B : Bt mg) : Callee P w K mg base Nt "_law_orders" 1 ["_law_wires"] (runFn 0 (c_L_orders) 6 1) :=
  callee_mk D sc_L_orders hG (by decide) 0 (c_L_orders) fun f cdv A outer s H E hr => by
    have hu := hr.units
    have hu0 := hr.units0
    have hu65 := hu65_of hr
    exact (b_cons (s_asg sc_L_orders.nd rfl (by first | exact Or.inl rfl | exact Or.inr rfl) (d_lst (d_cons (d_tup d_nil) d_nil))) (b_cons (s_for PassesOwn.never rfl (i_rng1 (by rfl) B.b_range (d_var 0)) (g_nm 2 sc_L_orders.nd rfl (by first | exact Or.inl rfl | exact Or.inr rfl)) (b_cons (s_asg sc_L_orders.nd rfl (by first | exact Or.inl rfl | exact Or.inr rfl) (d_lst d_nil)) (b_frz 1 (b_cons (s_for PassesOwn.never rfl (i_seq (d_var 1)) (g_nm 4 sc_L_orders.nd rfl (by first | exact Or.inl rfl | exact Or.inr rfl)) (b_cons (s_asg sc_L_orders.nd rfl (by first | exact Or.inl rfl | exact Or.inr rfl) (d_bin o_add rfl (d_var 3) (d_lc [("_law_number", 5)] rfl sc_L_orders.nd (i_rng1 (by rfl) B.b_range (d_var 0)) (blkOk_by (own := [("_law_number", 5)]) (N := n_L_orders) (sc := defScope s_L_orders) (by decide +kernel)) (fun _ _ _ _ _ => (g_nm 5 sc_L_orders.nd rfl (by first | exact Or.inl rfl | exact Or.inr rfl))) (fun _ _ _ _ _ => (f_one (t_cmp (o_notin hu65) rfl (d_var 5) (d_var 4) (by rfl)))) (fun _ _ _ _ _ => (d_bin o_add rfl (d_var 4) (d_tup (d_cons (d_var 5) d_nil))))))) b_nil)) (b_frz 3 (b_cons (s_asg sc_L_orders.nd rfl (by first | exact Or.inl rfl | exact Or.inr rfl) (d_var 3)) b_nil)))))) (b_cons (s_retF (d_var 1)) b_nil)))
abbrev s_L_by_plain : Stmt := top 20
abbrev n_L_by_plain : List Str := ["_law_pairs_here", "_law_wires", "_law_behind", "_law_ahead", "_law_row_here", "_law_result", "_law_zeros", "_law_digit", "_law_k"]
theorem sc_L_by_plain : FnScope n_L_by_plain ["_law_pairs_here", "_law_wires"] (defScope s_L_by_plain) := ⟨rfl, rfl, rfl, by decide +kernel, rfl, by decide +kernel, by decide +kernel⟩
def b_L_by_plain_1 (f_L_run : FS) : SB := (.cons (.asg (.nm 5) (.call f_L_run (.cons (.var 0) (.cons (.var 4) .nil)))) (.cons (.asg (.nm 6) (.op .len (.cons (.lc false (.seq (.var 4)) (.nm 7) (.val (.op .eq (.cons (.var 7) (.cons (.cst (.int 0)) .nil)))) (.var 7) [7]) .nil))) (.cons (.ifS (.val (.op .gt (.cons (.var 6) (.cons (.cst (.int 0)) .nil)))) (.cons (.asg (.nm 2) (.op .max (.cons (.var 2) (.cons (.op .add (.cons (.op .sub (.cons (.op .max (.cons (.lc false (.rng1 (.var 1)) (.nm 8) (.val (.op .eq (.cons (.ix (.var 5) (.var 8)) (.cons (.cst (.int 0)) .nil)))) (.var 8) [8]) .nil)) (.cons (.var 6) .nil))) (.cons (.cst (.int 1)) .nil))) .nil)))) .nil) .nil) (.cons (.ifS (.val (.op .lt (.cons (.var 6) (.cons (.var 1) .nil)))) (.cons (.asg (.nm 3) (.op .max (.cons (.var 3) (.cons (.op .sub (.cons (.var 6) (.cons (.op .min (.cons (.lc false (.rng1 (.var 1)) (.nm 8) (.val (.op .eq (.cons (.ix (.var 5) (.var 8)) (.cons (.cst (.int 1)) .nil)))) (.var 8) [8]) .nil)) .nil))) .nil)))) .nil) .nil) .nil))))
def c_L_by_plain (f_L_plain : FS) (f_L_run : FS) : SB := (.cons (.asg (.nm 2) (.cst (.int 0))) (.cons (.asg (.nm 3) (.cst (.int 0))) (.cons (.for (.seq (.call f_L_plain (.cons (.var 1) .nil))) (.nm 4) (b_L_by_plain_1 f_L_run)) (.cons (.retF (.lst false (.cons (.var 2) (.cons (.var 3) .nil)))) .nil))))
theorem k_L_by_plain (D : DefAt K mg "_law_by_plain" s_L_by_plain ["_law_pairs_here", "_law_wires"]) (hG : NetOk K Nt) (B : Bt mg) {f_L_plain : FS} (C_L_plain : Callee P w K mg base Nt "_law_plain" 1 ["_law_wires"] f_L_plain) {f_L_run : FS} (C_L_run : Callee P w K mg base Nt "_law_run" 1 ["_law_pairs_here", "_law_row_here"] f_L_run) : Callee P w K mg base Nt "_law_by_plain" 2 ["_law_pairs_here", "_law_wires"] (runFn 0 (c_L_by_plain f_L_plain f_L_run) 9 2) :=
  callee_mk D sc_L_by_plain hG (by decide) 0 (c_L_by_plain f_L_plain f_L_run) fun f cdv A outer s H E hr => by
    have hu := hr.units
    have hu0 := hr.units0
    have hu65 := hu65_of hr
    exact (b_cons (s_asg sc_L_by_plain.nd rfl (by first | exact Or.inl rfl | exact Or.inr rfl) d_int) (b_cons (s_asg sc_L_by_plain.nd rfl (by first | exact Or.inl rfl | exact Or.inr rfl) d_int) (b_cons (s_for PassesOwn.never rfl (i_seq (d_call C_L_plain (hr.mono (by decide)) (by rfl) (d_cons (d_var 1) d_nil))) (g_nm 4 sc_L_by_plain.nd rfl (by first | exact Or.inl rfl | exact Or.inr rfl)) (b_cons (s_asg sc_L_by_plain.nd rfl (by first | exact Or.inl rfl | exact Or.inr rfl) (d_call C_L_run (hr.mono (by decide)) (by rfl) (d_cons (d_var 0) (d_cons (d_var 4) d_nil)))) (b_cons (s_asg sc_L_by_plain.nd rfl (by first | exact Or.inl rfl | exact Or.inr rfl) (d_blt (c_len) (by rfl) B.b_len (by decide +kernel) (d_cons (d_lc [("_law_digit", 7)] rfl sc_L_by_plain.nd (i_seq (d_var 4)) (blkOk_by (own := [("_law_digit", 7)]) (N := n_L_by_plain) (sc := defScope s_L_by_plain) (by decide +kernel)) (fun _ _ _ _ _ => (g_nm 7 sc_L_by_plain.nd rfl (by first | exact Or.inl rfl | exact Or.inr rfl))) (fun _ _ _ _ _ => (f_one (t_cmp (o_eq hu) rfl (d_var 7) d_int (nomark _)))) (fun _ _ _ _ _ => (d_var 7))) d_nil))) (b_cons (s_if (t_cmp (o_gt) rfl (d_var 6) d_int (nomark _)) (b_cons (s_asg sc_L_by_plain.nd rfl (by first | exact Or.inl rfl | exact Or.inr rfl) (d_blt (c_max rfl) (by rfl) B.b_max (by decide +kernel) (d_cons (d_var 2) (d_cons (d_bin o_add rfl (d_bin o_sub rfl (d_blt (c_max rfl) (by rfl) B.b_max (by decide +kernel) (d_cons (d_lc [("_law_k", 8)] rfl sc_L_by_plain.nd (i_rng1 (by rfl) B.b_range (d_var 1)) (blkOk_by (own := [("_law_k", 8)]) (N := n_L_by_plain) (sc := defScope s_L_by_plain) (by decide +kernel)) (fun _ _ _ _ _ => (g_nm 8 sc_L_by_plain.nd rfl (by first | exact Or.inl rfl | exact Or.inr rfl))) (fun _ _ _ _ _ => (f_one (t_cmp (o_eq hu) rfl (d_ix (d_var 5) (d_var 8) (fun _ _ => rfl)) d_int (nomark _)))) (fun _ _ _ _ _ => (d_var 8))) d_nil)) (d_var 6)) d_int) d_nil)))) b_nil) b_nil) (b_cons (s_if (t_cmp (o_lt hu0) rfl (d_var 6) (d_var 1) (nomark _)) (b_cons (s_asg sc_L_by_plain.nd rfl (by first | exact Or.inl rfl | exact Or.inr rfl) (d_blt (c_max rfl) (by rfl) B.b_max (by decide +kernel) (d_cons (d_var 3) (d_cons (d_bin o_sub rfl (d_var 6) (d_blt (c_min rfl) (by rfl) B.b_min (by decide +kernel) (d_cons (d_lc [("_law_k", 8)] rfl sc_L_by_plain.nd (i_rng1 (by rfl) B.b_range (d_var 1)) (blkOk_by (own := [("_law_k", 8)]) (N := n_L_by_plain) (sc := defScope s_L_by_plain) (by decide +kernel)) (fun _ _ _ _ _ => (g_nm 8 sc_L_by_plain.nd rfl (by first | exact Or.inl rfl | exact Or.inr rfl))) (fun _ _ _ _ _ => (f_one (t_cmp (o_eq hu) rfl (d_ix (d_var 5) (d_var 8) (fun _ _ => rfl)) d_int (nomark _)))) (fun _ _ _ _ _ => (d_var 8))) d_nil))) d_nil)))) b_nil) b_nil) b_nil))))) (b_cons (s_retF (d_lst (d_cons (d_var 2) (d_cons (d_var 3) d_nil)))) b_nil))))
abbrev s_law : Stmt := top 21
abbrev n_law : List Str := ["_law_script", "_law_numbers_here", "_law_wires", "_law_orders_here", "_law_pairs_here", "_law_made", "_law_behind", "_law_ahead", "_law_order_here", "_law_result", "_law_place", "_law_found", "_law_sorts", "_law_k", "_law_row_here"]
theorem sc_law : FnScope n_law ["_law_script"] (defScope s_law) := ⟨rfl, rfl, rfl, by decide +kernel, rfl, by decide +kernel, by decide +kernel⟩
def b_law_2 : SB := (.cons (.asg (.nm 6) (.op .max (.cons (.var 6) (.cons (.op .sub (.cons (.var 10) (.cons (.ix (.var 9) (.var 10)) .nil))) .nil)))) (.cons (.asg (.nm 7) (.op .max (.cons (.var 7) (.cons (.op .sub (.cons (.ix (.var 9) (.var 10)) (.cons (.var 10) .nil))) .nil)))) .nil))
def b_law_1 (f_L_run : FS) : SB := (.cons (.asg (.nm 9) (.call f_L_run (.cons (.var 4) (.cons (.var 8) .nil)))) (.cons (.for (.rng1 (.var 2)) (.nm 10) b_law_2) .nil))
def c_law (f_L_numbers : FS) (f_L_orders : FS) (f_L_order : FS) (f_L_pairs : FS) (f_Network : FS) (f_L_run : FS) (f_late : FS) (f_early : FS) (f_L_plain : FS) (f_L_by_plain : FS) : SB := (.cons (.asgF 1 (.call f_L_numbers (.cons (.var 0) (.cons (.cst (.int 14)) .nil)))) (.cons (.asg (.nm 2) (.op .add (.cons (.op .mod (.cons (.ix (.var 1) (.cst (.int 0))) (.cons (.cst (.int 5)) .nil))) (.cons (.cst (.int 1)) .nil)))) (.cons (.asgF 3 (.call f_L_orders (.cons (.var 2) .nil))) (.cons (.ifS (.val (.op .eq (.cons (.op .mod (.cons (.op .fdiv (.cons (.ix (.var 1) (.cst (.int 0))) (.cons (.cst (.int 5)) .nil))) (.cons (.cst (.int 8)) .nil))) (.cons (.cst (.int 1)) .nil)))) (.cons (.asg (.nm 2) (.op .add (.cons (.cst (.int 6)) (.cons (.op .mod (.cons (.op .fdiv (.cons (.ix (.var 1) (.cst (.int 0))) (.cons (.cst (.int 40)) .nil))) (.cons (.cst (.int 3)) .nil))) .nil)))) (.cons (.asgF 3 (.lc false (.rng1 (.cst (.int 6))) (.nm 13) .yes (.call f_L_order (.cons (.ix (.var 1) (.op .add (.cons (.cst (.int 8)) (.cons (.var 13) .nil)))) (.cons (.var 2) .nil))) [13])) .nil)) .nil) (.cons (.asgF 4 (.call f_L_pairs (.cons (.var 1) (.cons (.cst (.int 1)) (.cons (.var 2) (.cons (.cst (.int 18)) (.cons (.cst (.bl true)) .nil))))))) (.cons (.ifS (.val (.op .eq (.cons (.op .mod (.cons (.op .fdiv (.cons (.ix (.var 1) (.cst (.int 1))) (.cons (.cst (.int 19)) .nil))) (.cons (.cst (.int 16)) .nil))) (.cons (.cst (.int 3)) .nil)))) (.cons (.asgF 4 (.sl (.op .mul (.cons (.var 4) (.cons (.cst (.int 40)) .nil))) .none (.some (.cst (.int 120))))) .nil) .nil) (.cons (.asg (.nm 5) (.mk f_Network (.cons (.var 2) (.cons (.var 4) .nil)))) (.cons (.asg (.nm 6) (.cst (.int 0))) (.cons (.asg (.nm 7) (.cst (.int 0))) (.cons (.for (.seq (.var 3)) (.nm 8) (b_law_1 f_L_run)) (.cons (.asgF 11 (.lst false (.cons (.call f_late (.cons (.var 5) .nil)) (.cons (.call f_early (.cons (.var 5) .nil)) .nil)))) (.cons (.ifS (.or (.val (.prim (isiF "bool") (.cons (.ix (.var 11) (.cst (.int 0))) .nil))) (.val (.prim (isiF "bool") (.cons (.ix (.var 11) (.cst (.int 1))) .nil)))) (.cons (.retF (.cst (.bl false))) .nil) .nil) (.cons (.asg (.nm 12) (.op .eq (.cons (.op .len (.cons (.lc false (.seq (.call f_L_plain (.cons (.var 2) .nil))) (.nm 14) (.val (.op .ne (.cons (.call f_L_run (.cons (.var 4) (.cons (.var 14) .nil))) (.cons (.op .tuple (.cons (.prim sortF (.cons (.var 14) .nil)) .nil)) .nil)))) (.var 14) [14]) .nil)) (.cons (.cst (.int 0)) .nil)))) (.cons (.ifS (.val (.op .ne (.cons (.op .eq (.cons (.var 11) (.cons (.lst false (.cons (.cst (.int 0)) (.cons (.cst (.int 0)) .nil))) .nil))) (.cons (.var 12) .nil)))) (.cons (.retF (.cst (.bl false))) .nil) .nil) (.cons (.ifS (.val (.op .ne (.cons (.var 11) (.cons (.call f_L_by_plain (.cons (.var 4) (.cons (.var 2) .nil))) .nil)))) (.cons (.retF (.cst (.bl false))) .nil) .nil) (.cons (.ifS (.val (.op .gt (.cons (.var 2) (.cons (.cst (.int 5)) .nil)))) (.cons (.retF (.andV (.op .ge (.cons (.ix (.var 11) (.cst (.int 0))) (.cons (.var 6) .nil))) (.op .ge (.cons (.ix (.var 11) (.cst (.int 1))) (.cons (.var 7) .nil))))) .nil) .nil) (.cons (.retF (.op .eq (.cons (.var 11) (.cons (.lst false (.cons (.var 6) (.cons (.var 7) .nil))) .nil)))) .nil)))))))))))))))))
theorem k_law {f : Addr} {fd : FuncData} (F : Fun K "law" "law" s_law f fd) (hG : NetOk K Nt) (B : Bt mg) {f_L_numbers : FS} (C_L_numbers : Callee P w K mg base Nt "_law_numbers" 1 ["_law_script", "_law_count"] f_L_numbers) {f_L_orders : FS} (C_L_orders : Callee P w K mg base Nt "_law_orders" 1 ["_law_wires"] f_L_orders) {f_L_order : FS} (C_L_order : Callee P w K mg base Nt "_law_order" 1 ["_law_number", "_law_count"] f_L_order) {f_L_pairs : FS} (C_L_pairs : Callee P w K mg base Nt "_law_pairs" 1 ["_law_numbers_here", "_law_place", "_law_wires", "_law_many", "_law_standard"] f_L_pairs) {f_Network : FS} (C_Network : MakeAt P w K mg base Nt "Network" 1 ["self", "wires", "comparers"] f_Network) {f_L_run : FS} (C_L_run : Callee P w K mg base Nt "_law_run" 1 ["_law_pairs_here", "_law_row_here"] f_L_run) {f_late : FS} (C_late : Callee P w K mg base Nt "late" 2 ["network"] f_late) {f_early : FS} (C_early : Callee P w K mg base Nt "early" 2 ["network"] f_early) {f_L_plain : FS} (C_L_plain : Callee P w K mg base Nt "_law_plain" 1 ["_law_wires"] f_L_plain) {f_L_by_plain : FS} (C_L_by_plain : Callee P w K mg base Nt "_law_by_plain" 2 ["_law_pairs_here", "_law_wires"] f_L_by_plain) : FnOk P w K mg base CX0 3 f fd ["_law_script"] (spOf Nt (runFn 0 (c_law f_L_numbers f_L_orders f_L_order f_L_pairs f_Network f_L_run f_late f_early f_L_plain f_L_by_plain) 15 1)) :=
  fn_ok F sc_law hG (by decide) 0 (c_law f_L_numbers f_L_orders f_L_order f_L_pairs f_Network f_L_run f_late f_early f_L_plain f_L_by_plain) fun cdv A outer s H E hr => by
    have hu := hr.units
    have hu0 := hr.units0
    have hu65 := hu65_of hr
    exact (b_cons (s_asgF sc_law.nd rfl (by first | exact Or.inl rfl | exact Or.inr rfl) (d_call C_L_numbers (hr.mono (by decide)) (by rfl) (d_cons (d_var 0) (d_cons d_int d_nil)))) (b_cons (s_asg sc_law.nd rfl (by first | exact Or.inl rfl | exact Or.inr rfl) (d_bin o_add rfl (d_bin o_mod rfl (d_ix (d_var 1) d_int (fun _ _ => rfl)) d_int) d_int)) (b_cons (s_asgF sc_law.nd rfl (by first | exact Or.inl rfl | exact Or.inr rfl) (d_call C_L_orders (hr.mono (by decide)) (by rfl) (d_cons (d_var 2) d_nil))) (b_cons (s_if (t_cmp (o_eq hu) rfl (d_bin o_mod rfl (d_bin o_fdiv rfl (d_ix (d_var 1) d_int (fun _ _ => rfl)) d_int) d_int) d_int (nomark _)) (b_cons (s_asg sc_law.nd rfl (by first | exact Or.inl rfl | exact Or.inr rfl) (d_bin o_add rfl d_int (d_bin o_mod rfl (d_bin o_fdiv rfl (d_ix (d_var 1) d_int (fun _ _ => rfl)) d_int) d_int))) (b_cons (s_setLcF (i := 3) [("_law_k", 13)] rfl sc_law.nd rfl rfl (sw_true rfl rfl rfl (by decide +kernel)) (i_rng1 (by rfl) B.b_range d_int) (blkOk_by (own := [("_law_k", 13)]) (N := n_law) (sc := defScope s_law) (by decide +kernel)) (fun _ _ _ _ _ => (g_nm 13 sc_law.nd rfl (by first | exact Or.inl rfl | exact Or.inr rfl))) (fun _ _ _ _ _ => f_nil) (fun _ _ _ _ _ => (d_call C_L_order (hr.mono (by decide)) (by rfl) (d_cons (d_ix (d_var 1) (d_bin o_add rfl d_int (d_var 13)) (fun _ _ => rfl)) (d_cons (d_var 2) d_nil))))) b_nil)) b_nil) (b_cons (s_asgF sc_law.nd rfl (by first | exact Or.inl rfl | exact Or.inr rfl) (d_call C_L_pairs (hr.mono (by decide)) (by rfl) (d_cons (d_var 1) (d_cons d_int (d_cons (d_var 2) (d_cons d_int (d_cons d_bl d_nil))))))) (b_cons (s_if (t_cmp (o_eq hu) rfl (d_bin o_mod rfl (d_bin o_fdiv rfl (d_ix (d_var 1) d_int (fun _ _ => rfl)) d_int) d_int) d_int (nomark _)) (b_cons (s_asgF sc_law.nd rfl (by first | exact Or.inl rfl | exact Or.inr rfl) (d_sl (d_bin o_mul rfl (d_var 4) d_int) p_none (p_some d_int))) b_nil) b_nil) (b_cons (s_asg sc_law.nd rfl (by first | exact Or.inl rfl | exact Or.inr rfl) (d_make C_Network (hr.mono (by decide)) (by rfl) (d_cons (d_var 2) (d_cons (d_var 4) d_nil)))) (b_cons (s_asg sc_law.nd rfl (by first | exact Or.inl rfl | exact Or.inr rfl) d_int) (b_cons (s_asg sc_law.nd rfl (by first | exact Or.inl rfl | exact Or.inr rfl) d_int) (b_cons (s_for PassesOwn.never rfl (i_seq (d_var 3)) (g_nm 8 sc_law.nd rfl (by first | exact Or.inl rfl | exact Or.inr rfl)) (b_cons (s_asg sc_law.nd rfl (by first | exact Or.inl rfl | exact Or.inr rfl) (d_call C_L_run (hr.mono (by decide)) (by rfl) (d_cons (d_var 4) (d_cons (d_var 8) d_nil)))) (b_cons (s_for PassesOwn.never rfl (i_rng1 (by rfl) B.b_range (d_var 2)) (g_nm 10 sc_law.nd rfl (by first | exact Or.inl rfl | exact Or.inr rfl)) (b_cons (s_asg sc_law.nd rfl (by first | exact Or.inl rfl | exact Or.inr rfl) (d_blt (c_max rfl) (by rfl) B.b_max (by decide +kernel) (d_cons (d_var 6) (d_cons (d_bin o_sub rfl (d_var 10) (d_ix (d_var 9) (d_var 10) (fun _ _ => rfl))) d_nil)))) (b_cons (s_asg sc_law.nd rfl (by first | exact Or.inl rfl | exact Or.inr rfl) (d_blt (c_max rfl) (by rfl) B.b_max (by decide +kernel) (d_cons (d_var 7) (d_cons (d_bin o_sub rfl (d_ix (d_var 9) (d_var 10) (fun _ _ => rfl)) (d_var 10)) d_nil)))) b_nil))) b_nil))) (b_cons (s_asgF sc_law.nd rfl (by first | exact Or.inl rfl | exact Or.inr rfl) (d_lst (d_cons (d_call C_late (hr.mono (by decide)) (by rfl) (d_cons (d_var 5) d_nil)) (d_cons (d_call C_early (hr.mono (by decide)) (by rfl) (d_cons (d_var 5) d_nil)) d_nil)))) (b_cons (s_if (t_w (w_or (t_val (d_isi "bool" (by rfl) B.b_isinstance (by rfl) B.b_bool (d_ix (d_var 11) d_int (fun _ _ => rfl)))) (w_or1 (t_val (d_isi "bool" (by rfl) B.b_isinstance (by rfl) B.b_bool (d_ix (d_var 11) d_int (fun _ _ => rfl))))))) (b_cons (s_retF d_bl) b_nil) b_nil) (b_cons (s_asg sc_law.nd rfl (by first | exact Or.inl rfl | exact Or.inr rfl) (d_cmp (o_eq hu) rfl (d_blt (c_len) (by rfl) B.b_len (by decide +kernel) (d_cons (d_lc [("_law_row_here", 14)] rfl sc_law.nd (i_seq (d_call C_L_plain (hr.mono (by decide)) (by rfl) (d_cons (d_var 2) d_nil))) (blkOk_by (own := [("_law_row_here", 14)]) (N := n_law) (sc := defScope s_law) (by decide +kernel)) (fun _ _ _ _ _ => (g_nm 14 sc_law.nd rfl (by first | exact Or.inl rfl | exact Or.inr rfl))) (fun _ _ _ _ _ => (f_one (t_cmp (o_ne hu) rfl (d_call C_L_run (hr.mono (by decide)) (by rfl) (d_cons (d_var 4) (d_cons (d_var 14) d_nil))) (d_ty (c_tuple) (by rfl) B.b_tuple (by decide +kernel) (d_cons (d_prB c_sortF (by rfl) B.b_sorted (by decide +kernel) (d_cons (d_var 14) d_nil)) d_nil)) (nomark _)))) (fun _ _ _ _ _ => (d_var 14))) d_nil)) d_int (nomark _))) (b_cons (s_if (t_cmp (o_ne hu) rfl (d_cmp (o_eq hu) rfl (d_var 11) (d_lst (d_cons d_int (d_cons d_int d_nil))) (nomark _)) (d_var 12) (nomark _)) (b_cons (s_retF d_bl) b_nil) b_nil) (b_cons (s_if (t_cmp (o_ne hu) rfl (d_var 11) (d_call C_L_by_plain (hr.mono (by decide)) (by rfl) (d_cons (d_var 4) (d_cons (d_var 2) d_nil))) (nomark _)) (b_cons (s_retF d_bl) b_nil) b_nil) (b_cons (s_if (t_cmp (o_gt) rfl (d_var 2) d_int (nomark _)) (b_cons (s_retF (d_and (d_cmp (o_ge) rfl (d_ix (d_var 11) d_int (fun _ _ => rfl)) (d_var 6) (nomark _)) (d_one (d_cmp (o_ge) rfl (d_ix (d_var 11) d_int (fun _ _ => rfl)) (d_var 7) (nomark _))))) b_nil) b_nil) (b_cons (s_retF (d_cmp (o_eq hu) rfl (d_var 11) (d_lst (d_cons (d_var 6) (d_cons (d_var 7) d_nil))) (nomark _))) b_nil)))))))))))))))))
end
def F_Network : FS := initFn 0 (e_Network___init__) (c_Network___init__) 6
def F_Network_run : FS := runFn 0 (c_Network_run) 5 2
def F_Network_runN : FS := runFnN 0 (c_Network_runN) (e_Network_runN) 5 2
def F_plain_rows : FS := runFn 0 (c_plain_rows) 5 1
def F_noughts : FS := runFn 0 (c_noughts) 2 1
def F_late : FS := runFn 0 (c_late F_plain_rows F_noughts F_Network_run) 8 1
def F_early : FS := runFn 0 (c_early F_plain_rows F_noughts F_Network_runN) 5 1
def F_L_numbers : FS := runFn 0 (c_L_numbers) 7 2
def F_L_pairs : FS := runFn 0 (c_L_pairs) 10 5
def F_L_run : FS := runFn 0 (c_L_run) 5 2
def F_L_plain : FS := runFn 0 (c_L_plain) 5 1
def F_L_order : FS := runFn 0 (c_L_order) 6 2
def F_L_orders : FS := runFn 0 (c_L_orders) 6 1
def F_L_by_plain : FS := runFn 0 (c_L_by_plain F_L_plain F_L_run) 9 2
def F_law : FS := runFn 0 (c_law F_L_numbers F_L_orders F_L_order F_L_pairs F_Network F_L_run F_late F_early F_L_plain F_L_by_plain) 15 1
end Pf
namespace Pe
open Vs Pf
def I_num (s : List Int) (c : Nat) (bd : Bool) (i : Nat) (e : Env) : Prop := ∃ (r : Int) (ns : List Int) (x y : Sl), e = [.sh (.scr s), .sh (.int c), .sh (.int r), .sh (.bl bd), .ow (ns.map .int), x, y] ∧ ns.length = i ∧ ∀ n ∈ ns, 0 ≤ n ∧ n < 1000000
theorem st_num (s : List Int) (c : Nat) (hc : c ≤ 1000) (bd : Bool) (i : Nat) (sl : Sl) (env : Env) (hs : ((rngD 0 c).map Sl.sh)[i]? = some sl) (hI : I_num s c bd i env) : ∃ e1 e2, SG.bind (.nm 5) sl env = some e1 ∧ evB 0 b_L_numbers_1 e1 [] = some (.nx e2 []) ∧ I_num s c bd (i + 1) e2 := by
  obtain ⟨r, ns, x, y, rfl, hl, hb⟩ := hI
  obtain ⟨hi, rfl⟩ := rng_at hs
  rw [Int.zero_add]
  refine ⟨[.sh (.scr s), .sh (.int c), .sh (.int r), .sh (.bl bd), .ow (ns.map .int), .sh (.int i), y], ?_⟩
  have hz : sizeOk ((ns.map D.int).length + 1) = true := by simp [sizeOk]; omega
  have fin : ∀ (k r' : Int) (z : Sl), 0 ≤ k ∧ k < 1000000 → I_num s c bd (i + 1) [.sh (.scr s), .sh (.int c), .sh (.int r'), .sh (.bl bd), .ow (ns.map .int ++ [.int k]), .sh (.int i), z] := fun k r' z hk => by
    refine ⟨r', ns ++ [k], .sh (.int i), z, by simp, by simp [hl], fun n hn => ?_⟩
    rcases List.mem_append.mp hn with hn | hn
    · exact hb n hn
    · rw [List.mem_singleton.mp hn]; exact hk
  have hc0 : evT (.and (.val (.var 3)) (.val (.op .gt (.cons (.var 2) (.cons (.cst (.int 0)) .nil))))) [.sh (.scr s), .sh (.int c), .sh (.int r), .sh (.bl bd), .ow (ns.map .int), .sh (.int i), y] [] = some (bd && decide (0 < r), []) := by
    (repeat' (first | rfl | with_reducible assumption | with_reducible apply ev_cons | with_reducible apply ev_op | with_reducible apply ev_prim | with_reducible apply ev_ix | with_reducible apply ev_tup | with_reducible apply ev_lst | with_reducible apply ev_val | with_reducible apply ev_not | with_reducible apply ev_and | with_reducible apply ev_or | with_reducible apply ev_b | with_reducible apply ev_asg | with_reducible apply ev_asgF | with_reducible apply ev_app | with_reducible apply ev_set | with_reducible apply ev_var | with_reducible apply ev_cst | with_reducible apply op_mod | with_reducible apply op_fdiv | with_reducible apply ix_scr | with_reducible apply ix_lst | decide | omega | intro _))
  cases hd : (bd && decide (0 < r)) with
  | true =>
    rw [hd] at hc0
    refine ⟨_, rfl, ev_b (ev_ifT hc0 ?_) ev_b0, fin (r % 1000000) (r / 1000000) y (mod_b _ _ (by decide))⟩
    (repeat' (first | rfl | with_reducible assumption | with_reducible apply ev_cons | with_reducible apply ev_op | with_reducible apply ev_prim | with_reducible apply ev_ix | with_reducible apply ev_tup | with_reducible apply ev_lst | with_reducible apply ev_val | with_reducible apply ev_not | with_reducible apply ev_and | with_reducible apply ev_or | with_reducible apply ev_b | with_reducible apply ev_asg | with_reducible apply ev_asgF | with_reducible apply ev_app | with_reducible apply ev_set | with_reducible apply ev_var | with_reducible apply ev_cst | with_reducible apply op_mod | with_reducible apply op_fdiv | with_reducible apply ix_scr | with_reducible apply ix_lst | decide | omega | intro _))
  | false =>
    rw [hd] at hc0
    have tail : ∀ cl : Int, evB 0 (.cons (.app 4 (.op .mod (.cons (.op .mod (.cons (.op .mul (.cons (.op .mod (.cons (.op .mul (.cons (.var 6) (.cons (.cst (.int 48271)) .nil))) (.cons (.cst (.int 2147483647)) .nil))) (.cons (.cst (.int 69621)) .nil))) (.cons (.cst (.int 2147483629)) .nil))) (.cons (.cst (.int 1000000)) .nil)))) .nil) [.sh (.scr s), .sh (.int c), .sh (.int r), .sh (.bl bd), .ow (ns.map .int), .sh (.int i), .sh (.int cl)] [] = some (.nx [.sh (.scr s), .sh (.int c), .sh (.int r), .sh (.bl bd), .ow (ns.map .int ++ [.int (cl * 48271 % 2147483647 * 69621 % 2147483629 % 1000000)]), .sh (.int i), .sh (.int cl)] []) := by
      intro cl
      apply ev_b
      apply ev_app
      apply ev_op
      apply ev_cons
      apply ev_op
      apply ev_cons
      apply ev_op
      apply ev_cons
      apply ev_op
      apply ev_cons
      apply ev_op
      rfl
      rfl
      exact op_mulR (by decide)
      rfl
      rfl
      rfl
      rfl
      rfl
      exact op_mulR (by decide)
      all_goals first | rfl | (repeat' (first | rfl | with_reducible assumption | with_reducible apply ev_cons | with_reducible apply ev_op | with_reducible apply ev_prim | with_reducible apply ev_ix | with_reducible apply ev_tup | with_reducible apply ev_lst | with_reducible apply ev_val | with_reducible apply ev_not | with_reducible apply ev_and | with_reducible apply ev_or | with_reducible apply ev_b | with_reducible apply ev_asg | with_reducible apply ev_asgF | with_reducible apply ev_app | with_reducible apply ev_set | with_reducible apply ev_var | with_reducible apply ev_cst | with_reducible apply op_mod | with_reducible apply op_fdiv | with_reducible apply ix_scr | with_reducible apply ix_lst | decide | omega | intro _))
    have hb1 : ∃ b1 : Bool, decide ((0 : Int) < s.length) = b1 := ⟨_, rfl⟩
    have hc1 : evT (.val (.op .gt (.cons (.op .len (.cons (.var 0) .nil)) (.cons (.cst (.int 0)) .nil)))) [.sh (.scr s), .sh (.int c), .sh (.int r), .sh (.bl bd), .ow (ns.map .int), .sh (.int i), .sh (.int 13)] [] = some (decide ((0 : Int) < s.length), []) := by rfl
    by_cases h0 : 0 < s.length
    · have hm : ((i : Int) % (s.length : Int)) = ((i % s.length : Nat) : Int) := by omega
      have hlt : i % s.length < s.length := Nat.mod_lt _ h0
      have hat : L2.atI s ((i : Int) % (s.length : Int)) = some s[i % s.length] := by rw [hm, atI_nat, List.getElem?_eq_getElem hlt]
      have h0' : (0 : Int) < s.length := by omega
      rw [decide_eq_true h0'] at hc1
      refine ⟨_, rfl, ev_b (ev_ifF hc0 (ev_b (ev_asg (ev_cst rfl) rfl (by simp)) (ev_b (ev_ifT hc1 (ev_b (ev_asg (r := .sh (.int (s[i % s.length] + 7919 * i))) ?_ rfl (by simp)) ev_b0)) (tail _)))) ev_b0, fin _ r _ (mod_b _ _ (by decide))⟩
      (repeat' (first | rfl | with_reducible assumption | with_reducible apply ev_cons | with_reducible apply ev_op | with_reducible apply ev_prim | with_reducible apply ev_ix | with_reducible apply ev_tup | with_reducible apply ev_lst | with_reducible apply ev_val | with_reducible apply ev_not | with_reducible apply ev_and | with_reducible apply ev_or | with_reducible apply ev_b | with_reducible apply ev_asg | with_reducible apply ev_asgF | with_reducible apply ev_app | with_reducible apply ev_set | with_reducible apply ev_var | with_reducible apply ev_cst | with_reducible apply op_mod | with_reducible apply op_fdiv | with_reducible apply ix_scr | with_reducible apply ix_lst | decide | omega | intro _))
    · have h0' : ¬ (0 : Int) < s.length := by omega
      rw [decide_eq_false h0'] at hc1
      exact ⟨_, rfl, ev_b (ev_ifF hc0 (ev_b (ev_asg (ev_cst rfl) rfl (by simp)) (ev_b (ev_ifF hc1 ev_b0) (tail 13)))) ev_b0, fin _ r _ (mod_b _ _ (by decide))⟩
theorem numbers_ev (s : List Int) (c : Nat) (hc : c ≤ 1000) : ∃ ns : List Int, F_L_numbers.fn [.sh (.scr s), .sh (.int c)] [] = some (.sh (.lst (ns.map .int)), []) ∧ ns.length = c ∧ ∀ n ∈ ns, 0 ≤ n ∧ n < 1000000 := by
  have hr : okR (c : Int) = true := by simp only [okR, decide_eq_true_eq]; omega
  have main : ∀ r : Int, ∃ ns : List Int, ∃ e', evB 0 (.cons (.asg (.nm 3) (.op .ge (.cons (.var 2) (.cons (.op .pow (.cons (.cst (.int 10)) (.cons (.cst (.int 18)) .nil))) .nil)))) (.cons (.asg (.nm 4) (.lst false .nil)) (.cons (.for (.rng1 (.var 1)) (.nm 5) b_L_numbers_1) (.cons (.retF (.var 4)) .nil)))) [.sh (.scr s), .sh (.int c), .sh (.int r), .un, .un, .un, .un] [] = some (.rt (.sh (.lst (ns.map .int))) e' []) ∧ ns.length = c ∧ ∀ n ∈ ns, 0 ≤ n ∧ n < 1000000 := by
    intro r
    obtain ⟨e', hf, r', ns, x, y, rfl, hl, hb⟩ := forGo_inv0 (I_num s c (decide (10 ^ 18 ≤ r))) ((rngD 0 c).map Sl.sh) (fun i sl env hs hI => st_num s c hc _ i sl env hs hI) [.sh (.scr s), .sh (.int c), .sh (.int r), .sh (.bl (decide (10 ^ 18 ≤ r))), .ow [], .un, .un] ⟨r, [], .un, .un, rfl, rfl, by simp⟩
    refine ⟨ns, _, ev_b (e1 := [.sh (.scr s), .sh (.int c), .sh (.int r), .sh (.bl (decide (10 ^ 18 ≤ r))), .un, .un, .un]) (by rfl) (ev_b (by rfl) (ev_b (ev_for (ev_rng1 (by rfl) hr) hf) (ev_br (ev_retV rfl rfl rfl)))), by simpa [rngD] using hl, hb⟩
  by_cases h0 : 0 < s.length
  · obtain ⟨ns, e', h1, h2⟩ := main s[0]
    refine ⟨ns, ?_, h2⟩
    have hc1 : evT (.val (.op .gt (.cons (.op .len (.cons (.var 0) .nil)) (.cons (.cst (.int 0)) .nil)))) [.sh (.scr s), .sh (.int c), .sh (.int 0), .un, .un, .un, .un] [] = some (true, []) := by
      rw [show (true : Bool) = decide ((0 : Int) < s.length) by simp; omega]
      rfl
    have hat : L2.atI s 0 = some s[0] := by
      have := atI_nat s 0
      simpa [h0] using this
    refine run_rt rfl (e := e') ?_
    refine ev_b (e1 := [.sh (.scr s), .sh (.int c), .sh (.int 0), .un, .un, .un, .un]) (by rfl) (ev_b (ev_ifT hc1 (ev_b (ev_asg (r := .sh (.int s[0])) ?_ rfl (by simp)) ev_b0)) h1)
    (repeat' (first | rfl | with_reducible assumption | with_reducible apply ev_cons | with_reducible apply ev_op | with_reducible apply ev_prim | with_reducible apply ev_ix | with_reducible apply ev_tup | with_reducible apply ev_lst | with_reducible apply ev_val | with_reducible apply ev_not | with_reducible apply ev_and | with_reducible apply ev_or | with_reducible apply ev_b | with_reducible apply ev_asg | with_reducible apply ev_asgF | with_reducible apply ev_app | with_reducible apply ev_set | with_reducible apply ev_var | with_reducible apply ev_cst | with_reducible apply op_mod | with_reducible apply op_fdiv | with_reducible apply ix_scr | with_reducible apply ix_lst | decide | omega | intro _))
  · obtain ⟨ns, e', h1, h2⟩ := main 0
    refine ⟨ns, run_rt rfl (e := e') ?_, h2⟩
    have hc1 : evT (.val (.op .gt (.cons (.op .len (.cons (.var 0) .nil)) (.cons (.cst (.int 0)) .nil)))) [.sh (.scr s), .sh (.int c), .sh (.int 0), .un, .un, .un, .un] [] = some (false, []) := by
      rw [← decide_eq_false (show ¬ (0 : Int) < s.length by omega)]
      rfl
    exact ev_b (e1 := [.sh (.scr s), .sh (.int c), .sh (.int 0), .un, .un, .un, .un]) (by rfl) (ev_b (ev_ifF hc1 ev_b0) h1)
/-! the pairs -/
def PairOk (w : Int) (std : Bool) (p : Int × Int) : Prop := 0 ≤ p.1 ∧ p.1 < w ∧ 0 ≤ p.2 ∧ p.2 < w ∧ p.1 ≠ p.2 ∧ (std = true → p.1 < p.2)
def I_prs (ns : List Int) (pl w m : Int) (std : Bool) (i : Nat) (e : Env) : Prop := ∃ (ps : List (Int × Int)) (a b c d : Sl), e = [.sh (.lst (ns.map .int)), .sh (.int pl), .sh (.int w), .sh (.int m), .sh (.bl std), .ow (ps.map pairD), a, b, c, d] ∧ ps.length = i ∧ ∀ p ∈ ps, PairOk w std p
theorem st_prs {ns : List Int} {pl w m : Int} {std : Bool} {n : Nat} (hn : ∀ x ∈ ns, 0 ≤ x) (hw : 2 ≤ w ∧ w ≤ 1000) (hpl : 0 ≤ pl ∧ pl + 1 + (n / 3 : Nat) < ns.length) (hnn : n ≤ 1000) (i : Nat) (sl : Sl) (env : Env) (hs : ((rngD 0 n).map Sl.sh)[i]? = some sl) (hI : I_prs ns pl w m std i env) :
    ∃ e1 e2, SG.bind (.nm 6) sl env = some e1 ∧ evB 0 b_L_pairs_1 e1 [] = some (.nx e2 []) ∧ I_prs ns pl w m std (i + 1) e2 := by
  obtain ⟨ps, a, b, c, d, rfl, hl, hb⟩ := hI
  obtain ⟨hi, rfl⟩ := rng_at hs
  rw [Int.zero_add]
  have hz : sizeOk ((ps.map pairD).length + 1) = true := sz_of (by simp; omega)
  obtain ⟨v, hv, hv'⟩ := atI_nn (xs := ns) (k := pl + 1 + (i : Int) / 3) (by omega) (by omega)
  have hv0 : 0 ≤ v := hn v (List.mem_of_getElem? hv')
  have hvD := atI_mapI hv
  -- the divisor
  have hdv : ∃ q : Int, 0 < q ∧ q < 1073741824 ∧ L2.atI ([.int 1, .int 97, .int 9409] : List D) ((i : Int) % 3) = some (.int q) := by
    have h3 : (i : Int) % 3 = 0 ∨ (i : Int) % 3 = 1 ∨ (i : Int) % 3 = 2 := by omega
    rcases h3 with h | h | h <;> rw [h]
    · exact ⟨1, by decide, by decide, rfl⟩
    · exact ⟨97, by decide, by decide, rfl⟩
    · exact ⟨9409, by decide, by decide, rfl⟩
  obtain ⟨q, hq0, hq1, hqa⟩ := hdv
  refine ⟨[.sh (.lst (ns.map .int)), .sh (.int pl), .sh (.int w), .sh (.int m), .sh (.bl std), .ow (ps.map pairD), .sh (.int i), b, c, d], ?_⟩
  have fin : ∀ (p : Int × Int) (x y z : Sl), PairOk w std p → I_prs ns pl w m std (i + 1) [.sh (.lst (ns.map .int)), .sh (.int pl), .sh (.int w), .sh (.int m), .sh (.bl std), .ow (ps.map pairD ++ [pairD p]), .sh (.int i), x, y, z] := fun p x y z hp =>
    ⟨ps ++ [p], .sh (.int i), x, y, z, by simp, by simp [hl], fun p' hp' => (List.mem_append.mp hp').elim (hb p') (fun h => by rw [List.mem_singleton.mp h]; exact hp)⟩
  -- the places
  obtain ⟨o0, o1⟩ := mod_b (v / q) w (by omega)
  obtain ⟨t0, t1⟩ := mod_b (v / q / w) (w - 1) (by omega)
  have hw0 : 0 < w := by omega
  have hw1 : w < 1073741824 := by omega
  have hw2 : 0 < w - 1 := by omega
  generalize hone : v / q % w = one at o0 o1
  generalize htwo : v / q / w % (w - 1) = two at t0 t1
  have s1 : evS 0 (.asg (.nm 7) (.op .fdiv (.cons (.ix (.var 0) (.op .add (.cons (.op .add (.cons (.var 1) (.cons (.cst (.int 1)) .nil))) (.cons (.op .fdiv (.cons (.var 6) (.cons (.cst (.int 3)) .nil))) .nil)))) (.cons (.ix (.lst false (.cons (.cst (.int 1)) (.cons (.cst (.int 97)) (.cons (.cst (.int 9409)) .nil)))) (.op .mod (.cons (.var 6) (.cons (.cst (.int 3)) .nil)))) .nil)))) [.sh (.lst (ns.map .int)), .sh (.int pl), .sh (.int w), .sh (.int m), .sh (.bl std), .ow (ps.map pairD), .sh (.int i), b, c, d] [] = some (.nx [.sh (.lst (ns.map .int)), .sh (.int pl), .sh (.int w), .sh (.int m), .sh (.bl std), .ow (ps.map pairD), .sh (.int i), .sh (.int (v / q)), c, d] []) := by
    refine ev_asg (r := .sh (.int (v / q))) (ev_op (ev_cons (ev_ix (k := pl + 1 + (i : Int) / 3) (by rfl) (by rfl) (ix_lst hvD)) (ev_cons (ev_ix (k := (i : Int) % 3) (by rfl) (by rfl) (ix_fr hqa)) ev_nil)) rfl (op_fdiv ⟨hq0, hq1⟩)) rfl (by simp)
  have s2 : evS 0 (.asg (.nm 8) (.op .mod (.cons (.var 7) (.cons (.var 2) .nil)))) [.sh (.lst (ns.map .int)), .sh (.int pl), .sh (.int w), .sh (.int m), .sh (.bl std), .ow (ps.map pairD), .sh (.int i), .sh (.int (v / q)), c, d] [] = some (.nx [.sh (.lst (ns.map .int)), .sh (.int pl), .sh (.int w), .sh (.int m), .sh (.bl std), .ow (ps.map pairD), .sh (.int i), .sh (.int (v / q)), .sh (.int one), d] []) := by
    rw [← hone]; exact ev_asg (r := .sh (.int (v / q % w))) (ev_op (by rfl) rfl (op_mod hw0)) rfl (by simp)
  have s3 : evS 0 (.asg (.nm 9) (.op .mod (.cons (.op .fdiv (.cons (.var 7) (.cons (.var 2) .nil))) (.cons (.op .sub (.cons (.var 2) (.cons (.cst (.int 1)) .nil))) .nil)))) [.sh (.lst (ns.map .int)), .sh (.int pl), .sh (.int w), .sh (.int m), .sh (.bl std), .ow (ps.map pairD), .sh (.int i), .sh (.int (v / q)), .sh (.int one), d] [] = some (.nx [.sh (.lst (ns.map .int)), .sh (.int pl), .sh (.int w), .sh (.int m), .sh (.bl std), .ow (ps.map pairD), .sh (.int i), .sh (.int (v / q)), .sh (.int one), .sh (.int two)] []) := by
    rw [← htwo]; exact ev_asg (r := .sh (.int (v / q / w % (w - 1)))) (ev_op (ev_cons (ev_op (by rfl) rfl (op_fdiv ⟨hw0, hw1⟩)) (by rfl)) rfl (op_mod hw2)) rfl (by simp)
  have s4 : ∃ two' : Int, (0 ≤ two' ∧ two' < w ∧ two' ≠ one) ∧ evS 0 (.ifS (.val (.op .ge (.cons (.var 9) (.cons (.var 8) .nil)))) (.cons (.asg (.nm 9) (.op .add (.cons (.var 9) (.cons (.cst (.int 1)) .nil)))) .nil) .nil) [.sh (.lst (ns.map .int)), .sh (.int pl), .sh (.int w), .sh (.int m), .sh (.bl std), .ow (ps.map pairD), .sh (.int i), .sh (.int (v / q)), .sh (.int one), .sh (.int two)] [] = some (.nx [.sh (.lst (ns.map .int)), .sh (.int pl), .sh (.int w), .sh (.int m), .sh (.bl std), .ow (ps.map pairD), .sh (.int i), .sh (.int (v / q)), .sh (.int one), .sh (.int two')] []) := by
    have hc : evT (.val (.op .ge (.cons (.var 9) (.cons (.var 8) .nil)))) [.sh (.lst (ns.map .int)), .sh (.int pl), .sh (.int w), .sh (.int m), .sh (.bl std), .ow (ps.map pairD), .sh (.int i), .sh (.int (v / q)), .sh (.int one), .sh (.int two)] [] = some (decide (one ≤ two), []) := rfl
    by_cases h : one ≤ two
    · rw [decide_eq_true h] at hc
      exact ⟨two + 1, ⟨by omega, by omega, by omega⟩, ev_ifT hc (by rfl)⟩
    · rw [decide_eq_false h] at hc
      exact ⟨two, ⟨by omega, by omega, by omega⟩, ev_ifF hc (by rfl)⟩
  obtain ⟨two', ⟨h20, h21, h22⟩, s4⟩ := s4
  have hc5 : evT (.and (.val (.var 4)) (.val (.op .gt (.cons (.var 8) (.cons (.var 9) .nil))))) [.sh (.lst (ns.map .int)), .sh (.int pl), .sh (.int w), .sh (.int m), .sh (.bl std), .ow (ps.map pairD), .sh (.int i), .sh (.int (v / q)), .sh (.int one), .sh (.int two')] [] = some (std && decide (two' < one), []) := by (repeat' (first | rfl | with_reducible assumption | with_reducible apply ev_cons | with_reducible apply ev_op | with_reducible apply ev_prim | with_reducible apply ev_ix | with_reducible apply ev_tup | with_reducible apply ev_lst | with_reducible apply ev_val | with_reducible apply ev_not | with_reducible apply ev_and | with_reducible apply ev_or | with_reducible apply ev_b | with_reducible apply ev_asg | with_reducible apply ev_asgF | with_reducible apply ev_app | with_reducible apply ev_set | with_reducible apply ev_var | with_reducible apply ev_cst | with_reducible apply op_mod | with_reducible apply op_fdiv | with_reducible apply ix_scr | with_reducible apply ix_lst | decide | omega | intro _))
  cases hd : (std && decide (two' < one)) with
  | true =>
    rw [hd] at hc5
    simp only [Bool.and_eq_true, decide_eq_true_eq] at hd
    exact ⟨_, rfl, ev_b s1 (ev_b s2 (ev_b s3 (ev_b s4 (ev_b (ev_ifT hc5 (ev_b (ev_app (r := .sh (pairD (two', one))) (by rfl) rfl rfl hz) ev_b0)) ev_b0)))), fin (two', one) _ _ _ ⟨h20, h21, o0, o1, h22, fun _ => hd.2⟩⟩
  | false =>
    rw [hd] at hc5
    refine ⟨_, rfl, ev_b s1 (ev_b s2 (ev_b s3 (ev_b s4 (ev_b (ev_ifF hc5 (ev_b (ev_app (r := .sh (pairD (one, two'))) (by rfl) rfl rfl hz) ev_b0)) ev_b0)))), fin (one, two') _ _ _ ⟨o0, o1, h20, h21, fun h => h22 h.symm, fun hs => ?_⟩⟩
    subst hs
    simp only [Bool.true_and, decide_eq_false_iff_not] at hd
    show one < two'
    omega
theorem pairs_ev {ns : List Int} {pl w m : Int} {std : Bool} (hn : ∀ x ∈ ns, 0 ≤ x) (hw : 1 ≤ w ∧ w ≤ 1000) (hm : 0 ≤ m ∧ m ≤ 999) (hpl : 0 ≤ pl ∧ pl + 1 + m / 3 < ns.length) :
    ∃ ps : List (Int × Int), F_L_pairs.fn [.sh (.lst (ns.map .int)), .sh (.int pl), .sh (.int w), .sh (.int m), .sh (.bl std)] [] = some (.sh (.lst (ps.map pairD)), []) ∧ (ps.length : Int) ≤ m ∧ ∀ p ∈ ps, PairOk w std p := by
  have hc : evT (.val (.op .eq (.cons (.var 2) (.cons (.cst (.int 1)) .nil)))) [.sh (.lst (ns.map .int)), .sh (.int pl), .sh (.int w), .sh (.int m), .sh (.bl std), .ow [], .un, .un, .un, .un] [] = some (decide (w = 1), []) := rfl
  by_cases h1 : w = 1
  · rw [decide_eq_true h1] at hc
    exact ⟨[], run_rt rfl (ev_b (e1 := [.sh (.lst (ns.map .int)), .sh (.int pl), .sh (.int w), .sh (.int m), .sh (.bl std), .ow [], .un, .un, .un, .un]) (by rfl) (ev_br (ev_ifT hc (ev_br (ev_retV rfl rfl rfl))))), by simpa using hm.1, by simp⟩
  · rw [decide_eq_false h1] at hc
    obtain ⟨v, hv, hv'⟩ := atI_nn (xs := ns) (k := pl) (by omega) (by omega)
    obtain ⟨b0, b1⟩ := mod_b v (m + 1) (by omega)
    have hlt : (v % (m + 1)).toNat ≤ m.toNat := by omega
    obtain ⟨e', hf, ps, a, b, c, d, rfl, hl, hb⟩ := forGo_inv0 (I_prs ns pl w m std) ((rngD 0 (v % (m + 1)).toNat).map Sl.sh) (fun i sl env hs hI => st_prs hn (by omega) (by omega) (by omega) i sl env hs hI) [.sh (.lst (ns.map .int)), .sh (.int pl), .sh (.int w), .sh (.int m), .sh (.bl std), .ow [], .un, .un, .un, .un] ⟨[], .un, .un, .un, .un, rfl, rfl, by simp⟩
    refine ⟨ps, run_rt rfl (ev_b (e1 := [.sh (.lst (ns.map .int)), .sh (.int pl), .sh (.int w), .sh (.int m), .sh (.bl std), .ow [], .un, .un, .un, .un]) (by rfl) (ev_b (ev_ifF hc ev_b0) (ev_b (ev_for (ev_rng1 (j := v % (m + 1)) ?_ (okR_of (by omega))) hf) (ev_br (ev_retV rfl rfl rfl))))), by simp [rngD] at hl; omega, hb⟩
    exact ev_op (ev_cons (ev_ix (by rfl) (by rfl) (ix_lst (atI_mapI hv))) (ev_cons (by rfl) ev_nil)) rfl (op_mod (by omega))
end Pe
namespace Pe
open Vs Pf
/-! running a row through pairs -/
def cmpx (ns : List Int) (p : Int × Int) : List Int := (ns.set p.2.toNat (max (ns.getD p.1.toNat 0) (ns.getD p.2.toNat 0))).set p.1.toNat (min (ns.getD p.1.toNat 0) (ns.getD p.2.toNat 0))
def runL (ps : List (Int × Int)) (ns : List Int) : List Int := ps.foldl cmpx ns
theorem cmpx_len (ns : List Int) (p : Int × Int) : (cmpx ns p).length = ns.length := by simp [cmpx]
theorem runL_len : ∀ (ps : List (Int × Int)) (ns : List Int), (runL ps ns).length = ns.length
  | [], ns => rfl
  | p :: ps, ns => by
    show (runL ps (cmpx ns p)).length = _
    rw [runL_len ps, cmpx_len]
theorem map_set_int (ns : List Int) (i : Nat) (x : Int) : (ns.map D.int).set i (.int x) = (ns.set i x).map .int := by rw [List.map_set]
def PrOk (w : Nat) (p : Int × Int) : Prop := 0 ≤ p.1 ∧ p.1 < w ∧ 0 ≤ p.2 ∧ p.2 < w ∧ p.1 ≠ p.2
theorem pr_nat {w : Nat} {p : Int × Int} (h : PrOk w p) : ∃ i j : Nat, p = ((i : Int), (j : Int)) ∧ i < w ∧ j < w ∧ i ≠ j := by
  obtain ⟨h1, h2, h3, h4, h5⟩ := h
  obtain ⟨i, hi⟩ := Int.eq_ofNat_of_zero_le h1
  obtain ⟨j, hj⟩ := Int.eq_ofNat_of_zero_le h3
  refine ⟨i, j, by rw [← hi, ← hj], by omega, by omega, fun z => h5 (by rw [hi, hj, z])⟩
theorem ixN_nat {n i : Nat} (h : i < n) : L2.ixN n (i : Int) = some i := by
  unfold L2.ixN
  simp [h]
theorem at_int {ns : List Int} {i : Nat} (h : i < ns.length) : L2.atI (ns.map D.int) (i : Int) = some (.int (ns.getD i 0)) := by
  rw [atI_nat, List.getElem?_map, List.getElem?_eq_getElem h, Option.map_some, List.getD_eq_getElem?_getD, List.getElem?_eq_getElem h, Option.getD_some]
def I_run (ps : List (Int × Int)) (row : D) (ns : List Int) (i : Nat) (e : Env) : Prop := ∃ x y : Sl, e = [.sh (.lst (ps.map pairD)), .sh row, .ow ((runL (ps.take i) ns).map .int), x, y]
theorem runL_snoc (ps : List (Int × Int)) (p : Int × Int) (ns : List Int) : runL (ps ++ [p]) ns = cmpx (runL ps ns) p := by simp [runL]
theorem take_snoc {α : Type} {l : List α} {i : Nat} {x : α} (h : l[i]? = some x) : l.take (i + 1) = l.take i ++ [x] := by
  rw [List.take_add_one, h]
  rfl
theorem max_if (a b : Int) : (if b > a then b else a) = max a b := by omega
theorem min_if (a b : Int) : (if b < a then b else a) = min a b := by omega
theorem run_ev {ps : List (Int × Int)} {ns : List Int} (hp : ∀ p ∈ ps, PrOk ns.length p) (row : D) (hrow : row = .tup (ns.map .int) ∨ row = .lst (ns.map .int)) :
    F_L_run.fn [.sh (.lst (ps.map pairD)), .sh row] [] = some (.sh (.tup ((runL ps ns).map .int)), []) := by
  obtain ⟨e', hf, x, y, rfl⟩ := forGo_inv0 (g := .nm 3) (body := fun e t => evB 0 b_L_run_1 e t) (t := []) (I_run ps row ns) ((ps.map pairD).map Sl.sh) (fun i sl env hs hI => by
    obtain ⟨x, y, rfl⟩ := hI
    obtain ⟨p, hpi, rfl⟩ := map_at hs
    have hmem := List.mem_of_getElem? hpi
    obtain ⟨a, b, rfl, ha, hb, hab⟩ := pr_nat (hp p hmem)
    generalize hc : runL (ps.take i) ns = c
    have hlen : c.length = ns.length := by rw [← hc]; exact runL_len _ _
    have e1 := at_int (ns := c) (i := a) (by omega)
    have e2 := at_int (ns := c) (i := b) (by omega)
    have hI' : I_run ps row ns (i + 1) [.sh (.lst (ps.map pairD)), .sh row, .ow ((cmpx c ((a : Int), (b : Int))).map .int), .sh (pairD ((a : Int), (b : Int))), .sh (.int (min (c.getD a 0) (c.getD b 0)))] := ⟨_, _, by rw [take_snoc hpi, runL_snoc, hc]⟩
    refine ⟨[.sh (.lst (ps.map pairD)), .sh row, .ow (c.map .int), .sh (pairD ((a : Int), (b : Int))), y], _, rfl, ?_, hI'⟩
    have s1 : evS 0 (.asg (.nm 4) (.op .min (.cons (.ix (.var 2) (.ix (.var 3) (.cst (.int 0)))) (.cons (.ix (.var 2) (.ix (.var 3) (.cst (.int 1)))) .nil)))) [.sh (.lst (ps.map pairD)), .sh row, .ow (c.map .int), .sh (pairD ((a : Int), (b : Int))), y] [] = some (.nx [.sh (.lst (ps.map pairD)), .sh row, .ow (c.map .int), .sh (pairD ((a : Int), (b : Int))), .sh (.int (min (c.getD a 0) (c.getD b 0)))] []) := by
      rw [← min_if]
      exact ev_asg (ev_op (ev_cons (ev_ix (by rfl) (by rfl) (ix_bw e1)) (ev_cons (ev_ix (by rfl) (by rfl) (ix_bw e2)) ev_nil)) rfl rfl) rfl (by simp)
    have s2 : evS 0 (.set 2 (.ix (.var 3) (.cst (.int 1))) (.op .max (.cons (.ix (.var 2) (.ix (.var 3) (.cst (.int 0)))) (.cons (.ix (.var 2) (.ix (.var 3) (.cst (.int 1)))) .nil)))) [.sh (.lst (ps.map pairD)), .sh row, .ow (c.map .int), .sh (pairD ((a : Int), (b : Int))), .sh (.int (min (c.getD a 0) (c.getD b 0)))] [] = some (.nx [.sh (.lst (ps.map pairD)), .sh row, .ow ((c.set b (max (c.getD a 0) (c.getD b 0))).map .int), .sh (pairD ((a : Int), (b : Int))), .sh (.int (min (c.getD a 0) (c.getD b 0)))] []) := by
      rw [← map_set_int, ← max_if]
      exact ev_set (ev_op (ev_cons (ev_ix (by rfl) (by rfl) (ix_bw e1)) (ev_cons (ev_ix (by rfl) (by rfl) (ix_bw e2)) ev_nil)) rfl rfl) rfl (by rfl) rfl (by rw [List.length_map]; exact ixN_nat (by omega))
    refine ev_b s1 (ev_b s2 (ev_fz (by rfl) (by rfl) (ev_b (e1 := [.sh (.lst (ps.map pairD)), .sh row, .ow ((cmpx c ((a : Int), (b : Int))).map .int), .sh (pairD ((a : Int), (b : Int))), .sh (.int (min (c.getD a 0) (c.getD b 0)))]) ?_ (by rfl))))
    have e3 : (cmpx c ((a : Int), (b : Int))).map D.int = ((c.set b (max (c.getD a 0) (c.getD b 0))).map D.int).set a (.int (min (c.getD a 0) (c.getD b 0))) := by rw [map_set_int]; rfl
    rw [e3]
    exact ev_set (by rfl) rfl (by rfl) rfl (by rw [List.length_map, List.length_set]; exact ixN_nat (by omega))) [.sh (.lst (ps.map pairD)), .sh row, .ow (ns.map .int), .un, .un] ⟨.un, .un, rfl⟩
  have hfull : (ps.take ((ps.map pairD).map Sl.sh).length) = ps := by simp
  rw [hfull] at hf
  rcases hrow with rfl | rfl
  · exact run_rt rfl (ev_b (e1 := [.sh (.lst (ps.map pairD)), .sh (.tup (ns.map .int)), .ow (ns.map .int), .un, .un]) (by rfl) (ev_b (ev_for (ev_seqL (by rfl)) hf) (ev_br (ev_retF (by simp) (by rfl) rfl))))
  · exact run_rt rfl (ev_b (e1 := [.sh (.lst (ps.map pairD)), .sh (.lst (ns.map .int)), .ow (ns.map .int), .un, .un]) (by rfl) (ev_b (ev_for (ev_seqL (by rfl)) hf) (ev_br (ev_retF (by simp) (by rfl) rfl))))
end Pe
namespace Pe
open Vs Pf
abbrev cmpD (ps : List (Int × Int)) : D := .tup (ps.map pairD)
/-! Network(..) -/
theorem lc_shd (ds : List D) : collect false (ds.map .sh) = some (.fr ds) := by simp only [collect, shds_sh]; rfl
theorem init_ev {w : Nat} {ps : List (Int × Int)} (hw : 1 ≤ w) (hp : ∀ p ∈ ps, PrOk w p) (hl : ps.length ≤ 1000) :
    F_Network.fn [.sh (.int w), .sh (.lst (ps.map pairD))] [] = some (.sh (.net w (cmpD ps)), []) := by
  have hlc : lcGo (.nm 5) (fun e t => evT .yes e t) (fun e t => el1 (evE (.op .tuple (.cons (.var 5) .nil)) e t)) (envWipe [.un, .sh (.int w), .sh (.lst (ps.map pairD)), .un, .un, .un] [5]) ((ps.map pairD).map .sh) [] = some ((ps.map pairD).map .sh, []) := by
    rw [lcGo_map (fun _ => true) (fun s => match s with | .sh d => .sh d | _ => .tp) _ fun s hs => ?_]
    · rw [List.filter_eq_self.mpr (by simp), List.map_map]
      rfl
    · simp only [List.mem_map] at hs
      obtain ⟨d, ⟨p, _, rfl⟩, rfl⟩ := hs
      exact ⟨_, rfl, rfl, fun _ => by rfl⟩
  have hE : evE e_Network___init__ [.un, .sh (.int w), .sh (.lst (ps.map pairD)), .un, .un, .un] [] = some (.sh (cmpD ps), []) :=
    ev_op (ev_cons (ev_lc (ev_seqL (by rfl)) rfl hlc (sz_of (by simp; omega)) (lc_shd _)) ev_nil) rfl rfl
  have h0 : evT (.val (.op .lt (.cons (.var 1) (.cons (.cst (.int 1)) .nil)))) [.sh (.net w (cmpD ps)), .sh (.int w), .sh (.lst (ps.map pairD)), .un, .un, .un] [] = some (false, []) := by
    rw [← decide_eq_false (show ¬ ((w : Int) < 1) by omega)]
    rfl
  obtain ⟨e', hf, -⟩ := forGo_inv0 (g := .tp2 (.nm 3) (.nm 4)) (body := fun e t => evB 0 b_Network___init___1 e t) (t := []) (fun i e => ∃ x y z : Sl, e = [.sh (.net w (cmpD ps)), .sh (.int w), .sh (.lst (ps.map pairD)), x, y, z]) ((ps.map pairD).map Sl.sh) (fun i sl env hs hI => by
    obtain ⟨x, y, z, rfl⟩ := hI
    obtain ⟨p, hpi, rfl⟩ := map_at hs
    obtain ⟨h1, h2, h3, h4, h5⟩ := hp p (List.mem_of_getElem? hpi)
    refine ⟨[.sh (.net w (cmpD ps)), .sh (.int w), .sh (.lst (ps.map pairD)), .sh (.int p.1), .sh (.int p.2), z], _, rfl, ev_b (ev_ifF ?_ ev_b0) ev_b0, ⟨_, _, _, rfl⟩⟩
    have c1 : evE (.chain .le .lt (.cst (.int 0)) (.var 3) (.var 1)) [.sh (.net w (cmpD ps)), .sh (.int w), .sh (.lst (ps.map pairD)), .sh (.int p.1), .sh (.int p.2), z] [] = some (.sh (.bl true), []) := by
      have := ev_chain (o1 := .le) (o2 := .lt) (a := .cst (.int 0)) (b := .var 3) (c := .var 1) (env := [.sh (.net w (cmpD ps)), .sh (.int w), .sh (.lst (ps.map pairD)), .sh (.int p.1), .sh (.int p.2), z]) (tp := []) (t1 := []) (da := .int 0) (db := .int p.1) (dc := .int w) rfl rfl rfl rfl (fun _ => rfl) (fun _ => rfl)
      rw [decide_eq_true h1, decide_eq_true h2] at this
      exact this
    have c2 : evE (.chain .le .lt (.cst (.int 0)) (.var 4) (.var 1)) [.sh (.net w (cmpD ps)), .sh (.int w), .sh (.lst (ps.map pairD)), .sh (.int p.1), .sh (.int p.2), z] [] = some (.sh (.bl true), []) := by
      have := ev_chain (o1 := .le) (o2 := .lt) (a := .cst (.int 0)) (b := .var 4) (c := .var 1) (env := [.sh (.net w (cmpD ps)), .sh (.int w), .sh (.lst (ps.map pairD)), .sh (.int p.1), .sh (.int p.2), z]) (tp := []) (t1 := []) (da := .int 0) (db := .int p.2) (dc := .int w) rfl rfl rfl rfl (fun _ => rfl) (fun _ => rfl)
      rw [decide_eq_true h3, decide_eq_true h4] at this
      exact this
    have c3 : evT (.val (.op .eq (.cons (.var 3) (.cons (.var 4) .nil)))) [.sh (.net w (cmpD ps)), .sh (.int w), .sh (.lst (ps.map pairD)), .sh (.int p.1), .sh (.int p.2), z] [] = some (false, []) := by
      rw [← decide_eq_false h5]
      rfl
    exact ev_or (x := false) (y := false) (ev_not (x := true) (ev_val c1)) fun _ => ev_or (x := false) (y := false) (ev_not (x := true) (ev_val c2)) fun _ => c3) [.sh (.net w (cmpD ps)), .sh (.int w), .sh (.lst (ps.map pairD)), .un, .un, .un] ⟨_, _, _, rfl⟩
  have hB : evB 0 c_Network___init__ [.sh (.net w (cmpD ps)), .sh (.int w), .sh (.lst (ps.map pairD)), .un, .un, .un] [] = some (.nx e' []) :=
    ev_b (ev_ifF h0 ev_b0) (ev_b (ev_for (ev_seqT (by rfl)) hf) ev_b0)
  show (match evE e_Network___init__ [.un, .sh (.int w), .sh (.lst (ps.map pairD)), .un, .un, .un] [] with
    | some (.sh cs, t1) => match evB 0 c_Network___init__ [.sh (.net w cs), .sh (.int w), .sh (.lst (ps.map pairD)), .un, .un, .un] t1 with
      | some (.nx _ t2) => some (Rv.sh (.net w cs), t2)
      | _ => none
    | _ => none) = _
  rw [hE]
  show (match evB 0 c_Network___init__ [.sh (.net w (cmpD ps)), .sh (.int w), .sh (.lst (ps.map pairD)), .un, .un, .un] [] with
      | some (.nx _ t2) => some (Rv.sh (.net w (cmpD ps)), t2)
      | _ => none) = _
  rw [hB]
/-! network.run(row) -/
def I_nrun (w : Int) (ps : List (Int × Int)) (ns : List Int) (i : Nat) (e : Env) : Prop := ∃ x y : Sl, e = [.sh (.net w (cmpD ps)), .sh (rowD ns), .ow ((runL (ps.take i) ns).map .int), x, y]
theorem cmpx_eq (c : List Int) (a b : Nat) (hab : a ≠ b) : cmpx c ((a : Int), (b : Int)) = if c.getD b 0 < c.getD a 0 then (c.set a (c.getD b 0)).set b (c.getD a 0) else cmpx c ((a : Int), (b : Int)) := by
  split
  · rename_i h
    show (c.set b (max (c.getD a 0) (c.getD b 0))).set a (min (c.getD a 0) (c.getD b 0)) = _
    rw [Int.max_eq_left (by omega), Int.min_eq_right (by omega), List.set_comm _ _ hab.symm]
  · rfl
theorem set_self (c : List Int) (a : Nat) : c.set a (c.getD a 0) = c := by
  apply List.ext_getElem?
  intro j
  by_cases h : a = j
  · subst h
    by_cases ha : a < c.length
    · simp [List.getElem?_set_self ha, List.getD_eq_getElem?_getD, ha]
    · rw [List.getElem?_eq_none (by simp; omega), List.getElem?_eq_none (by omega)]
  · rw [List.getElem?_set_ne h]
theorem cmpx_not (c : List Int) (a b : Nat) (h : ¬ c.getD b 0 < c.getD a 0) : cmpx c ((a : Int), (b : Int)) = c := by
  show (c.set b (max (c.getD a 0) (c.getD b 0))).set a (min (c.getD a 0) (c.getD b 0)) = _
  rw [Int.max_eq_right (by omega), Int.min_eq_left (by omega), set_self, set_self]
theorem nrun_loop {w : Int} {ps : List (Int × Int)} {ns : List Int} (hp : ∀ p ∈ ps, PrOk ns.length p) : ∃ e', forGo (.tp2 (.nm 3) (.nm 4)) (fun e t => evB 0 b_Network_run_1 e t) ((ps.map pairD).map .sh) [.sh (.net w (cmpD ps)), .sh (rowD ns), .ow (ns.map .int), .un, .un] [] = some (.nx e' []) ∧ ∃ x y : Sl, e' = [.sh (.net w (cmpD ps)), .sh (rowD ns), .ow ((runL ps ns).map .int), x, y] := by
  obtain ⟨e', hf, x, y, rfl⟩ := forGo_inv0 (g := .tp2 (.nm 3) (.nm 4)) (body := fun e t => evB 0 b_Network_run_1 e t) (t := []) (I_nrun w ps ns) ((ps.map pairD).map Sl.sh) (fun i sl env hs hI => by
    obtain ⟨x, y, rfl⟩ := hI
    obtain ⟨p, hpi, rfl⟩ := map_at hs
    obtain ⟨a, b, rfl, ha, hb, hab⟩ := pr_nat (hp p (List.mem_of_getElem? hpi))
    generalize hc : runL (ps.take i) ns = c
    have hlen : c.length = ns.length := by rw [← hc]; exact runL_len _ _
    have e1 := at_int (ns := c) (i := a) (by omega)
    have e2 := at_int (ns := c) (i := b) (by omega)
    have hI' : ∀ c', c' = cmpx c ((a : Int), (b : Int)) → I_nrun w ps ns (i + 1) [.sh (.net w (cmpD ps)), .sh (rowD ns), .ow (c'.map .int), .sh (.int a), .sh (.int b)] := fun c' h => ⟨.sh (.int a), .sh (.int b), by rw [take_snoc hpi, runL_snoc, hc, h]⟩
    have hcd : evT (.val (.op .gt (.cons (.ix (.var 2) (.var 3)) (.cons (.ix (.var 2) (.var 4)) .nil)))) [.sh (.net w (cmpD ps)), .sh (rowD ns), .ow (c.map .int), .sh (.int a), .sh (.int b)] [] = some (decide (c.getD b 0 < c.getD a 0), []) :=
      ev_val (ev_op (ev_cons (ev_ix (by rfl) (by rfl) (ix_bw e1)) (ev_cons (ev_ix (by rfl) (by rfl) (ix_bw e2)) ev_nil)) rfl rfl)
    by_cases h : c.getD b 0 < c.getD a 0
    · rw [decide_eq_true h] at hcd
      refine ⟨_, _, rfl, ev_b (ev_ifT hcd (ev_b (e1 := [.sh (.net w (cmpD ps)), .sh (rowD ns), .ow (((c.set a (c.getD b 0)).set b (c.getD a 0)).map .int), .sh (.int a), .sh (.int b)]) ?_ ev_b0)) ev_b0, hI' _ (by rw [cmpx_eq c a b hab, if_pos h])⟩
      have hx : evE (.ix (.var 2) (.var 4)) [.sh (.net w (cmpD ps)), .sh (rowD ns), .ow (c.map .int), .sh (.int a), .sh (.int b)] [] = some (.sh (.int (c.getD b 0)), []) := ev_ix (by rfl) (by rfl) (ix_bw e2)
      have hy : evE (.ix (.var 2) (.var 3)) [.sh (.net w (cmpD ps)), .sh (rowD ns), .ow (c.map .int), .sh (.int a), .sh (.int b)] [] = some (.sh (.int (c.getD a 0)), []) := ev_ix (by rfl) (by rfl) (ix_bw e1)
      have ja : L2.ixN (c.map D.int).length (a : Int) = some a := by rw [List.length_map]; exact ixN_nat (by omega)
      have jb : L2.ixN (c.map D.int).length (b : Int) = some b := by rw [List.length_map]; exact ixN_nat (by omega)
      rw [← map_set_int, ← map_set_int]
      exact ev_swap hx hy (by rfl) (by rfl) ja (by rfl) jb
    · rw [decide_eq_false h] at hcd
      exact ⟨_, _, rfl, ev_b (ev_ifF hcd ev_b0) ev_b0, hI' _ (cmpx_not c a b h).symm⟩) [.sh (.net w (cmpD ps)), .sh (rowD ns), .ow (ns.map .int), .un, .un] ⟨.un, .un, rfl⟩
  have hfull : (ps.take ((ps.map pairD).map Sl.sh).length) = ps := by simp
  rw [hfull] at hf
  exact ⟨_, hf, _, _, rfl⟩
theorem nrun_ev {w : Int} {ps : List (Int × Int)} {ns : List Int} (hp : ∀ p ∈ ps, PrOk ns.length p) : F_Network_run.fn [.sh (.net w (cmpD ps)), .sh (rowD ns)] [] = some (.sh (rowD (runL ps ns)), []) := by
  obtain ⟨_, hf, x, y, rfl⟩ := nrun_loop (w := w) hp
  exact run_rt rfl (ev_b (e1 := [.sh (.net w (cmpD ps)), .sh (rowD ns), .ow (ns.map .int), .un, .un]) (by rfl) (ev_b (ev_for (ev_seqT (by rfl)) hf) (ev_br (ev_retF (by simp) (by rfl) rfl))))
theorem nrunN_ev {w : Int} {ps : List (Int × Int)} {ns : List Int} (hp : ∀ p ∈ ps, PrOk ns.length p) : F_Network_runN.fn [.sh (.net w (cmpD ps)), .sh (rowD ns)] [] = some (.sh (rowD (runL ps ns)), []) := by
  obtain ⟨_, hf, x, y, rfl⟩ := nrun_loop (w := w) hp
  have hB : evB 0 c_Network_runN [.sh (.net w (cmpD ps)), .sh (rowD ns), .un, .un, .un] [] = some (.nx [.sh (.net w (cmpD ps)), .sh (rowD ns), .ow ((runL ps ns).map .int), x, y] []) :=
    ev_b (e1 := [.sh (.net w (cmpD ps)), .sh (rowD ns), .ow (ns.map .int), .un, .un]) (by rfl) (ev_b (ev_for (ev_seqT (by rfl)) hf) ev_b0)
  show (match evB 0 c_Network_runN [.sh (.net w (cmpD ps)), .sh (rowD ns), .un, .un, .un] [] with
    | some (.nx e1 t1) => match evE e_Network_runN e1 t1 with
      | some (r, t2) => match r.av with
        | some (.lst ds) => some (Rv.sh (.tup ds), t2)
        | _ => none
      | none => none
    | _ => none) = _
  rw [hB]
  rfl
end Pe
namespace Pe
open Vs Pf
/-! all rows -/
def rowsL : Nat → List (List Int)
  | 0 => [[]]
  | n + 1 => (rowsL n).flatMap fun r => [r ++ [0], r ++ [1]]
theorem flat2_len : ∀ L : List (List Int), (L.flatMap fun r => [r ++ [(0 : Int)], r ++ [(1 : Int)]]).length = 2 * L.length
  | [] => rfl
  | r :: L => by
    rw [List.flatMap_cons, List.length_append, flat2_len L]
    simp
    omega
theorem rowsL_len : ∀ n, (rowsL n).length = 2 ^ n
  | 0 => rfl
  | n + 1 => by
    rw [rowsL, flat2_len, rowsL_len n]
    omega
theorem rowsL_row : ∀ {n : Nat} {r : List Int}, r ∈ rowsL n → r.length = n
  | 0, r, h => by simp [rowsL] at h; simp [h]
  | n + 1, r, h => by
    rw [rowsL, List.mem_flatMap] at h
    obtain ⟨r', h1, h2⟩ := h
    have := rowsL_row h1
    simp at h2
    rcases h2 with rfl | rfl <;> simp [this]
theorem pow_small {n : Nat} (h : n ≤ 10) : 2 ^ n ≤ 1024 := by
  have := Nat.pow_le_pow_right (n := 2) (by decide) h
  omega
theorem rowD_snoc (r : List Int) (k : Int) : (r.map D.int) ++ [.int k] = (r ++ [k]).map .int := by simp
def Rpl : Sl → List Rv
  | .sh (.tup ds) => [.sh (.tup (ds ++ [.int 0])), .sh (.tup (ds ++ [.int 1]))]
  | _ => []
theorem flat_rpl (L : List (List Int)) : ((L.map rowD).map Sl.sh).flatMap Rpl = ((L.flatMap fun r => [r ++ [0], r ++ [1]]).map rowD).map Rv.sh := by
  induction L with
  | nil => rfl
  | cons r L ih =>
    simp only [List.map_cons, List.flatMap_cons, List.map_append, ih]
    simp [Rpl]
theorem plain_rows_ev {w : Nat} (hw : w ≤ 10) : F_plain_rows.fn [.sh (.int w)] [] = some (.sh (.lst ((rowsL w).map rowD)), []) := by
  obtain ⟨e', hf, x, rfl⟩ := forGo_inv0 (g := .nm 2) (body := fun e t => evB 0 b_plain_rows_1 e t) (t := []) (fun i e => ∃ x : Sl, e = [.sh (.int w), .ow ((rowsL i).map rowD), x, .un, .un]) ((rngD 0 w).map Sl.sh) (fun i sl env hs hI => by
    obtain ⟨x, rfl⟩ := hI
    obtain ⟨hi, rfl⟩ := rng_at hs
    refine ⟨[.sh (.int w), .ow ((rowsL i).map rowD), .sh (.int (0 + (i : Nat))), .un, .un], _, rfl, ev_b (ev_asg (r := .fr ((rowsL (i + 1)).map rowD)) (ev_lc2 (rs := ((rowsL (i + 1)).map rowD).map .sh) (ev_seqB (by rfl)) rfl ?_ (sz_of ?_) (lc_shd _)) rfl (by simp)) ev_b0, ⟨_, rfl⟩⟩
    · rw [lcGo_flat Rpl _ fun s hs => ?_]
      · rw [flat_rpl]; rfl
      · simp only [List.mem_map] at hs
        obtain ⟨d, ⟨r, hr, rfl⟩, rfl⟩ := hs
        have hl := rowsL_row hr
        refine ⟨[.sh (.int w), .ow ((rowsL i).map rowD), .sh (.int (0 + (i : Nat))), .sh (rowD r), .un], rfl, rfl, ?_⟩
        show lcGo (.nm 4) _ _ _ [.sh (.int 0), .sh (.int 1)] [] = _
        refine (lcGo_map (fun _ => true) (fun s => match s with | .sh d => .sh (.tup (r.map .int ++ [d])) | _ => .tp) _ fun s hs => ?_).trans (by rfl)
        simp only [List.mem_cons, List.not_mem_nil, or_false] at hs
        rcases hs with rfl | rfl
        · exact ⟨_, rfl, rfl, fun _ => ev_el (ev_op (by rfl) rfl (op_catT (sz_of (by simp; omega)))) rfl⟩
        · exact ⟨_, rfl, rfl, fun _ => ev_el (ev_op (by rfl) rfl (op_catT (sz_of (by simp; omega)))) rfl⟩
    · have h1 := rowsL_len (i + 1)
      have h2 := pow_small (n := i + 1) (by omega)
      simp only [List.length_map]
      omega) [.sh (.int w), .ow ((rowsL 0).map rowD), .un, .un, .un] ⟨_, rfl⟩
  have hlen : ((rngD 0 w).map Sl.sh).length = w := by simp [rngD]
  rw [hlen] at hf
  exact run_rt rfl (ev_b (e1 := [.sh (.int w), .ow ((rowsL 0).map rowD), .un, .un, .un]) (by rfl) (ev_b (ev_for (ev_rng1 (j := w) (by rfl) (okR_of (by omega))) hf) (ev_br (ev_retV rfl rfl rfl))))
theorem inner_plain (w : Nat) (i : Nat) (L : List (List Int)) (hL : ∀ r ∈ L, r.length ≤ 10) (hlen : L.length ≤ 1024) (k : Sl) (x : Sl) : ∃ e', forGo (.nm 4) (fun e t => evB 0 b_L_plain_2 e t) ((L.map rowD).map Sl.sh) [.sh (.int w), .sh (.lst (L.map rowD)), k, .ow [], x] [] = some (.nx e' []) ∧
    ∃ y, e' = [.sh (.int w), .sh (.lst (L.map rowD)), k, .ow ((L.flatMap fun r => [r ++ [0], r ++ [1]]).map rowD), y] := by
  obtain ⟨e', hf, y, rfl⟩ := forGo_inv0 (g := .nm 4) (body := fun e t => evB 0 b_L_plain_2 e t) (t := []) (fun j e => ∃ y, e = [.sh (.int w), .sh (.lst (L.map rowD)), k, .ow (((L.take j).flatMap fun r => [r ++ [0], r ++ [1]]).map rowD), y]) ((L.map rowD).map Sl.sh) (fun j sl env hs hI => by
    obtain ⟨y, rfl⟩ := hI
    obtain ⟨r, hr, rfl⟩ := map_at hs
    have hrl := hL r (List.mem_of_getElem? hr)
    have hj : j < L.length := (List.getElem?_eq_some_iff.mp hr).1
    have hz : sizeOk (((((L.take j).flatMap fun r => [r ++ [0], r ++ [1]]).map rowD)).length + [rowD (r ++ [0]), rowD (r ++ [1])].length) = true := sz_of (by
      simp only [List.length_map, flat2_len, List.length_cons, List.length_nil, List.length_take]
      omega)
    have e0 : evE (.op .add (.cons (.var 4) (.cons (.tup (.cons (.cst (.int 0)) .nil)) .nil))) [.sh (.int w), .sh (.lst (L.map rowD)), k, .ow (((L.take j).flatMap fun r => [r ++ [0], r ++ [1]]).map rowD), .sh (rowD r)] [] = some (.sh (rowD (r ++ [0])), []) := by
      rw [show rowD (r ++ [0]) = .tup (r.map .int ++ [.int 0]) by simp]
      exact ev_op (by rfl) rfl (op_catT (sz_of (by simp; omega)))
    have e1 : evE (.op .add (.cons (.var 4) (.cons (.tup (.cons (.cst (.int 1)) .nil)) .nil))) [.sh (.int w), .sh (.lst (L.map rowD)), k, .ow (((L.take j).flatMap fun r => [r ++ [0], r ++ [1]]).map rowD), .sh (rowD r)] [] = some (.sh (rowD (r ++ [1])), []) := by
      rw [show rowD (r ++ [1]) = .tup (r.map .int ++ [.int 1]) by simp]
      exact ev_op (by rfl) rfl (op_catT (sz_of (by simp; omega)))
    refine ⟨_, _, rfl, ev_b (ev_asg (r := .fr _) (ev_op (ev_cons (by rfl) (ev_cons (ev_lst (ev_cons e0 (ev_cons e1 ev_nil)) rfl rfl) ev_nil)) rfl (op_catL hz)) rfl (by simp)) ev_b0, ⟨.sh (rowD r), ?_⟩⟩
    rw [take_snoc hr, List.flatMap_append]
    simp) [.sh (.int w), .sh (.lst (L.map rowD)), k, .ow [], x] ⟨x, rfl⟩
  have hfull : (L.take ((L.map rowD).map Sl.sh).length) = L := by simp
  rw [hfull] at hf
  exact ⟨_, hf, _, rfl⟩
theorem L_plain_ev {w : Nat} (hw : w ≤ 10) : F_L_plain.fn [.sh (.int w)] [] = some (.sh (.lst ((rowsL w).map rowD)), []) := by
  obtain ⟨e', hf, d, hd, x, y, z, rfl⟩ := forGo_inv0 (g := .nm 2) (body := fun e t => evB 0 b_L_plain_1 e t) (t := []) (fun i e => ∃ d, frzSl d = some (.sh (.lst ((rowsL i).map rowD))) ∧ ∃ x y z : Sl, e = [.sh (.int w), d, x, y, z]) ((rngD 0 w).map Sl.sh) (fun i sl env hs hI => by
    obtain ⟨d, hd, x, y, z, rfl⟩ := hI
    obtain ⟨hi, rfl⟩ := rng_at hs
    obtain ⟨_, hf, y', rfl⟩ := inner_plain w i (rowsL i) (fun r hr => by rw [rowsL_row hr]; omega) (by rw [rowsL_len]; exact pow_small (by omega)) (.sh (.int (0 + (i : Nat)))) z
    refine ⟨[.sh (.int w), d, .sh (.int (0 + (i : Nat))), y, z], [.sh (.int w), .sh (.lst ((rowsL (i + 1)).map rowD)), .sh (.int (0 + (i : Nat))), .sh (.lst ((rowsL (i + 1)).map rowD)), y'], rfl, ?_, ⟨_, rfl, _, _, _, rfl⟩⟩
    exact ev_b (e1 := [.sh (.int w), d, .sh (.int (0 + (i : Nat))), .ow [], z]) (by rfl) (ev_fz (by rfl) hd (ev_b (ev_for (ev_seqL (by rfl)) hf) (ev_fz (by rfl) (by rfl) (ev_b (ev_asg (by rfl) rfl (by simp)) ev_b0)))))
    [.sh (.int w), .ow ((rowsL 0).map rowD), .un, .un, .un] ⟨_, rfl, _, _, _, rfl⟩
  have hlen : ((rngD 0 w).map Sl.sh).length = w := by simp [rngD]
  rw [hlen] at hd
  have hfin : ∃ e2, evS 0 (.retF (.var 1)) [.sh (.int w), d, x, y, z] [] = some (.rt (.sh (.lst ((rowsL w).map rowD))) e2 []) := by
    cases d with
    | sh d =>
      simp only [frzSl, Option.some.injEq, Sl.sh.injEq] at hd
      subst hd
      exact ⟨_, by rfl⟩
    | ow ds =>
      simp only [frzSl, Option.some.injEq, Sl.sh.injEq, D.lst.injEq] at hd
      subst hd
      exact ⟨_, by rfl⟩
    | nt ts =>
      simp only [frzSl, Option.some.injEq] at hd
      exact ⟨_, ev_retV (r := .nf ts) rfl rfl (by simpa [Rv.shd] using hd)⟩
    | un => cases hd
    | bw _ => cases hd
    | tp => cases hd
    | nb _ => cases hd
  obtain ⟨e2, hfin⟩ := hfin
  exact run_rt rfl (ev_b (e1 := [.sh (.int w), .ow ((rowsL 0).map rowD), .un, .un, .un]) (by rfl) (ev_b (ev_for (ev_rng1 (j := w) (by rfl) (okR_of (by omega))) hf) (ev_br hfin)))
/-! noughts -/
def zerosL (r : List Int) : Nat := (r.filter (· == 0)).length
theorem noughts_lc (r : List Int) (env : Env) (i : Nat) (hi : i < env.length) : lcGo (.nm i) (fun e t => evT (.val (.op .eq (.cons (.var i) (.cons (.cst (.int 0)) .nil)))) e t) (fun e t => el1 (evE (.var i) e t)) env ((r.map D.int).map .sh) [] = some (((r.filter (· == 0)).map D.int).map .sh, []) := by
  rw [lcGo_map (Pin (· == 0)) R0 _ fun s hs => ?_]
  · rw [filt_ints]
  · simp only [List.mem_map] at hs
    obtain ⟨d, ⟨k, _, rfl⟩, rfl⟩ := hs
    have hg : (env.set i (.sh (.int k)))[i]? = some (.sh (.int k)) := by simp [hi]
    exact ⟨env.set i (.sh (.int k)), by simp [SG.bind, hi], by
      show evT _ (env.set i (.sh (.int k))) [] = some (decide (k = 0), [])
      exact ev_val (ev_op (ev_cons (ev_var hg rfl) (ev_cons (ev_cst rfl) ev_nil)) rfl rfl), fun _ => ev_el (ev_var hg rfl) rfl⟩
theorem filt_le {α : Type} (p : α → Bool) (l : List α) : (l.filter p).length ≤ l.length := List.length_filter_le _ _
theorem noughts_ev {r : List Int} (hr : r.length ≤ 1000) : F_noughts.fn [.sh (rowD r)] [] = some (.sh (.int (zerosL r)), []) := by
  have h := noughts_lc r [.sh (rowD r), .un] 1 (by simp)
  have hl := filt_le (· == 0) r
  refine run_rt rfl (ev_br (ev_retF (r := .sh (.int (zerosL r))) (by simp) (ev_op (ev_cons (ev_lc (ev_seqT (by rfl)) rfl h (sz_of (by simp; omega)) (lc_shd _)) ev_nil) rfl ?_) rfl))
  simp only [evOp, List.length_map]
  rfl
end Pe
namespace Pe
open Vs Pf
/-! runs keep what stands in the cells -/
theorem cmpx_perm {c : List Int} {a b : Nat} (ha : a < c.length) (hb : b < c.length) (hab : a ≠ b) : (cmpx c ((a : Int), (b : Int))).Perm c := by
  by_cases h : c.getD b 0 < c.getD a 0
  · rw [cmpx_eq c a b hab, if_pos h]
    have := List.set_set_perm (as := c) ha hb
    simpa [List.getD_eq_getElem?_getD, ha, hb] using this
  · rw [cmpx_not c a b h]
theorem runL_perm : ∀ {ps : List (Int × Int)} {c : List Int}, (∀ p ∈ ps, PrOk c.length p) → (runL ps c).Perm c
  | [], c, _ => List.Perm.refl _
  | p :: ps, c, h => by
    obtain ⟨a, b, rfl, ha, hb, hab⟩ := pr_nat (h p (by simp))
    show (runL ps (cmpx c _)).Perm c
    exact (runL_perm fun q hq => by rw [cmpx_len]; exact h q (by simp [hq])).trans (cmpx_perm ha hb hab)
theorem zerosL_perm {a b : List Int} (h : a.Perm b) : zerosL a = zerosL b := (h.filter _).length_eq
/-! places of a number -/
def idxs (v : Int) : Nat → List Int → List Int
  | _, [] => []
  | n, x :: xs => if x = v then (n : Int) :: idxs v (n + 1) xs else idxs v (n + 1) xs
theorem idxs_len (v : Int) : ∀ (n : Nat) (xs : List Int), (idxs v n xs).length = (xs.filter (· == v)).length
  | _, [] => rfl
  | n, x :: xs => by
    unfold idxs
    by_cases h : x = v
    · simp [h, idxs_len v (n + 1) xs]
    · simp [h, idxs_len v (n + 1) xs]
def Pen (v : Int) : Sl → Bool
  | .sh (.tup [_, .int k]) => k == v
  | _ => false
def Ren : Sl → Rv
  | .sh (.tup [d, _]) => .sh d
  | _ => .tp
theorem enum_filt (v : Int) : ∀ (n : Nat) (xs : List Int), ((((enumD n (xs.map D.int)).map Sl.sh).filter (Pen v)).map Ren) = ((idxs v n xs).map D.int).map Rv.sh
  | _, [] => rfl
  | n, x :: xs => by
    have ih := enum_filt v (n + 1) xs
    have hp : Pen v (.sh (.tup [.int n, .int x])) = (x == v) := rfl
    rw [List.map_cons, enumD, List.map_cons]
    unfold idxs
    by_cases h : x = v
    · rw [List.filter_cons_of_pos (by rw [hp]; simp [h]), if_pos h, List.map_cons, List.map_cons, List.map_cons, ih]
      rfl
    · rw [List.filter_cons_of_neg (by rw [hp]; simp [h]), if_neg h, ih]
theorem range_idxs (v : Int) : ∀ (n : Nat) (xs : List Int), idxs v n xs = ((List.range' n xs.length).filter fun i => xs.getD (i - n) 0 == v).map fun i : Nat => (i : Int)
  | _, [] => rfl
  | n, x :: xs => by
    have ih := range_idxs v (n + 1) xs
    rw [List.length_cons, List.range'_succ, List.filter_cons]
    have e : ((List.range' (n + 1) xs.length).filter fun i => (x :: xs).getD (i - n) 0 == v) = (List.range' (n + 1) xs.length).filter fun i => xs.getD (i - (n + 1)) 0 == v := by
      refine List.filter_congr fun i hi => ?_
      have hi' := (List.mem_range'_1.mp hi).1
      obtain ⟨k, rfl⟩ : ∃ k, i = n + 1 + k := ⟨i - (n + 1), by omega⟩
      rw [show n + 1 + k - n = k + 1 by omega, show n + 1 + k - (n + 1) = k by omega]
      rfl
    unfold idxs
    rw [ih, e]
    by_cases h : x = v
    · simp [h]
    · simp [h]
theorem range_idxs0 (v : Int) (xs : List Int) : idxs v 0 xs = ((List.range xs.length).filter fun i => xs.getD i 0 == v).map fun i : Nat => (i : Int) := by
  rw [range_idxs, List.range_eq_range']
  simp
/-! late -/
def lateS (ps : List (Int × Int)) (m : Int) (r : List Int) : Int := if 0 < zerosL r then max m (maxI (idxs 0 0 (runL ps r)) - ((zerosL r : Int) - 1)) else m
def lateL (ps : List (Int × Int)) (w : Nat) : Int := (rowsL w).foldl (lateS ps) 0
theorem idxs_ne {v : Int} {n : Nat} {xs : List Int} (h : 0 < (xs.filter (· == v)).length) : ∃ m ns, idxs v n xs = m :: ns := by
  have := idxs_len v n xs
  cases e : idxs v n xs with
  | nil => rw [e] at this; simp at this; omega
  | cons m ns => exact ⟨m, ns, rfl⟩
theorem late_ev {w : Nat} {ps : List (Int × Int)} (hw : w ≤ 10) (hp : ∀ p ∈ ps, PrOk w p) : F_late.fn [.sh (.net w (cmpD ps))] [] = some (.sh (.int (lateL ps w)), []) := by
  obtain ⟨e', hf, a, b, c, d, x, y, rfl⟩ := forGo_inv0 (g := .nm 2) (body := fun e t => evB 0 (b_late_1 F_noughts F_Network_run) e t) (t := []) (fun i e => ∃ a b c d x y : Sl, e = [.sh (.net w (cmpD ps)), .sh (.int (((rowsL w).take i).foldl (lateS ps) 0)), a, b, c, d, x, y]) (((rowsL w).map rowD).map Sl.sh) (fun i sl env hs hI => by
    obtain ⟨a, b, c, d, x, y, rfl⟩ := hI
    obtain ⟨r, hr, rfl⟩ := map_at hs
    have hrl := rowsL_row (List.mem_of_getElem? hr)
    generalize hm : ((rowsL w).take i).foldl (lateS ps) 0 = m
    have hnext : ((rowsL w).take (i + 1)).foldl (lateS ps) 0 = lateS ps m r := by rw [take_snoc hr, List.foldl_append, hm]; rfl
    have hpr : ∀ p ∈ ps, PrOk r.length p := by rw [hrl]; exact hp
    have s1 : evS 0 (.asg (.nm 3) (.call F_noughts (.cons (.var 2) .nil))) [.sh (.net w (cmpD ps)), .sh (.int m), .sh (rowD r), b, c, d, x, y] [] = some (.nx [.sh (.net w (cmpD ps)), .sh (.int m), .sh (rowD r), .sh (.int (zerosL r)), c, d, x, y] []) :=
      ev_asg (ev_call (rs := [.sh (rowD r)]) (t1 := []) (by rfl) (noughts_ev (by omega)) rfl) rfl (by simp)
    have hc : evT (.val (.op .gt (.cons (.var 3) (.cons (.cst (.int 0)) .nil)))) [.sh (.net w (cmpD ps)), .sh (.int m), .sh (rowD r), .sh (.int (zerosL r)), c, d, x, y] [] = some (decide ((0 : Int) < zerosL r), []) := rfl
    by_cases h : 0 < zerosL r
    · rw [decide_eq_true (show (0 : Int) < zerosL r by omega)] at hc
      have hz : zerosL (runL ps r) = zerosL r := zerosL_perm (runL_perm hpr)
      obtain ⟨k, ks, hks⟩ := idxs_ne (v := 0) (n := 0) (xs := runL ps r) (by show 0 < zerosL (runL ps r); omega)
      have hlc : lcGo (.tp2 (.nm 6) (.nm 7)) (fun e t => evT (.val (.op .eq (.cons (.var 7) (.cons (.cst (.int 0)) .nil)))) e t) (fun e t => el1 (evE (.var 6) e t)) (envWipe [.sh (.net w (cmpD ps)), .sh (.int m), .sh (rowD r), .sh (.int (zerosL r)), .sh (rowD (runL ps r)), d, x, y] [6, 7]) ((enumD 0 ((runL ps r).map D.int)).map .sh) [] = some (((idxs 0 0 (runL ps r)).map D.int).map .sh, []) := by
        rw [lcGo_map (Pen 0) Ren _ fun s hs => ?_, enum_filt]
        obtain ⟨j, hj⟩ := List.mem_iff_getElem?.mp hs
        rw [List.getElem?_map, Option.map_eq_some_iff] at hj
        obtain ⟨d', hd', rfl⟩ := hj
        have hj2 : j < ((runL ps r).map D.int).length := by
          rw [← enumD_len 0]
          exact (List.getElem?_eq_some_iff.mp hd').1
        have hget := enumD_get 0 ((runL ps r).map D.int) j _ (List.getElem?_eq_getElem hj2)
        rw [hd', List.getElem_map] at hget
        cases hget
        exact ⟨_, rfl, by rfl, fun _ => by rfl⟩
      have hlen : ((idxs 0 0 (runL ps r)).map D.int |>.map Rv.sh).length ≤ 1000000 := by
        rw [List.length_map, List.length_map, idxs_len]
        have := filt_le (· == (0 : Int)) (runL ps r)
        rw [runL_len] at this
        omega
      refine ⟨_, _, rfl, ev_b s1 (ev_b (ev_ifT hc (ev_b (e1 := [.sh (.net w (cmpD ps)), .sh (.int m), .sh (rowD r), .sh (.int (zerosL r)), .sh (rowD (runL ps r)), d, x, y]) (ev_asg (ev_meth (rs := [.sh (rowD r)]) (w := w) (cs := cmpD ps) (t1 := []) (t2 := []) (by decide) (by rfl) (by rfl) (nrun_ev hpr) rfl) rfl (by simp)) (ev_b (ev_asg (ev_op (ev_cons (ev_lc (ev_enumT (by rfl)) rfl hlc (sz_of hlen) (lc_shd _)) ev_nil) rfl (op_maxL (by rw [ints_map]; exact congrArg some hks))) rfl (by simp)) (ev_b (e1 := [.sh (.net w (cmpD ps)), .sh (.int (lateS ps m r)), .sh (rowD r), .sh (.int (zerosL r)), .sh (rowD (runL ps r)), .sh (.int (maxI (k :: ks))), x, y]) ?_ ev_b0)))) ev_b0), ⟨_, _, _, _, _, _, by rw [hnext]⟩⟩
      have : lateS ps m r = if (maxI (k :: ks) - ((zerosL r : Int) - 1)) > m then (maxI (k :: ks) - ((zerosL r : Int) - 1)) else m := by
        rw [lateS, if_pos h, hks, max_if]
      rw [this]
      exact ev_asg (by rfl) rfl (by simp)
    · rw [decide_eq_false (show ¬ (0 : Int) < zerosL r by omega)] at hc
      refine ⟨_, _, rfl, ev_b s1 (ev_b (ev_ifF hc ev_b0) ev_b0), ⟨_, _, _, _, _, _, by rw [hnext, lateS, if_neg h]⟩⟩) [.sh (.net w (cmpD ps)), .sh (.int 0), .un, .un, .un, .un, .un, .un] ⟨_, _, _, _, _, _, rfl⟩
  have hfull : ((rowsL w).take (((rowsL w).map rowD).map Sl.sh).length) = rowsL w := by simp
  rw [hfull] at hf
  exact run_rt rfl (ev_b (e1 := [.sh (.net w (cmpD ps)), .sh (.int 0), .un, .un, .un, .un, .un, .un]) (by rfl) (ev_b (ev_for (ev_seqL (ev_call (rs := [.sh (.int w)]) (t1 := []) (by rfl) (plain_rows_ev hw) rfl)) hf) (ev_br (ev_retV rfl rfl rfl))))
end Pe
namespace Pe
open Vs Pf
theorem rowsL_bits : ∀ {n : Nat} {r : List Int}, r ∈ rowsL n → ∀ x ∈ r, x = 0 ∨ x = 1
  | 0, r, h, x, hx => by simp [rowsL] at h; subst h; simp at hx
  | n + 1, r, h, x, hx => by
    rw [rowsL, List.mem_flatMap] at h
    obtain ⟨r', h1, h2⟩ := h
    have ih := rowsL_bits h1
    simp at h2
    rcases h2 with rfl | rfl
    · rcases List.mem_append.mp hx with h | h
      · exact ih x h
      · simp at h; exact .inl h
    · rcases List.mem_append.mp hx with h | h
      · exact ih x h
      · simp at h; exact .inr h
theorem one_in {r : List Int} (hb : ∀ x ∈ r, x = 0 ∨ x = 1) (h : zerosL r < r.length) : (1 : Int) ∈ r := by
  by_cases q : (1 : Int) ∈ r
  · exact q
  · exfalso
    have : r.filter (· == 0) = r := List.filter_eq_self.mpr fun x hx => by
      rcases hb x hx with h | h
      · simp [h]
      · subst h; exact absurd hx q
    unfold zerosL at h
    rw [this] at h
    omega
def earlyS (w : Nat) (ps : List (Int × Int)) (m : Int) (r : List Int) : Int := if zerosL r < w then max m ((zerosL r : Int) - ((runL ps r).idxOf 1 : Nat)) else m
def earlyL (ps : List (Int × Int)) (w : Nat) : Int := (rowsL w).foldl (earlyS w ps) 0
theorem early_ev {w : Nat} {ps : List (Int × Int)} (hw : w ≤ 10) (hp : ∀ p ∈ ps, PrOk w p) : F_early.fn [.sh (.net w (cmpD ps))] [] = some (.sh (.int (earlyL ps w)), []) := by
  obtain ⟨e', hf, a, b, c, rfl⟩ := forGo_inv0 (g := .nm 2) (body := fun e t => evB 0 (b_early_1 F_noughts F_Network_runN) e t) (t := []) (fun i e => ∃ a b c : Sl, e = [.sh (.net w (cmpD ps)), .sh (.int (((rowsL w).take i).foldl (earlyS w ps) 0)), a, b, c]) (((rowsL w).map rowD).map Sl.sh) (fun i sl env hs hI => by
    obtain ⟨a, b, c, rfl⟩ := hI
    obtain ⟨r, hr, rfl⟩ := map_at hs
    have hrm := List.mem_of_getElem? hr
    have hrl := rowsL_row hrm
    generalize hm : ((rowsL w).take i).foldl (earlyS w ps) 0 = m
    have hnext : ((rowsL w).take (i + 1)).foldl (earlyS w ps) 0 = earlyS w ps m r := by rw [take_snoc hr, List.foldl_append, hm]; rfl
    have hpr : ∀ p ∈ ps, PrOk r.length p := by rw [hrl]; exact hp
    have s1 : evS 0 (.asg (.nm 3) (.call F_noughts (.cons (.var 2) .nil))) [.sh (.net w (cmpD ps)), .sh (.int m), .sh (rowD r), b, c] [] = some (.nx [.sh (.net w (cmpD ps)), .sh (.int m), .sh (rowD r), .sh (.int (zerosL r)), c] []) :=
      ev_asg (ev_call (rs := [.sh (rowD r)]) (t1 := []) (by rfl) (noughts_ev (by omega)) rfl) rfl (by simp)
    have hc : evT (.val (.op .lt (.cons (.var 3) (.cons (.fldW (.var 0)) .nil)))) [.sh (.net w (cmpD ps)), .sh (.int m), .sh (rowD r), .sh (.int (zerosL r)), c] [] = some (decide ((zerosL r : Int) < w), []) := rfl
    by_cases h : zerosL r < w
    · rw [decide_eq_true (show (zerosL r : Int) < w by omega)] at hc
      have h1 : (1 : Int) ∈ runL ps r := (runL_perm hpr).mem_iff.mpr (one_in (rowsL_bits hrm) (by omega))
      refine ⟨_, _, rfl, ev_b s1 (ev_b (ev_ifT hc (ev_b (e1 := [.sh (.net w (cmpD ps)), .sh (.int m), .sh (rowD r), .sh (.int (zerosL r)), .sh (.int ((runL ps r).idxOf 1 : Nat))]) (ev_asg (ev_mIdx (rs := [.sh (rowD r)]) (w := w) (cs := cmpD ps) (t1 := []) (t2 := []) (by rfl) (by rfl) (nrunN_ev hpr) (ints_map _) h1) rfl (by simp)) (ev_b (e1 := [.sh (.net w (cmpD ps)), .sh (.int (earlyS w ps m r)), .sh (rowD r), .sh (.int (zerosL r)), .sh (.int ((runL ps r).idxOf 1 : Nat))]) ?_ ev_b0))) ev_b0), ⟨_, _, _, by rw [hnext]⟩⟩
      have : earlyS w ps m r = if ((zerosL r : Int) - ((runL ps r).idxOf 1 : Nat)) > m then ((zerosL r : Int) - ((runL ps r).idxOf 1 : Nat)) else m := by
        rw [earlyS, if_pos h, max_if]
      rw [this]
      exact ev_asg (by rfl) rfl (by simp)
    · rw [decide_eq_false (show ¬ (zerosL r : Int) < w by omega)] at hc
      refine ⟨_, _, rfl, ev_b s1 (ev_b (ev_ifF hc ev_b0) ev_b0), ⟨_, _, _, by rw [hnext, earlyS, if_neg h]⟩⟩) [.sh (.net w (cmpD ps)), .sh (.int 0), .un, .un, .un] ⟨_, _, _, rfl⟩
  have hfull : ((rowsL w).take (((rowsL w).map rowD).map Sl.sh).length) = rowsL w := by simp
  rw [hfull] at hf
  exact run_rt rfl (ev_b (e1 := [.sh (.net w (cmpD ps)), .sh (.int 0), .un, .un, .un]) (by rfl) (ev_b (ev_for (ev_seqL (ev_call (rs := [.sh (.int w)]) (t1 := []) (by rfl) (plain_rows_ev hw) rfl)) hf) (ev_br (ev_retV rfl rfl rfl))))
/-! by the plain rows -/
theorem idxs_ge (v : Int) : ∀ (n : Nat) (xs : List Int), ∀ y ∈ idxs v n xs, (n : Int) ≤ y
  | n, [], y, h => by simp [idxs] at h
  | n, x :: xs, y, h => by
    unfold idxs at h
    by_cases e : x = v
    · rw [if_pos e] at h
      rcases List.mem_cons.mp h with h | h
      · omega
      · have := idxs_ge v (n + 1) xs y h; omega
    · rw [if_neg e] at h
      have := idxs_ge v (n + 1) xs y h; omega
theorem idxs_first (v : Int) : ∀ (n : Nat) (xs : List Int), v ∈ xs → ∃ ns, idxs v n xs = ((n + xs.idxOf v : Nat) : Int) :: ns ∧ ∀ y ∈ ns, ((n + xs.idxOf v : Nat) : Int) ≤ y
  | n, [], h => by simp at h
  | n, x :: xs, h => by
    unfold idxs
    by_cases e : x = v
    · subst e
      rw [if_pos rfl]
      refine ⟨idxs x (n + 1) xs, by simp, fun y hy => ?_⟩
      have := idxs_ge x (n + 1) xs y hy
      simp
      omega
    · rw [if_neg e]
      obtain ⟨ns, h1, h2⟩ := idxs_first v (n + 1) xs ((List.mem_cons.mp h).resolve_left fun z => e z.symm)
      have hi : (x :: xs).idxOf v = xs.idxOf v + 1 := by
        rw [List.idxOf_cons]
        have : (x == v) = false := by simp [e]
        simp [this]
      rw [hi]
      refine ⟨ns, ?_, fun y hy => ?_⟩
      · rw [h1]; congr 2; omega
      · have := h2 y hy; omega
theorem minI_first {m : Int} {ns : List Int} (h : ∀ y ∈ ns, m ≤ y) : minI (m :: ns) = m := (minI_of (by simp) (fun y hy => (List.mem_cons.mp hy).elim (fun e => by omega) (h y))).symm
theorem rng_lc (R : List Int) (v : Int) (w : Nat) (hw : R.length = w) (env : Env) (i j : Nat) (hi : i < env.length) (hij : i ≠ j) (hR : env[j]? = some (.sh (rowD R))) : lcGo (.nm i) (fun e t => evT (.val (.op .eq (.cons (.ix (.var j) (.var i)) (.cons (.cst (.int v)) .nil)))) e t) (fun e t => el1 (evE (.var i) e t)) env ((rngD 0 w).map .sh) [] = some (((idxs v 0 R).map D.int).map .sh, []) := by
  have e0 : rngD 0 w = ((List.range w).map fun k : Nat => (k : Int)).map D.int := by simp [rngD]
  rw [lcGo_map (Pin fun k => R.getD k.toNat 0 == v) R0 _ fun s hs => ?_]
  · rw [e0, filt_ints, range_idxs0, hw, List.filter_map]
    rfl
  · rw [e0] at hs
    simp only [List.mem_map, List.mem_range] at hs
    obtain ⟨d, ⟨_, ⟨k, hk, rfl⟩, rfl⟩, rfl⟩ := hs
    have hg : (env.set i (.sh (.int k)))[i]? = some (.sh (.int k)) := by simp [hi]
    have hg2 : (env.set i (.sh (.int k)))[j]? = some (.sh (rowD R)) := by rw [List.getElem?_set_ne hij]; exact hR
    refine ⟨env.set i (.sh (.int k)), by simp [SG.bind, hi], ?_, fun _ => ev_el (ev_var hg rfl) rfl⟩
    show evT _ (env.set i (.sh (.int k))) [] = some (decide (R.getD k 0 = v), [])
    exact ev_val (ev_op (ev_cons (ev_ix (ev_var hg2 rfl) (ev_var hg rfl) (ix_tup (at_int (by omega)))) (ev_cons (ev_cst rfl) ev_nil)) rfl rfl)
theorem by_plain_ev {w : Nat} {ps : List (Int × Int)} (hw : w ≤ 10) (hp : ∀ p ∈ ps, PrOk w p) : F_L_by_plain.fn [.sh (.lst (ps.map pairD)), .sh (.int w)] [] = some (.sh (.lst [.int (lateL ps w), .int (earlyL ps w)]), []) := by
  obtain ⟨e', hf, a, b, c, x, y, rfl⟩ := forGo_inv0 (g := .nm 4) (body := fun e t => evB 0 (b_L_by_plain_1 F_L_run) e t) (t := []) (fun i e => ∃ a b c x y : Sl, e = [.sh (.lst (ps.map pairD)), .sh (.int w), .sh (.int (((rowsL w).take i).foldl (lateS ps) 0)), .sh (.int (((rowsL w).take i).foldl (earlyS w ps) 0)), a, b, c, x, y]) (((rowsL w).map rowD).map Sl.sh) (fun i sl env hs hI => by
    obtain ⟨a, b, c, x, y, rfl⟩ := hI
    obtain ⟨r, hr, rfl⟩ := map_at hs
    have hrm := List.mem_of_getElem? hr
    have hrl := rowsL_row hrm
    generalize hm : ((rowsL w).take i).foldl (lateS ps) 0 = m
    generalize hn : ((rowsL w).take i).foldl (earlyS w ps) 0 = n
    have hm' : ((rowsL w).take (i + 1)).foldl (lateS ps) 0 = lateS ps m r := by rw [take_snoc hr, List.foldl_append, hm]; rfl
    have hn' : ((rowsL w).take (i + 1)).foldl (earlyS w ps) 0 = earlyS w ps n r := by rw [take_snoc hr, List.foldl_append, hn]; rfl
    have hpr : ∀ p ∈ ps, PrOk r.length p := by rw [hrl]; exact hp
    have hRl : (runL ps r).length = w := by rw [runL_len, hrl]
    have s1 : evS 0 (.asg (.nm 5) (.call F_L_run (.cons (.var 0) (.cons (.var 4) .nil)))) [.sh (.lst (ps.map pairD)), .sh (.int w), .sh (.int m), .sh (.int n), .sh (rowD r), b, c, x, y] [] = some (.nx [.sh (.lst (ps.map pairD)), .sh (.int w), .sh (.int m), .sh (.int n), .sh (rowD r), .sh (rowD (runL ps r)), c, x, y] []) :=
      ev_asg (ev_call (rs := [.sh (.lst (ps.map pairD)), .sh (rowD r)]) (t1 := []) (by rfl) (run_ev hpr _ (.inl rfl)) rfl) rfl (by simp)
    have s2 : evS 0 (.asg (.nm 6) (.op .len (.cons (.lc false (.seq (.var 4)) (.nm 7) (.val (.op .eq (.cons (.var 7) (.cons (.cst (.int 0)) .nil)))) (.var 7) [7]) .nil))) [.sh (.lst (ps.map pairD)), .sh (.int w), .sh (.int m), .sh (.int n), .sh (rowD r), .sh (rowD (runL ps r)), c, x, y] [] = some (.nx [.sh (.lst (ps.map pairD)), .sh (.int w), .sh (.int m), .sh (.int n), .sh (rowD r), .sh (rowD (runL ps r)), .sh (.int (zerosL r)), x, y] []) := by
      have hl := filt_le (· == 0) r
      refine ev_asg (r := .sh (.int (zerosL r))) (ev_op (ev_cons (ev_lc (ev_seqT (by rfl)) rfl (noughts_lc r _ 7 (by simp [envWipe])) (sz_of (by simp; omega)) (lc_shd _)) ev_nil) rfl ?_) rfl (by simp)
      simp only [evOp, List.length_map]
      rfl
    have hlen : ∀ v : Int, ((idxs v 0 (runL ps r)).map D.int |>.map Rv.sh).length ≤ 1000000 := fun v => by
      rw [List.length_map, List.length_map, idxs_len]
      have := filt_le (· == v) (runL ps r)
      omega
    have hc : evT (.val (.op .gt (.cons (.var 6) (.cons (.cst (.int 0)) .nil)))) [.sh (.lst (ps.map pairD)), .sh (.int w), .sh (.int m), .sh (.int n), .sh (rowD r), .sh (rowD (runL ps r)), .sh (.int (zerosL r)), x, y] [] = some (decide ((0 : Int) < zerosL r), []) := rfl
    have s3 : evS 0 (.ifS (.val (.op .gt (.cons (.var 6) (.cons (.cst (.int 0)) .nil)))) (.cons (.asg (.nm 2) (.op .max (.cons (.var 2) (.cons (.op .add (.cons (.op .sub (.cons (.op .max (.cons (.lc false (.rng1 (.var 1)) (.nm 8) (.val (.op .eq (.cons (.ix (.var 5) (.var 8)) (.cons (.cst (.int 0)) .nil)))) (.var 8) [8]) .nil)) (.cons (.var 6) .nil))) (.cons (.cst (.int 1)) .nil))) .nil)))) .nil) .nil) [.sh (.lst (ps.map pairD)), .sh (.int w), .sh (.int m), .sh (.int n), .sh (rowD r), .sh (rowD (runL ps r)), .sh (.int (zerosL r)), x, y] [] = some (.nx [.sh (.lst (ps.map pairD)), .sh (.int w), .sh (.int (lateS ps m r)), .sh (.int n), .sh (rowD r), .sh (rowD (runL ps r)), .sh (.int (zerosL r)), x, y] []) := by
      by_cases h : 0 < zerosL r
      · rw [decide_eq_true (show (0 : Int) < zerosL r by omega)] at hc
        have hz : zerosL (runL ps r) = zerosL r := zerosL_perm (runL_perm hpr)
        obtain ⟨k, ks, hks⟩ := idxs_ne (v := 0) (n := 0) (xs := runL ps r) (by show 0 < zerosL (runL ps r); omega)
        have : lateS ps m r = if (maxI (k :: ks) - (zerosL r : Int) + 1) > m then (maxI (k :: ks) - (zerosL r : Int) + 1) else m := by
          rw [lateS, if_pos h, hks, max_if]; omega
        rw [this]
        refine ev_ifT hc (ev_b (ev_asg (r := .sh (.int _)) (ev_op (ev_cons (by rfl) (ev_cons (ev_op (ev_cons (ev_op (ev_cons (ev_op (ev_cons (ev_lc (ev_rng1 (j := w) (by rfl) (okR_of (by omega))) rfl (rng_lc (runL ps r) 0 w hRl _ 8 5 (by simp [envWipe]) (by decide) (by rfl)) (sz_of (hlen 0)) (lc_shd _)) ev_nil) rfl (op_maxL (by rw [ints_map]; exact congrArg some hks))) (by rfl)) rfl rfl) (by rfl)) rfl rfl) ev_nil)) rfl rfl) rfl (by simp)) ev_b0)
      · rw [decide_eq_false (show ¬ (0 : Int) < zerosL r by omega)] at hc
        rw [lateS, if_neg h]
        exact ev_ifF hc ev_b0
    have hc4 : evT (.val (.op .lt (.cons (.var 6) (.cons (.var 1) .nil)))) [.sh (.lst (ps.map pairD)), .sh (.int w), .sh (.int (lateS ps m r)), .sh (.int n), .sh (rowD r), .sh (rowD (runL ps r)), .sh (.int (zerosL r)), x, y] [] = some (decide ((zerosL r : Int) < w), []) := rfl
    have s4 : evS 0 (.ifS (.val (.op .lt (.cons (.var 6) (.cons (.var 1) .nil)))) (.cons (.asg (.nm 3) (.op .max (.cons (.var 3) (.cons (.op .sub (.cons (.var 6) (.cons (.op .min (.cons (.lc false (.rng1 (.var 1)) (.nm 8) (.val (.op .eq (.cons (.ix (.var 5) (.var 8)) (.cons (.cst (.int 1)) .nil)))) (.var 8) [8]) .nil)) .nil))) .nil)))) .nil) .nil) [.sh (.lst (ps.map pairD)), .sh (.int w), .sh (.int (lateS ps m r)), .sh (.int n), .sh (rowD r), .sh (rowD (runL ps r)), .sh (.int (zerosL r)), x, y] [] = some (.nx [.sh (.lst (ps.map pairD)), .sh (.int w), .sh (.int (lateS ps m r)), .sh (.int (earlyS w ps n r)), .sh (rowD r), .sh (rowD (runL ps r)), .sh (.int (zerosL r)), x, y] []) := by
      by_cases h : zerosL r < w
      · rw [decide_eq_true (show (zerosL r : Int) < w by omega)] at hc4
        have h1 : (1 : Int) ∈ runL ps r := (runL_perm hpr).mem_iff.mpr (one_in (rowsL_bits hrm) (by omega))
        obtain ⟨ks, hks, hmin⟩ := idxs_first 1 0 (runL ps r) h1
        rw [Nat.zero_add] at hks hmin
        have : earlyS w ps n r = if ((zerosL r : Int) - minI (((runL ps r).idxOf 1 : Nat) :: ks)) > n then ((zerosL r : Int) - minI (((runL ps r).idxOf 1 : Nat) :: ks)) else n := by
          rw [earlyS, if_pos h, max_if, minI_first hmin]
        rw [this]
        refine ev_ifT hc4 (ev_b (ev_asg (r := .sh (.int _)) (ev_op (ev_cons (by rfl) (ev_cons (ev_op (ev_cons (by rfl) (ev_cons (ev_op (ev_cons (ev_lc (ev_rng1 (j := w) (by rfl) (okR_of (by omega))) rfl (rng_lc (runL ps r) 1 w hRl _ 8 5 (by simp [envWipe]) (by decide) (by rfl)) (sz_of (hlen 1)) (lc_shd _)) ev_nil) rfl (op_minL (by rw [ints_map]; exact congrArg some hks))) ev_nil)) rfl rfl) ev_nil)) rfl rfl) rfl (by simp)) ev_b0)
      · rw [decide_eq_false (show ¬ (zerosL r : Int) < w by omega)] at hc4
        rw [earlyS, if_neg h]
        exact ev_ifF hc4 ev_b0
    exact ⟨_, _, rfl, ev_b s1 (ev_b s2 (ev_b s3 (ev_b s4 ev_b0))), ⟨_, _, _, _, _, by rw [hm', hn']⟩⟩) [.sh (.lst (ps.map pairD)), .sh (.int w), .sh (.int 0), .sh (.int 0), .un, .un, .un, .un, .un] ⟨_, _, _, _, _, rfl⟩
  have hfull : ((rowsL w).take (((rowsL w).map rowD).map Sl.sh).length) = rowsL w := by simp
  rw [hfull] at hf
  exact run_rt rfl (ev_b (e1 := [.sh (.lst (ps.map pairD)), .sh (.int w), .sh (.int 0), .un, .un, .un, .un, .un, .un]) (by rfl) (ev_b (e1 := [.sh (.lst (ps.map pairD)), .sh (.int w), .sh (.int 0), .sh (.int 0), .un, .un, .un, .un, .un]) (by rfl) (ev_b (ev_for (ev_seqL (ev_call (rs := [.sh (.int w)]) (t1 := []) (by rfl) (L_plain_ev hw) rfl)) hf) (ev_br (ev_retF (by simp) (by rfl) rfl)))))
end Pe
namespace Pe
open Vs Pf
/-! the orders -/
def ordStep (w : Nat) (o : List Int) : List (List Int) := (((List.range w).map fun k : Nat => (k : Int)).filter fun k => !decide (k ∈ o)).map fun k => o ++ [k]
def ordersL (w : Nat) : Nat → List (List Int)
  | 0 => [[]]
  | i + 1 => (ordersL w i).flatMap (ordStep w)
theorem ordStep_len (w : Nat) (o : List Int) : (ordStep w o).length ≤ w := by
  unfold ordStep
  rw [List.length_map]
  refine Nat.le_trans (filt_le _ _) ?_
  simp
theorem flat_len_le {w : Nat} : ∀ L : List (List Int), (L.flatMap (ordStep w)).length ≤ w * L.length
  | [] => by simp
  | o :: L => by
    rw [List.flatMap_cons, List.length_append, List.length_cons]
    have h1 := ordStep_len w o
    have h2 := flat_len_le (w := w) L
    rw [Nat.mul_add]
    omega
theorem ordersL_len {w : Nat} : ∀ i, (ordersL w i).length ≤ w ^ i
  | 0 => by simp [ordersL]
  | i + 1 => by
    have h := flat_len_le (w := w) (ordersL w i)
    have h2 := Nat.mul_le_mul_left w (ordersL_len (w := w) i)
    rw [Nat.pow_succ, Nat.mul_comm (w ^ i) w]
    exact Nat.le_trans h h2
theorem ordersL_row {w : Nat} : ∀ {i : Nat} {o : List Int}, o ∈ ordersL w i → o.length = i
  | 0, o, h => by simp [ordersL] at h; simp [h]
  | i + 1, o, h => by
    rw [ordersL, List.mem_flatMap] at h
    obtain ⟨o', h1, h2⟩ := h
    have := ordersL_row h1
    simp only [ordStep, List.mem_map] at h2
    obtain ⟨k, _, rfl⟩ := h2
    simp [this]
theorem pow5 {w i : Nat} (hw : w ≤ 5) (hi : i ≤ 5) : w ^ i ≤ 3125 := by
  have h1 : w ^ i ≤ 5 ^ i := Nat.pow_le_pow_left hw i
  have h2 : 5 ^ i ≤ 5 ^ 5 := Nat.pow_le_pow_right (by decide) hi
  omega
def Rapp (o : List Int) : Sl → Rv
  | .sh d => .sh (.tup (o.map .int ++ [d]))
  | _ => .tp
theorem map_rapp (o : List Int) (p : Int → Bool) : ∀ ns : List Int, (((ns.map D.int).map Sl.sh).filter (Pin p)).map (Rapp o) = (((ns.filter p).map fun k => o ++ [k]).map rowD).map Rv.sh
  | [] => rfl
  | k :: ns => by
    have ih := map_rapp o p ns
    have hp : Pin p (Sl.sh (D.int k)) = p k := rfl
    by_cases h : p k = true
    · rw [List.map_cons, List.map_cons, List.filter_cons_of_pos (by rw [hp]; exact h), List.filter_cons_of_pos h, List.map_cons, List.map_cons, List.map_cons, List.map_cons, ih]
      simp [Rapp]
    · rw [List.map_cons, List.map_cons, List.filter_cons_of_neg (by rw [hp]; exact h), List.filter_cons_of_neg h]
      exact ih
theorem inner_orders (w : Nat) (hw : w ≤ 5) (L : List (List Int)) (hL : ∀ r ∈ L, r.length ≤ 10) (hlen : L.length ≤ 3125) (k : Sl) (x y : Sl) : ∃ e', forGo (.nm 4) (fun e t => evB 0 b_L_orders_2 e t) ((L.map rowD).map Sl.sh) [.sh (.int w), .sh (.lst (L.map rowD)), k, .ow [], x, y] [] = some (.nx e' []) ∧
    ∃ x' y', e' = [.sh (.int w), .sh (.lst (L.map rowD)), k, .ow ((L.flatMap (ordStep w)).map rowD), x', y'] := by
  obtain ⟨e', hf, x', y', rfl⟩ := forGo_inv0 (g := .nm 4) (body := fun e t => evB 0 b_L_orders_2 e t) (t := []) (fun j e => ∃ x' y', e = [.sh (.int w), .sh (.lst (L.map rowD)), k, .ow (((L.take j).flatMap (ordStep w)).map rowD), x', y']) ((L.map rowD).map Sl.sh) (fun j sl env hs hI => by
    obtain ⟨x', y', rfl⟩ := hI
    obtain ⟨o, ho, rfl⟩ := map_at hs
    have hol := hL o (List.mem_of_getElem? ho)
    have hj : j < L.length := (List.getElem?_eq_some_iff.mp ho).1
    have hl1 := flat_len_le (w := w) (L.take j)
    have hl2 := ordStep_len w o
    have hl3 : w * (L.take j).length ≤ 5 * 3125 := Nat.mul_le_mul hw (by rw [List.length_take]; omega)
    have hz : sizeOk (((((L.take j).flatMap (ordStep w)).map rowD)).length + ((ordStep w o).map rowD).length) = true := sz_of (by simp only [List.length_map]; omega)
    have hlc : lcGo (.nm 5) (fun e t => evT (.val (.op .notin (.cons (.var 5) (.cons (.var 4) .nil)))) e t) (fun e t => el1 (evE (.op .add (.cons (.var 4) (.cons (.tup (.cons (.var 5) .nil)) .nil))) e t)) (envWipe [.sh (.int w), .sh (.lst (L.map rowD)), k, .ow (((L.take j).flatMap (ordStep w)).map rowD), .sh (rowD o), y'] [5]) ((rngD 0 w).map .sh) [] = some (((ordStep w o).map rowD).map .sh, []) := by
      have e0 : rngD 0 w = ((List.range w).map fun k : Nat => (k : Int)).map D.int := by simp [rngD]
      rw [lcGo_map (Pin fun k => !decide (k ∈ o)) (Rapp o) _ fun s hs => ?_]
      · rw [e0, map_rapp]; rfl
      · rw [e0] at hs
        simp only [List.mem_map, List.mem_range] at hs
        obtain ⟨d, ⟨_, ⟨i, hi, rfl⟩, rfl⟩, rfl⟩ := hs
        refine ⟨_, rfl, ?_, fun _ => ev_el (ev_op (by rfl) rfl (op_catT (sz_of (by simp; omega)))) rfl⟩
        refine ev_val (ev_op (by rfl) rfl ?_)
        simp only [evOp, ints_map]
        rfl
    refine ⟨_, _, rfl, ev_b (ev_asg (r := .fr _) (ev_op (ev_cons (by rfl) (ev_cons (ev_lc (ev_rng1 (j := w) (by rfl) (okR_of (by omega))) rfl hlc (sz_of (by simp only [List.length_map]; omega)) (lc_shd _)) ev_nil)) rfl (op_catL hz)) rfl (by simp)) ev_b0, ⟨.sh (rowD o), y', ?_⟩⟩
    rw [take_snoc ho, List.flatMap_append]
    simp) [.sh (.int w), .sh (.lst (L.map rowD)), k, .ow [], x, y] ⟨x, y, rfl⟩
  have hfull : (L.take ((L.map rowD).map Sl.sh).length) = L := by simp
  rw [hfull] at hf
  exact ⟨_, hf, _, _, rfl⟩
theorem orders_ev {w : Nat} (hw : w ≤ 5) : F_L_orders.fn [.sh (.int w)] [] = some (.sh (.lst ((ordersL w w).map rowD)), []) := by
  obtain ⟨e', hf, d, hd, x, y, z, u, rfl⟩ := forGo_inv0 (g := .nm 2) (body := fun e t => evB 0 b_L_orders_1 e t) (t := []) (fun i e => ∃ d, frzSl d = some (.sh (.lst ((ordersL w i).map rowD))) ∧ ∃ x y z u : Sl, e = [.sh (.int w), d, x, y, z, u]) ((rngD 0 w).map Sl.sh) (fun i sl env hs hI => by
    obtain ⟨d, hd, x, y, z, u, rfl⟩ := hI
    obtain ⟨hi, rfl⟩ := rng_at hs
    obtain ⟨_, hf, y', u', rfl⟩ := inner_orders w hw (ordersL w i) (fun r hr => by rw [ordersL_row hr]; omega) (Nat.le_trans (ordersL_len i) (pow5 hw (by omega))) (.sh (.int (0 + (i : Nat)))) z u
    refine ⟨[.sh (.int w), d, .sh (.int (0 + (i : Nat))), y, z, u], [.sh (.int w), .sh (.lst ((ordersL w (i + 1)).map rowD)), .sh (.int (0 + (i : Nat))), .sh (.lst ((ordersL w (i + 1)).map rowD)), y', u'], rfl, ?_, ⟨_, rfl, _, _, _, _, rfl⟩⟩
    exact ev_b (e1 := [.sh (.int w), d, .sh (.int (0 + (i : Nat))), .ow [], z, u]) (by rfl) (ev_fz (by rfl) hd (ev_b (ev_for (ev_seqL (by rfl)) hf) (ev_fz (by rfl) (by rfl) (ev_b (ev_asg (by rfl) rfl (by simp)) ev_b0)))))
    [.sh (.int w), .ow ((ordersL w 0).map rowD), .un, .un, .un, .un] ⟨_, rfl, _, _, _, _, rfl⟩
  have hlen : ((rngD 0 w).map Sl.sh).length = w := by simp [rngD]
  rw [hlen] at hd
  have hfin : ∃ e2, evS 0 (.retF (.var 1)) [.sh (.int w), d, x, y, z, u] [] = some (.rt (.sh (.lst ((ordersL w w).map rowD))) e2 []) := by
    cases d with
    | sh d =>
      simp only [frzSl, Option.some.injEq, Sl.sh.injEq] at hd
      subst hd
      exact ⟨_, by rfl⟩
    | ow ds =>
      simp only [frzSl, Option.some.injEq, Sl.sh.injEq, D.lst.injEq] at hd
      subst hd
      exact ⟨_, by rfl⟩
    | nt ts =>
      simp only [frzSl, Option.some.injEq] at hd
      exact ⟨_, ev_retV (r := .nf ts) rfl rfl (by simpa [Rv.shd] using hd)⟩
    | un => cases hd
    | bw _ => cases hd
    | tp => cases hd
    | nb _ => cases hd
  obtain ⟨e2, hfin⟩ := hfin
  exact run_rt rfl (ev_b (e1 := [.sh (.int w), .ow ((ordersL w 0).map rowD), .un, .un, .un, .un]) (by rfl) (ev_b (ev_for (ev_rng1 (j := w) (by rfl) (okR_of (by omega))) hf) (ev_br hfin)))
/-! one drawn order -/
theorem cut_lo (xs : List D) (j : Nat) : cutD xs none (some (j : Int)) = xs.take j := by
  unfold cutD
  rw [HT.sIx_none, HT.sIx_nat, List.drop_zero, Nat.sub_zero]
  rcases Nat.le_total j xs.length with h | h
  · rw [Nat.min_eq_left h]
  · rw [Nat.min_eq_right h, List.take_of_length_le (Nat.le_refl _), List.take_of_length_le h]
theorem cut_hi (xs : List D) (j : Nat) : cutD xs (some (j : Int)) none = xs.drop j := by
  unfold cutD
  rw [HT.sIx_none, HT.sIx_nat]
  rcases Nat.le_total j xs.length with h | h
  · rw [Nat.min_eq_left h, List.take_of_length_le (by rw [List.length_drop]; exact Nat.le_refl _)]
  · rw [Nat.min_eq_right h, List.drop_eq_nil_of_le h, List.drop_eq_nil_of_le (Nat.le_refl _)]
    simp
theorem perm_pick {left : List Int} {j : Nat} (h : j < left.length) (o : List Int) : ((o ++ [left.getD j 0]) ++ left.eraseIdx j).Perm (o ++ left) := by
  have h1 : (left.getD j 0 :: left.eraseIdx j).Perm left := by
    rw [List.getD_eq_getElem?_getD, List.getElem?_eq_getElem h, Option.getD_some]
    have e : left = left.take j ++ left[j] :: left.drop (j + 1) := by rw [← List.drop_eq_getElem_cons h, List.take_append_drop]
    rw [List.eraseIdx_eq_take_drop_succ]
    exact List.perm_middle.symm.trans (List.Perm.of_eq e.symm)
  rw [List.append_assoc]
  exact List.Perm.append_left o h1
theorem order_ev {n : Int} {c : Nat} (hn : 0 ≤ n) (hc : c ≤ 1000) : ∃ o : List Int, F_L_order.fn [.sh (.int n), .sh (.int c)] [] = some (.sh (rowD o), []) ∧ o.Perm ((List.range c).map fun k : Nat => (k : Int)) := by
  obtain ⟨e', hf, n', left, o, x, y, rfl, h0, hl, hperm⟩ := forGo_inv0 (g := .nm 4) (body := fun e t => evB 0 b_L_order_1 e t) (t := []) (fun i e => ∃ (n : Int) (left o : List Int) (x y : Sl), e = [.sh (.int n), .sh (.int c), .ow (left.map .int), .ow (o.map .int), x, y] ∧ 0 ≤ n ∧ left.length = c - i ∧ (o ++ left).Perm ((List.range c).map fun k : Nat => (k : Int))) ((rngD 0 c).map Sl.sh) (fun i sl env hs hI => by
    obtain ⟨n, left, o, x, y, rfl, hn, hl, hp⟩ := hI
    obtain ⟨hi, rfl⟩ := rng_at hs
    have hL : 0 < left.length := by omega
    have hL' : (0 : Int) < ((left.map D.int).length : Int) := by rw [List.length_map]; omega
    have hL2 : ((left.map D.int).length : Int) < 1073741824 := by rw [List.length_map]; omega
    obtain ⟨m0, m1⟩ := mod_b n (left.length : Int) (by omega)
    obtain ⟨j, hj⟩ := Int.eq_ofNat_of_zero_le m0
    have hjl : j < left.length := by omega
    have hol : o.length ≤ c := by
      have := hp.length_eq
      simp at this
      omega
    have hlen : ((left.map D.int).length : Int) = left.length := by rw [List.length_map]
    have hcut : cutD (left.map D.int) none (some (j : Int)) ++ cutD (left.map D.int) (some ((j : Int) + 1)) none = (left.eraseIdx j).map .int := by
      rw [List.eraseIdx_eq_take_drop_succ, List.map_append, cut_lo, show (j : Int) + 1 = ((j + 1 : Nat) : Int) by omega, cut_hi, List.map_take, List.map_drop]
    have hcat : sizeOk ((cutD (left.map D.int) none (some (j : Int))).length + (cutD (left.map D.int) (some ((j : Int) + 1)) none).length) = true := by
      refine sz_of ?_
      rw [cut_lo, show (j : Int) + 1 = ((j + 1 : Nat) : Int) by omega, cut_hi]
      simp only [List.length_take, List.length_drop, List.length_map]
      omega
    have s1 : evS 0 (.asg (.nm 5) (.op .mod (.cons (.var 0) (.cons (.op .len (.cons (.var 2) .nil)) .nil)))) [.sh (.int n), .sh (.int c), .ow (left.map .int), .ow (o.map .int), .sh (.int (0 + (i : Nat))), y] [] = some (.nx [.sh (.int n), .sh (.int c), .ow (left.map .int), .ow (o.map .int), .sh (.int (0 + (i : Nat))), .sh (.int j)] []) := by
      have : (j : Int) = n % ((left.map D.int).length : Int) := by rw [hlen]; exact hj.symm
      rw [this]
      exact ev_asg (ev_op (by rfl) rfl (op_mod hL')) rfl (by simp)
    have s2 : evS 0 (.asg (.nm 0) (.op .fdiv (.cons (.var 0) (.cons (.op .len (.cons (.var 2) .nil)) .nil)))) [.sh (.int n), .sh (.int c), .ow (left.map .int), .ow (o.map .int), .sh (.int (0 + (i : Nat))), .sh (.int j)] [] = some (.nx [.sh (.int (n / ((left.map D.int).length : Int))), .sh (.int c), .ow (left.map .int), .ow (o.map .int), .sh (.int (0 + (i : Nat))), .sh (.int j)] []) :=
      ev_asg (ev_op (by rfl) rfl (op_fdiv ⟨hL', hL2⟩)) rfl (by simp)
    have s3 : ∀ q : Int, evS 0 (.app 3 (.ix (.var 2) (.var 5))) [.sh (.int q), .sh (.int c), .ow (left.map .int), .ow (o.map .int), .sh (.int (0 + (i : Nat))), .sh (.int j)] [] = some (.nx [.sh (.int q), .sh (.int c), .ow (left.map .int), .ow ((o ++ [left.getD j 0]).map .int), .sh (.int (0 + (i : Nat))), .sh (.int j)] []) := fun q => by
      rw [List.map_append]
      exact ev_app (ev_ix (by rfl) (by rfl) (ix_bw (at_int hjl))) rfl rfl (sz_of (by rw [List.length_map]; omega))
    have s4 : ∀ q : Int, evS 0 (.asg (.nm 2) (.op .add (.cons (.sl (.var 2) .none (.some (.var 5))) (.cons (.sl (.var 2) (.some (.op .add (.cons (.var 5) (.cons (.cst (.int 1)) .nil)))) .none) .nil)))) [.sh (.int q), .sh (.int c), .ow (left.map .int), .ow ((o ++ [left.getD j 0]).map .int), .sh (.int (0 + (i : Nat))), .sh (.int j)] [] = some (.nx [.sh (.int q), .sh (.int c), .ow ((left.eraseIdx j).map .int), .ow ((o ++ [left.getD j 0]).map .int), .sh (.int (0 + (i : Nat))), .sh (.int j)] []) := fun q => by
      rw [← hcut]
      exact ev_asg (ev_op (ev_cons (by rfl) (ev_cons (by rfl) ev_nil)) rfl (op_catL hcat)) rfl (by simp)
    refine ⟨_, _, rfl, ev_b s1 (ev_b s2 (ev_b (s3 _) (ev_b (s4 _) ev_b0))), ⟨_, _, _, _, _, rfl, Int.ediv_nonneg hn (by omega), ?_, (perm_pick hjl o).trans hp⟩⟩
    rw [List.length_eraseIdx_of_lt hjl, hl]
    omega) [.sh (.int n), .sh (.int c), .ow (((List.range c).map fun k : Nat => (k : Int)).map .int), .ow [], .un, .un] ⟨n, _, [], _, _, rfl, hn, by simp, by simp⟩
  have e0 : rngD 0 c = ((List.range c).map fun k : Nat => (k : Int)).map D.int := by simp [rngD]
  have hlr : evE (.prim lrngF (.cons (.var 1) .nil)) [.sh (.int n), .sh (.int c), .un, .un, .un, .un] [] = some (.fr (((List.range c).map fun k : Nat => (k : Int)).map .int), []) := by
    refine ev_prim (by rfl) rfl ?_
    show (if okR (c : Int) = true then some (Rv.fr (rngD 0 (c : Int).toNat)) else none) = _
    rw [if_pos (okR_of (by omega)), Int.toNat_natCast, e0]
  refine ⟨o, run_rt rfl (ev_b (ev_asg hlr rfl (by simp)) (ev_b (e1 := [.sh (.int n), .sh (.int c), .ow (((List.range c).map fun k : Nat => (k : Int)).map .int), .ow [], .un, .un]) (by rfl) (ev_b (ev_for (ev_rng1 (j := c) (by rfl) (okR_of (by omega))) hf) (ev_br (ev_retF (by simp) (by rfl) rfl))))), ?_⟩
  have : left = [] := by
    apply List.eq_nil_of_length_eq_zero
    rw [hl]
    simp [rngD]
  rw [this, List.append_nil] at hperm
  exact hperm
end Pe
namespace Pe
open Vs Pf
/-! the plain law -/
theorem fold_le {α : Type} (p : α → Prop) [DecidablePred p] (f : α → Int) : ∀ (L : List α) (m B : Int), L.foldl (fun m x => if p x then max m (f x) else m) m ≤ B ↔ m ≤ B ∧ ∀ x ∈ L, p x → f x ≤ B
  | [], m, B => by simp
  | x :: L, m, B => by
    rw [List.foldl_cons, fold_le p f L]
    by_cases h : p x
    · rw [if_pos h]
      constructor
      · rintro ⟨h1, h2⟩
        refine ⟨by omega, fun y hy hp => ?_⟩
        rcases List.mem_cons.mp hy with rfl | hy
        · omega
        · exact h2 y hy hp
      · rintro ⟨h1, h2⟩
        have := h2 x (by simp) h
        exact ⟨by omega, fun y hy hp => h2 y (by simp [hy]) hp⟩
    · rw [if_neg h]
      constructor
      · rintro ⟨h1, h2⟩
        refine ⟨h1, fun y hy hp => ?_⟩
        rcases List.mem_cons.mp hy with rfl | hy
        · exact absurd hp h
        · exact h2 y hy hp
      · rintro ⟨h1, h2⟩
        exact ⟨h1, fun y hy hp => h2 y (by simp [hy]) hp⟩
def lateF (ps : List (Int × Int)) (r : List Int) : Int := maxI (idxs 0 0 (runL ps r)) - ((zerosL r : Int) - 1)
def earlyF (ps : List (Int × Int)) (r : List Int) : Int := (zerosL r : Int) - ((runL ps r).idxOf 1 : Nat)
theorem lateL_le {ps : List (Int × Int)} {w : Nat} {B : Int} : lateL ps w ≤ B ↔ 0 ≤ B ∧ ∀ r ∈ rowsL w, 0 < zerosL r → lateF ps r ≤ B := fold_le (fun r => 0 < zerosL r) (lateF ps) (rowsL w) 0 B
theorem earlyL_le {ps : List (Int × Int)} {w : Nat} {B : Int} : earlyL ps w ≤ B ↔ 0 ≤ B ∧ ∀ r ∈ rowsL w, zerosL r < w → earlyF ps r ≤ B := fold_le (fun r => zerosL r < w) (earlyF ps) (rowsL w) 0 B
def behS (w : Nat) (R : List Int) (m : Int) : Int := (List.range w).foldl (fun (m : Int) (p : Nat) => max m ((p : Int) - R.getD p 0)) m
def ahS (w : Nat) (R : List Int) (m : Int) : Int := (List.range w).foldl (fun (m : Int) (p : Nat) => max m (R.getD p 0 - (p : Int))) m
def behL (ps : List (Int × Int)) (w : Nat) (O : List (List Int)) : Int := O.foldl (fun m o => behS w (runL ps o) m) 0
def ahL (ps : List (Int × Int)) (w : Nat) (O : List (List Int)) : Int := O.foldl (fun m o => ahS w (runL ps o) m) 0
theorem foldmax_le {α : Type} (f : α → Int) (L : List α) (m B : Int) : L.foldl (fun m x => max m (f x)) m ≤ B ↔ m ≤ B ∧ ∀ x ∈ L, f x ≤ B := by
  have := fold_le (fun _ : α => True) f L m B
  simpa using this
theorem nest_le {w : Nat} (f : List Int → Nat → Int) : ∀ (O : List (List Int)) (m B : Int), O.foldl (fun m o => (List.range w).foldl (fun m p => max m (f o p)) m) m ≤ B ↔ m ≤ B ∧ ∀ o ∈ O, ∀ p, p < w → f o p ≤ B
  | [], m, B => by simp
  | o :: O, m, B => by
    rw [List.foldl_cons, nest_le f O, foldmax_le]
    constructor
    · rintro ⟨⟨h1, h2⟩, h3⟩
      refine ⟨h1, fun o' ho p hp => ?_⟩
      rcases List.mem_cons.mp ho with rfl | ho
      · exact h2 p (List.mem_range.mpr hp)
      · exact h3 o' ho p hp
    · rintro ⟨h1, h2⟩
      exact ⟨⟨h1, fun p hp => h2 o (by simp) p (List.mem_range.mp hp)⟩, fun o' ho p hp => h2 o' (by simp [ho]) p hp⟩
theorem behL_le {ps : List (Int × Int)} {w : Nat} {O : List (List Int)} {B : Int} : behL ps w O ≤ B ↔ 0 ≤ B ∧ ∀ o ∈ O, ∀ p, p < w → (p : Int) - (runL ps o).getD p 0 ≤ B := nest_le (w := w) (fun o p => (p : Int) - (runL ps o).getD p 0) O 0 B
theorem ahL_le {ps : List (Int × Int)} {w : Nat} {O : List (List Int)} {B : Int} : ahL ps w O ≤ B ↔ 0 ≤ B ∧ ∀ o ∈ O, ∀ p, p < w → (runL ps o).getD p 0 - (p : Int) ≤ B := nest_le (w := w) (fun o p => (runL ps o).getD p 0 - (p : Int)) O 0 B
/-! thresholds -/
def thr (t : Nat) (x : Int) : Int := if x < t then 0 else 1
theorem getD_map {f : Int → Int} {l : List Int} {i : Nat} (h : i < l.length) : (l.map f).getD i 0 = f (l.getD i 0) := by
  simp [List.getD_eq_getElem?_getD, h]
theorem thr_max (t : Nat) (x y : Int) : thr t (max x y) = max (thr t x) (thr t y) := by
  unfold thr
  by_cases h1 : x < t <;> by_cases h2 : y < t <;> simp only [h1, h2, if_true, if_false] <;> (try rw [if_pos (by omega)]) <;> (try rw [if_neg (by omega)]) <;> decide
theorem thr_min (t : Nat) (x y : Int) : thr t (min x y) = min (thr t x) (thr t y) := by
  unfold thr
  by_cases h1 : x < t <;> by_cases h2 : y < t <;> simp only [h1, h2, if_true, if_false] <;> (try rw [if_pos (by omega)]) <;> (try rw [if_neg (by omega)]) <;> decide
theorem cmpx_thr (t : Nat) {c : List Int} {a b : Nat} (ha : a < c.length) (hb : b < c.length) : cmpx (c.map (thr t)) ((a : Int), (b : Int)) = (cmpx c ((a : Int), (b : Int))).map (thr t) := by
  show ((c.map (thr t)).set b (max ((c.map (thr t)).getD a 0) ((c.map (thr t)).getD b 0))).set a (min ((c.map (thr t)).getD a 0) ((c.map (thr t)).getD b 0)) = ((c.set b (max (c.getD a 0) (c.getD b 0))).set a (min (c.getD a 0) (c.getD b 0))).map (thr t)
  rw [getD_map ha, getD_map hb, List.map_set, List.map_set, thr_max, thr_min]
theorem runL_thr (t : Nat) : ∀ {ps : List (Int × Int)} {c : List Int}, (∀ p ∈ ps, PrOk c.length p) → runL ps (c.map (thr t)) = (runL ps c).map (thr t)
  | [], c, _ => rfl
  | p :: ps, c, h => by
    obtain ⟨a, b, rfl, ha, hb, hab⟩ := pr_nat (h p (by simp))
    show runL ps (cmpx (c.map (thr t)) _) = (runL ps (cmpx c _)).map (thr t)
    rw [cmpx_thr t ha hb]
    exact runL_thr t fun q hq => by rw [cmpx_len]; exact h q (by simp [hq])
theorem rowsL_all : ∀ {n : Nat} {r : List Int}, r.length = n → (∀ x ∈ r, x = 0 ∨ x = 1) → r ∈ rowsL n
  | 0, r, h, _ => by simp [rowsL, List.eq_nil_of_length_eq_zero h]
  | n + 1, r, h, hb => by
    have hne : r ≠ [] := by intro z; rw [z] at h; cases h
    have e := List.dropLast_concat_getLast hne
    rw [rowsL, List.mem_flatMap]
    refine ⟨r.dropLast, rowsL_all (by simp [h]) (fun x hx => hb x ((List.dropLast_sublist r).subset hx)), ?_⟩
    rcases hb _ (List.getLast_mem hne) with q | q
    · rw [q] at e; rw [e]; exact List.mem_cons_self
    · rw [q] at e; exact List.mem_cons_of_mem _ (by rw [e]; exact List.mem_cons_self)
theorem thr_bit (t : Nat) (x : Int) : thr t x = 0 ∨ thr t x = 1 := by
  unfold thr
  split
  · exact .inl rfl
  · exact .inr rfl
theorem thr_mem {w t : Nat} {o : List Int} (h : o.length = w) : o.map (thr t) ∈ rowsL w := rowsL_all (by rw [List.length_map, h]) fun x hx => by
  obtain ⟨y, _, rfl⟩ := List.mem_map.mp hx
  exact thr_bit t y
theorem zeros_range (t : Nat) : ∀ w : Nat, zerosL (((List.range w).map fun k : Nat => (k : Int)).map (thr t)) = min t w
  | 0 => by simp [zerosL]
  | w + 1 => by
    have ih := zeros_range t w
    rw [List.range_succ]
    simp only [List.map_append, List.map_cons, List.map_nil]
    unfold zerosL at ih ⊢
    rw [List.filter_append, List.length_append, ih]
    by_cases h : w < t
    · have : thr t (w : Int) = 0 := if_pos (by omega)
      rw [this]
      simp
      omega
    · have : thr t (w : Int) = 1 := if_neg (by omega)
      rw [this]
      simp
      omega
abbrev IsOrd (w : Nat) (o : List Int) : Prop := o.Perm ((List.range w).map fun k : Nat => (k : Int))
theorem ord_len {w : Nat} {o : List Int} (h : IsOrd w o) : o.length = w := by rw [h.length_eq]; simp
theorem ord_zeros {w t : Nat} {o : List Int} (h : IsOrd w o) (ht : t ≤ w) : zerosL (o.map (thr t)) = t := by
  rw [zerosL_perm (h.map (thr t)), zeros_range]
  omega
theorem getD_mem' {l : List Int} {i : Nat} (h : i < l.length) : l.getD i 0 ∈ l := by
  rw [List.getD_eq_getElem?_getD, List.getElem?_eq_getElem h, Option.getD_some]
  exact List.getElem_mem h
theorem ord_val {w p : Nat} {R : List Int} (h : IsOrd w R) (hp : p < w) : ∃ v : Nat, R.getD p 0 = v ∧ v < w := by
  have hm : R.getD p 0 ∈ R := getD_mem' (by rw [ord_len h]; exact hp)
  rw [h.mem_iff] at hm
  simp only [List.mem_map, List.mem_range] at hm
  obtain ⟨v, hv, e⟩ := hm
  exact ⟨v, e.symm, hv⟩
theorem mem_idxs {v : Int} {xs : List Int} {y : Int} : y ∈ idxs v 0 xs ↔ ∃ p : Nat, p < xs.length ∧ xs.getD p 0 = v ∧ y = p := by
  rw [range_idxs0]
  simp only [List.mem_map, List.mem_filter, List.mem_range, beq_iff_eq]
  constructor
  · rintro ⟨p, ⟨h1, h2⟩, rfl⟩; exact ⟨p, h1, h2, rfl⟩
  · rintro ⟨p, h1, h2, rfl⟩; exact ⟨p, ⟨h1, h2⟩, rfl⟩
theorem idxOf_le {v : Int} : ∀ {l : List Int} {p : Nat}, l.getD p 0 = v → p < l.length → l.idxOf v ≤ p
  | [], p, _, h => by simp at h
  | x :: l, 0, h, _ => by
    have : x = v := h
    subst this
    simp
  | x :: l, p + 1, h, hl => by
    have ih := idxOf_le (l := l) (p := p) h (by simpa using hl)
    rw [List.idxOf_cons]
    by_cases e : x = v
    · simp [e]
    · have : (x == v) = false := by simp [e]
      rw [this]
      exact Nat.succ_le_succ ih
theorem maxI_ge {l : List Int} {y : Int} (h : y ∈ l) : y ≤ maxI l := by
  cases l with
  | nil => cases h
  | cons m ns => exact (maxI_spec m ns).2 y h
theorem maxI_mem {l : List Int} (h : l ≠ []) : maxI l ∈ l := by
  cases l with
  | nil => exact absurd rfl h
  | cons m ns => exact (maxI_spec m ns).1
section
variable {ps : List (Int × Int)} {w : Nat}
theorem beh_le_late (hp : ∀ p ∈ ps, PrOk w p) {O : List (List Int)} (hO : ∀ o ∈ O, IsOrd w o) : behL ps w O ≤ lateL ps w := by
  obtain ⟨h0, hl⟩ := (lateL_le (B := lateL ps w)).mp (Int.le_refl _)
  refine behL_le.mpr ⟨h0, fun o ho p hpw => ?_⟩
  have hlo := ord_len (hO o ho)
  have hR : IsOrd w (runL ps o) := (runL_perm (by rw [hlo]; exact hp)).trans (hO o ho)
  obtain ⟨v, hv, hvw⟩ := ord_val hR hpw
  have hz := ord_zeros (hO o ho) (t := v + 1) (by omega)
  have h := hl (o.map (thr (v + 1))) (thr_mem hlo) (by omega)
  have hrun := runL_thr (v + 1) (ps := ps) (c := o) (by rw [hlo]; exact hp)
  have hge : (p : Int) ≤ maxI (idxs 0 0 (runL ps (o.map (thr (v + 1))))) := maxI_ge (mem_idxs.mpr ⟨p, by rw [hrun, List.length_map, ord_len hR]; exact hpw, by
    rw [hrun, getD_map (by rw [ord_len hR]; exact hpw), hv]
    exact if_pos (by omega), rfl⟩)
  unfold lateF at h
  rw [hz] at h
  rw [hv]
  omega
theorem ah_le_early (hp : ∀ p ∈ ps, PrOk w p) {O : List (List Int)} (hO : ∀ o ∈ O, IsOrd w o) : ahL ps w O ≤ earlyL ps w := by
  obtain ⟨h0, hl⟩ := (earlyL_le (B := earlyL ps w)).mp (Int.le_refl _)
  refine ahL_le.mpr ⟨h0, fun o ho p hpw => ?_⟩
  have hlo := ord_len (hO o ho)
  have hR : IsOrd w (runL ps o) := (runL_perm (by rw [hlo]; exact hp)).trans (hO o ho)
  obtain ⟨v, hv, hvw⟩ := ord_val hR hpw
  have hz := ord_zeros (hO o ho) (t := v) (by omega)
  have h := hl (o.map (thr v)) (thr_mem hlo) (by omega)
  have hrun := runL_thr v (ps := ps) (c := o) (by rw [hlo]; exact hp)
  have hle : (runL ps (o.map (thr v))).idxOf 1 ≤ p := by
    have hpl : p < (runL ps (o.map (thr v))).length := by rw [hrun, List.length_map, ord_len hR]; exact hpw
    refine idxOf_le ?_ hpl
    rw [hrun, getD_map (by rw [ord_len hR]; exact hpw), hv]
    exact if_neg (by omega)
  unfold earlyF at h
  rw [hz] at h
  rw [hv]
  omega
theorem five_ok : ∀ w ∈ [1, 2, 3, 4, 5], ∀ r ∈ rowsL w, ∃ o ∈ ordersL w w, o.map (thr (zerosL r)) = r := by decide +kernel
theorem late_le_beh (hp : ∀ p ∈ ps, PrOk w p) {O : List (List Int)} (hO : ∀ o ∈ O, IsOrd w o) (hall : ∀ r ∈ rowsL w, ∃ o ∈ O, o.map (thr (zerosL r)) = r) : lateL ps w ≤ behL ps w O := by
  obtain ⟨h0, hl⟩ := (behL_le (B := behL ps w O)).mp (Int.le_refl _)
  refine lateL_le.mpr ⟨h0, fun r hr hz => ?_⟩
  obtain ⟨o, ho, e⟩ := hall r hr
  have hlo := ord_len (hO o ho)
  have hrun := runL_thr (zerosL r) (ps := ps) (c := o) (by rw [hlo]; exact hp)
  rw [e] at hrun
  have hpr : ∀ p ∈ ps, PrOk r.length p := by rw [rowsL_row hr]; exact hp
  have hz' : zerosL (runL ps r) = zerosL r := zerosL_perm (runL_perm hpr)
  have hne : idxs 0 0 (runL ps r) ≠ [] := by
    obtain ⟨k, ks, hks⟩ := idxs_ne (v := 0) (n := 0) (xs := runL ps r) (by show 0 < zerosL (runL ps r); omega)
    rw [hks]; simp
  obtain ⟨p, hpl, hp0, hpe⟩ := mem_idxs.mp (maxI_mem hne)
  have hRl : (runL ps o).length = w := by rw [runL_len, hlo]
  have hpw : p < w := by rw [hrun, List.length_map, hRl] at hpl; exact hpl
  rw [hrun, getD_map (by rw [hRl]; exact hpw)] at hp0
  have hlt : (runL ps o).getD p 0 < zerosL r := by
    unfold thr at hp0
    split at hp0
    · assumption
    · cases hp0
  have := hl o ho p hpw
  unfold lateF
  rw [hpe]
  omega
theorem early_le_ah (hp : ∀ p ∈ ps, PrOk w p) {O : List (List Int)} (hO : ∀ o ∈ O, IsOrd w o) (hall : ∀ r ∈ rowsL w, ∃ o ∈ O, o.map (thr (zerosL r)) = r) : earlyL ps w ≤ ahL ps w O := by
  obtain ⟨h0, hl⟩ := (ahL_le (B := ahL ps w O)).mp (Int.le_refl _)
  refine earlyL_le.mpr ⟨h0, fun r hr hz => ?_⟩
  obtain ⟨o, ho, e⟩ := hall r hr
  have hlo := ord_len (hO o ho)
  have hrun := runL_thr (zerosL r) (ps := ps) (c := o) (by rw [hlo]; exact hp)
  rw [e] at hrun
  have hpr : ∀ p ∈ ps, PrOk r.length p := by rw [rowsL_row hr]; exact hp
  have h1 : (1 : Int) ∈ runL ps r := (runL_perm hpr).mem_iff.mpr (one_in (rowsL_bits hr) (by rw [rowsL_row hr]; exact hz))
  have hil := List.idxOf_lt_length_iff.mpr h1
  have hRl : (runL ps o).length = w := by rw [runL_len, hlo]
  have hpw : (runL ps r).idxOf 1 < w := by
    have : (runL ps r).length = w := by rw [runL_len, rowsL_row hr]
    omega
  have hv : (runL ps r).getD ((runL ps r).idxOf 1) 0 = 1 := by
    rw [List.getD_eq_getElem?_getD, List.getElem?_eq_getElem hil, Option.getD_some]
    exact List.getElem_idxOf hil
  have hge : (zerosL r : Int) ≤ (runL ps o).getD ((runL ps r).idxOf 1) 0 := by
    generalize hq : (runL ps r).idxOf 1 = q at hv hpw
    rw [hrun, getD_map (by rw [hRl]; exact hpw)] at hv
    unfold thr at hv
    split at hv
    · cases hv
    · omega
  have := hl o ho _ hpw
  unfold earlyF
  omega
/-! what is sorted -/
def S01 (z k : Nat) : List Int := List.replicate z 0 ++ List.replicate k 1
theorem perm01 : ∀ {r : List Int}, (∀ x ∈ r, x = 0 ∨ x = 1) → (S01 (zerosL r) (r.length - zerosL r)).Perm r
  | [], _ => by simp [S01, zerosL]
  | x :: r, h => by
    have ih := perm01 (r := r) fun y hy => h y (by simp [hy])
    have hz : zerosL r ≤ r.length := filt_le _ _
    rcases h x (by simp) with rfl | rfl
    · have e : zerosL (0 :: r) = zerosL r + 1 := by simp [zerosL]
      rw [e, List.length_cons, show r.length + 1 - (zerosL r + 1) = r.length - zerosL r by omega]
      exact List.Perm.cons 0 ih
    · have e : zerosL (1 :: r) = zerosL r := by simp [zerosL]
      rw [e, List.length_cons, show r.length + 1 - zerosL r = (r.length - zerosL r) + 1 by omega]
      refine List.Perm.trans ?_ (List.Perm.cons 1 ih)
      unfold S01
      rw [List.replicate_succ]
      exact List.perm_middle
theorem S01_sorted (z k : Nat) : (S01 z k).Pairwise (· ≤ ·) := by
  unfold S01
  rw [List.pairwise_append]
  refine ⟨List.pairwise_replicate.mpr (.inr (Int.le_refl _)), List.pairwise_replicate.mpr (.inr (Int.le_refl _)), fun a ha b hb => ?_⟩
  rw [List.eq_of_mem_replicate ha, List.eq_of_mem_replicate hb]
  decide
theorem sortI_01 {r : List Int} (h : ∀ x ∈ r, x = 0 ∨ x = 1) : sortI r = S01 (zerosL r) (r.length - zerosL r) :=
  sorted_unique ((sortI_perm r).trans (perm01 h).symm) (sortI_sorted r) (S01_sorted _ _)
theorem S01_getD_lo {z k i : Nat} (h : i < z) : (S01 z k).getD i 0 = 0 := by
  unfold S01
  rw [List.getD_eq_getElem?_getD, List.getElem?_append_left (by simp [h]), List.getElem?_replicate, if_pos h]
  rfl
theorem S01_getD_hi {z k i : Nat} (h : z ≤ i) (h2 : i < z + k) : (S01 z k).getD i 0 = 1 := by
  unfold S01
  rw [List.getD_eq_getElem?_getD, List.getElem?_append_right (by simp [h]), List.getElem?_replicate, List.length_replicate, if_pos (by omega)]
  rfl
/-- behind the z-th place no nought stands: sorted -/
theorem all_hi {R : List Int} (hb : ∀ x ∈ R, x = 0 ∨ x = 1) (h : ∀ i, zerosL R ≤ i → i < R.length → R.getD i 0 = 1) : R = S01 (zerosL R) (R.length - zerosL R) := by
  have hz : zerosL R ≤ R.length := filt_le _ _
  have hdrop : zerosL (R.drop (zerosL R)) = 0 := by
    show ((R.drop (zerosL R)).filter (· == 0)).length = 0
    rw [List.length_eq_zero_iff, List.filter_eq_nil_iff]
    intro x hx
    obtain ⟨i, hi⟩ := List.mem_iff_getElem?.mp hx
    rw [List.getElem?_drop] at hi
    have hlt := (List.getElem?_eq_some_iff.mp hi).1
    have := h (zerosL R + i) (by omega) hlt
    rw [List.getD_eq_getElem?_getD, hi, Option.getD_some] at this
    subst this
    simp
  have htake : zerosL (R.take (zerosL R)) = zerosL R := by
    have e : zerosL (R.take (zerosL R) ++ R.drop (zerosL R)) = zerosL (R.take (zerosL R)) + zerosL (R.drop (zerosL R)) := by
      simp only [zerosL, List.filter_append, List.length_append]
    rw [List.take_append_drop] at e
    omega
  have hall : ∀ x ∈ R.take (zerosL R), x = 0 := by
    have hl : (R.take (zerosL R)).length = zerosL R := by rw [List.length_take]; omega
    have : ((R.take (zerosL R)).filter (· == 0)).length = (R.take (zerosL R)).length := by rw [hl]; exact htake
    have := (List.length_filter_eq_length_iff.mp this)
    intro x hx
    have := this x hx
    simpa using this
  apply List.ext_getElem?
  intro i
  by_cases hi : i < R.length
  · have e1 : R[i]? = some (R.getD i 0) := by rw [List.getD_eq_getElem?_getD, List.getElem?_eq_getElem hi, Option.getD_some]
    have hi2 : i < (S01 (zerosL R) (R.length - zerosL R)).length := by simp [S01]; omega
    have e2 : (S01 (zerosL R) (R.length - zerosL R))[i]? = some ((S01 (zerosL R) (R.length - zerosL R)).getD i 0) := by rw [List.getD_eq_getElem?_getD, List.getElem?_eq_getElem hi2, Option.getD_some]
    rw [e1, e2]
    by_cases hz2 : i < zerosL R
    · rw [S01_getD_lo hz2]
      have : R.getD i 0 ∈ R.take (zerosL R) := by
        rw [List.mem_iff_getElem?]
        exact ⟨i, by rw [List.getElem?_take_of_lt hz2, e1]⟩
      rw [hall _ this]
    · rw [S01_getD_hi (by omega) (by omega), h i (by omega) hi]
  · rw [List.getElem?_eq_none (by omega), List.getElem?_eq_none (by simp [S01]; omega)]
theorem sorts_iff (hp : ∀ p ∈ ps, PrOk w p) : (lateL ps w = 0 ∧ earlyL ps w = 0) ↔ ∀ r ∈ rowsL w, runL ps r = sortI r := by
  have nn1 : 0 ≤ lateL ps w := ((lateL_le (B := lateL ps w)).mp (Int.le_refl _)).1
  have nn2 : 0 ≤ earlyL ps w := ((earlyL_le (B := earlyL ps w)).mp (Int.le_refl _)).1
  have facts : ∀ r ∈ rowsL w, zerosL (runL ps r) = zerosL r ∧ (runL ps r).length = w ∧ r.length = w ∧ (∀ x ∈ runL ps r, x = 0 ∨ x = 1) := fun r hr => by
    have hl := rowsL_row hr
    have hpm := runL_perm (ps := ps) (c := r) (by rw [hl]; exact hp)
    exact ⟨zerosL_perm hpm, by rw [runL_len, hl], hl, fun x hx => rowsL_bits hr x (hpm.mem_iff.mp hx)⟩
  constructor
  · rintro ⟨h1, h2⟩ r hr
    obtain ⟨f1, f2, f3, f4⟩ := facts r hr
    rw [sortI_01 (rowsL_bits hr), ← f1, f3, ← f2]
    refine all_hi f4 fun i hi hil => ?_
    rcases f4 _ (getD_mem' hil) with q | q
    · exfalso
      have hm : ((i : Nat) : Int) ∈ idxs 0 0 (runL ps r) := mem_idxs.mpr ⟨i, hil, q, rfl⟩
      have hge := maxI_ge hm
      have hpos : 0 < zerosL r := by
        have hl := idxs_len 0 0 (runL ps r)
        have : 0 < (idxs 0 0 (runL ps r)).length := List.length_pos_iff.mpr (fun z => by rw [z] at hm; cases hm)
        rw [← f1]
        unfold zerosL
        omega
      have := ((lateL_le (ps := ps) (w := w) (B := 0)).mp (by omega)).2 r hr hpos
      unfold lateF at this
      omega
    · exact q
  · intro h
    refine ⟨Int.le_antisymm (lateL_le.mpr ⟨Int.le_refl _, fun r hr hz => ?_⟩) nn1, Int.le_antisymm (earlyL_le.mpr ⟨Int.le_refl _, fun r hr hz => ?_⟩) nn2⟩
    · obtain ⟨f1, f2, f3, f4⟩ := facts r hr
      have e := (h r hr).trans (sortI_01 (rowsL_bits hr))
      have hne : idxs 0 0 (runL ps r) ≠ [] := by
        obtain ⟨k, ks, hks⟩ := idxs_ne (v := 0) (n := 0) (xs := runL ps r) (by show 0 < zerosL (runL ps r); omega)
        rw [hks]; simp
      obtain ⟨p, hpl, hp0, hpe⟩ := mem_idxs.mp (maxI_mem hne)
      unfold lateF
      rw [hpe]
      have : p < zerosL r := by
        by_cases q : p < zerosL r
        · exact q
        · have hz2 : zerosL r ≤ r.length := filt_le _ _
          rw [e] at hp0
          rw [S01_getD_hi (by omega) (by omega)] at hp0
          cases hp0
      omega
    · obtain ⟨f1, f2, f3, f4⟩ := facts r hr
      have e := (h r hr).trans (sortI_01 (rowsL_bits hr))
      have h1 : (1 : Int) ∈ runL ps r := by
        rw [e]
        unfold S01
        refine List.mem_append_right _ (List.mem_replicate.mpr ⟨by omega, rfl⟩)
      have hil := List.idxOf_lt_length_iff.mpr h1
      have hv : (runL ps r).getD ((runL ps r).idxOf 1) 0 = 1 := by
        rw [List.getD_eq_getElem?_getD, List.getElem?_eq_getElem hil, Option.getD_some]
        exact List.getElem_idxOf hil
      unfold earlyF
      have : zerosL r ≤ (runL ps r).idxOf 1 := by
        by_cases q : zerosL r ≤ (runL ps r).idxOf 1
        · exact q
        · generalize hq : (runL ps r).idxOf 1 = i at hv q
          rw [e, S01_getD_lo (by omega)] at hv
          cases hv
      omega
end
end Pe
namespace Pe
open Vs Pf
/-! equality of data -/
theorem eqvAll_ints : ∀ a b : List Int, PySem.PyData.eqvAll (D.pys (a.map .int)) (D.pys (b.map .int)) = decide (a = b)
  | [], [] => rfl
  | [], y :: b => rfl
  | x :: a, [] => rfl
  | x :: a, y :: b => by
    have ih := eqvAll_ints a b
    show (PySem.PyData.eqv (.int x) (.int y) && PySem.PyData.eqvAll (D.pys (a.map .int)) (D.pys (b.map .int))) = _
    rw [ih]
    have e : PySem.PyData.eqv (.int x) (.int y) = decide (x = y) := by
      show (x == y) = _
      rfl
    rw [e]
    by_cases h1 : x = y <;> by_cases h2 : a = b <;> simp [h1, h2]
theorem plains_ints (n : Nat) : ∀ a : List Int, D.plains n (a.map .int) = true
  | [] => rfl
  | x :: a => by
    show ((D.int x).plain n && D.plains n (a.map .int)) = true
    rw [plains_ints n a]
    cases n <;> rfl
theorem op_eqT (a b : List Int) : evOp .eq [.tup (a.map .int), .tup (b.map .int)] = some (.sh (.bl (decide (a = b)))) := by
  have h1 : D.plain 8 (.tup (a.map D.int)) = true := plains_ints 7 a
  have h2 : D.plain 8 (.tup (b.map D.int)) = true := plains_ints 7 b
  have h3 : PySem.PyData.eqv (D.py (.tup (a.map D.int))) (D.py (.tup (b.map D.int))) = decide (a = b) := eqvAll_ints a b
  simp only [evOp, h1, h2, Bool.and_self, if_true, h3]
theorem op_neT (a b : List Int) : evOp .ne [.tup (a.map .int), .tup (b.map .int)] = some (.sh (.bl (!decide (a = b)))) := by
  have h1 : D.plain 8 (.tup (a.map D.int)) = true := plains_ints 7 a
  have h2 : D.plain 8 (.tup (b.map D.int)) = true := plains_ints 7 b
  have h3 : PySem.PyData.eqv (D.py (.tup (a.map D.int))) (D.py (.tup (b.map D.int))) = decide (a = b) := eqvAll_ints a b
  simp only [evOp, h1, h2, Bool.and_self, if_true, h3]
theorem op_eqL (a b : List Int) : evOp .eq [.lst (a.map .int), .lst (b.map .int)] = some (.sh (.bl (decide (a = b)))) := by
  have h1 : D.plain 8 (.lst (a.map D.int)) = true := plains_ints 7 a
  have h2 : D.plain 8 (.lst (b.map D.int)) = true := plains_ints 7 b
  have h3 : PySem.PyData.eqv (D.py (.lst (a.map D.int))) (D.py (.lst (b.map D.int))) = decide (a = b) := eqvAll_ints a b
  simp only [evOp, h1, h2, Bool.and_self, if_true, h3]
theorem op_neL (a b : List Int) : evOp .ne [.lst (a.map .int), .lst (b.map .int)] = some (.sh (.bl (!decide (a = b)))) := by
  have h1 : D.plain 8 (.lst (a.map D.int)) = true := plains_ints 7 a
  have h2 : D.plain 8 (.lst (b.map D.int)) = true := plains_ints 7 b
  have h3 : PySem.PyData.eqv (D.py (.lst (a.map D.int))) (D.py (.lst (b.map D.int))) = decide (a = b) := eqvAll_ints a b
  simp only [evOp, h1, h2, Bool.and_self, if_true, h3]
/-! small words -/
def kitBint : Option Bool := L2.kitB "int" "bool"
theorem kitBint_eq : kitBint = some false := by unfold kitBint; decide +kernel
theorem isi_int (i : Int) : (isiF "bool").fn [.int i] = some (.sh (.bl false)) := by
  show ((L2.kitB "int" "bool").map fun b => Rv.sh (.bl b)) = _
  have : L2.kitB "int" "bool" = some false := kitBint_eq
  rw [this]
  rfl
theorem sort_row (r : List Int) : sortF.fn [rowD r] = some (.fr ((sortI r).map .int)) := by
  show (match ints? (r.map D.int) with | some ns => some (Rv.fr ((sortI ns).map .int)) | none => none) = _
  rw [ints_map]
def unrow : List D → List Int
  | [] => []
  | .int i :: ds => i :: unrow ds
  | _ :: ds => unrow ds
theorem unrow_row : ∀ r : List Int, unrow (r.map .int) = r
  | [] => rfl
  | x :: r => by
    show x :: unrow (r.map .int) = _
    rw [unrow_row r]
def Prow (p : List Int → Bool) : Sl → Bool
  | .sh (.tup ds) => p (unrow ds)
  | _ => false
theorem prow_row (p : List Int → Bool) (r : List Int) : Prow p (.sh (rowD r)) = p r := by
  show p (unrow (r.map .int)) = _
  rw [unrow_row]
theorem filt_rows (p : List Int → Bool) : ∀ L : List (List Int), (((L.map rowD).map Sl.sh).filter (Prow p)).map R0 = ((L.filter p).map rowD).map Rv.sh
  | [] => rfl
  | r :: L => by
    have ih := filt_rows p L
    have hp := prow_row p r
    by_cases h : p r = true
    · rw [List.map_cons, List.map_cons, List.filter_cons_of_pos (by rw [hp]; exact h), List.filter_cons_of_pos h, List.map_cons, List.map_cons, List.map_cons, ih]
      rfl
    · rw [List.map_cons, List.map_cons, List.filter_cons_of_neg (by rw [hp]; exact h), List.filter_cons_of_neg h]
      exact ih
/-! the law -/
section
variable {s : List Int} {ns : List Int} {w : Nat} {ps : List (Int × Int)} {O : List (List Int)}
/-- the loop over the orders -/
theorem loop_ev (hw : w ≤ 10) (hp : ∀ p ∈ ps, PrOk w p) (hO : ∀ o ∈ O, IsOrd w o) (a1 a5 x8 x9 x10 x11 x12 x13 x14 : Sl) (a0 : Sl) :
    ∃ e', forGo (.nm 8) (fun e t => evB 0 (b_law_1 F_L_run) e t) ((O.map rowD).map .sh) [a0, a1, .sh (.int w), .sh (.lst (O.map rowD)), .sh (.lst (ps.map pairD)), a5, .sh (.int 0), .sh (.int 0), x8, x9, x10, x11, x12, x13, x14] [] = some (.nx e' []) ∧
    ∃ y8 y9 y10, e' = [a0, a1, .sh (.int w), .sh (.lst (O.map rowD)), .sh (.lst (ps.map pairD)), a5, .sh (.int (behL ps w O)), .sh (.int (ahL ps w O)), y8, y9, y10, x11, x12, x13, x14] := by
  obtain ⟨e', hf, y8, y9, y10, rfl⟩ := forGo_inv0 (g := .nm 8) (body := fun e t => evB 0 (b_law_1 F_L_run) e t) (t := []) (fun i e => ∃ y8 y9 y10 : Sl, e = [a0, a1, .sh (.int w), .sh (.lst (O.map rowD)), .sh (.lst (ps.map pairD)), a5, .sh (.int (behL ps w (O.take i))), .sh (.int (ahL ps w (O.take i))), y8, y9, y10, x11, x12, x13, x14]) ((O.map rowD).map Sl.sh) (fun i sl env hs hI => by
    obtain ⟨y8, y9, y10, rfl⟩ := hI
    obtain ⟨o, ho, rfl⟩ := map_at hs
    have hom := hO o (List.mem_of_getElem? ho)
    have hol := ord_len hom
    have hpo : ∀ p ∈ ps, PrOk o.length p := by rw [hol]; exact hp
    have hRl : (runL ps o).length = w := by rw [runL_len, hol]
    generalize hb : behL ps w (O.take i) = b
    generalize ha : ahL ps w (O.take i) = a
    have hb' : behL ps w (O.take (i + 1)) = behS w (runL ps o) b := by rw [← hb, take_snoc ho]; unfold behL; rw [List.foldl_append]; rfl
    have ha' : ahL ps w (O.take (i + 1)) = ahS w (runL ps o) a := by rw [← ha, take_snoc ho]; unfold ahL; rw [List.foldl_append]; rfl
    have s1 : evS 0 (.asg (.nm 9) (.call F_L_run (.cons (.var 4) (.cons (.var 8) .nil)))) [a0, a1, .sh (.int w), .sh (.lst (O.map rowD)), .sh (.lst (ps.map pairD)), a5, .sh (.int b), .sh (.int a), .sh (rowD o), y9, y10, x11, x12, x13, x14] [] = some (.nx [a0, a1, .sh (.int w), .sh (.lst (O.map rowD)), .sh (.lst (ps.map pairD)), a5, .sh (.int b), .sh (.int a), .sh (rowD o), .sh (rowD (runL ps o)), y10, x11, x12, x13, x14] []) :=
      ev_asg (ev_call (rs := [.sh (.lst (ps.map pairD)), .sh (rowD o)]) (t1 := []) (by rfl) (run_ev hpo _ (.inl rfl)) rfl) rfl (by simp)
    obtain ⟨e2, hf2, z, rfl⟩ := forGo_inv0 (g := .nm 10) (body := fun e t => evB 0 b_law_2 e t) (t := []) (fun j e => ∃ z : Sl, e = [a0, a1, .sh (.int w), .sh (.lst (O.map rowD)), .sh (.lst (ps.map pairD)), a5, .sh (.int ((List.range j).foldl (fun (m : Int) (p : Nat) => max m ((p : Int) - (runL ps o).getD p 0)) b)), .sh (.int ((List.range j).foldl (fun (m : Int) (p : Nat) => max m ((runL ps o).getD p 0 - (p : Int))) a)), .sh (rowD o), .sh (rowD (runL ps o)), z, x11, x12, x13, x14]) ((rngD 0 w).map Sl.sh) (fun j sl env hs hI => by
      obtain ⟨z, rfl⟩ := hI
      obtain ⟨hj, rfl⟩ := rng_at hs
      rw [Int.zero_add]
      have hat := at_int (ns := runL ps o) (i := j) (by omega)
      rw [List.range_succ, List.foldl_append, List.foldl_append]
      generalize (List.range j).foldl (fun (m : Int) (p : Nat) => max m ((p : Int) - (runL ps o).getD p 0)) b = m
      generalize (List.range j).foldl (fun (m : Int) (p : Nat) => max m ((runL ps o).getD p 0 - (p : Int))) a = n
      refine ⟨_, _, rfl, ev_b (t1 := []) (e1 := [a0, a1, .sh (.int w), .sh (.lst (O.map rowD)), .sh (.lst (ps.map pairD)), a5, .sh (.int (max m ((j : Int) - (runL ps o).getD j 0))), .sh (.int n), .sh (rowD o), .sh (rowD (runL ps o)), .sh (.int j), x11, x12, x13, x14]) ?_ (ev_b (t1 := []) (e1 := [a0, a1, .sh (.int w), .sh (.lst (O.map rowD)), .sh (.lst (ps.map pairD)), a5, .sh (.int (max m ((j : Int) - (runL ps o).getD j 0))), .sh (.int (max n ((runL ps o).getD j 0 - (j : Int)))), .sh (rowD o), .sh (rowD (runL ps o)), .sh (.int j), x11, x12, x13, x14]) ?_ ev_b0), ⟨_, rfl⟩⟩
      · rw [← max_if]
        exact ev_asg (ev_op (ev_cons (by rfl) (ev_cons (ev_op (ev_cons (by rfl) (ev_cons (ev_ix (by rfl) (by rfl) (ix_tup hat)) ev_nil)) rfl rfl) ev_nil)) rfl rfl) rfl (by simp)
      · rw [← max_if (b := (runL ps o).getD j 0 - (j : Int))]
        exact ev_asg (ev_op (ev_cons (by rfl) (ev_cons (ev_op (ev_cons (ev_ix (by rfl) (by rfl) (ix_tup hat)) (by rfl)) rfl rfl) ev_nil)) rfl rfl) rfl (by simp)) [a0, a1, .sh (.int w), .sh (.lst (O.map rowD)), .sh (.lst (ps.map pairD)), a5, .sh (.int b), .sh (.int a), .sh (rowD o), .sh (rowD (runL ps o)), y10, x11, x12, x13, x14] ⟨_, rfl⟩
    have hlen : ((rngD 0 w).map Sl.sh).length = w := by simp [rngD]
    rw [hlen] at hf2
    exact ⟨_, _, rfl, ev_b s1 (ev_b (ev_for (ev_rng1 (j := w) (by rfl) (okR_of (by omega))) hf2) ev_b0), ⟨_, _, _, by rw [hb', ha']; rfl⟩⟩) [a0, a1, .sh (.int w), .sh (.lst (O.map rowD)), .sh (.lst (ps.map pairD)), a5, .sh (.int 0), .sh (.int 0), x8, x9, x10, x11, x12, x13, x14] ⟨_, _, _, rfl⟩
  have hfull : (O.take ((O.map rowD).map Sl.sh).length) = O := by simp
  rw [hfull] at hf
  exact ⟨_, hf, _, _, _, rfl⟩
def tailC : SB := (.cons (.asg (.nm 5) (.mk F_Network (.cons (.var 2) (.cons (.var 4) .nil)))) (.cons (.asg (.nm 6) (.cst (.int 0))) (.cons (.asg (.nm 7) (.cst (.int 0))) (.cons (.for (.seq (.var 3)) (.nm 8) (b_law_1 F_L_run)) (.cons (.asgF 11 (.lst false (.cons (.call F_late (.cons (.var 5) .nil)) (.cons (.call F_early (.cons (.var 5) .nil)) .nil)))) (.cons (.ifS (.or (.val (.prim (isiF "bool") (.cons (.ix (.var 11) (.cst (.int 0))) .nil))) (.val (.prim (isiF "bool") (.cons (.ix (.var 11) (.cst (.int 1))) .nil)))) (.cons (.retF (.cst (.bl false))) .nil) .nil) (.cons (.asg (.nm 12) (.op .eq (.cons (.op .len (.cons (.lc false (.seq (.call F_L_plain (.cons (.var 2) .nil))) (.nm 14) (.val (.op .ne (.cons (.call F_L_run (.cons (.var 4) (.cons (.var 14) .nil))) (.cons (.op .tuple (.cons (.prim sortF (.cons (.var 14) .nil)) .nil)) .nil)))) (.var 14) [14]) .nil)) (.cons (.cst (.int 0)) .nil)))) (.cons (.ifS (.val (.op .ne (.cons (.op .eq (.cons (.var 11) (.cons (.lst false (.cons (.cst (.int 0)) (.cons (.cst (.int 0)) .nil))) .nil))) (.cons (.var 12) .nil)))) (.cons (.retF (.cst (.bl false))) .nil) .nil) (.cons (.ifS (.val (.op .ne (.cons (.var 11) (.cons (.call F_L_by_plain (.cons (.var 4) (.cons (.var 2) .nil))) .nil)))) (.cons (.retF (.cst (.bl false))) .nil) .nil) (.cons (.ifS (.val (.op .gt (.cons (.var 2) (.cons (.cst (.int 5)) .nil)))) (.cons (.retF (.andV (.op .ge (.cons (.ix (.var 11) (.cst (.int 0))) (.cons (.var 6) .nil))) (.op .ge (.cons (.ix (.var 11) (.cst (.int 1))) (.cons (.var 7) .nil))))) .nil) .nil) (.cons (.retF (.op .eq (.cons (.var 11) (.cons (.lst false (.cons (.var 6) (.cons (.var 7) .nil))) .nil)))) .nil)))))))))))
theorem found_ne {a b : Int} : decide ([a, b] = [0, 0]) = (decide (a = 0 ∧ b = 0)) := by
  by_cases h : a = 0 <;> by_cases h2 : b = 0 <;> simp [h, h2]
theorem tail_ev (hw1 : 1 ≤ w) (hw : w ≤ 10) (hp : ∀ p ∈ ps, PrOk w p) (hl : ps.length ≤ 1000) (hO : ∀ o ∈ O, IsOrd w o) (hall : w ≤ 5 → ∀ r ∈ rowsL w, ∃ o ∈ O, o.map (thr (zerosL r)) = r) (x13 : Sl) :
    ∃ e, evB 0 tailC [.sh (.scr s), .sh (.lst (ns.map .int)), .sh (.int w), .sh (.lst (O.map rowD)), .sh (.lst (ps.map pairD)), .un, .un, .un, .un, .un, .un, .un, .un, x13, .un] [] = some (.rt (.sh (.bl true)) e []) := by
  obtain ⟨_, hloop, y8, y9, y10, rfl⟩ := loop_ev hw hp hO (.sh (.lst (ns.map .int))) (.sh (.net w (cmpD ps))) .un .un .un .un .un x13 .un (.sh (.scr s))
  have s1 : evS 0 (.asg (.nm 5) (.mk F_Network (.cons (.var 2) (.cons (.var 4) .nil)))) [.sh (.scr s), .sh (.lst (ns.map .int)), .sh (.int w), .sh (.lst (O.map rowD)), .sh (.lst (ps.map pairD)), .un, .un, .un, .un, .un, .un, .un, .un, x13, .un] [] = some (.nx [.sh (.scr s), .sh (.lst (ns.map .int)), .sh (.int w), .sh (.lst (O.map rowD)), .sh (.lst (ps.map pairD)), .sh (.net w (cmpD ps)), .un, .un, .un, .un, .un, .un, .un, x13, .un] []) :=
    ev_asg (ev_mk (rs := [.sh (.int w), .sh (.lst (ps.map pairD))]) (t1 := []) (by rfl) (init_ev hw1 hp hl)) rfl (by simp)
  -- [late(made), early(made)]
  have s5 : evS 0 (.asgF 11 (.lst false (.cons (.call F_late (.cons (.var 5) .nil)) (.cons (.call F_early (.cons (.var 5) .nil)) .nil)))) [.sh (.scr s), .sh (.lst (ns.map .int)), .sh (.int w), .sh (.lst (O.map rowD)), .sh (.lst (ps.map pairD)), .sh (.net w (cmpD ps)), .sh (.int (behL ps w O)), .sh (.int (ahL ps w O)), y8, y9, y10, .un, .un, x13, .un] [] = some (.nx [.sh (.scr s), .sh (.lst (ns.map .int)), .sh (.int w), .sh (.lst (O.map rowD)), .sh (.lst (ps.map pairD)), .sh (.net w (cmpD ps)), .sh (.int (behL ps w O)), .sh (.int (ahL ps w O)), y8, y9, y10, .sh (.lst ([lateL ps w, earlyL ps w].map .int)), .un, x13, .un] []) :=
    ev_asgF (ev_lst (ev_cons (ev_call (rs := [.sh (.net w (cmpD ps))]) (t1 := []) (by rfl) (late_ev hw hp) rfl) (ev_cons (ev_call (rs := [.sh (.net w (cmpD ps))]) (t1 := []) (by rfl) (early_ev hw hp) rfl) ev_nil)) rfl rfl) rfl (by simp)
  have hbool : kitBint = some false := kitBint_eq
  have c6 : evT (.or (.val (.prim (isiF "bool") (.cons (.ix (.var 11) (.cst (.int 0))) .nil))) (.val (.prim (isiF "bool") (.cons (.ix (.var 11) (.cst (.int 1))) .nil)))) [.sh (.scr s), .sh (.lst (ns.map .int)), .sh (.int w), .sh (.lst (O.map rowD)), .sh (.lst (ps.map pairD)), .sh (.net w (cmpD ps)), .sh (.int (behL ps w O)), .sh (.int (ahL ps w O)), y8, y9, y10, .sh (.lst ([lateL ps w, earlyL ps w].map .int)), .un, x13, .un] [] = some (false, []) :=
    ev_or (x := false) (y := false) (ev_val (ev_prim (ds := [.int (lateL ps w)]) (by rfl) rfl (isi_int _))) fun _ => ev_val (ev_prim (ds := [.int (earlyL ps w)]) (by rfl) rfl (isi_int _))
  -- sorts
  have hsl : lcGo (.nm 14) (fun e t => evT (.val (.op .ne (.cons (.call F_L_run (.cons (.var 4) (.cons (.var 14) .nil))) (.cons (.op .tuple (.cons (.prim sortF (.cons (.var 14) .nil)) .nil)) .nil)))) e t) (fun e t => el1 (evE (.var 14) e t)) (envWipe [.sh (.scr s), .sh (.lst (ns.map .int)), .sh (.int w), .sh (.lst (O.map rowD)), .sh (.lst (ps.map pairD)), .sh (.net w (cmpD ps)), .sh (.int (behL ps w O)), .sh (.int (ahL ps w O)), y8, y9, y10, .sh (.lst ([lateL ps w, earlyL ps w].map .int)), .un, x13, .un] [14]) (((rowsL w).map rowD).map .sh) [] = some (((((rowsL w).filter fun r => !decide (runL ps r = sortI r)).map rowD).map Rv.sh), []) := by
    rw [lcGo_map (Prow fun r => !decide (runL ps r = sortI r)) R0 _ fun sl hs => ?_]
    · rw [filt_rows]
    · simp only [List.mem_map] at hs
      obtain ⟨_, ⟨r, hr, rfl⟩, rfl⟩ := hs
      have hrl := rowsL_row hr
      refine ⟨[.sh (.scr s), .sh (.lst (ns.map .int)), .sh (.int w), .sh (.lst (O.map rowD)), .sh (.lst (ps.map pairD)), .sh (.net w (cmpD ps)), .sh (.int (behL ps w O)), .sh (.int (ahL ps w O)), y8, y9, y10, .sh (.lst ([lateL ps w, earlyL ps w].map .int)), .un, x13, .sh (rowD r)], rfl, ?_, fun _ => by rfl⟩
      rw [prow_row]
      exact ev_val (ev_op (ev_cons (ev_call (rs := [.sh (.lst (ps.map pairD)), .sh (rowD r)]) (t1 := []) (by rfl) (run_ev (by rw [hrl]; exact hp) _ (.inl rfl)) rfl) (ev_cons (ev_op (ev_cons (ev_prim (ds := [rowD r]) (by rfl) rfl (sort_row r)) ev_nil) rfl rfl) ev_nil)) rfl (op_neT _ _))
  have hflen : ((((rowsL w).filter fun r => !decide (runL ps r = sortI r)).map rowD).map Rv.sh).length ≤ 1000000 := by
    have h1 := filt_le (fun r => !decide (runL ps r = sortI r)) (rowsL w)
    rw [rowsL_len] at h1
    have := pow_small hw
    simp only [List.length_map]
    omega
  have hsort : decide ((((rowsL w).filter fun r => !decide (runL ps r = sortI r)).length : Int) = 0) = decide (lateL ps w = 0 ∧ earlyL ps w = 0) := by
    rw [decide_eq_decide, sorts_iff hp]
    constructor
    · intro h r hr
      have h0 : ((rowsL w).filter fun r => !decide (runL ps r = sortI r)) = [] := List.eq_nil_of_length_eq_zero (by omega)
      have := List.filter_eq_nil_iff.mp h0 r hr
      simpa using this
    · intro h
      have h0 : ((rowsL w).filter fun r => !decide (runL ps r = sortI r)) = [] := List.filter_eq_nil_iff.mpr fun r hr => by simp [h r hr]
      rw [h0]; rfl
  have s7 : evS 0 (.asg (.nm 12) (.op .eq (.cons (.op .len (.cons (.lc false (.seq (.call F_L_plain (.cons (.var 2) .nil))) (.nm 14) (.val (.op .ne (.cons (.call F_L_run (.cons (.var 4) (.cons (.var 14) .nil))) (.cons (.op .tuple (.cons (.prim sortF (.cons (.var 14) .nil)) .nil)) .nil)))) (.var 14) [14]) .nil)) (.cons (.cst (.int 0)) .nil)))) [.sh (.scr s), .sh (.lst (ns.map .int)), .sh (.int w), .sh (.lst (O.map rowD)), .sh (.lst (ps.map pairD)), .sh (.net w (cmpD ps)), .sh (.int (behL ps w O)), .sh (.int (ahL ps w O)), y8, y9, y10, .sh (.lst ([lateL ps w, earlyL ps w].map .int)), .un, x13, .un] [] = some (.nx [.sh (.scr s), .sh (.lst (ns.map .int)), .sh (.int w), .sh (.lst (O.map rowD)), .sh (.lst (ps.map pairD)), .sh (.net w (cmpD ps)), .sh (.int (behL ps w O)), .sh (.int (ahL ps w O)), y8, y9, y10, .sh (.lst ([lateL ps w, earlyL ps w].map .int)), .sh (.bl (decide (lateL ps w = 0 ∧ earlyL ps w = 0))), x13, .un] []) := by
    rw [← hsort]
    refine ev_asg (r := .sh (.bl (decide ((((rowsL w).filter fun r => !decide (runL ps r = sortI r)).length : Int) = 0)))) (ev_op (ev_cons (ev_op (r := .sh (.int (((rowsL w).filter fun r => !decide (runL ps r = sortI r)).length : Nat))) (ev_cons (ev_lc (ev_seqL (ev_call (rs := [.sh (.int w)]) (t1 := []) (by rfl) (L_plain_ev hw) rfl)) rfl hsl (sz_of hflen) (lc_shd _)) ev_nil) rfl ?_) (by rfl)) rfl rfl) rfl (by simp)
    simp only [evOp, List.length_map]
  have c8 : evT (.val (.op .ne (.cons (.op .eq (.cons (.var 11) (.cons (.lst false (.cons (.cst (.int 0)) (.cons (.cst (.int 0)) .nil))) .nil))) (.cons (.var 12) .nil)))) [.sh (.scr s), .sh (.lst (ns.map .int)), .sh (.int w), .sh (.lst (O.map rowD)), .sh (.lst (ps.map pairD)), .sh (.net w (cmpD ps)), .sh (.int (behL ps w O)), .sh (.int (ahL ps w O)), y8, y9, y10, .sh (.lst ([lateL ps w, earlyL ps w].map .int)), .sh (.bl (decide (lateL ps w = 0 ∧ earlyL ps w = 0))), x13, .un] [] = some (false, []) := by
    refine ev_val (ev_op (ev_cons (ev_op (r := .sh (.bl (decide (lateL ps w = 0 ∧ earlyL ps w = 0)))) (by rfl) rfl ?_) (by rfl)) rfl ?_)
    · have := op_eqL [lateL ps w, earlyL ps w] [0, 0]
      rw [found_ne] at this
      exact this
    · simp [evOp]
  have c9 : evT (.val (.op .ne (.cons (.var 11) (.cons (.call F_L_by_plain (.cons (.var 4) (.cons (.var 2) .nil))) .nil)))) [.sh (.scr s), .sh (.lst (ns.map .int)), .sh (.int w), .sh (.lst (O.map rowD)), .sh (.lst (ps.map pairD)), .sh (.net w (cmpD ps)), .sh (.int (behL ps w O)), .sh (.int (ahL ps w O)), y8, y9, y10, .sh (.lst ([lateL ps w, earlyL ps w].map .int)), .sh (.bl (decide (lateL ps w = 0 ∧ earlyL ps w = 0))), x13, .un] [] = some (false, []) := by
    refine ev_val (ev_op (ev_cons (by rfl) (ev_cons (ev_call (rs := [.sh (.lst (ps.map pairD)), .sh (.int w)]) (t1 := []) (by rfl) (by_plain_ev hw hp) rfl) ev_nil)) rfl ?_)
    have := op_neL [lateL ps w, earlyL ps w] [lateL ps w, earlyL ps w]
    rw [decide_eq_true rfl] at this
    exact this
  have cw : evT (.val (.op .gt (.cons (.var 2) (.cons (.cst (.int 5)) .nil)))) [.sh (.scr s), .sh (.lst (ns.map .int)), .sh (.int w), .sh (.lst (O.map rowD)), .sh (.lst (ps.map pairD)), .sh (.net w (cmpD ps)), .sh (.int (behL ps w O)), .sh (.int (ahL ps w O)), y8, y9, y10, .sh (.lst ([lateL ps w, earlyL ps w].map .int)), .sh (.bl (decide (lateL ps w = 0 ∧ earlyL ps w = 0))), x13, .un] [] = some (decide ((5 : Int) < w), []) := rfl
  have hb := beh_le_late hp hO
  have ha := ah_le_early hp hO
  have pre : ∀ {rest : SB} {out : Out}, evB 0 rest [.sh (.scr s), .sh (.lst (ns.map .int)), .sh (.int w), .sh (.lst (O.map rowD)), .sh (.lst (ps.map pairD)), .sh (.net w (cmpD ps)), .sh (.int (behL ps w O)), .sh (.int (ahL ps w O)), y8, y9, y10, .sh (.lst ([lateL ps w, earlyL ps w].map .int)), .sh (.bl (decide (lateL ps w = 0 ∧ earlyL ps w = 0))), x13, .un] [] = some out → True := fun _ => trivial
  by_cases h5 : 5 < w
  · rw [decide_eq_true (show (5 : Int) < w by omega)] at cw
    refine ⟨_, ev_b s1 (ev_b (by rfl) (ev_b (by rfl) (ev_b (ev_for (ev_seqL (by rfl)) hloop) (ev_b s5 (ev_b (ev_ifF c6 ev_b0) (ev_b s7 (ev_b (ev_ifF c8 ev_b0) (ev_b (ev_ifF c9 ev_b0) (ev_br (ev_ifT cw (ev_br (ev_retF (r := .sh (.bl true)) (by simp) ?_ rfl))))))))))))⟩
    have g1 : evE (.op .ge (.cons (.ix (.var 11) (.cst (.int 0))) (.cons (.var 6) .nil))) [.sh (.scr s), .sh (.lst (ns.map .int)), .sh (.int w), .sh (.lst (O.map rowD)), .sh (.lst (ps.map pairD)), .sh (.net w (cmpD ps)), .sh (.int (behL ps w O)), .sh (.int (ahL ps w O)), y8, y9, y10, .sh (.lst ([lateL ps w, earlyL ps w].map .int)), .sh (.bl (decide (lateL ps w = 0 ∧ earlyL ps w = 0))), x13, .un] [] = some (.sh (.bl true), []) := by
      rw [← decide_eq_true hb]; rfl
    have g2 : evE (.op .ge (.cons (.ix (.var 11) (.cst (.int 1))) (.cons (.var 7) .nil))) [.sh (.scr s), .sh (.lst (ns.map .int)), .sh (.int w), .sh (.lst (O.map rowD)), .sh (.lst (ps.map pairD)), .sh (.net w (cmpD ps)), .sh (.int (behL ps w O)), .sh (.int (ahL ps w O)), y8, y9, y10, .sh (.lst ([lateL ps w, earlyL ps w].map .int)), .sh (.bl (decide (lateL ps w = 0 ∧ earlyL ps w = 0))), x13, .un] [] = some (.sh (.bl true), []) := by
      rw [← decide_eq_true ha]; rfl
    exact ev_andV (x := true) (y := true) g1 fun _ => g2
  · rw [decide_eq_false (show ¬ (5 : Int) < w by omega)] at cw
    have e1 : lateL ps w = behL ps w O := Int.le_antisymm (late_le_beh hp hO (hall (by omega))) hb
    have e2 : earlyL ps w = ahL ps w O := Int.le_antisymm (early_le_ah hp hO (hall (by omega))) ha
    refine ⟨_, ev_b s1 (ev_b (by rfl) (ev_b (by rfl) (ev_b (ev_for (ev_seqL (by rfl)) hloop) (ev_b s5 (ev_b (ev_ifF c6 ev_b0) (ev_b s7 (ev_b (ev_ifF c8 ev_b0) (ev_b (ev_ifF c9 ev_b0) (ev_b (ev_ifF cw ev_b0) (ev_br (ev_retF (r := .sh (.bl true)) (by simp) ?_ rfl)))))))))))⟩
    refine ev_op (by rfl) rfl ?_
    have := op_eqL [lateL ps w, earlyL ps w] [behL ps w O, ahL ps w O]
    rw [decide_eq_true (by rw [e1, e2])] at this
    exact this
end
end Pe
namespace Pe
open Vs Pf
/-! the law, from its script -/
theorem ordL_ok : ∀ w ∈ [1, 2, 3, 4, 5], ∀ o ∈ ordersL w w, o.Perm ((List.range w).map fun k : Nat => (k : Int)) := by
  intro w hw o ho
  have key : ∀ w ∈ [1, 2, 3, 4, 5], ∀ o ∈ ordersL w w, o.isPerm ((List.range w).map fun k : Nat => (k : Int)) = true := by decide +kernel
  exact List.isPerm_iff.mp (key w hw o ho)
theorem prOk_of {w : Nat} {p : Int × Int} (h : PairOk (w : Int) true p) : PrOk w p := ⟨h.1, h.2.1, h.2.2.1, h.2.2.2.1, h.2.2.2.2.1⟩
/-- the pairs, perhaps repeated -/
theorem s6_ev {ps0 : List (Int × Int)} (hl0 : ps0.length ≤ 18) (w : Nat) (h0 : ∀ p ∈ ps0, PrOk w p) {ns : List Int} {v1 : Int} (h1 : L2.atI ns 1 = some v1) (hv1 : 0 ≤ v1) (a0 a2 a3 a5 a6 a7 a8 a9 a10 a11 a12 a13 a14 : Sl) :
    ∃ ps : List (Int × Int), ps.length ≤ 1000 ∧ (∀ p ∈ ps, PrOk w p) ∧ evS 0 (.ifS (.val (.op .eq (.cons (.op .mod (.cons (.op .fdiv (.cons (.ix (.var 1) (.cst (.int 1))) (.cons (.cst (.int 19)) .nil))) (.cons (.cst (.int 16)) .nil))) (.cons (.cst (.int 3)) .nil)))) (.cons (.asgF 4 (.sl (.op .mul (.cons (.var 4) (.cons (.cst (.int 40)) .nil))) .none (.some (.cst (.int 120))))) .nil) .nil) [a0, .sh (.lst (ns.map .int)), a2, a3, .sh (.lst (ps0.map pairD)), a5, a6, a7, a8, a9, a10, a11, a12, a13, a14] [] = some (.nx [a0, .sh (.lst (ns.map .int)), a2, a3, .sh (.lst (ps.map pairD)), a5, a6, a7, a8, a9, a10, a11, a12, a13, a14] []) := by
  have hc : evT (.val (.op .eq (.cons (.op .mod (.cons (.op .fdiv (.cons (.ix (.var 1) (.cst (.int 1))) (.cons (.cst (.int 19)) .nil))) (.cons (.cst (.int 16)) .nil))) (.cons (.cst (.int 3)) .nil)))) [a0, .sh (.lst (ns.map .int)), a2, a3, .sh (.lst (ps0.map pairD)), a5, a6, a7, a8, a9, a10, a11, a12, a13, a14] [] = some (decide (v1 / 19 % 16 = 3), []) :=
    ev_val (ev_op (ev_cons (ev_op (ev_cons (ev_op (ev_cons (ev_ix (by rfl) (by rfl) (ix_lst (atI_mapI h1))) (by rfl)) rfl (op_fdiv (by decide))) (by rfl)) rfl (op_mod (by decide))) (by rfl)) rfl rfl)
  by_cases h : v1 / 19 % 16 = 3
  · rw [decide_eq_true h] at hc
    refine ⟨((List.replicate 40 ps0).flatten).take 120, ?_, fun p hp => ?_, ev_ifT hc (ev_b (e1 := [a0, .sh (.lst (ns.map .int)), a2, a3, .sh (.lst ((((List.replicate 40 ps0).flatten).take 120).map pairD)), a5, a6, a7, a8, a9, a10, a11, a12, a13, a14]) ?_ ev_b0)⟩
    · rw [List.length_take]; omega
    · have := List.mem_of_mem_take hp
      rw [List.mem_flatten] at this
      obtain ⟨l, hl, hp⟩ := this
      rw [List.eq_of_mem_replicate hl] at hp
      exact h0 p hp
    · have e : (((List.replicate 40 ps0).flatten).take 120).map pairD = cutD ((List.replicate 40 (ps0.map pairD)).flatten) none (some ((120 : Nat) : Int)) := by
        rw [cut_lo, List.map_take, List.map_flatten, List.map_replicate]
      rw [e]
      refine ev_asgF (r := .fr _) (ev_sl (ra := .fr ((List.replicate 40 (ps0.map pairD)).flatten)) (ev_op (by rfl) rfl ?_) rfl ev_o0 (by rfl) rfl) rfl (by simp)
      show (if 0 ≤ (40 : Int) ∧ (40 : Int) < 1000 ∧ (ps0.map pairD).length < 1000 then some (Rv.fr (List.replicate (40 : Int).toNat (ps0.map pairD)).flatten) else none) = _
      rw [if_pos ⟨by decide, by decide, by rw [List.length_map]; omega⟩]
      rfl
  · rw [decide_eq_false h] at hc
    exact ⟨ps0, by omega, h0, ev_ifF hc ev_b0⟩
theorem law_ev (s : List Int) : ∃ t, F_law.fn [.sh (.scr s)] [] = some (.sh (.bl true), t) := by
  obtain ⟨ns, hns, hlen, hb⟩ := numbers_ev s 14 (by decide)
  have h0n : ∀ x ∈ ns, 0 ≤ x := fun x hx => (hb x hx).1
  obtain ⟨v0, hv0, hv0'⟩ := atI_nn (xs := ns) (k := 0) (by decide) (by omega)
  obtain ⟨v1, hv1, hv1'⟩ := atI_nn (xs := ns) (k := 1) (by decide) (by omega)
  have v0n := h0n v0 (List.mem_of_getElem? hv0')
  have v1n := h0n v1 (List.mem_of_getElem? hv1')
  obtain ⟨m0, m1⟩ := mod_b v0 5 (by decide)
  obtain ⟨w1, hw1⟩ := Int.eq_ofNat_of_zero_le (show 0 ≤ v0 % 5 + 1 by omega)
  have hw1b : 1 ≤ w1 ∧ w1 ≤ 5 := by omega
  have hw1m : w1 ∈ [1, 2, 3, 4, 5] := by
    have : w1 = 1 ∨ w1 = 2 ∨ w1 = 3 ∨ w1 = 4 ∨ w1 = 5 := by omega
    rcases this with h | h | h | h | h <;> subst h <;> decide
  have s1 : evS 0 (.asgF 1 (.call F_L_numbers (.cons (.var 0) (.cons (.cst (.int 14)) .nil)))) [.sh (.scr s), .un, .un, .un, .un, .un, .un, .un, .un, .un, .un, .un, .un, .un, .un] [] = some (.nx [.sh (.scr s), .sh (.lst (ns.map .int)), .un, .un, .un, .un, .un, .un, .un, .un, .un, .un, .un, .un, .un] []) :=
    ev_asgF (ev_call (rs := [.sh (.scr s), .sh (.int (14 : Nat))]) (t1 := []) (by rfl) hns rfl) rfl (by simp)
  have s2 : evS 0 (.asg (.nm 2) (.op .add (.cons (.op .mod (.cons (.ix (.var 1) (.cst (.int 0))) (.cons (.cst (.int 5)) .nil))) (.cons (.cst (.int 1)) .nil)))) [.sh (.scr s), .sh (.lst (ns.map .int)), .un, .un, .un, .un, .un, .un, .un, .un, .un, .un, .un, .un, .un] [] = some (.nx [.sh (.scr s), .sh (.lst (ns.map .int)), .sh (.int w1), .un, .un, .un, .un, .un, .un, .un, .un, .un, .un, .un, .un] []) := by
    rw [← show v0 % 5 + 1 = (w1 : Int) from hw1]
    exact ev_asg (ev_op (ev_cons (ev_op (ev_cons (ev_ix (by rfl) (by rfl) (ix_lst (atI_mapI hv0))) (by rfl)) rfl (op_mod (by decide))) (by rfl)) rfl rfl) rfl (by simp)
  have s3 : evS 0 (.asgF 3 (.call F_L_orders (.cons (.var 2) .nil))) [.sh (.scr s), .sh (.lst (ns.map .int)), .sh (.int w1), .un, .un, .un, .un, .un, .un, .un, .un, .un, .un, .un, .un] [] = some (.nx [.sh (.scr s), .sh (.lst (ns.map .int)), .sh (.int w1), .sh (.lst ((ordersL w1 w1).map rowD)), .un, .un, .un, .un, .un, .un, .un, .un, .un, .un, .un] []) :=
    ev_asgF (ev_call (rs := [.sh (.int w1)]) (t1 := []) (by rfl) (orders_ev hw1b.2) rfl) rfl (by simp)
  -- few wires or many
  have s4 : ∃ (w : Nat) (O : List (List Int)), (1 ≤ w ∧ w ≤ 10) ∧ (∀ o ∈ O, IsOrd w o) ∧ (w ≤ 5 → ∀ r ∈ rowsL w, ∃ o ∈ O, o.map (thr (zerosL r)) = r) ∧ evS 0 (.ifS (.val (.op .eq (.cons (.op .mod (.cons (.op .fdiv (.cons (.ix (.var 1) (.cst (.int 0))) (.cons (.cst (.int 5)) .nil))) (.cons (.cst (.int 8)) .nil))) (.cons (.cst (.int 1)) .nil)))) (.cons (.asg (.nm 2) (.op .add (.cons (.cst (.int 6)) (.cons (.op .mod (.cons (.op .fdiv (.cons (.ix (.var 1) (.cst (.int 0))) (.cons (.cst (.int 40)) .nil))) (.cons (.cst (.int 3)) .nil))) .nil)))) (.cons (.asgF 3 (.lc false (.rng1 (.cst (.int 6))) (.nm 13) .yes (.call F_L_order (.cons (.ix (.var 1) (.op .add (.cons (.cst (.int 8)) (.cons (.var 13) .nil)))) (.cons (.var 2) .nil))) [13])) .nil)) .nil) [.sh (.scr s), .sh (.lst (ns.map .int)), .sh (.int w1), .sh (.lst ((ordersL w1 w1).map rowD)), .un, .un, .un, .un, .un, .un, .un, .un, .un, .un, .un] [] = some (.nx [.sh (.scr s), .sh (.lst (ns.map .int)), .sh (.int w), .sh (.lst (O.map rowD)), .un, .un, .un, .un, .un, .un, .un, .un, .un, .un, .un] []) := by
    have hc : evT (.val (.op .eq (.cons (.op .mod (.cons (.op .fdiv (.cons (.ix (.var 1) (.cst (.int 0))) (.cons (.cst (.int 5)) .nil))) (.cons (.cst (.int 8)) .nil))) (.cons (.cst (.int 1)) .nil)))) [.sh (.scr s), .sh (.lst (ns.map .int)), .sh (.int w1), .sh (.lst ((ordersL w1 w1).map rowD)), .un, .un, .un, .un, .un, .un, .un, .un, .un, .un, .un] [] = some (decide (v0 / 5 % 8 = 1), []) :=
      ev_val (ev_op (ev_cons (ev_op (ev_cons (ev_op (ev_cons (ev_ix (by rfl) (by rfl) (ix_lst (atI_mapI hv0))) (by rfl)) rfl (op_fdiv (by decide))) (by rfl)) rfl (op_mod (by decide))) (by rfl)) rfl rfl)
    by_cases h : v0 / 5 % 8 = 1
    · rw [decide_eq_true h] at hc
      obtain ⟨k0, k1⟩ := mod_b (v0 / 40) 3 (by decide)
      obtain ⟨w, hw⟩ := Int.eq_ofNat_of_zero_le (show 0 ≤ 6 + v0 / 40 % 3 by omega)
      have hord : ∀ k : Nat, ∃ o : List Int, k < 6 → (F_L_order.fn [.sh (.int (ns.getD (8 + k) 0)), .sh (.int w)] [] = some (.sh (rowD o), []) ∧ IsOrd w o) := fun k => by
        by_cases hk : k < 6
        · have hm : ns.getD (8 + k) 0 ∈ ns := getD_mem' (by omega)
          obtain ⟨o, h1, h2⟩ := order_ev (n := ns.getD (8 + k) 0) (c := w) (h0n _ hm) (by omega)
          exact ⟨o, fun _ => ⟨h1, h2⟩⟩
        · exact ⟨[], fun z => absurd z hk⟩
      refine ⟨w, (List.range 6).map fun k => Classical.choose (hord k), by omega, fun o ho => ?_, fun h5 => by omega, ?_⟩
      · simp only [List.mem_map, List.mem_range] at ho
        obtain ⟨k, hk, rfl⟩ := ho
        exact (Classical.choose_spec (hord k) hk).2
      · generalize hof : (fun k => Classical.choose (hord k)) = of
        have hofs : ∀ k, k < 6 → F_L_order.fn [.sh (.int (ns.getD (8 + k) 0)), .sh (.int w)] [] = some (.sh (rowD (of k)), []) := fun k hk => by
          rw [← hof]
          exact (Classical.choose_spec (hord k) hk).1
        have q1 : evS 0 (.asg (.nm 2) (.op .add (.cons (.cst (.int 6)) (.cons (.op .mod (.cons (.op .fdiv (.cons (.ix (.var 1) (.cst (.int 0))) (.cons (.cst (.int 40)) .nil))) (.cons (.cst (.int 3)) .nil))) .nil)))) [.sh (.scr s), .sh (.lst (ns.map .int)), .sh (.int w1), .sh (.lst ((ordersL w1 w1).map rowD)), .un, .un, .un, .un, .un, .un, .un, .un, .un, .un, .un] [] = some (.nx [.sh (.scr s), .sh (.lst (ns.map .int)), .sh (.int w), .sh (.lst ((ordersL w1 w1).map rowD)), .un, .un, .un, .un, .un, .un, .un, .un, .un, .un, .un] []) := by
          rw [← show 6 + v0 / 40 % 3 = (w : Int) from hw]
          exact ev_asg (ev_op (ev_cons (by rfl) (ev_cons (ev_op (ev_cons (ev_op (ev_cons (ev_ix (by rfl) (by rfl) (ix_lst (atI_mapI hv0))) (by rfl)) rfl (op_fdiv (by decide))) (by rfl)) rfl (op_mod (by decide))) ev_nil)) rfl rfl) rfl (by simp)
        have hlc : lcGo (.nm 13) (fun e t => evT .yes e t) (fun e t => el1 (evE (.call F_L_order (.cons (.ix (.var 1) (.op .add (.cons (.cst (.int 8)) (.cons (.var 13) .nil)))) (.cons (.var 2) .nil))) e t)) (envWipe [.sh (.scr s), .sh (.lst (ns.map .int)), .sh (.int w), .sh (.lst ((ordersL w1 w1).map rowD)), .un, .un, .un, .un, .un, .un, .un, .un, .un, .un, .un] [13]) ((rngD 0 6).map .sh) [] = some ((((List.range 6).map of).map rowD).map Rv.sh, []) := by
          refine (lcGo_map (fun _ => true) (fun sl => match sl with | .sh (.int k) => .sh (rowD (of k.toNat)) | _ => .tp) _ fun sl hs => ?_).trans (by rfl)
          simp only [rngD, List.map_map, List.mem_map, List.mem_range] at hs
          obtain ⟨k, hk, rfl⟩ := hs
          refine ⟨[.sh (.scr s), .sh (.lst (ns.map .int)), .sh (.int w), .sh (.lst ((ordersL w1 w1).map rowD)), .un, .un, .un, .un, .un, .un, .un, .un, .un, .sh (.int (0 + (k : Nat))), .un], rfl, rfl, fun _ => ?_⟩
          have hat : L2.atI (ns.map D.int) (8 + (0 + (k : Nat)) : Int) = some (.int (ns.getD (8 + k) 0)) := by
            rw [show (8 + (0 + (k : Nat)) : Int) = ((8 + k : Nat) : Int) by omega]
            exact at_int (by omega)
          have hk' : (0 + (k : Nat) : Int).toNat = k := by omega
          refine ev_el (ev_call (rs := [.sh (.int (ns.getD (8 + k) 0)), .sh (.int w)]) (t1 := []) (ev_cons (ev_ix (by rfl) (by rfl) (ix_lst hat)) (by rfl)) ?_ rfl) rfl
          show F_L_order.fn _ [] = some (.sh (rowD (of (0 + (k : Nat) : Int).toNat)), [])
          rw [hk']
          exact hofs k hk
        exact ev_ifT hc (ev_b q1 (ev_b (ev_asgF (ev_lc (ev_rng1 (j := 6) (by rfl) (by decide)) rfl hlc (by rfl) (lc_shd _)) rfl (by simp)) ev_b0))
    · rw [decide_eq_false h] at hc
      exact ⟨w1, ordersL w1 w1, by omega, ordL_ok w1 hw1m, fun _ => five_ok w1 hw1m, ev_ifF hc ev_b0⟩
  obtain ⟨w, O, hw, hO, hall, s4⟩ := s4
  obtain ⟨ps0, hps, hpl, hpok⟩ := pairs_ev (ns := ns) (pl := 1) (w := w) (m := 18) (std := true) h0n (by omega) (by decide) (by omega)
  have s5 : evS 0 (.asgF 4 (.call F_L_pairs (.cons (.var 1) (.cons (.cst (.int 1)) (.cons (.var 2) (.cons (.cst (.int 18)) (.cons (.cst (.bl true)) .nil))))))) [.sh (.scr s), .sh (.lst (ns.map .int)), .sh (.int w), .sh (.lst (O.map rowD)), .un, .un, .un, .un, .un, .un, .un, .un, .un, .un, .un] [] = some (.nx [.sh (.scr s), .sh (.lst (ns.map .int)), .sh (.int w), .sh (.lst (O.map rowD)), .sh (.lst (ps0.map pairD)), .un, .un, .un, .un, .un, .un, .un, .un, .un, .un] []) :=
    ev_asgF (ev_call (rs := [.sh (.lst (ns.map .int)), .sh (.int 1), .sh (.int w), .sh (.int 18), .sh (.bl true)]) (t1 := []) (by rfl) hps rfl) rfl (by simp)
  obtain ⟨ps, hpsl, hpsok, s6⟩ := s6_ev (by omega) w (fun p hp => prOk_of (hpok p hp)) hv1 v1n (.sh (.scr s)) (.sh (.int w)) (.sh (.lst (O.map rowD))) .un .un .un .un .un .un .un .un .un .un
  obtain ⟨e, htail⟩ := tail_ev (s := s) (ns := ns) hw.1 hw.2 hpsok hpsl hO hall .un
  exact ⟨[], run_rt rfl (ev_b s1 (ev_b s2 (ev_b s3 (ev_b s4 (ev_b s5 (ev_b s6 htail))))))⟩
end Pe
namespace Pf
theorem lawOk : ∀ ns : List Int, ns.length ≤ 63 → ∃ t, F_law.fn [.sh (.scr ns)] [] = some (.sh (.bl true), t) := fun ns _ => Pe.law_ev ns
end Pf
namespace Pf
open PySem PySem.Spec PyProof.Rows L2 Vs
def spLaw (K : PySem.W.Frag) : Sp := fun vs H Q _ => ∃ (a : Addr) (ns : List Int), vs = [.ref a] ∧ SqL K H a (ns.map V.int) ∧ ns.length ≤ 63 ∧ ∀ H', Q (.bl true) H'
def ntOf (K : PySem.W.Frag) (C : Addr) : NetI := ⟨C, True, fun a ns => ∀ H, SqL K H a (ns.map V.int)⟩
theorem law_imp {K : PySem.W.Frag} {C : Addr} {f : FS} (h : ∀ ns : List Int, ns.length ≤ 63 → ∃ t, f.fn [.sh (.scr ns)] [] = some (.sh (.bl true), t)) (vs : List V) (H : Hp) (Q : VK) (E : XK) (q : spLaw K vs H Q E) : spOf (ntOf K C) f vs H Q E := by
  obtain ⟨a, ns, rfl, hs, hl, k⟩ := q
  obtain ⟨t, e⟩ := h ns hl
  refine ⟨none, [.sh (.scr ns)], [], _, t, fun _ => False, e, rfl, fun i s v e1 e2 => ?_, (fun _ z => by cases z), (fun _ z => by cases z), (fun _ z => z.elim), fun v H' g _ _ rep _ _ => ?_⟩
  · match i with
    | 0 =>
      cases e1
      cases e2
      refine ⟨rfl, _, rfl, ?_⟩
      simp only [Vl]
      refine ⟨a, rfl, ?_⟩
      rcases hs with hs | hs
      · exact .inl ⟨id, hs⟩
      · exact .inr fun H => .inr hs
    | i + 1 => simp at e1
  · have : v = .bl true := by simpa [Vl] using rep.2
    rw [this]
    exact k H'
theorem all_mk {l : PySem.W.OpenLaw} {w : World} {K : PySem.W.Frag} {h : Heap} {mg : Str → Option Value} {fa C : Addr} (lawOk : ∀ ns : List Int, ns.length ≤ 63 → ∃ t, F_law.fn [.sh (.scr ns)] [] = some (.sh (.bl true), t)) (X : K.In h) (G : h.Ns mainGlobals mg) (hfa : mg "law" = some (.ref fa))
    {od1 an1 : Option Addr} {sl1 : Array (Option Value)} {oc1 kV1 dc1 pm1 cd1 ct1 : Value} {f1 : Addr} (l1 : K.lookup f1 = some ⟨oc1, od1, .func (PySem.W.fnOf "__init__" "Network.__init__" (defArgs s_Network___init__) (defBody s_Network___init__) (defScope s_Network___init__) .none kV1 dc1 pm1 an1 cd1 ct1), sl1⟩) (c1 : PySem.W.codeIn K cd1 "Network.__init__" = true) (k1 : PySem.W.keepIn K (.ref f1) = true) (a1 : PySem.W.findIn K (.ref C) "__init__" = some (some (.ref f1))) (i1 : PySem.W.isFn K (.ref f1) = true)
    {od2 an2 : Option Addr} {sl2 : Array (Option Value)} {oc2 kV2 dc2 pm2 cd2 ct2 : Value} {f2 : Addr} (l2 : K.lookup f2 = some ⟨oc2, od2, .func (PySem.W.fnOf "run" "Network.run" (defArgs s_Network_run) (defBody s_Network_run) (defScope s_Network_run) .none kV2 dc2 pm2 an2 cd2 ct2), sl2⟩) (c2 : PySem.W.codeIn K cd2 "Network.run" = true) (k2 : PySem.W.keepIn K (.ref f2) = true) (a2 : PySem.W.findIn K (.ref C) "run" = some (some (.ref f2))) (i2 : PySem.W.isFn K (.ref f2) = true)
    {od3 an3 : Option Addr} {sl3 : Array (Option Value)} {oc3 kV3 dc3 pm3 cd3 ct3 : Value} {f3 : Addr} (l3 : K.lookup f3 = some ⟨oc3, od3, .func (PySem.W.fnOf "plain_rows" "plain_rows" (defArgs s_plain_rows) (defBody s_plain_rows) (defScope s_plain_rows) .none kV3 dc3 pm3 an3 cd3 ct3), sl3⟩) (c3 : PySem.W.codeIn K cd3 "plain_rows" = true) (k3 : PySem.W.keepIn K (.ref f3) = true) (a3 : PySem.W.nsIn K mainGlobals "plain_rows" = some (some (.ref f3)))
    {od4 an4 : Option Addr} {sl4 : Array (Option Value)} {oc4 kV4 dc4 pm4 cd4 ct4 : Value} {f4 : Addr} (l4 : K.lookup f4 = some ⟨oc4, od4, .func (PySem.W.fnOf "noughts" "noughts" (defArgs s_noughts) (defBody s_noughts) (defScope s_noughts) .none kV4 dc4 pm4 an4 cd4 ct4), sl4⟩) (c4 : PySem.W.codeIn K cd4 "noughts" = true) (k4 : PySem.W.keepIn K (.ref f4) = true) (a4 : PySem.W.nsIn K mainGlobals "noughts" = some (some (.ref f4)))
    {od5 an5 : Option Addr} {sl5 : Array (Option Value)} {oc5 kV5 dc5 pm5 cd5 ct5 : Value} {f5 : Addr} (l5 : K.lookup f5 = some ⟨oc5, od5, .func (PySem.W.fnOf "late" "late" (defArgs s_late) (defBody s_late) (defScope s_late) .none kV5 dc5 pm5 an5 cd5 ct5), sl5⟩) (c5 : PySem.W.codeIn K cd5 "late" = true) (k5 : PySem.W.keepIn K (.ref f5) = true) (a5 : PySem.W.nsIn K mainGlobals "late" = some (some (.ref f5)))
    {od6 an6 : Option Addr} {sl6 : Array (Option Value)} {oc6 kV6 dc6 pm6 cd6 ct6 : Value} {f6 : Addr} (l6 : K.lookup f6 = some ⟨oc6, od6, .func (PySem.W.fnOf "early" "early" (defArgs s_early) (defBody s_early) (defScope s_early) .none kV6 dc6 pm6 an6 cd6 ct6), sl6⟩) (c6 : PySem.W.codeIn K cd6 "early" = true) (k6 : PySem.W.keepIn K (.ref f6) = true) (a6 : PySem.W.nsIn K mainGlobals "early" = some (some (.ref f6)))
    {od7 an7 : Option Addr} {sl7 : Array (Option Value)} {oc7 kV7 dc7 pm7 cd7 ct7 : Value} {f7 : Addr} (l7 : K.lookup f7 = some ⟨oc7, od7, .func (PySem.W.fnOf "_law_numbers" "_law_numbers" (defArgs s_L_numbers) (defBody s_L_numbers) (defScope s_L_numbers) .none kV7 dc7 pm7 an7 cd7 ct7), sl7⟩) (c7 : PySem.W.codeIn K cd7 "_law_numbers" = true) (k7 : PySem.W.keepIn K (.ref f7) = true) (a7 : PySem.W.nsIn K mainGlobals "_law_numbers" = some (some (.ref f7)))
    {od8 an8 : Option Addr} {sl8 : Array (Option Value)} {oc8 kV8 dc8 pm8 cd8 ct8 : Value} {f8 : Addr} (l8 : K.lookup f8 = some ⟨oc8, od8, .func (PySem.W.fnOf "_law_pairs" "_law_pairs" (defArgs s_L_pairs) (defBody s_L_pairs) (defScope s_L_pairs) .none kV8 dc8 pm8 an8 cd8 ct8), sl8⟩) (c8 : PySem.W.codeIn K cd8 "_law_pairs" = true) (k8 : PySem.W.keepIn K (.ref f8) = true) (a8 : PySem.W.nsIn K mainGlobals "_law_pairs" = some (some (.ref f8)))
    {od9 an9 : Option Addr} {sl9 : Array (Option Value)} {oc9 kV9 dc9 pm9 cd9 ct9 : Value} {f9 : Addr} (l9 : K.lookup f9 = some ⟨oc9, od9, .func (PySem.W.fnOf "_law_run" "_law_run" (defArgs s_L_run) (defBody s_L_run) (defScope s_L_run) .none kV9 dc9 pm9 an9 cd9 ct9), sl9⟩) (c9 : PySem.W.codeIn K cd9 "_law_run" = true) (k9 : PySem.W.keepIn K (.ref f9) = true) (a9 : PySem.W.nsIn K mainGlobals "_law_run" = some (some (.ref f9)))
    {od10 an10 : Option Addr} {sl10 : Array (Option Value)} {oc10 kV10 dc10 pm10 cd10 ct10 : Value} {f10 : Addr} (l10 : K.lookup f10 = some ⟨oc10, od10, .func (PySem.W.fnOf "_law_plain" "_law_plain" (defArgs s_L_plain) (defBody s_L_plain) (defScope s_L_plain) .none kV10 dc10 pm10 an10 cd10 ct10), sl10⟩) (c10 : PySem.W.codeIn K cd10 "_law_plain" = true) (k10 : PySem.W.keepIn K (.ref f10) = true) (a10 : PySem.W.nsIn K mainGlobals "_law_plain" = some (some (.ref f10)))
    {od11 an11 : Option Addr} {sl11 : Array (Option Value)} {oc11 kV11 dc11 pm11 cd11 ct11 : Value} {f11 : Addr} (l11 : K.lookup f11 = some ⟨oc11, od11, .func (PySem.W.fnOf "_law_order" "_law_order" (defArgs s_L_order) (defBody s_L_order) (defScope s_L_order) .none kV11 dc11 pm11 an11 cd11 ct11), sl11⟩) (c11 : PySem.W.codeIn K cd11 "_law_order" = true) (k11 : PySem.W.keepIn K (.ref f11) = true) (a11 : PySem.W.nsIn K mainGlobals "_law_order" = some (some (.ref f11)))
    {od12 an12 : Option Addr} {sl12 : Array (Option Value)} {oc12 kV12 dc12 pm12 cd12 ct12 : Value} {f12 : Addr} (l12 : K.lookup f12 = some ⟨oc12, od12, .func (PySem.W.fnOf "_law_orders" "_law_orders" (defArgs s_L_orders) (defBody s_L_orders) (defScope s_L_orders) .none kV12 dc12 pm12 an12 cd12 ct12), sl12⟩) (c12 : PySem.W.codeIn K cd12 "_law_orders" = true) (k12 : PySem.W.keepIn K (.ref f12) = true) (a12 : PySem.W.nsIn K mainGlobals "_law_orders" = some (some (.ref f12)))
    {od13 an13 : Option Addr} {sl13 : Array (Option Value)} {oc13 kV13 dc13 pm13 cd13 ct13 : Value} {f13 : Addr} (l13 : K.lookup f13 = some ⟨oc13, od13, .func (PySem.W.fnOf "_law_by_plain" "_law_by_plain" (defArgs s_L_by_plain) (defBody s_L_by_plain) (defScope s_L_by_plain) .none kV13 dc13 pm13 an13 cd13 ct13), sl13⟩) (c13 : PySem.W.codeIn K cd13 "_law_by_plain" = true) (k13 : PySem.W.keepIn K (.ref f13) = true) (a13 : PySem.W.nsIn K mainGlobals "_law_by_plain" = some (some (.ref f13)))
    {od14 an14 : Option Addr} {sl14 : Array (Option Value)} {oc14 kV14 dc14 pm14 cd14 ct14 : Value} {f14 : Addr} (l14 : K.lookup f14 = some ⟨oc14, od14, .func (PySem.W.fnOf "law" "law" (defArgs s_law) (defBody s_law) (defScope s_law) .none kV14 dc14 pm14 an14 cd14 ct14), sl14⟩) (c14 : PySem.W.codeIn K cd14 "law" = true) (k14 : PySem.W.keepIn K (.ref f14) = true) (a14 : PySem.W.nsIn K mainGlobals "law" = some (some (.ref f14)))
    (aC : PySem.W.nsIn K mainGlobals "Network" = some (some (.ref C))) (pg : PySem.W.plainGet K C Str.empty = true) (hd : PySem.W.hasDictIn K C = true) (po : PySem.W.plainOver K C = true) (sa : PySem.W.findIn K (.ref C) "__setattr__" = some (some (.builtin "object.__setattr__"))) (mk : PySem.W.makesIn K C = true) (kc : PySem.W.keepIn K (.ref C) = true) (nI : PySem.W.findIn K (.ref C) "wires" = some none) (nS : PySem.W.findIn K (.ref C) "comparers" = some none)
    (z0 : PySem.W.nsIn K mainGlobals "bool" = some none)
    (z1 : PySem.W.nsIn K mainGlobals "enumerate" = some none)
    (z2 : PySem.W.nsIn K mainGlobals "isinstance" = some none)
    (z3 : PySem.W.nsIn K mainGlobals "len" = some none)
    (z4 : PySem.W.nsIn K mainGlobals "list" = some none)
    (z5 : PySem.W.nsIn K mainGlobals "max" = some none)
    (z6 : PySem.W.nsIn K mainGlobals "min" = some none)
    (z7 : PySem.W.nsIn K mainGlobals "range" = some none)
    (z8 : PySem.W.nsIn K mainGlobals "sorted" = some none)
    (z9 : PySem.W.nsIn K mainGlobals "tuple" = some none)
    : ∃ fd : FuncData, (∀ (s : Shared) (v : Value), BindsTo s fd ⟨[v], []⟩ [("_law_script", v)]) ∧ ∀ base : Heap, K.In base → base.Ns mainGlobals mg → FnOk l.prog w K mg base CX0 3 fa fd ["_law_script"] (spLaw K) := by
  have e := hfa.symm.trans (PySem.W.mg_of X G a14)
  cases e
  have B : Bt mg := ⟨PySem.W.mg_none_of X G z0, PySem.W.mg_none_of X G z1, PySem.W.mg_none_of X G z2, PySem.W.mg_none_of X G z3, PySem.W.mg_none_of X G z4, PySem.W.mg_none_of X G z5, PySem.W.mg_none_of X G z6, PySem.W.mg_none_of X G z7, PySem.W.mg_none_of X G z8, PySem.W.mg_none_of X G z9⟩
  have hc : Cls K C := ⟨pg, hd, po, sa⟩
  have hG : NetOk K (ntOf K C) := ⟨fun ok => ⟨hc, nI, nS⟩, fun a ns h H => h H⟩
  refine ⟨PySem.W.fnOf "law" "law" (defArgs s_law) (defBody s_law) (defScope s_law) .none kV14 dc14 pm14 an14 cd14 ct14, fun s v => .of_eq rfl, fun base _ _ => ?_⟩
  have F1 := fun_mk (st := s_Network___init__) l1 c1 k1
  have b1 := F1.binds (ps := ["self", "wires", "comparers"]) fun _ _ _ _ _ _ us hl => match us, hl with | [_, _, _], _ => rfl
  have C_Network : MakeAt l.prog w K mg base (ntOf K C) "Network" 1 ["self", "wires", "comparers"] F_Network := ⟨f1, _, PySem.W.mg_of X G aC, ⟨mk, a1, i1, kc⟩, b1, k_Network___init__ F1 hG trivial B⟩
  have F2 := fun_mk (st := s_Network_run) l2 c2 k2
  have b2 := F2.binds (ps := ["self", "row"]) fun _ _ _ _ _ _ us hl => match us, hl with | [_, _], _ => rfl
  have C_Network_run : MethAt l.prog w K mg base (ntOf K C) "run" 1 ["self", "row"] F_Network_run := ⟨f2, _, ⟨a2, i2, k2⟩, hc, b2, k_Network_run F2 hG B⟩
  have C_Network_runN : MethN l.prog w K mg base (ntOf K C) "run" 1 ["self", "row"] F_Network_runN := ⟨f2, _, ⟨a2, i2, k2⟩, hc, b2, k_Network_runN F2 hG B⟩
  have F3 := fun_mk (st := s_plain_rows) l3 c3 k3
  have b3 := F3.binds (ps := ["wires"]) fun _ _ _ _ _ _ us hl => match us, hl with | [_], _ => rfl
  have C_plain_rows : Callee l.prog w K mg base (ntOf K C) "plain_rows" 1 ["wires"] F_plain_rows := k_plain_rows ⟨f3, _, F3, PySem.W.mg_of X G a3, b3⟩ hG B
  have F4 := fun_mk (st := s_noughts) l4 c4 k4
  have b4 := F4.binds (ps := ["row"]) fun _ _ _ _ _ _ us hl => match us, hl with | [_], _ => rfl
  have C_noughts : Callee l.prog w K mg base (ntOf K C) "noughts" 1 ["row"] F_noughts := k_noughts ⟨f4, _, F4, PySem.W.mg_of X G a4, b4⟩ hG B
  have F5 := fun_mk (st := s_late) l5 c5 k5
  have b5 := F5.binds (ps := ["network"]) fun _ _ _ _ _ _ us hl => match us, hl with | [_], _ => rfl
  have C_late : Callee l.prog w K mg base (ntOf K C) "late" 2 ["network"] F_late := k_late ⟨f5, _, F5, PySem.W.mg_of X G a5, b5⟩ hG B C_plain_rows C_noughts C_Network_run
  have F6 := fun_mk (st := s_early) l6 c6 k6
  have b6 := F6.binds (ps := ["network"]) fun _ _ _ _ _ _ us hl => match us, hl with | [_], _ => rfl
  have C_early : Callee l.prog w K mg base (ntOf K C) "early" 2 ["network"] F_early := k_early ⟨f6, _, F6, PySem.W.mg_of X G a6, b6⟩ hG B C_plain_rows C_noughts C_Network_runN
  have F7 := fun_mk (st := s_L_numbers) l7 c7 k7
  have b7 := F7.binds (ps := ["_law_script", "_law_count"]) fun _ _ _ _ _ _ us hl => match us, hl with | [_, _], _ => rfl
  have C_L_numbers : Callee l.prog w K mg base (ntOf K C) "_law_numbers" 1 ["_law_script", "_law_count"] F_L_numbers := k_L_numbers ⟨f7, _, F7, PySem.W.mg_of X G a7, b7⟩ hG B
  have F8 := fun_mk (st := s_L_pairs) l8 c8 k8
  have b8 := F8.binds (ps := ["_law_numbers_here", "_law_place", "_law_wires", "_law_many", "_law_standard"]) fun _ _ _ _ _ _ us hl => match us, hl with | [_, _, _, _, _], _ => rfl
  have C_L_pairs : Callee l.prog w K mg base (ntOf K C) "_law_pairs" 1 ["_law_numbers_here", "_law_place", "_law_wires", "_law_many", "_law_standard"] F_L_pairs := k_L_pairs ⟨f8, _, F8, PySem.W.mg_of X G a8, b8⟩ hG B
  have F9 := fun_mk (st := s_L_run) l9 c9 k9
  have b9 := F9.binds (ps := ["_law_pairs_here", "_law_row_here"]) fun _ _ _ _ _ _ us hl => match us, hl with | [_, _], _ => rfl
  have C_L_run : Callee l.prog w K mg base (ntOf K C) "_law_run" 1 ["_law_pairs_here", "_law_row_here"] F_L_run := k_L_run ⟨f9, _, F9, PySem.W.mg_of X G a9, b9⟩ hG B
  have F10 := fun_mk (st := s_L_plain) l10 c10 k10
  have b10 := F10.binds (ps := ["_law_wires"]) fun _ _ _ _ _ _ us hl => match us, hl with | [_], _ => rfl
  have C_L_plain : Callee l.prog w K mg base (ntOf K C) "_law_plain" 1 ["_law_wires"] F_L_plain := k_L_plain ⟨f10, _, F10, PySem.W.mg_of X G a10, b10⟩ hG B
  have F11 := fun_mk (st := s_L_order) l11 c11 k11
  have b11 := F11.binds (ps := ["_law_number", "_law_count"]) fun _ _ _ _ _ _ us hl => match us, hl with | [_, _], _ => rfl
  have C_L_order : Callee l.prog w K mg base (ntOf K C) "_law_order" 1 ["_law_number", "_law_count"] F_L_order := k_L_order ⟨f11, _, F11, PySem.W.mg_of X G a11, b11⟩ hG B
  have F12 := fun_mk (st := s_L_orders) l12 c12 k12
  have b12 := F12.binds (ps := ["_law_wires"]) fun _ _ _ _ _ _ us hl => match us, hl with | [_], _ => rfl
  have C_L_orders : Callee l.prog w K mg base (ntOf K C) "_law_orders" 1 ["_law_wires"] F_L_orders := k_L_orders ⟨f12, _, F12, PySem.W.mg_of X G a12, b12⟩ hG B
  have F13 := fun_mk (st := s_L_by_plain) l13 c13 k13
  have b13 := F13.binds (ps := ["_law_pairs_here", "_law_wires"]) fun _ _ _ _ _ _ us hl => match us, hl with | [_, _], _ => rfl
  have C_L_by_plain : Callee l.prog w K mg base (ntOf K C) "_law_by_plain" 2 ["_law_pairs_here", "_law_wires"] F_L_by_plain := k_L_by_plain ⟨f13, _, F13, PySem.W.mg_of X G a13, b13⟩ hG B C_L_plain C_L_run
  have F14 := fun_mk (st := s_law) l14 c14 k14
  have b14 := F14.binds (ps := ["_law_script"]) fun _ _ _ _ _ _ us hl => match us, hl with | [_], _ => rfl
  have C_law : FnOk l.prog w K mg base CX0 3 fa _ ["_law_script"] (spOf (ntOf K C) F_law) := k_law F14 hG B C_L_numbers C_L_orders C_L_order C_L_pairs C_Network C_L_run C_late C_early C_L_plain C_L_by_plain
  exact C_law.imp (law_imp lawOk)
theorem walk {l : PySem.W.OpenLaw} {q : Program} {loose : List Str} {XP : (Str → Option Value) → Heap → Prop} {YP : World → Heap → Prop} {d : DefRec} {K : Params → PySem.W.Frag} (hn : l.most = some 63) (hdf : d.params.defaults = [])
    (hY : ∀ (w : World) (h : Heap), YP w h → (K w.params).In h)
    (F : ∀ (w : World) (mg : Str → Option Value) (fa : Addr) (h : Heap), (K w.params).In h → h.Ns mainGlobals mg → mg d.name = some (.ref fa) →
      ∃ fd : FuncData, (∀ (s : Shared) (u : Value), BindsTo s fd ⟨[u], []⟩ [("_law_script", u)]) ∧ ∀ base : Heap, (K w.params).In base → base.Ns mainGlobals mg → FnOk l.prog w (K w.params) mg base CX0 3 fa fd ["_law_script"] (spLaw (K w.params))) :
    PySem.W.WalkO q loose XP YP l.row.toRowW d [] (fun f vs => PySem.call f vs) :=
  L2.walk_of (n := 63) (k := 3) (x := "_law_script") (CX := fun _ => CX0) (sp := fun w => spLaw (K w.params)) hn (by decide) hdf ⟨rfl, by decide, by decide⟩ hY F (fun _ _ a ns hl _ hS => ⟨a, ns, rfl, hS, Nat.le_trans hl (by decide), fun _ => rfl⟩) fun _ _ _ _ _ z => z
end Pf
open PySem PySem.W PyProof.Rows in
set_option maxRecDepth 100000 in
set_option maxHeartbeats 0 in
theorem PySem.Challenge.cw_neededrows_k38_late_and_early_holds : PySem.Challenge.rw_neededrows_k38_late_and_early.Holds := by
  w_on; o_law; k_head; (case hw => w_witness2)
  k_fill
  refine Pf.walk (l := PySem.Challenge.rw_neededrows_k38_late_and_early) rfl rfl (fun w h Y => PySem.W.kIn_of Y) ?F
  case F =>
    intro w mg fa h KX G hmg
    refine' Pf.all_mk Pf.lawOk KX G hmg ?l1 ?c1 ?k1 ?a1 ?i1 ?l2 ?c2 ?k2 ?a2 ?i2 ?l3 ?c3 ?k3 ?a3 ?l4 ?c4 ?k4 ?a4 ?l5 ?c5 ?k5 ?a5 ?l6 ?c6 ?k6 ?a6 ?l7 ?c7 ?k7 ?a7 ?l8 ?c8 ?k8 ?a8 ?l9 ?c9 ?k9 ?a9 ?l10 ?c10 ?k10 ?a10 ?l11 ?c11 ?k11 ?a11 ?l12 ?c12 ?k12 ?a12 ?l13 ?c13 ?k13 ?a13 ?l14 ?c14 ?k14 ?a14 ?aC ?pg ?hd ?po ?sa ?mk ?kc ?nI ?nS ?z0 ?z1 ?z2 ?z3 ?z4 ?z5 ?z6 ?z7 ?z8 ?z9
    (case aC => k_is)
    (case a1 => k_is)
    (case i1 => k_is)
    (case l1 => k_is)
    (case c1 => k_is)
    (case k1 => k_is)
    (case a2 => k_is)
    (case i2 => k_is)
    (case l2 => k_is)
    (case c2 => k_is)
    (case k2 => k_is)
    (case a3 => k_is)
    (case l3 => k_is)
    (case c3 => k_is)
    (case k3 => k_is)
    (case a4 => k_is)
    (case l4 => k_is)
    (case c4 => k_is)
    (case k4 => k_is)
    (case a5 => k_is)
    (case l5 => k_is)
    (case c5 => k_is)
    (case k5 => k_is)
    (case a6 => k_is)
    (case l6 => k_is)
    (case c6 => k_is)
    (case k6 => k_is)
    (case a7 => k_is)
    (case l7 => k_is)
    (case c7 => k_is)
    (case k7 => k_is)
    (case a8 => k_is)
    (case l8 => k_is)
    (case c8 => k_is)
    (case k8 => k_is)
    (case a9 => k_is)
    (case l9 => k_is)
    (case c9 => k_is)
    (case k9 => k_is)
    (case a10 => k_is)
    (case l10 => k_is)
    (case c10 => k_is)
    (case k10 => k_is)
    (case a11 => k_is)
    (case l11 => k_is)
    (case c11 => k_is)
    (case k11 => k_is)
    (case a12 => k_is)
    (case l12 => k_is)
    (case c12 => k_is)
    (case k12 => k_is)
    (case a13 => k_is)
    (case l13 => k_is)
    (case c13 => k_is)
    (case k13 => k_is)
    (case a14 => k_is)
    (case l14 => k_is)
    (case c14 => k_is)
    (case k14 => k_is)
    (case pg => k_is)
    (case hd => k_is)
    (case po => k_is)
    (case sa => k_is)
    (case mk => k_is)
    (case kc => k_is)
    (case nI => k_is)
    (case nS => k_is)
    (case z0 => k_is)
    (case z1 => k_is)
    (case z2 => k_is)
    (case z3 => k_is)
    (case z4 => k_is)
    (case z5 => k_is)
    (case z6 => k_is)
    (case z7 => k_is)
    (case z8 => k_is)
    (case z9 => k_is)
