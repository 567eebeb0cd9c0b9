import PyProof.Rows.All
import Wide.All
import OpenK.AllK
import Wide.FinOn
import HandS.ForMost
import HandS.Exc
import HandS.Deep
import HandS.CallSlots
import HandS.WordsExc
import HandS.IsInst
import HandS.Defaults
import HandS.Conv
import HandS.SortRule
import HandS.SortInts
import HandS.TupAny
import HandS.Wide
import HandS.HeadEnd
import HandS.HeadHook1
import HandS.HeadHook2
import HandS.Head0
import HandS.Head1
import HandS.Head2
import PySem.Challenge.RW_whywait_k64_tasks_and_counts
import KE.KStateDown
set_option Elab.async false
set_option linter.all false
set_option maxRecDepth 100000
set_option maxHeartbeats 4000000
/-! DL1: plain data D, what stands for it in the abstract heap (At), owned objects (O, Own), frames of slots. -/
namespace DL
open PySem L2

/-- plain data -/
inductive D where
  | non | bl (b : Bool) | int (i : Int) | str (s : Str)
  | tup (xs : List D) | lst (xs : List D) | scr (ns : List Int)
  | dk (ks : List Key) (xs : List D) | dt (ks : List (List Key)) (xs : List D)
  | obj (c : Str) (fs : List Str) (xs : List D)
  | ty (n : String) | cls (c : Str) | ktup (xs : List D)

structure Gx where
  K : PySem.W.Frag
  mg : Str → Option Value
abbrev gx (X : Cx) : Gx := ⟨X.K, X.mg⟩

def Ext (H H' : Hp) : Prop := ∀ a o, H a = some o → H' a = some o
theorem Ext.refl (H : Hp) : Ext H H := fun _ _ h => h
theorem Ext.trans {H H1 H2 : Hp} (a : Ext H H1) (b : Ext H1 H2) : Ext H H2 := fun x o h => b x o (a x o h)
theorem Ext.new {H : Hp} {p : Addr} {o : HO} (h : H p = none) : Ext H (upd H p o) := fun a u e => by
  rw [upd_ne (ne_of_none e h)]
  exact e
theorem Ext.none {H H' : Hp} {p : Addr} (e : Ext H H') (h : H' p = none) : H p = none := by
  cases h1 : H p with
  | none => rfl
  | some o =>
    rw [e p o h1] at h
    cases h
theorem Ext.rd {H H' : Hp} {a : Addr} {u : HO} (e : Ext H H') (h : Rd H a u) : Rd H' a u := by
  rcases h with h | ⟨o, h⟩
  · exact Or.inl (e a _ h)
  · exact Or.inr ⟨o, e a _ h⟩
theorem Ext.sql {K : PySem.W.Frag} {H H' : Hp} {a : Addr} {xs : List V} (e : Ext H H') (h : SqL K H a xs) : SqL K H' a xs := by
  rcases h with h | h
  · exact Or.inl (e.rd h)
  · exact Or.inr h
theorem Ext.sqt {K : PySem.W.Frag} {H H' : Hp} {a : Addr} {xs : List V} (e : Ext H H') (h : SqT K H a xs) : SqT K H' a xs := by
  rcases h with h | h
  · exact Or.inl (e.rd h)
  · exact Or.inr h

mutual
def At (G : Gx) (H : Hp) : D → V → Prop
  | .non, v => v = .non
  | .bl b, v => v = .bl b
  | .int i, v => v = .int i
  | .str s, v => v = .str s
  | .tup xs, v => ∃ a vs, v = .ref a ∧ H a = some (.tup vs) ∧ AtL G H xs vs
  | .ktup xs, v => ∃ a vs, v = .ref a ∧ SqT G.K H a vs ∧ AtL G H xs vs
  | .lst xs, v => ∃ a vs, v = .ref a ∧ H a = some (.lst vs) ∧ AtL G H xs vs
  | .scr ns, v => ∃ a, v = .ref a ∧ SqL G.K H a (ns.map .int)
  | .dk ks xs, v => ∃ a vs, v = .ref a ∧ Rd H a (.dK (ks.zip vs)) ∧ ks.length = vs.length ∧ AtL G H xs vs
  | .dt ks xs, v => ∃ a vs, v = .ref a ∧ Rd H a (.dT (ks.zip vs)) ∧ ks.length = vs.length ∧ AtL G H xs vs
  | .obj c fs xs, v => ∃ a C dx vs, v = .ref a ∧ G.mg c = some (.ref C) ∧ H a = some (.ins C dx (fs.zip vs)) ∧ fs.length = vs.length ∧ AtL G H xs vs
  | .ty n, v => v = .ty n
  | .cls c, v => ∃ C, v = .ref C ∧ G.mg c = some (.ref C)
def AtL (G : Gx) (H : Hp) : List D → List V → Prop
  | [], vs => vs = []
  | x :: xs, vs => ∃ v r, vs = v :: r ∧ At G H x v ∧ AtL G H xs r
end

section
variable {G : Gx} {H H' S S' : Hp}
mutual
theorem At.mono (e : Ext H H') : ∀ {x : D} {v : V}, At G H x v → At G H' x v
  | .non, _, h => h
  | .bl _, _, h => h
  | .int _, _, h => h
  | .str _, _, h => h
  | .tup xs, _, h => by
    obtain ⟨a, vs, e1, e2, e3⟩ := h
    exact ⟨a, vs, e1, e a _ e2, AtL.mono e e3⟩
  | .ktup xs, _, h => by
    obtain ⟨a, vs, e1, e2, e3⟩ := h
    exact ⟨a, vs, e1, e.sqt e2, AtL.mono e e3⟩
  | .lst xs, _, h => by
    obtain ⟨a, vs, e1, e2, e3⟩ := h
    exact ⟨a, vs, e1, e a _ e2, AtL.mono e e3⟩
  | .scr ns, _, h => by
    obtain ⟨a, e1, e2⟩ := h
    exact ⟨a, e1, e.sql e2⟩
  | .dk ks xs, _, h => by
    obtain ⟨a, vs, e1, e2, el, e3⟩ := h
    exact ⟨a, vs, e1, e.rd e2, el, AtL.mono e e3⟩
  | .dt ks xs, _, h => by
    obtain ⟨a, vs, e1, e2, el, e3⟩ := h
    exact ⟨a, vs, e1, e.rd e2, el, AtL.mono e e3⟩
  | .obj c fs xs, _, h => by
    obtain ⟨a, C, dx, vs, e1, em, e2, el, e3⟩ := h
    exact ⟨a, C, dx, vs, e1, em, e a _ e2, el, AtL.mono e e3⟩
  | .ty _, _, h => h
  | .cls _, _, h => h
theorem AtL.mono (e : Ext H H') : ∀ {xs : List D} {vs : List V}, AtL G H xs vs → AtL G H' xs vs
  | [], _, h => h
  | x :: xs, _, h => by
    obtain ⟨v, r, e1, e2, e3⟩ := h
    exact ⟨v, r, e1, At.mono e e2, AtL.mono e e3⟩
end
theorem AtL.cons {x : D} {xs : List D} {v : V} {vs : List V} (h : At G H x v) (r : AtL G H xs vs) : AtL G H (x :: xs) (v :: vs) := ⟨v, vs, rfl, h, r⟩
theorem AtL.length : ∀ {xs : List D} {vs : List V}, AtL G H xs vs → xs.length = vs.length
  | [], _, h => by cases (show _ = _ from h); rfl
  | x :: xs, _, h => by
    obtain ⟨v, r, e1, e2, e3⟩ := h
    subst e1
    simp only [List.length_cons]
    rw [AtL.length e3]
theorem AtL.get : ∀ {xs : List D} {vs : List V} {i : Nat} {x : D}, AtL G H xs vs → xs[i]? = some x → ∃ v, vs[i]? = some v ∧ At G H x v
  | [], _, _, _, h, e => by simp at e
  | y :: ys, _, 0, x, h, e => by
    obtain ⟨v, r, e1, e2, e3⟩ := h
    subst e1
    simp only [List.getElem?_cons_zero, Option.some.injEq] at e
    subst e
    exact ⟨v, rfl, e2⟩
  | y :: ys, _, i + 1, x, h, e => by
    obtain ⟨v, r, e1, e2, e3⟩ := h
    subst e1
    obtain ⟨w, q1, q2⟩ := AtL.get (i := i) (x := x) e3 (by simpa using e)
    exact ⟨w, by simpa using q1, q2⟩
theorem AtL.getV : ∀ {xs : List D} {vs : List V} {i : Nat} {v : V}, AtL G H xs vs → vs[i]? = some v → ∃ x, xs[i]? = some x ∧ At G H x v
  | [], _, _, _, h, e => by
    cases (show _ = _ from h)
    simp at e
  | y :: ys, _, 0, x, h, e => by
    obtain ⟨v, r, e1, e2, e3⟩ := h
    subst e1
    simp only [List.getElem?_cons_zero, Option.some.injEq] at e
    subst e
    exact ⟨y, rfl, e2⟩
  | y :: ys, _, i + 1, x, h, e => by
    obtain ⟨v, r, e1, e2, e3⟩ := h
    subst e1
    obtain ⟨w, q1, q2⟩ := AtL.getV (i := i) e3 (by simpa using e)
    exact ⟨w, by simpa using q1, q2⟩
theorem AtL.append : ∀ {xs ys : List D} {vs ws : List V}, AtL G H xs vs → AtL G H ys ws → AtL G H (xs ++ ys) (vs ++ ws)
  | [], _, _, _, h, h' => by
    cases (show _ = _ from h)
    exact h'
  | x :: xs, _, _, _, h, h' => by
    obtain ⟨v, r, e1, e2, e3⟩ := h
    subst e1
    exact ⟨v, _, rfl, e2, AtL.append e3 h'⟩
theorem AtL.take : ∀ {xs : List D} {vs : List V} (n : Nat), AtL G H xs vs → AtL G H (xs.take n) (vs.take n)
  | _, _, 0, _ => rfl
  | [], _, n + 1, h => by
    cases (show _ = _ from h)
    exact rfl
  | x :: xs, _, n + 1, h => by
    obtain ⟨v, r, e1, e2, e3⟩ := h
    subst e1
    exact ⟨v, _, rfl, e2, AtL.take n e3⟩
theorem AtL.drop : ∀ {xs : List D} {vs : List V} (n : Nat), AtL G H xs vs → AtL G H (xs.drop n) (vs.drop n)
  | _, _, 0, h => h
  | [], _, n + 1, h => by
    cases (show _ = _ from h)
    exact rfl
  | x :: xs, _, n + 1, h => by
    obtain ⟨v, r, e1, e2, e3⟩ := h
    subst e1
    exact AtL.drop n e3
theorem AtL.set : ∀ {xs : List D} {vs : List V} {x : D} {v : V} (n : Nat), AtL G H xs vs → At G H x v → AtL G H (xs.set n x) (vs.set n v)
  | [], _, _, _, n, h, _ => by
    cases (show _ = _ from h)
    exact rfl
  | y :: xs, _, _, _, 0, h, h' => by
    obtain ⟨w, r, e1, e2, e3⟩ := h
    subst e1
    exact ⟨_, _, rfl, h', e3⟩
  | y :: xs, _, _, _, n + 1, h, h' => by
    obtain ⟨w, r, e1, e2, e3⟩ := h
    subst e1
    exact ⟨_, _, rfl, e2, AtL.set n e3 h'⟩
theorem AtL.reverse : ∀ {xs : List D} {vs : List V}, AtL G H xs vs → AtL G H xs.reverse vs.reverse
  | [], _, h => by
    cases (show _ = _ from h)
    exact rfl
  | x :: xs, _, h => by
    obtain ⟨v, r, e1, e2, e3⟩ := h
    subst e1
    simp only [List.reverse_cons]
    exact AtL.append (AtL.reverse e3) ⟨v, [], rfl, e2, rfl⟩
theorem AtL.nil_iff {xs : List D} {vs : List V} (h : AtL G H xs vs) : vs = [] ↔ xs = [] := by
  have e := h.length
  constructor
  · intro q
    subst q
    exact List.eq_nil_of_length_eq_zero (by simpa using e)
  · intro q
    subst q
    exact List.eq_nil_of_length_eq_zero (by simpa using e.symm)
theorem AtL.ints : ∀ {ns : List Int} {vs : List V}, AtL G H (ns.map .int) vs → vs = ns.map .int
  | [], _, h => h
  | n :: ns, _, h => by
    obtain ⟨v, r, e1, e2, e3⟩ := h
    subst e1
    rw [AtL.ints e3, show v = .int n from e2]
    rfl
theorem AtL.of_ints : ∀ {ns : List Int}, AtL G H (ns.map .int) (ns.map .int)
  | [] => rfl
  | n :: ns => ⟨_, _, rfl, rfl, AtL.of_ints⟩
end

/-- the head is read in H, what hangs on it in S -/
def Hd (G : Gx) (S H : Hp) : D → V → Prop
  | .tup xs, v => ∃ a vs, v = .ref a ∧ S a = some (.tup vs) ∧ AtL G S xs vs
  | .ktup xs, v => ∃ a vs, v = .ref a ∧ SqT G.K S a vs ∧ AtL G S xs vs
  | .lst xs, v => ∃ a vs, v = .ref a ∧ H a = some (.lst vs) ∧ AtL G S xs vs
  | .scr ns, v => ∃ a, v = .ref a ∧ SqL G.K H a (ns.map .int)
  | .dk ks xs, v => ∃ a vs, v = .ref a ∧ Rd H a (.dK (ks.zip vs)) ∧ ks.length = vs.length ∧ AtL G S xs vs
  | .dt ks xs, v => ∃ a vs, v = .ref a ∧ Rd H a (.dT (ks.zip vs)) ∧ ks.length = vs.length ∧ AtL G S xs vs
  | .obj c fs xs, v => ∃ a C dx vs, v = .ref a ∧ G.mg c = some (.ref C) ∧ H a = some (.ins C dx (fs.zip vs)) ∧ fs.length = vs.length ∧ AtL G S xs vs
  | .non, v => v = .non
  | .bl b, v => v = .bl b
  | .int i, v => v = .int i
  | .str s, v => v = .str s
  | .ty n, v => v = .ty n
  | .cls c, v => ∃ C, v = .ref C ∧ G.mg c = some (.ref C)
theorem At.hd {G : Gx} {S H : Hp} (e : Ext S H) : ∀ {x : D} {v : V}, At G S x v → Hd G S H x v
  | .non, _, h => h
  | .bl _, _, h => h
  | .int _, _, h => h
  | .str _, _, h => h
  | .tup xs, _, h => h
  | .ktup xs, _, h => h
  | .lst xs, _, h => by
    obtain ⟨a, vs, e1, e2, e3⟩ := h
    exact ⟨a, vs, e1, e a _ e2, e3⟩
  | .scr ns, _, h => by
    obtain ⟨a, e1, e2⟩ := h
    exact ⟨a, e1, e.sql e2⟩
  | .dk ks xs, _, h => by
    obtain ⟨a, vs, e1, e2, el, e3⟩ := h
    exact ⟨a, vs, e1, e.rd e2, el, e3⟩
  | .dt ks xs, _, h => by
    obtain ⟨a, vs, e1, e2, el, e3⟩ := h
    exact ⟨a, vs, e1, e.rd e2, el, e3⟩
  | .obj c fs xs, _, h => by
    obtain ⟨a, C, dx, vs, e1, em, e2, el, e3⟩ := h
    exact ⟨a, C, dx, vs, e1, em, e a _ e2, el, e3⟩
  | .ty _, _, h => h
  | .cls _, _, h => h
theorem Hd.mono {G : Gx} {S H S' H' : Hp} (es : Ext S S') (e : Ext H H') : ∀ {x : D} {v : V}, Hd G S H x v → Hd G S' H' x v
  | .non, _, h => h
  | .bl _, _, h => h
  | .int _, _, h => h
  | .str _, _, h => h
  | .tup xs, _, h => by
    obtain ⟨a, vs, e1, e2, e3⟩ := h
    exact ⟨a, vs, e1, es a _ e2, e3.mono es⟩
  | .ktup xs, _, h => by
    obtain ⟨a, vs, e1, e2, e3⟩ := h
    exact ⟨a, vs, e1, es.sqt e2, e3.mono es⟩
  | .lst xs, _, h => by
    obtain ⟨a, vs, e1, e2, e3⟩ := h
    exact ⟨a, vs, e1, e a _ e2, e3.mono es⟩
  | .scr ns, _, h => by
    obtain ⟨a, e1, e2⟩ := h
    exact ⟨a, e1, e.sql e2⟩
  | .dk ks xs, _, h => by
    obtain ⟨a, vs, e1, e2, el, e3⟩ := h
    exact ⟨a, vs, e1, e.rd e2, el, e3.mono es⟩
  | .dt ks xs, _, h => by
    obtain ⟨a, vs, e1, e2, el, e3⟩ := h
    exact ⟨a, vs, e1, e.rd e2, el, e3.mono es⟩
  | .obj c fs xs, _, h => by
    obtain ⟨a, C, dx, vs, e1, em, e2, el, e3⟩ := h
    exact ⟨a, C, dx, vs, e1, em, e a _ e2, el, e3.mono es⟩
  | .ty _, _, h => h
  | .cls _, _, h => h
theorem Hd.at {G : Gx} {S H : Hp} (es : Ext S H) : ∀ {x : D} {v : V}, Hd G S H x v → At G H x v
  | .non, _, h => h
  | .bl _, _, h => h
  | .int _, _, h => h
  | .str _, _, h => h
  | .tup xs, _, h => by
    obtain ⟨a, vs, e1, e2, e3⟩ := h
    exact ⟨a, vs, e1, es a _ e2, e3.mono es⟩
  | .ktup xs, _, h => by
    obtain ⟨a, vs, e1, e2, e3⟩ := h
    exact ⟨a, vs, e1, es.sqt e2, e3.mono es⟩
  | .lst xs, _, h => by
    obtain ⟨a, vs, e1, e2, e3⟩ := h
    exact ⟨a, vs, e1, e2, e3.mono es⟩
  | .scr ns, _, h => h
  | .dk ks xs, _, h => by
    obtain ⟨a, vs, e1, e2, el, e3⟩ := h
    exact ⟨a, vs, e1, e2, el, e3.mono es⟩
  | .dt ks xs, _, h => by
    obtain ⟨a, vs, e1, e2, el, e3⟩ := h
    exact ⟨a, vs, e1, e2, el, e3.mono es⟩
  | .obj c fs xs, _, h => by
    obtain ⟨a, C, dx, vs, e1, em, e2, el, e3⟩ := h
    exact ⟨a, C, dx, vs, e1, em, e2, el, e3.mono es⟩
  | .ty _, _, h => h
  | .cls _, _, h => h

/-! ### owned objects -/
inductive O where
  | fz (x : D)
  | lst (xs : List D)
  | dk (ks : List Key) (xs : List D)
  | dt (ks : List (List Key)) (xs : List D)
  | obj (c : Str) (fs : List Str) (xs : List D)
  | ll (os : List O)

mutual
def Own (G : Gx) (S H : Hp) : O → V → List Addr → Prop
  | .fz x, v, fp => fp = [] ∧ At G S x v
  | .lst xs, v, fp => ∃ a vs, v = .ref a ∧ fp = [a] ∧ H a = some (.lst vs) ∧ AtL G S xs vs
  | .dk ks xs, v, fp => ∃ a vs, v = .ref a ∧ fp = [a] ∧ H a = some (.dK (ks.zip vs)) ∧ ks.length = vs.length ∧ AtL G S xs vs
  | .dt ks xs, v, fp => ∃ a vs, v = .ref a ∧ fp = [a] ∧ H a = some (.dT (ks.zip vs)) ∧ ks.length = vs.length ∧ AtL G S xs vs
  | .obj c fs xs, v, fp => ∃ a C dx vs, v = .ref a ∧ fp = [a] ∧ G.mg c = some (.ref C) ∧ H a = some (.ins C dx (fs.zip vs)) ∧ fs.length = vs.length ∧ AtL G S xs vs
  | .ll os, v, fp => ∃ a vs f, v = .ref a ∧ fp = a :: f ∧ H a = some (.lst vs) ∧ OwnL G S H os vs f
def OwnL (G : Gx) (S H : Hp) : List O → List V → List Addr → Prop
  | [], vs, fp => vs = [] ∧ fp = []
  | o :: os, vs, fp => ∃ v r f f', vs = v :: r ∧ fp = f ++ f' ∧ Own G S H o v f ∧ OwnL G S H os r f'
end
section
variable {G : Gx} {H H' S S' : Hp}
mutual
theorem Own.mono (es : Ext S S') : ∀ {o : O} {v : V} {fp : List Addr}, (∀ a ∈ fp, ∀ u, H a = some u → H' a = some u) → Own G S H o v fp → Own G S' H' o v fp
  | .fz x, _, _, _, h => by
    obtain ⟨e1, e2⟩ := h
    exact ⟨e1, e2.mono es⟩
  | .lst xs, _, _, k, h => by
    obtain ⟨a, vs, e1, e2, e3, e4⟩ := h
    exact ⟨a, vs, e1, e2, k a (by rw [e2]; exact List.mem_singleton.mpr rfl) _ e3, e4.mono es⟩
  | .dk ks xs, _, _, k, h => by
    obtain ⟨a, vs, e1, e2, e3, el, e4⟩ := h
    exact ⟨a, vs, e1, e2, k a (by rw [e2]; exact List.mem_singleton.mpr rfl) _ e3, el, e4.mono es⟩
  | .dt ks xs, _, _, k, h => by
    obtain ⟨a, vs, e1, e2, e3, el, e4⟩ := h
    exact ⟨a, vs, e1, e2, k a (by rw [e2]; exact List.mem_singleton.mpr rfl) _ e3, el, e4.mono es⟩
  | .obj c fs xs, _, _, k, h => by
    obtain ⟨a, C, dx, vs, e1, e2, em, e3, el, e4⟩ := h
    exact ⟨a, C, dx, vs, e1, e2, em, k a (by rw [e2]; exact List.mem_singleton.mpr rfl) _ e3, el, e4.mono es⟩
  | .ll os, _, _, k, h => by
    obtain ⟨a, vs, f, e1, e2, e3, e4⟩ := h
    exact ⟨a, vs, f, e1, e2, k a (by rw [e2]; exact List.mem_cons_self) _ e3, OwnL.mono es (fun b hb => k b (by rw [e2]; exact List.mem_cons_of_mem _ hb)) e4⟩
theorem OwnL.mono (es : Ext S S') : ∀ {os : List O} {vs : List V} {fp : List Addr}, (∀ a ∈ fp, ∀ u, H a = some u → H' a = some u) → OwnL G S H os vs fp → OwnL G S' H' os vs fp
  | [], _, _, _, h => h
  | o :: os, _, _, k, h => by
    obtain ⟨v, r, f, f', e1, e2, e3, e4⟩ := h
    exact ⟨v, r, f, f', e1, e2, Own.mono es (fun a ha => k a (by rw [e2]; exact List.mem_append_left _ ha)) e3, OwnL.mono es (fun a ha => k a (by rw [e2]; exact List.mem_append_right _ ha)) e4⟩
end
/-! what is owned stands in the heap -/
mutual
theorem Own.there : ∀ {o : O} {v : V} {fp : List Addr}, Own G S H o v fp → ∀ a ∈ fp, H a ≠ none
  | .fz x, _, _, h => by
    obtain ⟨rfl, _⟩ := h
    exact fun a ha => nomatch ha
  | .lst xs, _, _, h => by
    obtain ⟨a, vs, e1, rfl, e3, e4⟩ := h
    intro b hb
    rw [List.mem_singleton.mp hb, e3]
    exact fun z => nomatch z
  | .dk ks xs, _, _, h => by
    obtain ⟨a, vs, e1, rfl, e3, e4⟩ := h
    intro b hb
    rw [List.mem_singleton.mp hb, e3]
    exact fun z => nomatch z
  | .dt ks xs, _, _, h => by
    obtain ⟨a, vs, e1, rfl, e3, e4⟩ := h
    intro b hb
    rw [List.mem_singleton.mp hb, e3]
    exact fun z => nomatch z
  | .obj c fs xs, _, _, h => by
    obtain ⟨a, C, dx, vs, e1, rfl, em, e3, e4⟩ := h
    intro b hb
    rw [List.mem_singleton.mp hb, e3]
    exact fun z => nomatch z
  | .ll os, _, _, h => by
    obtain ⟨a, vs, f, e1, rfl, e3, e4⟩ := h
    intro b hb
    rcases List.mem_cons.mp hb with q | hb
    · rw [q, e3]
      exact fun z => nomatch z
    · exact OwnL.there e4 b hb
theorem OwnL.there : ∀ {os : List O} {vs : List V} {fp : List Addr}, OwnL G S H os vs fp → ∀ a ∈ fp, H a ≠ none
  | [], _, _, h => by
    obtain ⟨_, rfl⟩ := h
    exact fun a ha => nomatch ha
  | o :: os, _, _, h => by
    obtain ⟨v, r, f, f', e1, rfl, e3, e4⟩ := h
    intro a ha
    rcases List.mem_append.mp ha with ha | ha
    · exact Own.there e3 a ha
    · exact OwnL.there e4 a ha
end
end

/-! ### slots -/
abbrev Sl := List (Option O)
def gt : Sl → Nat → Option O
  | [], _ => none
  | o :: _, 0 => o
  | _ :: e, i + 1 => gt e i
def pt : Sl → Nat → Option O → Sl
  | [], _, _ => []
  | _ :: e, 0, o => o :: e
  | a :: e, i + 1, o => a :: pt e i o
theorem gt_eq : ∀ (e : Sl) (i : Nat), gt e i = (e[i]?).join
  | [], i => by simp [gt]
  | o :: e, 0 => by simp [gt]
  | _ :: e, i + 1 => by simp only [gt, List.getElem?_cons_succ]; exact gt_eq e i
theorem pt_eq : ∀ (e : Sl) (i : Nat) (o : Option O), pt e i o = e.set i o
  | [], i, _ => by simp [pt]
  | o :: e, 0, _ => by simp [pt]
  | _ :: e, i + 1, _ => by simp only [pt, List.set_cons_succ]; rw [pt_eq e i]
theorem pt_len (e : Sl) (i : Nat) (o : Option O) : (pt e i o).length = e.length := by rw [pt_eq, List.length_set]
theorem gt_pt (e : Sl) (i j : Nat) (o : Option O) : gt (pt e i o) j = if i = j ∧ i < e.length then o else gt e j := by
  rw [gt_eq, gt_eq, pt_eq, List.getElem?_set]
  by_cases h : i = j
  · subst h
    by_cases h2 : i < e.length
    · simp [h2]
    · simp [h2]
  · simp [h]

/-! ### heaps that grow -/
structure Gr (S H S' H' : Hp) : Prop where
  h : Ext H H'
  s : Ext S S'
  sh : Ext S' H'
  old : ∀ a, H a ≠ none → S' a = S a
theorem Gr.refl {S H : Hp} (e : Ext S H) : Gr S H S H := ⟨.refl _, .refl _, e, fun _ _ => rfl⟩
theorem Gr.trans {S H S1 H1 S2 H2 : Hp} (a : Gr S H S1 H1) (b : Gr S1 H1 S2 H2) : Gr S H S2 H2 :=
  ⟨a.h.trans b.h, a.s.trans b.s, b.sh, fun x hx => (b.old x fun q => hx (a.h.none q)).trans (a.old x hx)⟩
/-- a new object that nobody owns -/
theorem Gr.new {S H : Hp} {p : Addr} {o : HO} (e : Ext S H) (h : H p = none) : Gr S H (upd S p o) (upd H p o) :=
  ⟨.new h, .new (e.none h), fun a u q => by
    by_cases ha : a = p
    · subst ha
      rw [upd_same] at q ⊢
      exact q
    · rw [upd_ne ha] at q ⊢
      exact e a u q, fun a ha => upd_ne fun q => ha (q ▸ h)⟩
/-- a new object that will be owned -/
theorem Gr.newO {S H : Hp} {p : Addr} {o : HO} (e : Ext S H) (h : H p = none) : Gr S H S (upd H p o) :=
  ⟨.new h, .refl _, e.trans (.new h), fun a ha => rfl⟩

/-- the pure view of a frame -/
structure EnvP (G : Gx) (S H : Hp) (env : Sl) (σ : L2.St) : Prop where
  len : env.length = σ.length
  at' : ∀ i o, gt env i = some o → ∃ v fp, σ[i]? = some (some v) ∧ Own G S H o v fp
theorem EnvP.gr {G : Gx} {S H S' H' : Hp} {env : Sl} {σ : L2.St} (e : EnvP G S H env σ) (g : Gr S H S' H') : EnvP G S' H' env σ := ⟨e.len, fun i o hi => by
  obtain ⟨v, fp, e1, e2⟩ := e.at' i o hi
  exact ⟨v, fp, e1, e2.mono g.s fun a _ u q => g.h a u q⟩⟩
end DL

/-! DL2: expressions: readings of the layer against what they are worth as plain data. -/
namespace DL
open PySem L2

structure DExc where
  c : Str
  fs : List Str
  xs : List D
def ExAt (G : Gx) (S H : Hp) (x : DExc) (c : Value) (d : Option Addr) : Prop :=
  ∃ C, c = .ref C ∧ G.mg x.c = some (.ref C) ∧ ((x.fs = [] ∧ d = none) ∨ ∃ a vs, d = some a ∧ H a = some (.xd (x.fs.zip vs)) ∧ x.fs.length = vs.length ∧ AtL G S x.xs vs)

abbrev ES := Sl → (D → Prop) → (DExc → Prop) → Prop
abbrev BS := Sl → (Bool → Prop) → (DExc → Prop) → Prop
abbrev AS := Sl → (List D → Prop) → (DExc → Prop) → Prop
abbrev RD := Gx → Hp → Hp → D → V → Prop
abbrev RA : RD := fun G S _ => At G S

/-- what an exception's wish must bear -/
def WOk (G : Gx) (W : WX) (S H : Hp) (σ : L2.St) (E : DExc → Prop) : Prop := ∀ S' H' x c dd, Gr S H S' H' → ExAt G S' H' x c dd → E x → W c dd σ H'
theorem WOk.gr {G : Gx} {W : WX} {S H S1 H1 : Hp} {σ : L2.St} {E : DExc → Prop} (w : WOk G W S H σ E) (g : Gr S H S1 H1) : WOk G W S1 H1 σ E := fun S' H' x c dd g' => w S' H' x c dd (g.trans g')
theorem WOk.imp {G : Gx} {W : WX} {S H : Hp} {σ : L2.St} {E E' : DExc → Prop} (w : WOk G W S H σ E) (h : ∀ x, E' x → E x) : WOk G W S H σ E' := fun S' H' x c dd g e q => w S' H' x c dd g e (h x q)

def SndE (R : RD) (G : Gx) (W : WX) (te : TE) (d : ES) : Prop := ∀ (S H : Hp) (env : Sl) (σ : L2.St) (Q : D → Prop) (E : DExc → Prop) (QV : VK), Ext S H → EnvP G S H env σ → d env Q E →
  (∀ S' H' x v, Gr S H S' H' → R G S' H' x v → Q x → QV v H') → WOk G W S H σ E → te σ H QV
def SndT (G : Gx) (W : WX) (tt : TT) (d : BS) : Prop := ∀ (S H : Hp) (env : Sl) (σ : L2.St) (Q : Bool → Prop) (E : DExc → Prop) (QV : Bool → Hp → Prop), Ext S H → EnvP G S H env σ → d env Q E →
  (∀ S' H' b, Gr S H S' H' → Q b → QV b H') → WOk G W S H σ E → tt σ H QV
def RL (R : RD) (G : Gx) (S H : Hp) : List D → List V → Prop
  | [], vs => vs = []
  | x :: xs, vs => ∃ v r, vs = v :: r ∧ R G S H x v ∧ RL R G S H xs r
def SndA (R : RD) (G : Gx) (W : WX) (n : Nat) (ta : TA) (d : AS) : Prop := ∀ (S H : Hp) (env : Sl) (σ : L2.St) (Q : List D → Prop) (E : DExc → Prop) (QV : List V → Hp → Prop), Ext S H → EnvP G S H env σ → d env Q E →
  (∀ S' H' xs vs, Gr S H S' H' → RL R G S' H' xs vs → xs.length = n → Q xs → QV vs H') → WOk G W S H σ E → ta σ H QV
/-- the relation is kept as heaps grow -/
def Kept (R : RD) : Prop := ∀ G S H S' H' x v, Gr S H S' H' → R G S H x v → R G S' H' x v
theorem keptA : Kept RA := fun _ _ _ _ _ _ _ g h => At.mono g.s h
theorem keptH : Kept Hd := fun _ _ _ _ _ _ _ g h => Hd.mono g.s g.h h
theorem RL.gr {R : RD} (k : Kept R) {G : Gx} {S H S' H' : Hp} (g : Gr S H S' H') : ∀ {xs : List D} {vs : List V}, RL R G S H xs vs → RL R G S' H' xs vs
  | [], _, h => h
  | x :: xs, _, h => by
    obtain ⟨v, r, e1, e2, e3⟩ := h
    exact ⟨v, r, e1, k _ _ _ _ _ _ _ g e2, RL.gr k g e3⟩
theorem RL.at {G : Gx} {S H : Hp} : ∀ {xs : List D} {vs : List V}, RL RA G S H xs vs → AtL G S xs vs
  | [], _, h => h
  | x :: xs, _, h => by
    obtain ⟨v, r, e1, e2, e3⟩ := h
    exact ⟨v, r, e1, e2, RL.at e3⟩

structure DE (R : RD) (X : Cx) (W : WX) (e : Expr) (te : TE) (d : ES) : Prop where
  pe : PE X e te
  sn : SndE R (gx X) W te d
structure DT (X : Cx) (W : WX) (e : Expr) (tt : TT) (d : BS) : Prop where
  pt : PT X e tt
  sn : SndT (gx X) W tt d
structure DW (X : Cx) (W : WX) (e : Expr) (tt : TT) (d : BS) : Prop where
  pt : PW X e tt
  sn : SndT (gx X) W tt d
structure DA (R : RD) (X : Cx) (W : WX) (es : List Expr) (ta : TA) (d : AS) : Prop where
  pa : PA X es ta
  sn : SndA R (gx X) W es.length ta d
theorem DE.o {X : Cx} {W : WX} {e : Expr} {te : TE} {d : ES} (h : DE RA X W e te d) : DE Hd X W e te d :=
  ⟨h.pe, fun S H env σ Q E QV es ev hd k w => h.sn S H env σ Q E QV es ev hd (fun S' H' x v g a q => k S' H' x v g (At.hd g.sh a) q) w⟩

section
variable {X : Cx} {W : WX} {pos : Pos} {a b c e : Expr} {ta tb tc te : TE} {da db dc d : ES} {R : RD}
/-! ### names, constants -/
def dVar (i : Nat) : ES := fun env Q _ => match gt env i with
  | some (.fz x) => Q x
  | _ => False
/-- a name whose object is owned, looked at -/
def dOwn (i : Nat) : ES := fun env Q _ => match gt env i with
  | some (.fz x) => Q x
  | some (.lst xs) => Q (.lst xs)
  | some (.dk ks xs) => Q (.dk ks xs)
  | some (.dt ks xs) => Q (.dt ks xs)
  | some (.obj c fs xs) => Q (.obj c fs xs)
  | _ => False
def dC (x : D) : ES := fun _ Q _ => Q x
theorem snd_var {G : Gx} {i : Nat} : SndE RA G W (tVar i) (dVar i) := by
  intro S H env σ Q E QV es ev hd k w
  unfold dVar at hd
  cases h : gt env i with
  | none => rw [h] at hd; exact hd.elim
  | some o =>
    rw [h] at hd
    cases o with
    | fz x =>
      obtain ⟨v, fp, e1, e2, e3⟩ := ev.at' i _ h
      exact ⟨v, e1, k S H x v (.refl es) e3 hd⟩
    | lst _ => exact hd.elim
    | dk _ _ => exact hd.elim
    | dt _ _ => exact hd.elim
    | obj _ _ _ => exact hd.elim
    | ll _ => exact hd.elim
theorem snd_own {G : Gx} {i : Nat} : SndE Hd G W (tVar i) (dOwn i) := by
  intro S H env σ Q E QV es ev hd k w
  unfold dOwn at hd
  cases h : gt env i with
  | none => rw [h] at hd; exact hd.elim
  | some o =>
    rw [h] at hd
    obtain ⟨v, fp, e1, e2⟩ := ev.at' i _ h
    cases o with
    | fz x => exact ⟨v, e1, k S H x v (.refl es) (At.hd es e2.2) hd⟩
    | lst xs =>
      obtain ⟨a, vs, q1, q2, q3, q4⟩ := e2
      exact ⟨v, e1, k S H (.lst xs) v (.refl es) ⟨a, vs, q1, q3, q4⟩ hd⟩
    | dk ks xs =>
      obtain ⟨a, vs, q1, q2, q3, ql, q4⟩ := e2
      exact ⟨v, e1, k S H (.dk ks xs) v (.refl es) ⟨a, vs, q1, .inl q3, ql, q4⟩ hd⟩
    | dt ks xs =>
      obtain ⟨a, vs, q1, q2, q3, ql, q4⟩ := e2
      exact ⟨v, e1, k S H (.dt ks xs) v (.refl es) ⟨a, vs, q1, .inl q3, ql, q4⟩ hd⟩
    | obj c fs xs =>
      obtain ⟨a, C, dx, vs, q1, q2, qm, q3, ql, q4⟩ := e2
      exact ⟨v, e1, k S H (.obj c fs xs) v (.refl es) ⟨a, C, dx, vs, q1, qm, q3, ql, q4⟩ hd⟩
    | ll _ => exact hd.elim
theorem de_var (i : Nat) {x : Str} (hN : X.N[i]? = some x := by rfl) (hv : Vis X.env.scope x := by first | exact Or.inl rfl | exact Or.inr (Or.inl rfl) | exact Or.inr (Or.inr rfl)) (hd : (x == ("__debug__" : Str)) = false := by decide)
    (hcd : (x == ("__classdict__" : Str)) = false := by decide) : DE RA X W (.Name x pos) (tVar i) (dVar i) := ⟨pe_var hN hv hd hcd, snd_var⟩
theorem de_own (i : Nat) {x : Str} (hN : X.N[i]? = some x := by rfl) (hv : Vis X.env.scope x := by first | exact Or.inl rfl | exact Or.inr (Or.inl rfl) | exact Or.inr (Or.inr rfl)) (hd : (x == ("__debug__" : Str)) = false := by decide)
    (hcd : (x == ("__classdict__" : Str)) = false := by decide) : DE Hd X W (.Name x pos) (tVar i) (dOwn i) := ⟨pe_var hN hv hd hcd, snd_own⟩
theorem snd_c {G : Gx} {x : D} {v : V} (h : ∀ S, At G S x v) : SndE RA G W (tC v) (dC x) := fun S H env σ Q E QV es ev hd k w => k S H x v (.refl es) (h S) hd
theorem de_int {i j} : DE RA X W (.Constant (.int i) j pos) (tC (.int i)) (dC (.int i)) := ⟨pe_int, snd_c fun _ => rfl⟩
theorem de_bl {i j} : DE RA X W (.Constant (.bool i) j pos) (tC (.bl i)) (dC (.bl i)) := ⟨pe_bl, snd_c fun _ => rfl⟩
theorem de_non {j} : DE RA X W (.Constant .none j pos) (tC .non) (dC .non) := ⟨pe_non, snd_c fun _ => rfl⟩
theorem de_str {i j} : DE RA X W (.Constant (.str i) j pos) (tC (.str i)) (dC (.str i)) := ⟨pe_str, snd_c fun _ => rfl⟩

/-! ### operators by values -/
abbrev G2 := D → D → (D → Prop) → Prop
def OpS (G : Gx) (r : R2) (g : G2) : Prop := ∀ (S H : Hp) (x y : D) (v w : V) (Q : D → Prop) (QV : VK), Ext S H → Hd G S H x v → Hd G S H y w → g x y Q → (∀ S' H' z u, Gr S H S' H' → At G S' z u → Q z → QV u H') → r v w H QV
def dBin (g : G2) (da db : ES) : ES := fun env Q E => da env (fun x => db env (fun y => g x y Q) E) E
theorem snd_op {G : Gx} {r : R2} {g : G2} (hs : OpS G r g) (ha : SndE Hd G W ta da) (hb : SndE Hd G W tb db) : SndE RA G W (tOp r ta tb) (dBin g da db) := by
  intro S H env σ Q E QV es ev hd k w
  refine ha S H env σ _ E _ es ev hd (fun S1 H1 x v g1 r1 q1 => ?_) w
  refine hb S1 H1 env σ _ E _ g1.sh (ev.gr g1) q1 (fun S2 H2 y u g2 r2 q2 => ?_) (w.gr g1)
  exact hs S2 H2 x y v u Q QV g2.sh (r1.mono g2.s g2.h) r2 q2 fun S3 H3 z t g3 r3 q3 => k S3 H3 z t ((g1.trans g2).trans g3) r3 q3
theorem de_op {op : Operator} {r : R2} {g : G2} (ho : OpR X (binaryOp op) r) (hs : OpS (gx X) r g) (ha : DE Hd X W a ta da) (hb : DE Hd X W b tb db) : DE RA X W (.BinOp a op b pos) (tOp r ta tb) (dBin g da db) :=
  ⟨pe_op ho ha.pe hb.pe, snd_op hs ha.sn hb.sn⟩
theorem de_cmp {op : CmpOp} {r : R2} {g : G2} (ho : OpR X (compareOp op) r) (hs : OpS (gx X) r g) (ha : DE Hd X W a ta da) (hb : DE Hd X W b tb db) (hm : behindInMarks op b = false) : DE RA X W (.Compare a [op] [b] pos) (tOp r ta tb) (dBin g da db) :=
  ⟨pe_cmpR ho ha.pe hb.pe hm, snd_op hs ha.sn hb.sn⟩
/-- a bool's value -/
def asB : D → (Bool → Prop) → Prop
  | .bl b, Q => Q b
  | _, _ => False
def dTst (d : ES) : BS := fun env Q E => d env (fun x => asB x Q) E
theorem asB_at {G : Gx} {S : Hp} {x : D} {v : V} {Q : Bool → Prop} (h : asB x Q) (r : At G S x v) : ∃ c, v = .bl c ∧ Q c := by
  cases x with
  | bl c => exact ⟨c, r, h⟩
  | _ => exact h.elim
theorem snd_tst {G : Gx} (h : SndE RA G W te d) : SndT G W (tTest te) (dTst d) := by
  intro S H env σ Q E QV es ev hd k w
  refine h S H env σ _ E _ es ev hd (fun S1 H1 x v g1 r1 q1 => ?_) w
  obtain ⟨c, e, q⟩ := asB_at q1 r1
  exact ⟨c, e, k S1 H1 c g1 q⟩
theorem dt_cmp {op : CmpOp} {r : R2} {g : G2} (ho : OpR X (compareOp op) r) (hs : OpS (gx X) r g) (ha : DE Hd X W a ta da) (hb : DE Hd X W b tb db) (hm : behindInMarks op b = false) : DT X W (.Compare a [op] [b] pos) (tTest (tOp r ta tb)) (dTst (dBin g da db)) :=
  ⟨pt_cmpR ho ha.pe hb.pe hm, snd_tst (snd_op hs ha.sn hb.sn)⟩
/-- any expression whose value is a bool, as a test -/
theorem dt_val (h : DE RA X W e te d) (he : ∀ whole, isTrue e X.env whole = (do let v ← whole; standAt e.pos; holding [v] (truthy v)) := by intro _; rfl) : DT X W e (tB te) (dTst d) :=
  ⟨pt_val h.pe he, snd_tst h.sn⟩
/-- a chain a < b < c -/
def dChain (g g' : G2) (da db dc : ES) : ES := fun env Q E => da env (fun x => db env (fun y => g x y fun z => asB z fun k => if k = true then dc env (fun u => g' y u Q) E else Q (.bl false)) E) E
theorem snd_chain {G : Gx} {r r' : R2} {g g' : G2} (hs : OpS G r g) (hs' : OpS G r' g') (ha : SndE Hd G W ta da) (hb : SndE Hd G W tb db) (hc : SndE Hd G W tc dc) : SndE RA G W (tChain r r' ta tb tc) (dChain g g' da db dc) := by
  intro S H env σ Q E QV es ev hd k w
  refine ha S H env σ _ E _ es ev hd (fun S1 H1 x v g1 r1 q1 => ?_) w
  refine hb S1 H1 env σ _ E _ g1.sh (ev.gr g1) q1 (fun S2 H2 y u g2 r2 q2 => ?_) (w.gr g1)
  have g12 := g1.trans g2
  refine hs S2 H2 x y v u _ _ g2.sh (r1.mono g2.s g2.h) r2 q2 fun S3 H3 z t g3 r3 q3 => ?_
  obtain ⟨b, e, q⟩ := asB_at q3 r3
  refine ⟨b, e, ?_⟩
  cases b with
  | false => exact k S3 H3 (.bl false) _ (g12.trans g3) rfl q
  | true =>
    refine hc S3 H3 env σ _ E _ g3.sh (ev.gr (g12.trans g3)) q (fun S4 H4 y' u' g4 r4 q4 => ?_) (w.gr (g12.trans g3))
    exact hs' S4 H4 y y' u u' Q QV g4.sh (r2.mono (g3.trans g4).s (g3.trans g4).h) r4 q4 fun S5 H5 z' t' g5 r5 q5 => k S5 H5 z' t' (((g12.trans g3).trans g4).trans g5) r5 q5
theorem de_chain {op op' : CmpOp} {r r' : R2} {g g' : G2} (ho : OpR X (compareOp op) r) (ho' : OpR X (compareOp op') r') (hs : OpS (gx X) r g) (hs' : OpS (gx X) r' g') (ha : DE Hd X W a ta da) (hb : DE Hd X W b tb db) (hc : DE Hd X W c tc dc) (hm : lastMarks [op, op'] [b, c] = false := by rfl) : DE RA X W (.Compare a [op, op'] [b, c] pos) (tChain r r' ta tb tc) (dChain g g' da db dc) :=
  ⟨pe_chain ho ho' ha.pe hb.pe hc.pe hm, snd_chain hs hs' ha.sn hb.sn hc.sn⟩

/-! ### and, or, not; if as an expression -/
section
variable {ts us : TT} {p q : BS} {rest : List Expr}
def dAnd (p q : BS) : BS := fun env Q E => p env (fun c => if c = true then q env Q E else Q false) E
def dOr (p q : BS) : BS := fun env Q E => p env (fun c => if c = true then Q true else q env Q E) E
def dNot (p : BS) : BS := fun env Q E => p env (fun c => Q (!c)) E
theorem snd_and {G : Gx} (ha : SndT G W ts p) (hb : SndT G W us q) : SndT G W (tAnd ts us) (dAnd p q) := by
  intro S H env σ Q E QV es ev hd k w
  refine ha S H env σ _ E _ es ev hd (fun S1 H1 c g1 q1 => ?_) w
  cases c with
  | true => exact hb S1 H1 env σ Q E QV g1.sh (ev.gr g1) q1 (fun S2 H2 c g2 q2 => k S2 H2 c (g1.trans g2) q2) (w.gr g1)
  | false => exact k S1 H1 false g1 q1
theorem snd_or {G : Gx} (ha : SndT G W ts p) (hb : SndT G W us q) : SndT G W (tOr ts us) (dOr p q) := by
  intro S H env σ Q E QV es ev hd k w
  refine ha S H env σ _ E _ es ev hd (fun S1 H1 c g1 q1 => ?_) w
  cases c with
  | false => exact hb S1 H1 env σ Q E QV g1.sh (ev.gr g1) q1 (fun S2 H2 c g2 q2 => k S2 H2 c (g1.trans g2) q2) (w.gr g1)
  | true => exact k S1 H1 true g1 q1
theorem snd_not {G : Gx} (ha : SndT G W ts p) : SndT G W (tNot ts) (dNot p) := by
  intro S H env σ Q E QV es ev hd k w
  exact ha S H env σ _ E _ es ev hd (fun S1 H1 c g1 q1 => k S1 H1 (!c) g1 q1) w
theorem dw_and1 (ha : DT X W a ts p) : DW X W (.BoolOp .And [a] pos) ts p := ⟨pw_and1 ha.pt, ha.sn⟩
theorem dw_or1 (ha : DT X W a ts p) : DW X W (.BoolOp .Or [a] pos) ts p := ⟨pw_or1 ha.pt, ha.sn⟩
theorem dw_and (ha : DT X W a ts p) (hb : DW X W (.BoolOp .And (b :: rest) pos) us q) : DW X W (.BoolOp .And (a :: b :: rest) pos) (tAnd ts us) (dAnd p q) := ⟨pw_and ha.pt hb.pt, snd_and ha.sn hb.sn⟩
theorem dw_or (ha : DT X W a ts p) (hb : DW X W (.BoolOp .Or (b :: rest) pos) us q) : DW X W (.BoolOp .Or (a :: b :: rest) pos) (tOr ts us) (dOr p q) := ⟨pw_or ha.pt hb.pt, snd_or ha.sn hb.sn⟩
theorem DW.t (h : DW X W e ts p) : DT X W e ts p := ⟨h.pt.pt, h.sn⟩
theorem dt_not (ha : DT X W a ts p) : DT X W (.UnaryOp .Not a pos) (tNot ts) (dNot p) := ⟨pt_not ha.pt, snd_not ha.sn⟩
/-- .. as values -/
def dAndV (da db : ES) : ES := fun env Q E => da env (fun x => asB x fun c => if c = true then db env Q E else Q (.bl false)) E
def dOrV (da db : ES) : ES := fun env Q E => da env (fun x => asB x fun c => if c = true then Q (.bl true) else db env Q E) E
def dNotV (da : ES) : ES := fun env Q E => da env (fun x => asB x fun c => Q (.bl (!c))) E
theorem snd_andV {G : Gx} (ha : SndE RA G W ta da) (hb : SndE RA G W tb db) : SndE RA G W (tAndV ta tb) (dAndV da db) := by
  intro S H env σ Q E QV es ev hd k w
  refine ha S H env σ _ E _ es ev hd (fun S1 H1 x v g1 r1 q1 => ?_) w
  obtain ⟨c, e, q⟩ := asB_at q1 r1
  refine ⟨c, e, ?_⟩
  cases c with
  | true => exact hb S1 H1 env σ Q E QV g1.sh (ev.gr g1) q (fun S2 H2 x v g2 r2 q2 => k S2 H2 x v (g1.trans g2) r2 q2) (w.gr g1)
  | false => exact k S1 H1 (.bl false) _ g1 rfl q
theorem snd_orV {G : Gx} (ha : SndE RA G W ta da) (hb : SndE RA G W tb db) : SndE RA G W (tOrV ta tb) (dOrV da db) := by
  intro S H env σ Q E QV es ev hd k w
  refine ha S H env σ _ E _ es ev hd (fun S1 H1 x v g1 r1 q1 => ?_) w
  obtain ⟨c, e, q⟩ := asB_at q1 r1
  refine ⟨c, e, ?_⟩
  cases c with
  | false => exact hb S1 H1 env σ Q E QV g1.sh (ev.gr g1) q (fun S2 H2 x v g2 r2 q2 => k S2 H2 x v (g1.trans g2) r2 q2) (w.gr g1)
  | true => exact k S1 H1 (.bl true) _ g1 rfl q
theorem snd_notV {G : Gx} (ha : SndE RA G W ta da) : SndE RA G W (tNotV ta) (dNotV da) := by
  intro S H env σ Q E QV es ev hd k w
  refine ha S H env σ _ E _ es ev hd (fun S1 H1 x v g1 r1 q1 => ?_) w
  obtain ⟨c, e, q⟩ := asB_at q1 r1
  exact ⟨c, e, k S1 H1 (.bl (!c)) _ g1 rfl q⟩
theorem de_one {op} (h : DE RA X W a ta da) : DE RA X W (.BoolOp op [a] pos) ta da := ⟨pe_one h.pe, h.sn⟩
theorem de_and (ha : DE RA X W a ta da) (hb : DE RA X W (.BoolOp .And (b :: rest) pos) tb db) : DE RA X W (.BoolOp .And (a :: b :: rest) pos) (tAndV ta tb) (dAndV da db) := ⟨pe_and ha.pe hb.pe, snd_andV ha.sn hb.sn⟩
theorem de_or (ha : DE RA X W a ta da) (hb : DE RA X W (.BoolOp .Or (b :: rest) pos) tb db) : DE RA X W (.BoolOp .Or (a :: b :: rest) pos) (tOrV ta tb) (dOrV da db) := ⟨pe_or ha.pe hb.pe, snd_orV ha.sn hb.sn⟩
theorem de_not (ha : DE RA X W a ta da) : DE RA X W (.UnaryOp .Not a pos) (tNotV ta) (dNotV da) := ⟨pe_not ha.pe, snd_notV ha.sn⟩
def dIf (p : BS) (da db : ES) : ES := fun env Q E => p env (fun c => if c = true then da env Q E else db env Q E) E
theorem snd_if {G : Gx} (hp : SndT G W ts p) (ha : SndE R G W ta da) (hb : SndE R G W tb db) : SndE R G W (tIf ts ta tb) (dIf p da db) := by
  intro S H env σ Q E QV es ev hd k w
  refine hp S H env σ _ E _ es ev hd (fun S1 H1 c g1 q1 => ?_) w
  cases c with
  | true => exact ha S1 H1 env σ Q E QV g1.sh (ev.gr g1) q1 (fun S2 H2 x v g2 r2 q2 => k S2 H2 x v (g1.trans g2) r2 q2) (w.gr g1)
  | false => exact hb S1 H1 env σ Q E QV g1.sh (ev.gr g1) q1 (fun S2 H2 x v g2 r2 q2 => k S2 H2 x v (g1.trans g2) r2 q2) (w.gr g1)
theorem de_if (hp : DT X W c ts p) (ha : DE R X W a ta da) (hb : DE R X W b tb db) : DE R X W (.IfExp c a b pos) (tIf ts ta tb) (dIf p da db) := ⟨pe_ifExp hp.pt ha.pe hb.pe, snd_if hp.sn ha.sn hb.sn⟩
end

/-! ### arguments, displays -/
section
variable {es : List Expr} {tr : TA} {dr : AS}
def dNil : AS := fun _ Q _ => Q []
def dCons (da : ES) (dr : AS) : AS := fun env Q E => da env (fun x => dr env (fun xs => Q (x :: xs)) E) E
theorem da_nil : DA R X W [] tNil dNil := ⟨pa_nil, fun S H env σ Q E QV es ev hd k w => k S H [] [] (.refl es) rfl rfl hd⟩
theorem snd_cons {G : Gx} {n : Nat} (kR : Kept R) (ha : SndE R G W ta da) (hr : SndA R G W n tr dr) : SndA R G W (n + 1) (tCons ta tr) (dCons da dr) := by
  intro S H env σ Q E QV es ev hd k w
  refine ha S H env σ _ E _ es ev hd (fun S1 H1 x v g1 r1 q1 => ?_) w
  refine hr S1 H1 env σ _ E _ g1.sh (ev.gr g1) q1 (fun S2 H2 xs vs g2 r2 l2 q2 => ?_) (w.gr g1)
  exact k S2 H2 (x :: xs) (v :: vs) (g1.trans g2) ⟨v, vs, rfl, kR _ _ _ _ _ _ _ g2 r1, r2⟩ (by rw [List.length_cons, l2]) q2
theorem da_consA (ha : DE RA X W a ta da) (hr : DA RA X W es tr dr) (hs : starEach (a :: es) X.env = (false, eval a X.env) :: starEach es X.env := by rfl) : DA RA X W (a :: es) (tCons ta tr) (dCons da dr) := ⟨pa_cons ha.pe hr.pa hs, snd_cons keptA ha.sn hr.sn⟩
theorem da_consH (ha : DE Hd X W a ta da) (hr : DA Hd X W es tr dr) (hs : starEach (a :: es) X.env = (false, eval a X.env) :: starEach es X.env := by rfl) : DA Hd X W (a :: es) (tCons ta tr) (dCons da dr) := ⟨pa_cons ha.pe hr.pa hs, snd_cons keptH ha.sn hr.sn⟩
def dTup (dr : AS) : ES := fun env Q E => dr env (fun xs => Q (.tup xs)) E
def dLst (dr : AS) : ES := fun env Q E => dr env (fun xs => Q (.lst xs)) E
theorem de_tup {x1} (h : DA RA X W es tr dr) (hl : es.length ≤ 1000 := by decide) : DE RA X W (.Tuple es x1 pos) (tTup tr) (dTup dr) := by
  refine ⟨pe_tup h.pa, fun S H env σ Q E QV e0 ev hd k w => ?_⟩
  refine h.sn S H env σ _ E _ e0 ev hd (fun S1 H1 xs vs g1 r1 l1 q1 => ⟨?_, fun p hp => ?_⟩) w
  · have := r1.at.length
    have h2 : (1000 : Nat) ≤ sizeLine := by decide
    omega
  · have g2 : Gr S1 H1 _ _ := Gr.new (p := p) (o := .tup vs) g1.sh hp
    exact k _ _ (.tup xs) _ (g1.trans g2) ⟨p, vs, rfl, upd_same, r1.at.mono g2.s⟩ q1
theorem de_lst (h : DA RA X W es tr dr) (hl : es.length ≤ 1000 := by decide) : DE RA X W (.List es pos) (tLst tr) (dLst dr) := by
  refine ⟨pe_lst h.pa, fun S H env σ Q E QV e0 ev hd k w => ?_⟩
  refine h.sn S H env σ _ E _ e0 ev hd (fun S1 H1 xs vs g1 r1 l1 q1 => ⟨?_, fun p hp => ?_⟩) w
  · have := r1.at.length
    have h2 : (1000 : Nat) ≤ sizeLine := by decide
    omega
  · have g2 : Gr S1 H1 _ _ := Gr.new (p := p) (o := .lst vs) g1.sh hp
    exact k _ _ (.lst xs) _ (g1.trans g2) ⟨p, vs, rfl, upd_same, r1.at.mono g2.s⟩ q1
end

/-! ### calls of built-ins by values -/
abbrev GC := List D → (D → Prop) → Prop
def CallS (G : Gx) (r : List V → Hp → VK → Prop) (g : GC) : Prop := ∀ (S H : Hp) (xs : List D) (vs : List V) (Q : D → Prop) (QV : VK), Ext S H → RL Hd G S H xs vs → g xs Q → (∀ S' H' z u, Gr S H S' H' → At G S' z u → Q z → QV u H') → r vs H QV
def dCB (g : GC) (dr : AS) : ES := fun env Q E => dr env (fun xs => g xs Q) E
theorem snd_cb {G : Gx} {r : List V → Hp → VK → Prop} {g : GC} {n : Nat} {tr : TA} {dr : AS} (hs : CallS G r g) (hr : SndA Hd G W n tr dr) : SndE RA G W (tCB r tr) (dCB g dr) := by
  intro S H env σ Q E QV es ev hd k w
  refine hr S H env σ _ E _ es ev hd (fun S1 H1 xs vs g1 r1 l1 q1 => ?_) w
  exact hs S1 H1 xs vs Q QV g1.sh r1 q1 fun S2 H2 z u g2 r2 q2 => k S2 H2 z u (g1.trans g2) r2 q2
section
variable {es : List Expr} {tr : TA} {dr : AS} {x id T : _} {r : List V → Hp → VK → Prop} {g : GC}
theorem de_callB {x : Str} {id : String} {p : Pos} (hc : CallR X (.builtin id) r) (hs : CallS (gx X) r g) (hg : Gl X x) (hm : X.mg x = none) (hv : bootBuiltins x = some (.builtin id)) (ha : DA Hd X W (e :: es) tr dr) (hn : x ≠ "__name__" := by decide) (hdb : (x == ("__debug__" : Str)) = false := by decide)
    (he : starEach (e :: es) X.env = (false, eval e X.env) :: starEach es X.env := by rfl) (hpl : (backTo pos (starEach es X.env)).any (·.1) = false := by rfl) : DE RA X W (.Call (.Name x p) (e :: es) [] pos) (tCB r tr) (dCB g dr) :=
  ⟨pe_callB hc hg hm hv ha.pa hn hdb he hpl, snd_cb hs ha.sn⟩
theorem de_callTy {x : Str} {T : String} {p : Pos} (hc : CallR X (.type T) r) (hs : CallS (gx X) r g) (hg : Gl X x) (hm : X.mg x = none) (hv : bootBuiltins x = some (.type T)) (ha : DA Hd X W (e :: es) tr dr) (hn : x ≠ "__name__" := by decide) (hdb : (x == ("__debug__" : Str)) = false := by decide)
    (he : starEach (e :: es) X.env = (false, eval e X.env) :: starEach es X.env := by rfl) (hpl : (backTo pos (starEach es X.env)).any (·.1) = false := by rfl) : DE RA X W (.Call (.Name x p) (e :: es) [] pos) (tCB r tr) (dCB g dr) :=
  ⟨pe_callTy hc hg hm hv ha.pa hn hdb he hpl, snd_cb hs ha.sn⟩
end

/-! ### calls of the text's own defs -/
abbrev PSp := List D → (D → Prop) → (DExc → Prop) → Prop
/-- the promise of a def that changes none of its arguments -/
def spP (G : Gx) (n : Nat) (psp : PSp) : Sp := fun vs H Q E => ∃ (S : Hp) (ds : List D) (Qd : D → Prop) (Ed : DExc → Prop), Ext S H ∧ AtL G S ds vs ∧ ds.length = n ∧ psp ds Qd Ed ∧
  (∀ S' H' r v, Gr S H S' H' → At G S' r v → Qd r → Q v H') ∧ (∀ S' H' x c dd, Gr S H S' H' → ExAt G S' H' x c dd → Ed x → E c dd H')
structure Fn (P : Program) (w : World) (K : PySem.W.Frag) (mg : Str → Option Value) (base : Heap) (k : Nat) (name : Str) (n : Nat) (psp : PSp) : Prop where
  ex : ∃ f fd ps, FnOk P w K mg base (L2.CX P w) k f fd ps (spP ⟨K, mg⟩ n psp) ∧ mg name = some (.ref f) ∧ PySem.W.keepIn K (.ref f) = true ∧ Binds K fd ps []
def dCall (psp : PSp) (dr : AS) : ES := fun env Q E => dr env (fun xs => psp xs Q E) E
theorem snd_call {G : Gx} {psp : PSp} {n : Nat} {tr : TA} {dr : AS} (hr : SndA RA G W n tr dr) : SndE RA G W (tCallSD (spP G n psp) [] (fun σ => WE W σ) tr) (dCall psp dr) := by
  intro S H env σ Q E QV es ev hd k w
  refine hr S H env σ _ E _ es ev hd (fun S1 H1 xs vs g1 r1 l1 q1 => ?_) w
  rw [List.append_nil]
  exact ⟨S1, xs, Q, E, g1.sh, r1.at, l1, q1, fun S2 H2 r v g2 a q => k S2 H2 r v (g1.trans g2) a q, fun S2 H2 x c dd g2 a q => w S2 H2 x c dd (g1.trans g2) a q⟩
theorem de_call {es : List Expr} {tr : TA} {dr : AS} {k n : Nat} {name : Str} {psp : PSp} {p : Pos} (F : Fn X.prog X.w X.K X.mg X.base k name n psp) (hr : Room k X.A) (hg : Gl X name) (tk : Takes X W) (ha : DA RA X W (e :: es) tr dr) (hl : (e :: es).length = n := by rfl)
    (hdb : (name == ("__debug__" : Str)) = false := by decide) (he : starEach (e :: es) X.env = (false, eval e X.env) :: starEach es X.env := by rfl) (hpl : (backTo pos (starEach es X.env)).any (·.1) = false := by rfl) :
    DE RA X W (.Call (.Name name p) (e :: es) [] pos) (tCallSD (spP (gx X) n psp) [] (fun σ => WE W σ) tr) (dCall psp dr) := by
  obtain ⟨f, fd, ps, F1, F2, F3, F4⟩ := F.ex
  refine ⟨pe_callSD F1 hr hg F2 F3 F4 .nil (fun σ => passAt tk σ) ha.pa hdb he hpl, ?_⟩
  subst hl
  exact snd_call ha.sn

/-! ### subscripts -/
theorem de_ix {r : R2} {g : G2} (hr : IxR X r) (hs : OpS (gx X) r g) (ha : DE Hd X W a ta da) (hb : DE Hd X W b tb db) (hp : PlainIx b) : DE RA X W (.Subscript a b pos) (tOp r ta tb) (dBin g da db) :=
  ⟨pe_ix hr ha.pe hb.pe hp, snd_op hs ha.sn hb.sn⟩
/-- a part of a slice -/
abbrev PSl := Sl → (Option Int → Prop) → (DExc → Prop) → Prop
structure DP (X : Cx) (W : WX) (e : Option Expr) (to : TO) (d : PSl) : Prop where
  po : PO X e to
  sn : ∀ (S H : Hp) (env : Sl) (σ : L2.St) (Q : Option Int → Prop) (E : DExc → Prop) (QV : Option Int → Hp → Prop), Ext S H → EnvP (gx X) S H env σ → d env Q E →
    (∀ S' H' o, Gr S H S' H' → Q o → QV o H') → WOk (gx X) W S H σ E → to σ H QV
def dNoPart : PSl := fun _ Q _ => Q none
def asI : D → (Int → Prop) → Prop
  | .int i, Q => Q i
  | _, _ => False
theorem asI_at {G : Gx} {S : Hp} {x : D} {v : V} {Q : Int → Prop} (h : asI x Q) (r : At G S x v) : ∃ c, v = .int c ∧ Q c := by
  cases x with
  | int c => exact ⟨c, r, h⟩
  | _ => exact h.elim
def dPart (d : ES) : PSl := fun env Q E => d env (fun x => asI x fun i => Q (some i)) E
theorem dp_none : DP X W none tNoPart dNoPart := ⟨po_none, fun S H env σ Q E QV es ev hd k w => k S H none (.refl es) hd⟩
theorem dp_some (h : DE RA X W e te d) : DP X W (some e) (tPart te) (dPart d) := ⟨po_some h.pe, fun S H env σ Q E QV es ev hd k w =>
  h.sn S H env σ _ E _ es ev hd (fun S1 H1 x v g1 r1 q1 => by
    obtain ⟨i, e, q⟩ := asI_at q1 r1
    exact ⟨i, e, k S1 H1 _ g1 q⟩) w⟩
abbrev GS := D → Option Int → Option Int → (D → Prop) → Prop
def SlS (G : Gx) (r : V → Option Int → Option Int → Hp → VK → Prop) (g : GS) : Prop := ∀ (S H : Hp) (x : D) (v : V) (lo hi : Option Int) (Q : D → Prop) (QV : VK), Ext S H → Hd G S H x v → g x lo hi Q → (∀ S' H' z u, Gr S H S' H' → At G S' z u → Q z → QV u H') → r v lo hi H QV
def dSl (g : GS) (d : ES) (dl dh : PSl) : ES := fun env Q E => d env (fun x => dl env (fun lo => dh env (fun hi => g x lo hi Q) E) E) E
theorem de_slice {r : V → Option Int → Option Int → Hp → VK → Prop} {g : GS} {lo hi : Option Expr} {tl th : TO} {dl dh : PSl} {p2 : Pos} (hr : SlR X r) (hs : SlS (gx X) r g) (he : DE Hd X W e te d) (hl : DP X W lo tl dl) (hh : DP X W hi th dh) :
    DE RA X W (.Subscript e (.Slice lo hi none p2) pos) (tSl r te tl th) (dSl g d dl dh) := by
  refine ⟨pe_slice hr he.pe hl.po hh.po, fun S H env σ Q E QV es ev hd k w => ?_⟩
  refine he.sn S H env σ _ E _ es ev hd (fun S1 H1 x v g1 r1 q1 => ?_) w
  refine hl.sn S1 H1 env σ _ E _ g1.sh (ev.gr g1) q1 (fun S2 H2 o1 g2 q2 => ?_) (w.gr g1)
  have g12 := g1.trans g2
  refine hh.sn S2 H2 env σ _ E _ g2.sh (ev.gr g12) q2 (fun S3 H3 o2 g3 q3 => ?_) (w.gr g12)
  exact hs S3 H3 x v o1 o2 Q QV g3.sh (r1.mono (g2.trans g3).s (g2.trans g3).h) q3 fun S4 H4 z u g4 r4 q4 => k S4 H4 z u ((g12.trans g3).trans g4) r4 q4
end
end DL

/-! DL3: operators, comparisons, subscripts, slices and calls of built-ins by values. -/
namespace DL
open PySem L2

mutual
def D.py : D → PyData
  | .non => .none
  | .bl b => .bool b
  | .int i => .int i
  | .str s => .str s
  | .tup xs => .tuple (pyL xs)
  | .ktup xs => .tuple (pyL xs)
  | .lst xs => .list (pyL xs)
  | .scr ns => .list (ns.map .int)
  | .dk _ _ => .dict []
  | .dt _ _ => .dict []
  | .obj _ _ _ => .dict []
  | .ty _ => .dict []
  | .cls _ => .dict []
def pyL : List D → List PyData
  | [] => []
  | x :: xs => x.py :: pyL xs
end
theorem pyL_eq : ∀ xs : List D, pyL xs = xs.map D.py
  | [] => rfl
  | x :: xs => by simp only [pyL, List.map_cons]; rw [pyL_eq xs]
def D.ok (x : D) : Bool := SeqAt.shaped x.py
def D.eqb (x y : D) : Bool := PyData.eqv x.py y.py
theorem dpAll_ints {K : PySem.W.Frag} {H : Hp} : ∀ ns : List Int, DpAll K H (ns.map V.int) (ns.map PyData.int)
  | [] => .nil
  | n :: ns => .cons (.int n) (dpAll_ints ns)
section
variable {G : Gx} {H : Hp}
mutual
theorem dp_of : ∀ {x : D} {v : V}, At G H x v → x.py.canLay0 = true → Dp G.K H v x.py
  | .non, _, h, _ => by
    rw [show _ = _ from h]
    simp only [D.py]
    exact .non
  | .bl _, _, h, _ => by
    rw [show _ = _ from h]
    simp only [D.py]
    exact .bl _
  | .int _, _, h, _ => by
    rw [show _ = _ from h]
    simp only [D.py]
    exact .int _
  | .str _, _, h, _ => by
    rw [show _ = _ from h]
    simp only [D.py]
    exact .str _
  | .tup xs, _, h, c => by
    obtain ⟨a, vs, e1, e2, e3⟩ := h
    subst e1
    simp only [D.py, PyData.canLay0] at c ⊢
    exact .tup (SqT.of e2) (dpL_of e3 c)
  | .ktup xs, _, h, c => by
    obtain ⟨a, vs, e1, e2, e3⟩ := h
    subst e1
    simp only [D.py, PyData.canLay0] at c ⊢
    exact .tup e2 (dpL_of e3 c)
  | .lst xs, _, h, c => by
    obtain ⟨a, vs, e1, e2, e3⟩ := h
    subst e1
    simp only [D.py, PyData.canLay0] at c ⊢
    exact .lst (SqL.of e2) (dpL_of e3 c)
  | .scr ns, _, h, c => by
    obtain ⟨a, e1, e2⟩ := h
    subst e1
    simp only [D.py]
    exact .lst e2 (dpAll_ints ns)
  | .dk _ _, _, h, c => by simp [D.py, PyData.canLay0] at c
  | .dt _ _, _, h, c => by simp [D.py, PyData.canLay0] at c
  | .obj _ _ _, _, h, c => by simp [D.py, PyData.canLay0] at c
  | .ty _, _, h, c => by simp [D.py, PyData.canLay0] at c
  | .cls _, _, h, c => by simp [D.py, PyData.canLay0] at c
theorem dpL_of : ∀ {xs : List D} {vs : List V}, AtL G H xs vs → PyData.canLayAll0 (pyL xs) = true → DpAll G.K H vs (pyL xs)
  | [], _, h, _ => by
    rw [show _ = _ from h]
    simp only [pyL]
    exact .nil
  | x :: xs, _, h, c => by
    obtain ⟨v, r, e1, e2, e3⟩ := h
    subst e1
    simp only [pyL, PyData.canLayAll0, Bool.and_eq_true] at c ⊢
    exact .cons (dp_of e2 c.1) (dpL_of e3 c.2)
end
theorem D.ok_lay {x : D} (h : x.ok = true) : x.py.canLay0 = true := SeqAt.canLay_of_shaped h
end

section
variable {X : Cx} {G : Gx}
/-! ### == and != -/
def gEqW (neg : Bool) : G2
  | .str a, .str b, Q => Q (.bl (if neg then !decide (a = b) else decide (a = b)))
  | .int a, .int b, Q => Q (.bl (if neg then !decide (a = b) else decide (a = b)))
  | x, y, Q => x.ok = true ∧ y.ok = true ∧ Q (.bl (if neg then !x.eqb y else x.eqb y))
abbrev gEq : G2 := gEqW false
abbrev gNe : G2 := gEqW true
abbrev rEqS (K : PySem.W.Frag) : R2 := fun x y H Q => rEqD K x y H Q ∨ rEq x y H Q
abbrev rNeS (K : PySem.W.Frag) : R2 := fun x y H Q => rNeD K x y H Q ∨ rNe x y H Q
theorem op_eqS (hu : X.A.units + 64 < cLine) : OpR X (compareOp .Eq) (rEqS X.K) := (op_eqD hu).or op_eq
theorem op_neS (hu : X.A.units + 64 < cLine) : OpR X (compareOp .NotEq) (rNeS X.K) := (op_neD hu).or op_ne
theorem decS {a b : Str} : decide (V.str a = V.str b) = decide (a = b) := by simp
theorem decI {a b : Int} : decide (V.int a = V.int b) = decide (a = b) := by simp
theorem os_eq : OpS G (rEqS G.K) gEq := by
  intro S H x y v w Q QV es hx hy hg k
  unfold gEq gEqW at hg
  split at hg
  · rw [show v = _ from hx, show w = _ from hy]
    exact .inr ⟨rfl, by rw [decS]; exact k S H (.bl _) _ (.refl es) rfl hg⟩
  · rw [show v = _ from hx, show w = _ from hy]
    exact .inr ⟨rfl, by rw [decI]; exact k S H (.bl _) _ (.refl es) rfl hg⟩
  · exact .inl ⟨_, _, dp_of (Hd.at es hx) (D.ok_lay hg.1), dp_of (Hd.at es hy) (D.ok_lay hg.2.1), hg.1, hg.2.1, k S H (.bl _) _ (.refl es) rfl hg.2.2⟩
theorem os_ne : OpS G (rNeS G.K) gNe := by
  intro S H x y v w Q QV es hx hy hg k
  unfold gNe gEqW at hg
  split at hg
  · rw [show v = _ from hx, show w = _ from hy]
    exact .inr ⟨rfl, by rw [decS]; exact k S H (.bl _) _ (.refl es) rfl hg⟩
  · rw [show v = _ from hx, show w = _ from hy]
    exact .inr ⟨rfl, by rw [decI]; exact k S H (.bl _) _ (.refl es) rfl hg⟩
  · exact .inl ⟨_, _, dp_of (Hd.at es hx) (D.ok_lay hg.1), dp_of (Hd.at es hy) (D.ok_lay hg.2.1), hg.1, hg.2.1, k S H (.bl _) _ (.refl es) rfl hg.2.2⟩
theorem gEq_of {x y : D} {Q : D → Prop} (h1 : x.ok = true) (h2 : y.ok = true) (q : Q (.bl (x.eqb y))) : gEq x y Q := by
  unfold gEq gEqW
  split
  · rename_i a b
    have e : (D.str a).eqb (.str b) = decide (a = b) := by
      show (a == b) = _
      rw [Bool.eq_iff_iff]; simp
    rw [e] at q
    exact q
  · rename_i a b
    have e : (D.int a).eqb (.int b) = decide (a = b) := by
      show (a == b) = _
      rw [Bool.eq_iff_iff]; simp
    rw [e] at q
    exact q
  · exact ⟨h1, h2, q⟩
theorem gNe_of {x y : D} {Q : D → Prop} (h1 : x.ok = true) (h2 : y.ok = true) (q : Q (.bl (!x.eqb y))) : gNe x y Q := by
  unfold gNe gEqW
  split
  · rename_i a b
    have e : (D.str a).eqb (.str b) = decide (a = b) := by
      show (a == b) = _
      rw [Bool.eq_iff_iff]; simp
    rw [e] at q
    exact q
  · rename_i a b
    have e : (D.int a).eqb (.int b) = decide (a = b) := by
      show (a == b) = _
      rw [Bool.eq_iff_iff]; simp
    rw [e] at q
    exact q
  · exact ⟨h1, h2, q⟩

/-! ### in, not in: lists and tuples of plain data -/
def rInDT (K : PySem.W.Frag) (neg : Bool) : R2 := fun x y H Q => ∃ d ds, Dp K H x d ∧ Dp K H y (.tuple ds) ∧ SeqAt.shaped d = true ∧ SeqAt.shaped (.tuple ds) = true ∧ Q (.bl (if neg then !ds.any fun z => PyData.eqv z d else ds.any fun z => PyData.eqv z d)) H
theorem op_inDT (hu : X.A.units + 65 < cLine) : OpR X (compareOp .In) (rInDT X.K false) := by
  intro pins s σ H x y v u Q I rx ry h
  obtain ⟨d, ds, h1, h2, s1, s2, q⟩ := h
  obtain ⟨as, r1⟩ := Dp.reads I _ x v h1 rx
  obtain ⟨bs, r2⟩ := Dp.reads I _ y u h2 ry
  have c2 := SeqAt.canLay_of_shaped s2
  simp only [PyData.canLay0] at c2
  exact SeqAt.in_tuple_reads r2 r1 c2 (SeqAt.canLay_of_shaped s1) (PyProof.Rows.room_in_shaped s1 hu) ⟨.bl _, H, I, rfl, q⟩
theorem op_notInDT (hu : X.A.units + 65 < cLine) : OpR X (compareOp .NotIn) (rInDT X.K true) := by
  intro pins s σ H x y v u Q I rx ry h
  obtain ⟨d, ds, h1, h2, s1, s2, q⟩ := h
  obtain ⟨as, r1⟩ := Dp.reads I _ x v h1 rx
  obtain ⟨bs, r2⟩ := Dp.reads I _ y u h2 ry
  have c2 := SeqAt.canLay_of_shaped s2
  simp only [PyData.canLay0] at c2
  exact SeqAt.notIn_tuple_reads r2 r1 c2 (SeqAt.canLay_of_shaped s1) (PyProof.Rows.room_in_shaped s1 hu) ⟨.bl _, H, I, rfl, q⟩
/-- whether some item equals x -/
def hasD (ys : List D) (x : D) : Bool := ys.any fun z => z.eqb x
theorem any_py (ys : List D) (d : PyData) : ((pyL ys).any fun z => PyData.eqv z d) = ys.any fun z => PyData.eqv z.py d := by
  rw [pyL_eq, List.any_map]
  rfl
def gInW (neg : Bool) : G2
  | x, .lst ys, Q => x.ok = true ∧ (D.lst ys).ok = true ∧ Q (.bl (if neg then !hasD ys x else hasD ys x))
  | x, .tup ys, Q => x.ok = true ∧ (D.tup ys).ok = true ∧ Q (.bl (if neg then !hasD ys x else hasD ys x))
  | x, .ktup ys, Q => x.ok = true ∧ (D.ktup ys).ok = true ∧ Q (.bl (if neg then !hasD ys x else hasD ys x))
  | _, _, _ => False
abbrev gIn : G2 := gInW false
abbrev gNin : G2 := gInW true
abbrev rInS (K : PySem.W.Frag) : R2 := fun x y H Q => rInD K x y H Q ∨ rInDT K false x y H Q
abbrev rNinS (K : PySem.W.Frag) : R2 := fun x y H Q => rNotInD K x y H Q ∨ rInDT K true x y H Q
theorem op_inS (hu : X.A.units + 65 < cLine) : OpR X (compareOp .In) (rInS X.K) := (op_inD hu).or (op_inDT hu)
theorem op_ninS (hu : X.A.units + 65 < cLine) : OpR X (compareOp .NotIn) (rNinS X.K) := (op_notInD hu).or (op_notInDT hu)
theorem os_in : OpS G (rInS G.K) gIn := by
  intro S H x y v w Q QV es hx hy hg k
  cases y with
  | lst ys =>
    obtain ⟨h1, h2, q⟩ := hg
    have a := dp_of (Hd.at es hy) (D.ok_lay h2)
    have e2 : SeqAt.shaped (D.lst ys).py = true := h2
    simp only [D.py] at a e2
    refine .inl ⟨_, _, dp_of (Hd.at es hx) (D.ok_lay h1), a, h1, e2, ?_⟩
    rw [any_py]
    exact k S H (.bl _) _ (.refl es) rfl q
  | tup ys =>
    obtain ⟨h1, h2, q⟩ := hg
    have a := dp_of (Hd.at es hy) (D.ok_lay h2)
    have e2 : SeqAt.shaped (D.tup ys).py = true := h2
    simp only [D.py] at a e2
    refine .inr ⟨_, _, dp_of (Hd.at es hx) (D.ok_lay h1), a, h1, e2, ?_⟩
    rw [any_py]
    exact k S H (.bl _) _ (.refl es) rfl q
  | ktup ys =>
    obtain ⟨h1, h2, q⟩ := hg
    have a := dp_of (Hd.at es hy) (D.ok_lay h2)
    have e2 : SeqAt.shaped (D.ktup ys).py = true := h2
    simp only [D.py] at a e2
    refine .inr ⟨_, _, dp_of (Hd.at es hx) (D.ok_lay h1), a, h1, e2, ?_⟩
    rw [any_py]
    exact k S H (.bl _) _ (.refl es) rfl q
  | _ => exact hg.elim
theorem os_nin : OpS G (rNinS G.K) gNin := by
  intro S H x y v w Q QV es hx hy hg k
  cases y with
  | lst ys =>
    obtain ⟨h1, h2, q⟩ := hg
    have a := dp_of (Hd.at es hy) (D.ok_lay h2)
    have e2 : SeqAt.shaped (D.lst ys).py = true := h2
    simp only [D.py] at a e2
    refine .inl ⟨_, _, dp_of (Hd.at es hx) (D.ok_lay h1), a, h1, e2, ?_⟩
    rw [any_py]
    exact k S H (.bl _) _ (.refl es) rfl q
  | tup ys =>
    obtain ⟨h1, h2, q⟩ := hg
    have a := dp_of (Hd.at es hy) (D.ok_lay h2)
    have e2 : SeqAt.shaped (D.tup ys).py = true := h2
    simp only [D.py] at a e2
    refine .inr ⟨_, _, dp_of (Hd.at es hx) (D.ok_lay h1), a, h1, e2, ?_⟩
    rw [any_py]
    exact k S H (.bl _) _ (.refl es) rfl q
  | ktup ys =>
    obtain ⟨h1, h2, q⟩ := hg
    have a := dp_of (Hd.at es hy) (D.ok_lay h2)
    have e2 : SeqAt.shaped (D.ktup ys).py = true := h2
    simp only [D.py] at a e2
    refine .inr ⟨_, _, dp_of (Hd.at es hx) (D.ok_lay h1), a, h1, e2, ?_⟩
    rw [any_py]
    exact k S H (.bl _) _ (.refl es) rfl q
  | _ => exact hg.elim

/-! ### two ints -/
def gI (C : Int → Int → Prop) (g : Int → Int → D) : G2
  | .int i, .int j, Q => C i j ∧ Q (g i j)
  | _, _, _ => False
theorem os_I {C : Int → Int → Prop} {g : Int → Int → D} {gv : Int → Int → V} (h : ∀ i j S, At G S (g i j) (gv i j)) : OpS G (rI C gv) (gI C g) := by
  intro S H x y v w Q QV es hx hy hg k
  cases x with
  | int i =>
    cases y with
    | int j => exact ⟨i, j, hx, hy, hg.1, k S H _ _ (.refl es) (h i j S) hg.2⟩
    | _ => exact hg.elim
  | _ => exact hg.elim
def gI0 (g : Int → Int → D) : G2
  | .int i, .int j, Q => Q (g i j)
  | _, _, _ => False
theorem os_I0 {g : Int → Int → D} {gv : Int → Int → V} (h : ∀ i j S, At G S (g i j) (gv i j)) : OpS G (rI0 gv) (gI0 g) := by
  intro S H x y v w Q QV es hx hy hg k
  cases x with
  | int i =>
    cases y with
    | int j => exact ⟨i, j, hx, hy, k S H _ _ (.refl es) (h i j S) hg⟩
    | _ => exact hg.elim
  | _ => exact hg.elim
abbrev gSub : G2 := gI0 fun i j => .int (i - j)
abbrev gLt : G2 := gI0 fun i j => .bl (decide (i < j))
abbrev gLe : G2 := gI0 fun i j => .bl (decide (i ≤ j))
abbrev gGt : G2 := gI0 fun i j => .bl (decide (j < i))
abbrev gGe : G2 := gI0 fun i j => .bl (decide (j ≤ i))
abbrev gMod : G2 := gI (fun _ j => 0 < j) fun i j => .int (i % j)
theorem os_sub : OpS G (rI0 fun i j => .int (i - j)) gSub := os_I0 fun _ _ _ => rfl
theorem os_lt : OpS G (rI0 fun i j => .bl (decide (i < j))) gLt := os_I0 fun _ _ _ => rfl
theorem os_le : OpS G (rI0 fun i j => .bl (decide (i ≤ j))) gLe := os_I0 fun _ _ _ => rfl
theorem os_gt : OpS G (rI0 fun i j => .bl (decide (j < i))) gGt := os_I0 fun _ _ _ => rfl
theorem os_ge : OpS G (rI0 fun i j => .bl (decide (j ≤ i))) gGe := os_I0 fun _ _ _ => rfl
theorem os_mod : OpS G (rI (fun _ j => 0 < j) fun i j => .int (i % j)) gMod := os_I fun _ _ _ => rfl
abbrev CDivA (i j : Int) : Prop := CDiv i j ∨ CDivW i j
abbrev rFdivA : R2 := fun x y H Q => rI CDiv (fun i j => .int (i / j)) x y H Q ∨ rI CDivW (fun i j => .int (i / j)) x y H Q
theorem op_fdivA : OpR X (binaryOp .FloorDiv) rFdivA := op_fdiv.or op_fdivW
abbrev gFdiv : G2 := gI CDivA fun i j => .int (i / j)
theorem os_fdiv : OpS G rFdivA gFdiv := by
  intro S H x y v w Q QV es hx hy hg k
  cases x with
  | int i =>
    cases y with
    | int j =>
      rcases hg with ⟨c | c, q⟩
      · exact .inl ⟨i, j, hx, hy, c, k S H (.int _) _ (.refl es) rfl q⟩
      · exact .inr ⟨i, j, hx, hy, c, k S H (.int _) _ (.refl es) rfl q⟩
    | _ => exact hg.elim
  | _ => exact hg.elim
abbrev gPow : G2 := gI CPow fun i j => .int (i ^ j.toNat)
theorem os_pow : OpS G (rI CPow fun i j => .int (i ^ j.toNat)) gPow := os_I fun _ _ _ => rfl

/-! ### + and * -/
def gAdd : G2
  | .int i, .int j, Q => Q (.int (i + j))
  | .tup xs, .tup ys, Q => xs.length + ys.length ≤ 16000000 ∧ Q (.tup (xs ++ ys))
  | .lst xs, .lst ys, Q => xs.length + ys.length ≤ 16000000 ∧ Q (.lst (xs ++ ys))
  | _, _, _ => False
abbrev rAddA (K : PySem.W.Frag) : R2 := fun x y H Q => rI0 (fun i j => .int (i + j)) x y H Q ∨ (fun x y H Q => rCatA K x y H Q ∨ rCat x y H Q) x y H Q
theorem op_addA : OpR X (binaryOp .Add) (rAddA X.K) := op_add.or (op_catA.or op_cat)
theorem sz16 {n : Nat} (h : n ≤ 16000000) : n ≤ sizeLine := Nat.le_trans h (by decide)
theorem sz16l {n : Nat} (h : n < 16000000) : n < sizeLine := Nat.lt_of_lt_of_le h (by decide)
theorem os_add : OpS G (rAddA G.K) gAdd := by
  intro S H x y v w Q QV es hx hy hg k
  cases x with
  | int i =>
    cases y with
    | int j => exact .inl ⟨i, j, hx, hy, k S H (.int _) _ (.refl es) rfl hg⟩
    | _ => exact hg.elim
  | tup xs =>
    cases y with
    | tup ys =>
      obtain ⟨hl, q⟩ := hg
      obtain ⟨a, vs, e1, e2, e3⟩ := hx
      obtain ⟨b, ws, f1, f2, f3⟩ := hy
      refine .inr (.inl ⟨a, b, vs, ws, e1, f1, SqT.of (es a _ e2), SqT.of (es b _ f2), ?_, fun z => ?_, fun z1 z2 => ?_, fun z1 z2 p hp => ?_⟩)
      · rw [← e3.length, ← f3.length]
        exact sz16 hl
      · have z' := e3.nil_iff.mp z
        subst z'
        exact k S H (.tup ([] ++ ys)) _ (.refl es) ⟨b, ws, rfl, f2, f3⟩ q
      · have z' := f3.nil_iff.mp z2
        subst z'
        rw [List.append_nil] at q
        exact k S H (.tup xs) _ (.refl es) ⟨a, vs, rfl, e2, e3⟩ q
      · have g1 : Gr S H _ _ := Gr.new (p := p) (o := .tup (vs ++ ws)) es hp
        exact k _ _ (.tup (xs ++ ys)) _ g1 ⟨p, vs ++ ws, rfl, upd_same, (e3.append f3).mono g1.s⟩ q
    | _ => exact hg.elim
  | lst xs =>
    cases y with
    | lst ys =>
      obtain ⟨hl, q⟩ := hg
      obtain ⟨a, vs, e1, e2, e3⟩ := hx
      obtain ⟨b, ws, f1, f2, f3⟩ := hy
      refine .inr (.inr ⟨a, b, vs, ws, e1, f1, e2, f2, ?_, fun p hp => ?_⟩)
      · rw [← e3.length, ← f3.length]
        exact sz16 hl
      · have g1 : Gr S H _ _ := Gr.new (p := p) (o := .lst (vs ++ ws)) es hp
        exact k _ _ (.lst (xs ++ ys)) _ g1 ⟨p, vs ++ ws, rfl, upd_same, (e3.append f3).mono g1.s⟩ q
    | _ => exact hg.elim
  | _ => exact hg.elim
end
end DL

namespace DL
open PySem L2
section
variable {X : Cx} {G : Gx}
def gMul : G2
  | .int i, .int j, Q => (CMul i j ∨ CMulW i j) ∧ Q (.int (i * j))
  | .lst xs, .int k, Q => 0 ≤ k ∧ k ≤ 16000000 ∧ xs.length * k.toNat ≤ 16000000 ∧ Q (.lst (List.replicate k.toNat xs).flatten)
  | _, _, _ => False
abbrev rMulA : R2 := fun x y H Q => (fun x y H Q => rI CMul (fun i j => .int (i * j)) x y H Q ∨ rI CMulW (fun i j => .int (i * j)) x y H Q) x y H Q ∨ rRep x y H Q
theorem op_mulA : OpR X (binaryOp .Mult) rMulA := (op_mul.or op_mulW).or op_rep
theorem AtL.rep {H : Hp} {xs : List D} {vs : List V} (h : AtL G H xs vs) : ∀ k : Nat, AtL G H (List.replicate k xs).flatten (List.replicate k vs).flatten
  | 0 => rfl
  | k + 1 => by
    simp only [List.replicate_succ, List.flatten_cons]
    exact h.append (AtL.rep h k)
theorem os_mul : OpS G rMulA gMul := by
  intro S H x y v w Q QV es hx hy hg k
  cases x with
  | int i =>
    cases y with
    | int j =>
      rcases hg with ⟨c | c, q⟩
      · exact .inl (.inl ⟨i, j, hx, hy, c, k S H (.int _) _ (.refl es) rfl q⟩)
      · exact .inl (.inr ⟨i, j, hx, hy, c, k S H (.int _) _ (.refl es) rfl q⟩)
    | _ => exact hg.elim
  | lst xs =>
    cases y with
    | int j =>
      obtain ⟨h0, h1, h2, q⟩ := hg
      obtain ⟨a, vs, e1, e2, e3⟩ := hx
      have el := e3.length
      refine .inr ⟨a, j, vs, e1, hy, e2, by omega, by omega, sz16 (by rw [← el]; exact h2), fun p hp => ?_⟩
      have g1 : Gr S H _ _ := Gr.new (p := p) (o := .lst (List.replicate j.toNat vs).flatten) es hp
      exact k _ _ (.lst _) _ g1 ⟨p, _, rfl, upd_same, (e3.rep j.toNat).mono g1.s⟩ q
    | _ => exact hg.elim
  | _ => exact hg.elim

/-! ### is None -/
def D.isNon : D → Bool
  | .non => true
  | _ => false
theorem isNon_at {S H : Hp} {x : D} {v : V} (h : Hd G S H x v) : decide (v = .non) = x.isNon := by
  cases x with
  | non => rw [show v = .non from h]; rfl
  | bl _ => rw [show v = .bl _ from h]; rfl
  | int _ => rw [show v = .int _ from h]; rfl
  | str _ => rw [show v = .str _ from h]; rfl
  | ty _ => rw [show v = .ty _ from h]; rfl
  | cls _ => obtain ⟨_, e, _⟩ := h; rw [e]; rfl
  | tup _ => obtain ⟨_, _, e, _⟩ := h; rw [e]; rfl
  | ktup _ => obtain ⟨_, _, e, _⟩ := h; rw [e]; rfl
  | lst _ => obtain ⟨_, _, e, _⟩ := h; rw [e]; rfl
  | scr _ => obtain ⟨_, e, _⟩ := h; rw [e]; rfl
  | dk _ _ => obtain ⟨_, _, e, _⟩ := h; rw [e]; rfl
  | dt _ _ => obtain ⟨_, _, e, _⟩ := h; rw [e]; rfl
  | obj _ _ _ => obtain ⟨_, _, _, _, e, _⟩ := h; rw [e]; rfl
def gIsN : G2
  | x, .non, Q => Q (.bl x.isNon)
  | _, _, _ => False
def gNotN : G2
  | x, .non, Q => Q (.bl (!x.isNon))
  | _, _, _ => False
theorem os_isN : OpS G (fun x y H Q => y = .non ∧ Q (.bl (decide (x = .non))) H) gIsN := by
  intro S H x y v w Q QV es hx hy hg k
  cases y with
  | non => exact ⟨hy, by rw [isNon_at hx]; exact k S H (.bl _) _ (.refl es) rfl hg⟩
  | _ => exact hg.elim
theorem os_notN : OpS G (fun x y H Q => y = .non ∧ Q (.bl (!decide (x = .non))) H) gNotN := by
  intro S H x y v w Q QV es hx hy hg k
  cases y with
  | non => exact ⟨hy, by rw [isNon_at hx]; exact k S H (.bl _) _ (.refl es) rfl hg⟩
  | _ => exact hg.elim

/-! ### x[i] -/
def gIx : G2
  | .tup xs, .int i, Q => match atI xs i with
    | some x => Q x
    | none => False
  | .lst xs, .int i, Q => match atI xs i with
    | some x => Q x
    | none => False
  | .scr ns, .int i, Q => match atI ns i with
    | some n => Q (.int n)
    | none => False
  | _, _, _ => False
theorem atI_L {S : Hp} {xs : List D} {vs : List V} {i : Int} {x : D} (h : AtL G S xs vs) (e : atI xs i = some x) : ∃ v, atI vs i = some v ∧ At G S x v := by
  unfold atI at e ⊢
  rw [← h.length]
  cases q : ixN xs.length i with
  | none => rw [q] at e; cases e
  | some j =>
    rw [q] at e
    exact h.get (show xs[j]? = some x from e)
theorem atI_map {ns : List Int} {i n : Int} (e : atI ns i = some n) : atI (ns.map V.int) i = some (.int n) := by
  unfold atI at e ⊢
  rw [List.length_map]
  cases q : ixN ns.length i with
  | none => rw [q] at e; cases e
  | some j =>
    rw [q] at e
    have e' : ns[j]? = some n := e
    show (ns.map V.int)[j]? = _
    rw [List.getElem?_map, e']
    rfl
theorem os_ix : OpS G (rIx G.K) gIx := by
  intro S H x y v w Q QV es hx hy hg k
  cases x with
  | tup xs =>
    cases y with
    | int i =>
      unfold gIx at hg
      cases e : atI xs i with
      | none => simp only [e] at hg
      | some z =>
        simp only [e] at hg
        obtain ⟨a, vs, e1, e2, e3⟩ := hx
        obtain ⟨u, q1, q2⟩ := atI_L e3 e
        exact .inr (.inl ⟨a, vs, i, u, e1, hy, SqT.of (es a _ e2), q1, k S H z u (.refl es) q2 hg⟩)
    | _ => exact hg.elim
  | lst xs =>
    cases y with
    | int i =>
      unfold gIx at hg
      cases e : atI xs i with
      | none => simp only [e] at hg
      | some z =>
        simp only [e] at hg
        obtain ⟨a, vs, e1, e2, e3⟩ := hx
        obtain ⟨u, q1, q2⟩ := atI_L e3 e
        exact .inl ⟨a, vs, i, u, e1, hy, SqL.of e2, q1, k S H z u (.refl es) q2 hg⟩
    | _ => exact hg.elim
  | scr ns =>
    cases y with
    | int i =>
      unfold gIx at hg
      cases e : atI ns i with
      | none => simp only [e] at hg
      | some z =>
        simp only [e] at hg
        obtain ⟨a, e1, e2⟩ := hx
        exact .inl ⟨a, _, i, _, e1, hy, e2, atI_map e, k S H (.int z) _ (.refl es) rfl hg⟩
    | _ => exact hg.elim
  | _ => exact hg.elim

/-! ### slices -/
def cutD (xs : List D) (lo hi : Option Int) : List D := (xs.drop (HT.sIx xs.length 0 lo)).take (HT.sIx xs.length xs.length hi - HT.sIx xs.length 0 lo)
def gSl : GS
  | .tup xs, lo, hi, Q => Q (.tup (cutD xs lo hi))
  | .lst xs, lo, hi, Q => Q (.lst (cutD xs lo hi))
  | _, _, _, _ => False
theorem AtL.cut {S : Hp} {xs : List D} {vs : List V} (h : AtL G S xs vs) (lo hi : Option Int) : AtL G S (cutD xs lo hi) (cutV vs lo hi) := by
  unfold cutD cutV
  rw [← h.length]
  exact (h.drop _).take _
theorem cut_whole {xs : List D} {lo hi : Option Int} (h : HT.sIx xs.length 0 lo = 0 ∧ HT.sIx xs.length xs.length hi = xs.length) : cutD xs lo hi = xs := by
  unfold cutD
  rw [h.1, h.2]
  simp
abbrev rSlS (K : PySem.W.Frag) : V → Option Int → Option Int → Hp → VK → Prop := fun x lo hi H Q => rSlA K x lo hi H Q ∨ rSlL K x lo hi H Q
theorem sl_S : SlR X (rSlS X.K) := sl_tupA.or sl_list
theorem ss_sl : SlS G (rSlS G.K) gSl := by
  intro S H x v lo hi Q QV es hx hg k
  cases x with
  | tup xs =>
    obtain ⟨a, vs, e1, e2, e3⟩ := hx
    have el := e3.length
    refine .inl ⟨a, vs, e1, SqT.of (es a _ e2), fun z => ?_, fun _ p hp => ?_⟩
    · have hg' : Q (.tup (cutD xs lo hi)) := hg
      rw [cut_whole (by rw [el]; exact z)] at hg'
      exact k S H (.tup xs) _ (.refl es) ⟨a, vs, rfl, e2, e3⟩ hg'
    · have g1 : Gr S H _ _ := Gr.new (p := p) (o := .tup (cutV vs lo hi)) es hp
      exact k _ _ (.tup _) _ g1 ⟨p, _, rfl, upd_same, (e3.cut lo hi).mono g1.s⟩ hg
  | lst xs =>
    obtain ⟨a, vs, e1, e2, e3⟩ := hx
    refine .inr ⟨a, vs, e1, SqL.of e2, fun p hp => ?_⟩
    have g1 : Gr S H _ _ := Gr.new (p := p) (o := .lst (cutV vs lo hi)) es hp
    exact k _ _ (.lst _) _ g1 ⟨p, _, rfl, upd_same, (e3.cut lo hi).mono g1.s⟩ hg
  | _ => exact hg.elim

/-! ### built-ins -/
theorem rl1 {S H : Hp} {x : D} {vs : List V} (h : RL Hd G S H [x] vs) : ∃ v, vs = [v] ∧ Hd G S H x v := by
  obtain ⟨v, r, e1, e2, e3⟩ := h
  rw [show r = [] from e3] at e1
  exact ⟨v, e1, e2⟩
theorem rl2 {S H : Hp} {x y : D} {vs : List V} (h : RL Hd G S H [x, y] vs) : ∃ v w, vs = [v, w] ∧ Hd G S H x v ∧ Hd G S H y w := by
  obtain ⟨v, r, e1, e2, e3⟩ := h
  obtain ⟨w, f1, f2⟩ := rl1 e3
  subst f1
  exact ⟨v, w, e1, e2, f2⟩
def gLen : GC
  | [.tup xs], Q => Q (.int xs.length)
  | [.lst xs], Q => Q (.int xs.length)
  | [.scr ns], Q => Q (.int ns.length)
  | [.str s], Q => s.length ≤ 16000000 ∧ Q (.int s.length)
  | _, _ => False
abbrev rLenS (K : PySem.W.Frag) : List V → Hp → VK → Prop := fun xs H Q => (∃ p ys, xs = [.ref p] ∧ (SqL K H p ys ∨ SqT K H p ys) ∧ Q (.int ys.length) H) ∨ ∃ z, xs = [.str z] ∧ z.length ≤ sizeLine ∧ Q (.int z.length) H
theorem call_lenS : CallR X (.builtin "len") (rLenS X.K) := call_len_seq.or call_len_str
theorem cs_len : CallS G (rLenS G.K) gLen := by
  intro S H xs vs Q QV es hx hg k
  unfold gLen at hg
  split at hg
  · obtain ⟨v, rfl, a, ws, rfl, e2, e3⟩ := rl1 hx
    exact .inl ⟨a, ws, rfl, .inr (SqT.of (es a _ e2)), by rw [← e3.length]; exact k S H (.int _) _ (.refl es) rfl hg⟩
  · obtain ⟨v, rfl, a, ws, rfl, e2, e3⟩ := rl1 hx
    exact .inl ⟨a, ws, rfl, .inl (SqL.of e2), by rw [← e3.length]; exact k S H (.int _) _ (.refl es) rfl hg⟩
  · obtain ⟨v, rfl, a, rfl, e2⟩ := rl1 hx
    exact .inl ⟨a, _, rfl, .inl e2, by rw [List.length_map]; exact k S H (.int _) _ (.refl es) rfl hg⟩
  · obtain ⟨v, rfl, e2⟩ := rl1 hx
    rw [show v = _ from e2]
    exact .inr ⟨_, rfl, sz16 hg.1, k S H (.int _) _ (.refl es) rfl hg.2⟩
  · exact hg.elim
def gInt : GC
  | [.int i], Q => Q (.int i)
  | [.bl b], Q => Q (.int (if b then 1 else 0))
  | _, _ => False
theorem cs_int : CallS G (fun xs H Q => (∃ i, xs = [.int i] ∧ Q (.int i) H) ∨ ∃ k, xs = [.bl k] ∧ Q (.int (if k then 1 else 0)) H) gInt := by
  intro S H xs vs Q QV es hx hg k
  unfold gInt at hg
  split at hg
  · obtain ⟨v, rfl, e2⟩ := rl1 hx
    rw [show v = _ from e2]
    exact .inl ⟨_, rfl, k S H (.int _) _ (.refl es) rfl hg⟩
  · obtain ⟨v, rfl, e2⟩ := rl1 hx
    rw [show v = _ from e2]
    exact .inr ⟨_, rfl, k S H (.int _) _ (.refl es) rfl hg⟩
  · exact hg.elim
def gTuple : GC
  | [.tup xs], Q => Q (.tup xs)
  | [.lst xs], Q => Q (.tup xs)
  | _, _ => False
theorem cs_tuple : CallS G (fun xs H Q => ∃ p ys, xs = [.ref p] ∧ ((SqL G.K H p ys ∧ ∀ l, H l = none → Q (.ref l) (upd H l (.tup ys))) ∨ (SqT G.K H p ys ∧ Q (.ref p) H))) gTuple := by
  intro S H xs vs Q QV es hx hg k
  unfold gTuple at hg
  split at hg
  · obtain ⟨v, rfl, a, ws, rfl, e2, e3⟩ := rl1 hx
    exact ⟨a, ws, rfl, .inr ⟨SqT.of (es a _ e2), k S H (.tup _) _ (.refl es) ⟨a, ws, rfl, e2, e3⟩ hg⟩⟩
  · obtain ⟨v, rfl, a, ws, rfl, e2, e3⟩ := rl1 hx
    refine ⟨a, ws, rfl, .inl ⟨SqL.of e2, fun p hp => ?_⟩⟩
    have g1 : Gr S H _ _ := Gr.new (p := p) (o := .tup ws) es hp
    exact k _ _ (.tup _) _ g1 ⟨p, ws, rfl, upd_same, e3.mono g1.s⟩ hg
  · exact hg.elim
def gList : GC
  | [.tup xs], Q => Q (.lst xs)
  | [.lst xs], Q => Q (.lst xs)
  | _, _ => False
abbrev rListS (K : PySem.W.Frag) : List V → Hp → VK → Prop := fun xs H Q => ∃ p ys, xs = [.ref p] ∧ (SqL K H p ys ∨ SqT K H p ys) ∧ ∀ l, H l = none → Q (.ref l) (upd H l (.lst ys))
theorem cs_list : CallS G (rListS G.K) gList := by
  intro S H xs vs Q QV es hx hg k
  unfold gList at hg
  split at hg
  · obtain ⟨v, rfl, a, ws, rfl, e2, e3⟩ := rl1 hx
    refine ⟨a, ws, rfl, .inr (SqT.of (es a _ e2)), fun p hp => ?_⟩
    have g1 : Gr S H _ _ := Gr.new (p := p) (o := .lst ws) es hp
    exact k _ _ (.lst _) _ g1 ⟨p, ws, rfl, upd_same, e3.mono g1.s⟩ hg
  · obtain ⟨v, rfl, a, ws, rfl, e2, e3⟩ := rl1 hx
    refine ⟨a, ws, rfl, .inl (SqL.of e2), fun p hp => ?_⟩
    have g1 : Gr S H _ _ := Gr.new (p := p) (o := .lst ws) es hp
    exact k _ _ (.lst _) _ g1 ⟨p, ws, rfl, upd_same, e3.mono g1.s⟩ hg
  · exact hg.elim
def gMax : GC
  | [.int i, .int j], Q => Q (.int (if j > i then j else i))
  | _, _ => False
def gMin : GC
  | [.int i, .int j], Q => Q (.int (if j < i then j else i))
  | _, _ => False
theorem cs_max : CallS G (fun xs H Q => ∃ i j, xs = [.int i, .int j] ∧ Q (.int (if j > i then j else i)) H) gMax := by
  intro S H xs vs Q QV es hx hg k
  unfold gMax at hg
  split at hg
  · obtain ⟨v, w, rfl, e1, e2⟩ := rl2 hx
    rw [show v = _ from e1, show w = _ from e2]
    exact ⟨_, _, rfl, k S H (.int _) _ (.refl es) rfl hg⟩
  · exact hg.elim
theorem cs_min : CallS G (fun xs H Q => ∃ i j, xs = [.int i, .int j] ∧ Q (.int (if j < i then j else i)) H) gMin := by
  intro S H xs vs Q QV es hx hg k
  unfold gMin at hg
  split at hg
  · obtain ⟨v, w, rfl, e1, e2⟩ := rl2 hx
    rw [show v = _ from e1, show w = _ from e2]
    exact ⟨_, _, rfl, k S H (.int _) _ (.refl es) rfl hg⟩
  · exact hg.elim

/-! ### isinstance(x, T), a built-in class -/
def D.tyn : D → Option String
  | .non => some "NoneType"
  | .bl _ => some "bool"
  | .int _ => some "int"
  | .str _ => some "str"
  | .tup _ => some "tuple"
  | .lst _ => some "list"
  | .dk _ _ => some "dict"
  | _ => none
def isiB (x : D) (n : String) : Option Bool := x.tyn.bind fun a => kitB a n
def gIsi : GC
  | [x, .ty n], Q => match isiB x n with
    | some r => Q (.bl r)
    | none => False
  | _, _ => False
theorem tyx_of {S H : Hp} (es : Ext S H) {x : D} {v : V} {a : String} (h : Hd G S H x v) (e : x.tyn = some a) : TyX G.K H v (.type a) := by
  cases x with
  | non => cases e; rw [show v = _ from h]; exact .base .non
  | bl _ => cases e; rw [show v = _ from h]; exact .base (.bl _)
  | int _ => cases e; rw [show v = _ from h]; exact .base (.int _)
  | str _ => cases e; rw [show v = _ from h]; exact .base (.str _)
  | tup _ => cases e; obtain ⟨a, vs, rfl, e2, _⟩ := h; exact .base (.tup (es a _ e2))
  | lst _ => cases e; obtain ⟨a, vs, rfl, e2, _⟩ := h; exact .base (.lst e2)
  | dk _ _ =>
    cases e
    obtain ⟨a, vs, rfl, e2, _⟩ := h
    rcases e2 with e2 | ⟨o, e2⟩
    · exact .base (.dK e2)
    · exact .fDict e2
  | _ => cases e
theorem cs_isi : CallS G (rIsi G.K) gIsi := by
  intro S H xs vs Q QV es hx hg k
  unfold gIsi at hg
  split at hg
  · rename_i x n
    obtain ⟨v, w, rfl, e1, e2⟩ := rl2 hx
    rw [show w = _ from e2]
    cases q : isiB x n with
    | none => rw [q] at hg; exact hg.elim
    | some r =>
      rw [q] at hg
      unfold isiB at q
      cases t : x.tyn with
      | none => rw [t] at q; cases q
      | some a =>
        rw [t] at q
        exact ⟨v, _, _, _, r, rfl, .ty n, tyx_of es e1 t, kit_ty q, k S H (.bl r) _ (.refl es) rfl hg⟩
  · exact hg.elim
theorem kit_ii : kitB "int" "int" = some true := by decide +kernel
theorem kit_ib : kitB "int" "bool" = some false := by decide +kernel
theorem kit_it : kitB "int" "tuple" = some false := by decide +kernel
theorem kit_bi : kitB "bool" "int" = some true := by decide +kernel
theorem kit_bb : kitB "bool" "bool" = some true := by decide +kernel
theorem kit_bt : kitB "bool" "tuple" = some false := by decide +kernel
theorem kit_ti : kitB "tuple" "int" = some false := by decide +kernel
theorem kit_tb : kitB "tuple" "bool" = some false := by decide +kernel
theorem kit_tt : kitB "tuple" "tuple" = some true := by decide +kernel
theorem kit_li : kitB "list" "int" = some false := by decide +kernel
theorem kit_lt : kitB "list" "tuple" = some false := by decide +kernel
theorem kit_ni : kitB "NoneType" "int" = some false := by decide +kernel
theorem kit_nt : kitB "NoneType" "tuple" = some false := by decide +kernel
theorem kit_si : kitB "str" "int" = some false := by decide +kernel
theorem kit_st : kitB "str" "tuple" = some false := by decide +kernel
end
end DL

/-! DL4: targets, what is walked, comprehensions; states with owned objects; statements. -/
namespace DL
open PySem L2

/-! ### targets -/
abbrev Tgt := D → Option (List (Nat × D))
def sets : L2.St → List (Nat × V) → L2.St
  | σ, [] => σ
  | σ, (i, v) :: r => sets (σ.set i (some v)) r
def pts : Sl → List (Nat × D) → Sl
  | e, [] => e
  | e, (i, x) :: r => pts (pt e i (some (.fz x))) r
def Mch (G : Gx) (S : Hp) : List (Nat × D) → List (Nat × V) → Prop
  | [], bs => bs = []
  | (i, x) :: r, bs => ∃ v q, bs = (i, v) :: q ∧ At G S x v ∧ Mch G S r q
structure DG (X : Cx) (W : WX) (tg : Expr) (g : TG) (is : List Nat) (f : Tgt) : Prop where
  pg : PG X tg g
  sn : ∀ (S H : Hp) (x : D) (v : V) (as : List (Nat × D)) (σ : L2.St) (Q : L2.St → Hp → Prop), Ext S H → At (gx X) S x v → f x = some as → (∀ bs, Mch (gx X) S as bs → Q (sets σ bs) H) → g v σ H Q
  ix : ∀ x as, f x = some as → ∀ p ∈ as, p.1 ∈ is
section
variable {X : Cx} {W : WX} {pos : Pos}
def tgN (i : Nat) : Tgt := fun x => some [(i, x)]
theorem dg_name {i : Nat} {x : Str} (hN : X.N.Nodup) (hi : X.N[i]? = some x) (hx : Loc X.env.scope x) (hf : X.fn x = true ∨ X.env.scope.names.lookup x = some .local := by first | exact .inl rfl | exact .inr rfl | assumption) : DG X W (.Name x pos) (gName i) [i] (tgN i) := by
  refine ⟨pg_name hN hi hx hf, fun S H x v as σ Q es a e k => ?_, fun x as e p hp => ?_⟩
  · cases e
    exact k [(i, v)] ⟨v, [], rfl, a, rfl⟩
  · cases e
    rw [List.mem_singleton.mp hp]
    exact List.mem_singleton.mpr rfl
/-- the parts of a tuple's target -/
abbrev Tgs := List D → Option (List (Nat × D))
structure DGs (X : Cx) (W : WX) (ts : List Expr) (g : TGs) (is : List Nat) (f : Tgs) : Prop where
  pg : PGs X ts g
  sn : ∀ (S H : Hp) (xs : List D) (vs : List V) (as : List (Nat × D)) (σ : L2.St) (Q : L2.St → Hp → Prop), Ext S H → AtL (gx X) S xs vs → f xs = some as → (∀ bs, Mch (gx X) S as bs → Q (sets σ bs) H) → g vs σ H Q
  ix : ∀ xs as, f xs = some as → ∀ p ∈ as, p.1 ∈ is
  len : ∀ xs as, f xs = some as → xs.length = ts.length
def tgNil : Tgs
  | [] => some []
  | _ :: _ => none
def tgCons (f : Tgt) (r : Tgs) : Tgs
  | [] => none
  | x :: xs => (f x).bind fun as => (r xs).map fun bs => as ++ bs
theorem Mch.app {G : Gx} {S : Hp} : ∀ {as bs : List (Nat × D)} {cs ds : List (Nat × V)}, Mch G S as cs → Mch G S bs ds → Mch G S (as ++ bs) (cs ++ ds)
  | [], _, _, _, h, h' => by
    rw [show _ = _ from h]
    exact h'
  | (i, x) :: r, _, _, _, h, h' => by
    obtain ⟨v, q, e, a, m⟩ := h
    subst e
    exact ⟨v, _, rfl, a, Mch.app m h'⟩
theorem sets_app : ∀ (σ : L2.St) (cs ds : List (Nat × V)), sets σ (cs ++ ds) = sets (sets σ cs) ds
  | _, [], _ => rfl
  | σ, (i, v) :: r, ds => sets_app (σ.set i (some v)) r ds
theorem dgs_nil : DGs X W [] gNil [] tgNil := by
  have key : ∀ (xs : List D) as, tgNil xs = some as → xs = [] ∧ as = [] := by
    intro xs as e
    cases xs with
    | cons _ _ => cases e
    | nil =>
      cases e
      exact ⟨rfl, rfl⟩
  refine ⟨pgs_nil, fun S H xs vs as σ Q es a e k => ?_, fun xs as e p hp => ?_, fun xs as e => ?_⟩
  · obtain ⟨rfl, rfl⟩ := key xs as e
    exact ⟨a, k [] rfl⟩
  · obtain ⟨rfl, rfl⟩ := key xs as e
    cases hp
  · obtain ⟨rfl, rfl⟩ := key xs as e
    rfl
theorem dgs_cons {e : Expr} {es : List Expr} {g : TG} {u : TGs} {is js : List Nat} {f : Tgt} {r : Tgs} (h1 : DG X W e g is f) (h2 : DGs X W es u js r)
    (hs : (assignEach (e :: es) X.env).map (·.2) = assign e X.env :: (assignEach es X.env).map (·.2) := by rfl) : DGs X W (e :: es) (gCons g u) (is ++ js) (tgCons f r) := by
  have key : ∀ xs as, tgCons f r xs = some as → ∃ x ys a1 a2, xs = x :: ys ∧ f x = some a1 ∧ r ys = some a2 ∧ as = a1 ++ a2 := by
    intro xs as q
    cases xs with
    | nil => cases q
    | cons x ys =>
      simp only [tgCons] at q
      cases q1 : f x with
      | none => rw [q1] at q; cases q
      | some a1 =>
        cases q2 : r ys with
        | none => rw [q1, q2] at q; cases q
        | some a2 =>
          rw [q1, q2] at q
          cases q
          exact ⟨x, ys, a1, a2, rfl, q1, q2, rfl⟩
  refine ⟨pgs_cons h1.pg h2.pg hs, fun S H xs vs as σ Q es0 a q k => ?_, fun xs as q p hp => ?_, fun xs as q => ?_⟩
  · obtain ⟨x, ys, a1, a2, rfl, q1, q2, rfl⟩ := key xs as q
    obtain ⟨v, w, rfl, b1, b2⟩ := a
    refine ⟨v, w, rfl, h1.sn S H x v a1 σ _ es0 b1 q1 fun bs m1 => ?_⟩
    refine h2.sn S H ys w a2 (sets σ bs) Q es0 b2 q2 fun cs m2 => ?_
    rw [← sets_app]
    exact k _ (m1.app m2)
  · obtain ⟨x, ys, a1, a2, rfl, q1, q2, rfl⟩ := key xs as q
    rcases List.mem_append.mp hp with hp | hp
    · exact List.mem_append_left _ (h1.ix x a1 q1 p hp)
    · exact List.mem_append_right _ (h2.ix ys a2 q2 p hp)
  · obtain ⟨x, ys, a1, a2, rfl, q1, q2, rfl⟩ := key xs as q
    simp only [List.length_cons]
    rw [h2.len ys a2 q2]
def tgTup (r : Tgs) : Tgt
  | .tup xs => r xs
  | _ => none
theorem dg_tup {es : List Expr} {k : Nat} {t : TGs} {is : List Nat} {r : Tgs} (hc : X.calm = true) (h : DGs X W es t is r)
    (hn : (assignEach es X.env).length = es.length := by rfl) (hst : (assignEach es X.env).findIdx? (·.1) = none := by rfl) : DG X W (.Tuple es k pos) (gTup X.K es.length t) is (tgTup r) := by
  refine ⟨pg_tup hc h.pg hn hst, fun S H x v as σ Q es0 a e k => ?_, fun x as e => ?_⟩
  · cases x with
    | tup xs =>
      obtain ⟨p, vs, rfl, h2, h3⟩ := a
      exact ⟨p, vs, rfl, SqT.of (es0 p _ h2), by rw [← h3.length]; exact h.len xs as e, h.sn S H xs vs as σ Q es0 h3 e k⟩
    | _ => cases e
  · cases x with
    | tup xs => exact h.ix xs as e
    | _ => cases e
end

/-! ### what is walked -/
def ItOk (G : Gx) (S : Hp) (J : It) (items : List D) : Prop := ∀ S' H', Ext S S' → Ext S' H' → ∀ i : Nat, (∀ x, items[i]? = some x → J.go i H' ∧ ∀ v H'', J.yld i H' v H'' → ∃ S'', Gr S' H' S'' H'' ∧ At G S'' x v) ∧ (items.length ≤ i → J.stop i H')
abbrev IS := Sl → (List D → Prop) → (DExc → Prop) → Prop
structure DI (X : Cx) (W : WX) (tg iter : Expr) (wi : TI) (d : IS) : Prop where
  pi : PI X tg iter wi
  sn : ∀ (S H : Hp) (env : Sl) (σ : L2.St) (Q : List D → Prop) (E : DExc → Prop) (R : It → Hp → Prop), Ext S H → EnvP (gx X) S H env σ → d env Q E →
    (∀ S' H' J items, Gr S H S' H' → ItOk (gx X) S' J items → Q items → R J H') → WOk (gx X) W S H σ E → wi σ H R
section
variable {X : Cx} {W : WX} {pos : Pos} {tg : Expr}
def iSeq (K : PySem.W.Frag) (tl : TE) : TI := fun σ H R => tl σ H fun x H1 => (∃ a, x = .ref a ∧ (∃ xs, SqL K H1 a xs) ∧ R (Itl K a) H1) ∨ ∃ a, x = .ref a ∧ (∃ xs, SqT K H1 a xs) ∧ R (Itt K a) H1
theorem pi_seq {l : Expr} {tl : TE} (hl : PE X l tl) : PI X tg l (iSeq X.K tl) := by
  constructor
  intro pins s σ H R I h
  refine thn (hl.run pins s σ H _ I h) ?_
  rintro v s1 ⟨x, H1, I1, rx, q⟩
  have fresh : ∀ b ∈ [s1.heap.objs.size], FpOk X pins H1 b := fun b hb => by
    rw [List.mem_singleton.mp hb]
    exact I1.fpOk (Nat.le_refl _) (I1.hok.fresh (Nat.le_refl _))
  rcases q with ⟨a, rfl, ⟨xs, hx⟩, q⟩ | ⟨a, rfl, ⟨xs, hx⟩, q⟩
  · obtain rfl : v = Value.ref a := rx
    obtain ⟨its, _, pl, _⟩ := I1.list hx
    exact wpAny_pyIter_list pl.isList ⟨_, _, _, _, H1, rfl, I1.kept (t' := s1.toks) fun _ _ e => Heap.get?_push_of_some _ e, turn_list a _, ⟨_, Heap.get?_push_size _ rfl, rfl, rfl⟩, fresh, q⟩
  · obtain rfl : v = Value.ref a := rx
    obtain ⟨its, _, pt', _⟩ := I1.tuple hx
    exact wpAny_pyIter_tuple (show s1.heap.IsTuple a its.toArray from pt') ⟨_, _, _, _, H1, rfl, I1.kept (t' := s1.toks) fun _ _ e => Heap.get?_push_of_some _ e, turn_tuple a _, ⟨_, Heap.get?_push_size _ rfl, rfl, rfl⟩, fresh, q⟩
theorem itok_lst {G : Gx} {S : Hp} {a : Addr} {xs : List D} {vs : List V} (h : SqL G.K S a vs) (e : AtL G S xs vs) : ItOk G S (Itl G.K a) xs := by
  intro S' H' e1 e2 i
  have h' : SqL G.K H' a vs := e2.sql (e1.sql h)
  refine ⟨fun x hx => ?_, fun hl => ⟨vs, h', by rw [← e.length]; exact hl⟩⟩
  obtain ⟨v, q1, q2⟩ := e.get hx
  refine ⟨⟨vs, v, h', q1⟩, fun w H'' y => ?_⟩
  obtain ⟨rfl, y⟩ := y
  have q := y vs h'
  rw [q1] at q
  cases q
  exact ⟨S', .refl e2, q2.mono e1⟩
theorem itok_tup {G : Gx} {S : Hp} {a : Addr} {xs : List D} {vs : List V} (h : SqT G.K S a vs) (e : AtL G S xs vs) : ItOk G S (Itt G.K a) xs := by
  intro S' H' e1 e2 i
  have h' : SqT G.K H' a vs := e2.sqt (e1.sqt h)
  refine ⟨fun x hx => ?_, fun hl => ⟨vs, h', by rw [← e.length]; exact hl⟩⟩
  obtain ⟨v, q1, q2⟩ := e.get hx
  refine ⟨⟨vs, v, h', q1⟩, fun w H'' y => ?_⟩
  obtain ⟨rfl, y⟩ := y
  have q := y vs h'
  rw [q1] at q
  cases q
  exact ⟨S', .refl e2, q2.mono e1⟩
/-- the items of a list, a tuple, the script -/
def asL : D → (List D → Prop) → Prop
  | .lst xs, Q => Q xs
  | .tup xs, Q => Q xs
  | .ktup xs, Q => Q xs
  | .scr ns, Q => Q (ns.map .int)
  | _, _ => False
def dIt (d : ES) : IS := fun env Q E => d env (fun x => asL x Q) E
theorem di_seq {e : Expr} {te : TE} {d : ES} (h : DE RA X W e te d) : DI X W tg e (iSeq X.K te) (dIt d) := by
  refine ⟨pi_seq h.pe, fun S H env σ Q E R es ev hd k w => ?_⟩
  refine h.sn S H env σ _ E _ es ev hd (fun S1 H1 x v g1 r1 q1 => ?_) w
  cases x with
  | lst xs =>
    obtain ⟨a, vs, rfl, e2, e3⟩ := r1
    exact .inl ⟨a, rfl, ⟨vs, SqL.of (g1.sh a _ e2)⟩, k S1 H1 _ xs g1 (itok_lst (G := gx X) (SqL.of e2) e3) q1⟩
  | tup xs =>
    obtain ⟨a, vs, rfl, e2, e3⟩ := r1
    exact .inr ⟨a, rfl, ⟨vs, SqT.of (g1.sh a _ e2)⟩, k S1 H1 _ xs g1 (itok_tup (G := gx X) (SqT.of e2) e3) q1⟩
  | ktup xs =>
    obtain ⟨a, vs, rfl, e2, e3⟩ := r1
    exact .inr ⟨a, rfl, ⟨vs, g1.sh.sqt e2⟩, k S1 H1 _ xs g1 (itok_tup (G := gx X) e2 e3) q1⟩
  | scr ns =>
    obtain ⟨a, rfl, e2⟩ := r1
    exact .inl ⟨a, rfl, ⟨_, g1.sh.sql e2⟩, k S1 H1 _ _ g1 (itok_lst (G := gx X) e2 AtL.of_ints) q1⟩
  | _ => exact q1.elim
/-- lo, lo + 1, .. (n of them) -/
def rng (lo : Int) : Nat → List D
  | 0 => []
  | n + 1 => .int lo :: rng (lo + 1) n
theorem rng_len : ∀ (lo : Int) (n : Nat), (rng lo n).length = n
  | _, 0 => rfl
  | lo, n + 1 => by simp only [rng, List.length_cons, rng_len (lo + 1) n]
theorem rng_get : ∀ (lo : Int) (n i : Nat), (rng lo n)[i]? = if i < n then some (.int (lo + i)) else none
  | _, 0, i => by simp [rng]
  | lo, n + 1, 0 => by simp [rng]
  | lo, n + 1, i + 1 => by
    simp only [rng, List.getElem?_cons_succ, rng_get (lo + 1) n i, Nat.add_lt_add_iff_right]
    split
    · congr 2
      omega
    · rfl
theorem itok_rng {G : Gx} {S : Hp} {lo : Int} {n : Nat} : ItOk G S (Itr lo n) (rng lo n) := by
  intro S' H' e1 e2 i
  rw [rng_len]
  refine ⟨fun x hx => ?_, fun hl => hl⟩
  rw [rng_get] at hx
  by_cases hi : i < n
  · rw [if_pos hi] at hx
    cases hx
    exact ⟨hi, fun v H'' y => ⟨S', by rw [y.1]; exact .refl e2, y.2⟩⟩
  · rw [if_neg hi] at hx
    cases hx
def ints1 : List D → (Int → Prop) → Prop
  | [.int i], Q => Q i
  | _, _ => False
def ints2 : List D → (Int → Int → Prop) → Prop
  | [.int i, .int j], Q => Q i j
  | _, _ => False
def dRng1 (d : AS) : IS := fun env Q E => d env (fun xs => ints1 xs fun j => -(2 ^ 62) ≤ j ∧ j < 2 ^ 62 ∧ Q (rng 0 j.toNat)) E
def dRng2 (d : AS) : IS := fun env Q E => d env (fun xs => ints2 xs fun i j => (-(2 ^ 62) ≤ i ∧ i < 2 ^ 62 ∧ -(2 ^ 62) ≤ j ∧ j < 2 ^ 62) ∧ Q (rng i (j - i).toNat)) E
theorem di_rng1 {a : Expr} {ta : TA} {da : AS} {p : Pos} (hg : Gl X "range") (hm : X.mg "range" = none) (ha : DA Hd X W [a] ta da) (hs : starEach [a] X.env = [(false, eval a X.env)] := by rfl) : DI X W tg (.Call (.Name "range" p) [a] [] pos) (iRng1 ta) (dRng1 da) := by
  refine ⟨pi_range1 hg hm ha.pa hs, fun S H env σ Q E R es ev hd k w => ?_⟩
  refine ha.sn S H env σ _ E _ es ev hd (fun S1 H1 xs vs g1 r1 l1 q1 => ?_) w
  unfold ints1 at q1
  split at q1
  · obtain ⟨v, rfl, e⟩ := rl1 r1
    rw [show v = _ from e]
    exact ⟨_, rfl, q1.1, q1.2.1, k S1 H1 _ _ g1 itok_rng q1.2.2⟩
  · exact q1.elim
theorem di_rng2 {a b : Expr} {ta : TA} {da : AS} {p : Pos} (hg : Gl X "range") (hm : X.mg "range" = none) (ha : DA Hd X W [a, b] ta da) (hs : starEach [a, b] X.env = [(false, eval a X.env), (false, eval b X.env)] := by rfl) (hs2 : starEach [b] X.env = [(false, eval b X.env)] := by rfl) :
    DI X W tg (.Call (.Name "range" p) [a, b] [] pos) (iRng2 ta) (dRng2 da) := by
  refine ⟨pi_range2 hg hm ha.pa hs hs2, fun S H env σ Q E R es ev hd k w => ?_⟩
  refine ha.sn S H env σ _ E _ es ev hd (fun S1 H1 xs vs g1 r1 l1 q1 => ?_) w
  unfold ints2 at q1
  split at q1
  · obtain ⟨v, u, rfl, e, e'⟩ := rl2 r1
    rw [show v = _ from e, show u = _ from e']
    exact ⟨_, _, rfl, q1.1, k S1 H1 _ _ g1 itok_rng q1.2⟩
  · exact q1.elim
end
end DL

/-! DL5: new lists (displays, comprehensions, copies), as plain data and as owned objects. -/
namespace DL
open PySem L2

/-- readings that end with a new list -/
abbrev LS := Sl → (List D → Prop) → (DExc → Prop) → Prop
def SndL (G : Gx) (W : WX) (te : TE) (d : LS) : Prop := ∀ (S H : Hp) (env : Sl) (σ : L2.St) (Q : List D → Prop) (E : DExc → Prop) (QV : VK), Ext S H → EnvP G S H env σ → d env Q E →
  (∀ S' H' p xs vs, Gr S H S' H' → H' p = none → AtL G S' xs vs → Q xs → ∀ H2, (∀ a, H2 a = upd H' p (.lst vs) a) → QV (.ref p) H2) → WOk G W S H σ E → te σ H QV
structure DL (X : Cx) (W : WX) (e : Expr) (te : TE) (d : LS) : Prop where
  pe : PE X e te
  sn : SndL (gx X) W te d
def dLstV (d : LS) : ES := fun env Q E => d env (fun xs => Q (.lst xs)) E
theorem upd_all {H H2 : Hp} {p : Addr} {o : HO} (h : ∀ a, H2 a = upd H p o a) : H2 = upd H p o := funext h
theorem DL.v {X : Cx} {W : WX} {e : Expr} {te : TE} {d : LS} (h : DL X W e te d) : DE RA X W e te (dLstV d) := by
  refine ⟨h.pe, fun S H env σ Q E QV es ev hd k w => ?_⟩
  refine h.sn S H env σ _ E _ es ev hd (fun S1 H1 p xs vs g1 hp r1 q1 H2 hh => ?_) w
  obtain rfl := upd_all hh
  have g2 : Gr S1 H1 _ _ := Gr.new (p := p) (o := .lst vs) g1.sh hp
  exact k _ _ (.lst xs) _ (g1.trans g2) ⟨p, vs, rfl, upd_same, r1.mono g2.s⟩ q1
section
variable {X : Cx} {W : WX} {pos : Pos} {e elt tg iter : Expr} {te : TE} {d : ES}
theorem dl_lst {es : List Expr} {tr : TA} {dr : AS} (h : DA RA X W es tr dr) (hl : es.length ≤ 1000 := by decide) : DL X W (.List es pos) (tLst tr) (fun env Q E => dr env Q E) := by
  refine ⟨pe_lst h.pa, fun S H env σ Q E QV e0 ev hd k w => ?_⟩
  refine h.sn S H env σ _ E _ e0 ev hd (fun S1 H1 xs vs g1 r1 l1 q1 => ⟨?_, fun p hp => ?_⟩) w
  · have := r1.at.length
    have h2 : (1000 : Nat) ≤ sizeLine := by decide
    omega
  · exact k S1 H1 p xs vs g1 hp r1.at q1 _ fun _ => rfl
def gListL : List D → (List D → Prop) → Prop
  | [.tup xs], Q => Q xs
  | [.lst xs], Q => Q xs
  | _, _ => False
theorem dl_list {x : Str} {p : Pos} {es : List Expr} {tr : TA} {dr : AS} (hg : Gl X x) (hm : X.mg x = none) (hv : bootBuiltins x = some (.type "list")) (ha : DA Hd X W (e :: es) tr dr) (hn : x ≠ "__name__" := by decide) (hdb : (x == ("__debug__" : Str)) = false := by decide)
    (he : starEach (e :: es) X.env = (false, eval e X.env) :: starEach es X.env := by rfl) (hpl : (backTo pos (starEach es X.env)).any (·.1) = false := by rfl) :
    DL X W (.Call (.Name x p) (e :: es) [] pos) (tCB (rListS X.K) tr) (fun env Q E => dr env (fun xs => gListL xs Q) E) := by
  refine ⟨pe_callTy call_list_of hg hm hv ha.pa hn hdb he hpl, fun S H env σ Q E QV e0 ev hd k w => ?_⟩
  refine ha.sn S H env σ _ E _ e0 ev hd (fun S1 H1 xs vs g1 r1 l1 q1 => ?_) w
  unfold gListL at q1
  split at q1
  · obtain ⟨v, rfl, a, ws, rfl, e2, e3⟩ := rl1 r1
    exact ⟨a, ws, rfl, .inr (SqT.of (g1.sh a _ e2)), fun q hq => k S1 H1 q _ ws g1 hq e3 q1 _ fun _ => rfl⟩
  · obtain ⟨v, rfl, a, ws, rfl, e2, e3⟩ := rl1 r1
    exact ⟨a, ws, rfl, .inl (SqL.of e2), fun q hq => k S1 H1 q _ ws g1 hq e3 q1 _ fun _ => rfl⟩
  · exact q1.elim

/-! ### comprehensions -/
/-- the names of the block, forgotten -/
def wip : Sl → List Nat → Sl
  | e, [] => e
  | e, i :: r => pt (wip e r) i none
theorem wip_len (e : Sl) : ∀ vs : List Nat, (wip e vs).length = e.length
  | [] => rfl
  | i :: r => by
    simp only [wip]
    rw [pt_len, wip_len e r]
theorem wip_get : ∀ (e : Sl) (vs : List Nat) (j : Nat) (o : O), gt (wip e vs) j = some o → gt e j = some o ∧ j ∉ vs
  | e, [], j, o, h => ⟨h, List.not_mem_nil⟩
  | e, i :: r, j, o, h => by
    simp only [wip] at h
    rw [gt_pt] at h
    by_cases c : i = j ∧ i < (wip e r).length
    · rw [if_pos c] at h
      cases h
    · rw [if_neg c] at h
      obtain ⟨h1, h2⟩ := wip_get e r j o h
      refine ⟨h1, fun m => ?_⟩
      rcases List.mem_cons.mp m with m | m
      · subst m
        have lt : j < (wip e r).length := by
          rw [gt_eq] at h
          cases q : (wip e r)[j]? with
          | none => rw [q] at h; cases h
          | some z => exact (List.getElem?_eq_some_iff.mp q).1
        exact c ⟨rfl, lt⟩
      · exact h2 m
theorem wipe_of {σ : L2.St} : ∀ {vs : List Nat} {j : Nat} {x : Option V}, σ[j]? = some x → j ∉ vs → (wipe σ vs)[j]? = some x
  | [], j, x, h, _ => h
  | i :: r, j, x, h, n => by
    unfold wipe
    rw [List.getElem?_set_ne (fun q => n (by rw [q]; exact List.mem_cons_self))]
    exact wipe_of h fun m => n (List.mem_cons_of_mem _ m)
theorem EnvP.wip {G : Gx} {S H : Hp} {env : Sl} {σ : L2.St} (e : EnvP G S H env σ) (vs : List Nat) : EnvP G S H (wip env vs) (wipe σ vs) := ⟨by rw [wip_len, wipe_length]; exact e.len, fun i o h => by
  obtain ⟨h1, h2⟩ := wip_get env vs i o h
  obtain ⟨v, fp, e1, e2⟩ := e.at' i o h1
  exact ⟨v, fp, wipe_of e1 h2, e2⟩⟩
theorem wipe_get (σ : L2.St) : ∀ (vs : List Nat) (j : Nat), (wipe σ vs)[j]? = if j ∈ vs ∧ j < σ.length then some none else σ[j]?
  | [], j => by
    rw [if_neg (fun h => List.not_mem_nil h.1)]
    rfl
  | i :: r, j => by
    unfold wipe
    rw [List.getElem?_set]
    by_cases c : i = j
    · subst c
      rw [if_pos rfl, wipe_length]
      by_cases l : i < σ.length
      · rw [if_pos l, if_pos ⟨List.mem_cons_self, l⟩]
      · rw [if_neg l, if_neg fun h => l h.2]
        exact (List.getElem?_eq_none (by omega)).symm
    · rw [if_neg c, wipe_get σ r j]
      by_cases m : j ∈ r ∧ j < σ.length
      · rw [if_pos m, if_pos ⟨List.mem_cons_of_mem _ m.1, m.2⟩]
      · rw [if_neg m, if_neg]
        rintro ⟨m1, m2⟩
        rcases List.mem_cons.mp m1 with q | q
        · exact c q.symm
        · exact m ⟨q, m2⟩
theorem wipe_set {σ : L2.St} {vs : List Nat} {i : Nat} {x : Option V} (h : i ∈ vs) : wipe (σ.set i x) vs = wipe σ vs := by
  apply List.ext_getElem?
  intro j
  rw [wipe_get, wipe_get, List.length_set, List.getElem?_set]
  by_cases m : j ∈ vs ∧ j < σ.length
  · rw [if_pos m, if_pos m]
  · rw [if_neg m, if_neg m]
    by_cases c : i = j
    · subst c
      have l : ¬ i < σ.length := fun l => m ⟨h, l⟩
      rw [if_pos rfl, if_neg l]
      exact (List.getElem?_eq_none (by omega)).symm
    · rw [if_neg c]
theorem wipe_sets {vs : List Nat} : ∀ {bs : List (Nat × V)} {σ : L2.St}, (∀ p ∈ bs, p.1 ∈ vs) → wipe (sets σ bs) vs = wipe σ vs
  | [], _, _ => rfl
  | (i, v) :: r, σ, h => by
    show wipe (sets (σ.set i (some v)) r) vs = _
    rw [wipe_sets (fun p hp => h p (List.mem_cons_of_mem _ hp)), wipe_set (h (i, v) List.mem_cons_self)]
theorem wipe_wipe (σ : L2.St) (vs : List Nat) : wipe (wipe σ vs) vs = wipe σ vs := by
  apply List.ext_getElem?
  intro j
  rw [wipe_get, wipe_length, wipe_get]
  by_cases m : j ∈ vs ∧ j < σ.length
  · rw [if_pos m, if_pos m]
  · rw [if_neg m]
theorem Mch.ix {G : Gx} {S : Hp} {vs : List Nat} : ∀ {as : List (Nat × D)} {bs : List (Nat × V)}, Mch G S as bs → (∀ p ∈ as, p.1 ∈ vs) → ∀ p ∈ bs, p.1 ∈ vs
  | [], _, h, _, p, hp => by
    rw [show _ = _ from h] at hp
    cases hp
  | (i, x) :: r, _, h, k, p, hp => by
    obtain ⟨v, q, rfl, _, m⟩ := h
    rcases List.mem_cons.mp hp with e | hp
    · rw [e]
      exact k (i, x) List.mem_cons_self
    · exact Mch.ix m (fun p hp => k p (List.mem_cons_of_mem _ hp)) p hp
theorem EnvP.set {G : Gx} {S H : Hp} {env : Sl} {σ : L2.St} (e : EnvP G S H env σ) {i : Nat} {x : D} {v : V} (a : At G S x v) : EnvP G S H (pt env i (some (.fz x))) (σ.set i (some v)) := by
  have hl := e.len
  refine ⟨by rw [pt_len, List.length_set]; exact hl, fun j o h => ?_⟩
  rw [gt_pt] at h
  by_cases c : i = j ∧ i < env.length
  · rw [if_pos c] at h
    cases h
    obtain ⟨rfl, l⟩ := c
    exact ⟨v, [], List.getElem?_set_self (by omega), rfl, a⟩
  · rw [if_neg c] at h
    obtain ⟨w, fp, e1, e2⟩ := e.at' j o h
    refine ⟨w, fp, ?_, e2⟩
    rw [List.getElem?_set_ne]
    · exact e1
    · rintro rfl
      refine c ⟨rfl, ?_⟩
      have := (List.getElem?_eq_some_iff.mp e1).1
      omega
theorem EnvP.pts {G : Gx} {S H : Hp} : ∀ {as : List (Nat × D)} {bs : List (Nat × V)} {env : Sl} {σ : L2.St}, EnvP G S H env σ → Mch G S as bs → EnvP G S H (DL.pts env as) (sets σ bs)
  | [], _, _, _, e, h => by
    rw [show _ = _ from h]
    exact e
  | (i, x) :: r, _, env, σ, e, h => by
    obtain ⟨v, q, rfl, a, m⟩ := h
    show EnvP G S H (DL.pts (pt env i (some (.fz x))) r) (sets (σ.set i (some v)) q)
    exact EnvP.pts (EnvP.set e a) m

/-- one more item after the other -/
def compGo (f : Tgt) (cond : BS) (elt : ES) (env : Sl) : List D → List D → (List D → Prop) → Prop
  | [], acc, Q => Q acc
  | x :: xs, acc, Q => match f x with
    | some as => cond (pts env as) (fun b => if b = true then elt (pts env as) (fun y => compGo f cond elt env xs (acc ++ [y]) Q) (fun _ => False) else compGo f cond elt env xs acc Q) (fun _ => False)
    | none => False
def dYes : BS := fun _ Q _ => Q true
def dComp (vs : List Nat) (di : IS) (f : Tgt) (cond : BS) (elt : ES) : LS := fun env Q E => di env (fun items => items.length ≤ 16000000 ∧ compGo f cond elt (wip env vs) items [] Q) E
structure DTs (X : Cx) (W : WX) (ifs : List Expr) (tt : TT) (d : BS) : Prop where
  pt : PTs X ifs tt
  sn : SndT (gx X) W tt d
theorem dts_nil : DTs X W [] tYes dYes := ⟨pts_nil, fun S H env σ Q E QV es ev hd k w => k S H true (.refl es) hd⟩
theorem dts_one {c : Expr} {tt : TT} {p : BS} (h : DT X W c tt p) : DTs X W [c] tt p := ⟨pts_one h.pt, h.sn⟩
abbrev W0 : WX := fun _ _ _ _ => False
theorem wok0 {G : Gx} {S H : Hp} {σ : L2.St} : WOk G W0 S H σ (fun _ => False) := fun _ _ _ _ _ _ _ h => h
def hide (H : Hp) (p : Addr) : Hp := fun a => if a = p then none else H a
theorem hide_same {H : Hp} {p : Addr} : hide H p p = none := if_pos rfl
theorem hide_ne {H : Hp} {p a : Addr} (h : a ≠ p) : hide H p a = H a := if_neg h
theorem snd_comp {G : Gx} {wi : TI} {g : TG} {tt : TT} {te : TE} {di : IS} {f : Tgt} {cond : BS} {elt : ES} {vs is : List Nat}
    (hi : ∀ (S H : Hp) (env : Sl) (σ : L2.St) (Q : List D → Prop) (E : DExc → Prop) (R : It → Hp → Prop), Ext S H → EnvP G S H env σ → di env Q E → (∀ S' H' J items, Gr S H S' H' → ItOk G S' J items → Q items → R J H') → WOk G W S H σ E → wi σ H R)
    (hg : ∀ (S H : Hp) (x : D) (v : V) (as : List (Nat × D)) (σ : L2.St) (Q : L2.St → Hp → Prop), Ext S H → At G S x v → f x = some as → (∀ bs, Mch G S as bs → Q (sets σ bs) H) → g v σ H Q)
    (hx : ∀ x as, f x = some as → ∀ p ∈ as, p.1 ∈ is) (hs : ∀ i ∈ is, i ∈ vs) (ht : SndT G W0 tt cond) (he : SndE RA G W0 te elt) : SndL G W (tLc wi g tt te vs) (dComp vs di f cond elt) := by
  intro S H env σ Q E QV es ev hd k w
  refine hi S H env σ _ E _ es ev hd (fun S1 H1 J items g1 J1 q1 => ?_) w
  obtain ⟨hl, q1⟩ := q1
  intro L hL
  -- between two turns: the list at L, all else a heap H' that has grown
  refine ⟨fun i m Hc => m = items.length - i ∧ i ≤ items.length ∧ ∃ S' acc ws, Gr S1 H1 S' (hide Hc L) ∧ Hc L = some (.lst ws) ∧ AtL G S' acc ws ∧ acc.length ≤ i ∧ compGo f cond elt (wip env vs) (items.drop i) acc Q, ⟨_, rfl, Nat.zero_le _, S1, [], [], ?_, upd_same, rfl, Nat.le_refl _, q1⟩, ?_⟩
  · have e : hide (upd H1 L (.lst [])) L = H1 := by
      funext a
      unfold hide
      split
      · rename_i h
        rw [h, hL]
      · rename_i h
        exact upd_ne h
    rw [e]
    exact .refl g1.sh
  · rintro i m Hc ⟨rfl, hi', S', acc, ws, gr, hLc, a0, la, go⟩
    have LS : S' L = none := by
      cases q : S' L with
      | none => rfl
      | some o =>
        have := gr.sh L o q
        rw [hide_same] at this
        cases this
    have ext0 : Ext (hide Hc L) Hc := fun a o h => by
      by_cases c : a = L
      · rw [c, hide_same] at h
        cases h
      · rw [hide_ne c] at h
        exact h
    have e2 : Ext S' Hc := gr.sh.trans ext0
    obtain ⟨it1, it2⟩ := J1 S' Hc gr.s e2 i
    by_cases hlt : i < items.length
    · have hxi : items[i]? = some items[i] := List.getElem?_eq_getElem hlt
      obtain ⟨jgo, jy⟩ := it1 _ hxi
      rw [List.drop_eq_getElem_cons hlt] at go
      refine .inr ⟨jgo, fun Hn => ∃ S'' acc ws, Gr S1 H1 S'' (hide Hn L) ∧ Hn L = some (.lst ws) ∧ AtL G S'' acc ws ∧ acc.length ≤ i + 1 ∧ compGo f cond elt (wip env vs) (items.drop (i + 1)) acc Q, fun Hn hn => ⟨_, Nat.sub_lt_sub_left hlt (Nat.lt_succ_self i), rfl, hlt, hn⟩, fun v Hy y => ?_⟩
      obtain ⟨S2, g2, av⟩ := jy v Hy y
      simp only [compGo] at go
      cases hf : f items[i] with
      | none => rw [hf] at go; exact go.elim
      | some as =>
        rw [hf] at go
        have L2 : Hy L = some (.lst ws) := g2.h L _ hLc
        have LS2 : S2 L = none := (g2.old L (by rw [hLc]; exact fun z => nomatch z)).trans LS
        refine hg S2 Hy _ v as (wipe σ vs) _ g2.sh av hf fun bs mb => ⟨?_, ?_⟩
        · rw [wipe_sets (fun p hp => hs _ (mb.ix (hx _ as hf) p hp)), wipe_wipe]
        · -- from H1 to Hy with L hidden
          have ev1 : EnvP G S2 Hy (wip env vs) (wipe σ vs) := by
            have e1 := ((ev.gr g1).gr gr).wip vs
            refine ⟨e1.len, fun j o ho => ?_⟩
            obtain ⟨u, fp, p1, p2⟩ := e1.at' j o ho
            exact ⟨u, fp, p1, p2.mono g2.s fun a _ z hz => g2.h a z (ext0 a z hz)⟩
          have ev2 := ev1.pts mb
          -- a step from Hy on keeps L
          have keep : ∀ {S3 H3 : Hp}, Gr S2 Hy S3 H3 → H3 L = some (.lst ws) ∧ S3 L = none ∧ Gr S1 H1 S3 (hide H3 L) ∧ AtL G S3 acc ws := fun {S3 H3} g3 => by
            have q1 : H3 L = some (.lst ws) := g3.h L _ L2
            have q2 : S3 L = none := (g3.old L (by rw [L2]; exact fun z => nomatch z)).trans LS2
            refine ⟨q1, q2, ⟨fun a o h => ?_, (gr.s.trans g2.s).trans g3.s, fun a o h => ?_, fun a h => ?_⟩, a0.mono (g2.s.trans g3.s)⟩
            · have c : a ≠ L := ne_of_none h hL
              rw [hide_ne c]
              have h2 := gr.h a o h
              rw [hide_ne c] at h2
              exact g3.h a o (g2.h a o h2)
            · have c : a ≠ L := fun c => by rw [c, q2] at h; cases h
              rw [hide_ne c]
              exact g3.sh a o h
            · have c : a ≠ L := fun c => by rw [c, hL] at h; exact h rfl
              have h1 : hide Hc L a ≠ none := fun z => h (gr.h.none z)
              rw [hide_ne c] at h1
              have h2 : Hy a ≠ none := fun z => h1 (g2.h.none z)
              rw [g3.old a h2, g2.old a h1, gr.old a h]
          refine ht S2 Hy _ _ _ _ _ g2.sh ev2 go (fun S3 H3 b g3 q3 => ?_) wok0
          cases b with
          | true =>
            refine he S3 H3 _ _ _ _ _ g3.sh (ev2.gr g3) q3 (fun S4 H4 y v4 g4 a4 q4 => ?_) wok0
            obtain ⟨k1, k2, k3, k4⟩ := keep (g3.trans g4)
            refine ⟨ws, k1, ?_, S4, acc ++ [y], ws ++ [v4], ?_, upd_same, k4.append ⟨v4, [], rfl, a4, rfl⟩, ?_, q4⟩
            · rw [← k4.length]
              exact sz16l (by omega)
            · have e : hide (upd H4 L (.lst (ws ++ [v4]))) L = hide H4 L := by
                funext a
                unfold hide
                split
                · rfl
                · rename_i h
                  exact upd_ne h
              rw [e]
              exact k3
            · rw [List.length_append, List.length_singleton]
              omega
          | false =>
            obtain ⟨k1, k2, k3, k4⟩ := keep g3
            exact ⟨S3, acc, ws, k3, k1, k4, by omega, q3⟩
    · have e : i = items.length := by omega
      refine .inl ⟨it2 (by omega), ?_⟩
      rw [e, List.drop_length] at go
      refine k S' (hide Hc L) L acc ws (g1.trans gr) hide_same a0 go Hc fun a => ?_
      by_cases c : a = L
      · rw [c, hLc, upd_same]
      · rw [upd_ne c, hide_ne c]
/-- the parts of a comprehension, in every block -/
theorem dl_comp {ifs : List Expr} {scope : Scope} {own : List (Str × Nat)} {wi : TI} {g : TG} {tt : TT} {di : IS} {f : Tgt} {cond : BS} {dl : ES} {is : List Nat} (hc : X.calm = true) (hN : X.N.Nodup) (hi : DI X W tg iter wi di) (ok : BlkOk X.N X.env.scope scope own)
    (hg : ∀ (s : Shared) (H : Hp) (C : Addr) (cl : List (Str × Addr)) (fp : List Addr), DG (X.blk s H scope (compEnvC scope cl C X.env) fp) W0 tg g is f) (hs : ∀ i ∈ is, i ∈ own.map (·.2))
    (ht : ∀ (s : Shared) (H : Hp) (C : Addr) (cl : List (Str × Addr)) (fp : List Addr), DTs (X.blk s H scope (compEnvC scope cl C X.env) fp) W0 ifs tt cond)
    (he : ∀ (s : Shared) (H : Hp) (C : Addr) (cl : List (Str × Addr)) (fp : List Addr), DE RA (X.blk s H scope (compEnvC scope cl C X.env) fp) W0 elt te dl) (hf : ∀ x, foldedSetIterable iter X.env x = pure x := by intro _; rfl) :
    DL X W (.ListComp elt [⟨tg, iter, ifs, 0⟩] scope pos) (tLc wi g tt te (own.map (·.2))) (dComp (own.map (·.2)) di f cond dl) :=
  ⟨pe_lc hc hN hi.pi ok (fun s H C cl fp => (hg s H C cl fp).pg) (fun s H C cl fp => (ht s H C cl fp).pt) (fun s H C cl fp => (he s H C cl fp).pe) hf,
    snd_comp hi.sn (hg X.s_0 X.H_0 0 [] []).sn (hg X.s_0 X.H_0 0 [] []).ix hs (ht X.s_0 X.H_0 0 [] []).sn (he X.s_0 X.H_0 0 [] []).sn⟩
end
end DL

/-! DL6: states of a body with what it owns; statements. -/
namespace DL
open PySem L2

/-- what stays through a body: the ground B, the plain heap at the entry, a plain heap that has been reached -/
structure Fix where
  B : Hp
  S0 : Hp
  L : Hp
structure StO (G : Gx) (F : Fix) (S H : Hp) (env : Sl) (σ : L2.St) : Prop where
  sh : Ext S H
  bh : Ext F.B H
  lo : Ext F.L S
  old : ∀ a, F.B a ≠ none → S a = F.S0 a
  len : env.length = σ.length
  own : ∃ f : Nat → List Addr, (∀ i o, gt env i = some o → ∃ v, σ[i]? = some (some v) ∧ Own G S H o v (f i)) ∧ (∀ i, (f i).Nodup) ∧ (∀ i j a, i ≠ j → a ∈ f i → a ∉ f j) ∧ (∀ i a, a ∈ f i → S a = none ∧ F.B a = none ∧ H a ≠ none)
section
variable {G : Gx} {F : Fix} {S H S' H' : Hp} {env : Sl} {σ : L2.St}
theorem StO.p (s : StO G F S H env σ) : EnvP G S H env σ := by
  obtain ⟨f, h, _⟩ := s.own
  exact ⟨s.len, fun i o e => by
    obtain ⟨v, e1, e2⟩ := h i o e
    exact ⟨v, _, e1, e2⟩⟩
theorem StO.gr (s : StO G F S H env σ) (g : Gr S H S' H') : StO G F S' H' env σ := by
  obtain ⟨f, h, nd, dj, fr⟩ := s.own
  refine ⟨g.sh, s.bh.trans g.h, s.lo.trans g.s, fun a ha => ?_, s.len, f, fun i o e => ?_, nd, dj, fun i a ha => ?_⟩
  · have hh : H a ≠ none := fun z => ha (s.bh.none z)
    rw [g.old a hh, s.old a ha]
  · obtain ⟨v, e1, e2⟩ := h i o e
    exact ⟨v, e1, e2.mono g.s fun a _ u q => g.h a u q⟩
  · obtain ⟨f1, f2, f3⟩ := fr i a ha
    refine ⟨(g.old a f3).trans f1, f2, fun z => f3 (g.h.none z)⟩
/-- slot i gets what is owned now; all else that is owned stands as it stood -/
theorem StO.put (s : StO G F S H env σ) {i : Nat} {o : O} {v : V} {fr : List Addr} (sh : Ext S H') (bh : Ext F.B H') (ow : Own G S H' o v fr) (nd : fr.Nodup)
    (f : Nat → List Addr) (h : ∀ i o, gt env i = some o → ∃ v, σ[i]? = some (some v) ∧ Own G S H o v (f i)) (ndf : ∀ i, (f i).Nodup) (dj : ∀ i j a, i ≠ j → a ∈ f i → a ∉ f j) (frf : ∀ i a, a ∈ f i → S a = none ∧ F.B a = none ∧ H a ≠ none)
    (keep : ∀ j a, j ≠ i → a ∈ f j → H' a = H a) (frn : ∀ a ∈ fr, S a = none ∧ F.B a = none ∧ ∀ j, j ≠ i → a ∉ f j) : StO G F S H' (pt env i (some o)) (σ.set i (some v)) := by
  refine ⟨sh, bh, s.lo, s.old, by rw [pt_len, List.length_set]; exact s.len, fun j => if j = i then fr else f j, fun j u e => ?_, fun j => ?_, fun j k a hjk ha => ?_, fun j a ha => ?_⟩
  · rw [gt_pt] at e
    by_cases c : i = j ∧ i < env.length
    · rw [if_pos c] at e
      cases e
      obtain ⟨rfl, l⟩ := c
      refine ⟨v, List.getElem?_set_self (by rw [← s.len]; exact l), ?_⟩
      show Own G S H' o v (if i = i then fr else f i)
      rw [if_pos rfl]
      exact ow
    · rw [if_neg c] at e
      obtain ⟨u', e1, e2⟩ := h j u e
      have hji : j ≠ i := by
        rintro rfl
        refine c ⟨rfl, ?_⟩
        rw [s.len]
        exact (List.getElem?_eq_some_iff.mp e1).1
      refine ⟨u', by rw [List.getElem?_set_ne (Ne.symm hji)]; exact e1, ?_⟩
      show Own G S H' u u' (if j = i then fr else f j)
      rw [if_neg hji]
      exact e2.mono (.refl _) fun a ha z q => by rw [keep j a hji ha]; exact q
  · show (if j = i then fr else f j).Nodup
    split
    · exact nd
    · exact ndf j
  · have ha' : a ∈ (if j = i then fr else f j) := ha
    show a ∉ (if k = i then fr else f k)
    by_cases c : j = i
    · rw [if_pos c] at ha'
      rw [if_neg (fun z => hjk (c.trans z.symm))]
      exact (frn a ha').2.2 k (fun z => hjk (c.trans z.symm))
    · rw [if_neg c] at ha'
      by_cases c2 : k = i
      · rw [if_pos c2]
        exact fun z => (frn a z).2.2 j c ha'
      · rw [if_neg c2]
        exact dj j k a hjk ha'
  · have ha' : a ∈ (if j = i then fr else f j) := ha
    by_cases c : j = i
    · rw [if_pos c] at ha'
      exact ⟨(frn a ha').1, (frn a ha').2.1, ow.there a ha'⟩
    · rw [if_neg c] at ha'
      obtain ⟨f1, f2, f3⟩ := frf j a ha'
      exact ⟨f1, f2, by rw [keep j a c ha']; exact f3⟩
/-- a slot gets plain data -/
theorem StO.set (s : StO G F S H env σ) {i : Nat} {x : D} {v : V} (a : At G S x v) : StO G F S H (pt env i (some (.fz x))) (σ.set i (some v)) := by
  obtain ⟨f, h, nd, dj, fr⟩ := s.own
  exact s.put (o := .fz x) (fr := []) s.sh s.bh ⟨rfl, a⟩ List.nodup_nil f h nd dj fr (fun _ _ _ _ => rfl) (fun a ha => nomatch ha)
theorem StO.pts : ∀ {as : List (Nat × D)} {bs : List (Nat × V)} {env : Sl} {σ : L2.St}, StO G F S H env σ → Mch G S as bs → StO G F S H (DL.pts env as) (sets σ bs)
  | [], _, _, _, e, h => by
    rw [show _ = _ from h]
    exact e
  | (i, x) :: r, _, env, σ, e, h => by
    obtain ⟨v, q, rfl, a, m⟩ := h
    show StO G F S H (DL.pts (pt env i (some (.fz x))) r) (sets (σ.set i (some v)) q)
    exact StO.pts (StO.set e a) m
/-- a new object, owned by slot i -/
theorem StO.alloc (s : StO G F S H env σ) {i : Nat} {p : Addr} {u : HO} {o : O} (hp : H p = none) (ow : Own G S (upd H p u) o (.ref p) [p]) : StO G F S (upd H p u) (pt env i (some o)) (σ.set i (some (.ref p))) := by
  obtain ⟨f, h, nd, dj, fr⟩ := s.own
  refine s.put (s.sh.trans (.new hp)) (s.bh.trans (.new hp)) ow (List.nodup_cons.mpr ⟨List.not_mem_nil, List.nodup_nil⟩) f h nd dj fr (fun j a _ ha => upd_ne fun z => (fr j a ha).2.2 (by rw [z, hp])) fun a ha => ?_
  rw [List.mem_singleton.mp ha]
  exact ⟨s.sh.none hp, s.bh.none hp, fun j _ z => (fr j p z).2.2 hp⟩
/-- the object of slot i is changed -/
theorem StO.mut (s : StO G F S H env σ) {i : Nat} {o o' : O} {u : HO} {p : Addr} (e : gt env i = some o) (one : ∀ v fp, Own G S H o v fp → v = .ref p → fp = [p] → Own G S (upd H p u) o' (.ref p) [p])
    (is : ∀ v fp, Own G S H o v fp → ∃ q, v = .ref q ∧ fp = [q]) (hp : ∃ v, σ[i]? = some (some v) ∧ v = .ref p) : StO G F S (upd H p u) (pt env i (some o')) σ := by
  obtain ⟨f, h, nd, dj, fr⟩ := s.own
  obtain ⟨v, e1, e2⟩ := h i o e
  obtain ⟨v', e1', rfl⟩ := hp
  rw [e1] at e1'
  cases e1'
  obtain ⟨q, hq, hf⟩ := is _ _ e2
  cases hq
  have pm : p ∈ f i := by rw [hf]; exact List.mem_singleton.mpr rfl
  obtain ⟨p1, p2, p3⟩ := fr i p pm
  have key := s.put (i := i) (o := o') (v := .ref p) (fr := [p]) (H' := upd H p u) (fun a w q => by
      by_cases c : a = p
      · rw [c, p1] at q; cases q
      · rw [upd_ne c]; exact s.sh a w q) (fun a w q => by
      by_cases c : a = p
      · rw [c, p2] at q; cases q
      · rw [upd_ne c]; exact s.bh a w q) (one _ _ e2 rfl hf) (List.nodup_cons.mpr ⟨List.not_mem_nil, List.nodup_nil⟩) f h nd dj fr (fun j a hj ha => upd_ne fun z => dj i j p (Ne.symm hj) pm (z ▸ ha)) fun a ha => by
      rw [List.mem_singleton.mp ha]
      exact ⟨p1, p2, fun j hj => dj i j p (Ne.symm hj) pm⟩
  have e3 : σ.set i (some (.ref p)) = σ := by
    apply List.ext_getElem?
    intro j
    rw [List.getElem?_set]
    by_cases c : i = j
    · subst c
      rw [if_pos rfl, e1]
      split
      · rfl
      · rename_i l
        exact absurd (List.getElem?_eq_some_iff.mp e1).1 l
    · rw [if_neg c]
  rw [e3] at key
  exact key
/-- the plain heap that has been reached may be forgotten -/
theorem StO.low {L : Hp} (s : StO G { F with L := L } S H env σ) (e : Ext F.L L) : StO G F S H env σ := ⟨s.sh, s.bh, e.trans s.lo, s.old, s.len, s.own⟩
theorem StO.high (s : StO G F S H env σ) {L : Hp} (e : Ext L S) : StO G { F with L := L } S H env σ := ⟨s.sh, s.bh, e, s.old, s.len, s.own⟩
theorem StO.consF (s : StO G F S H env σ) {x : D} {v : V} (a : At G S x v) : StO G F S H (some (.fz x) :: env) (some v :: σ) := by
  obtain ⟨f, h, nd, dj, fr⟩ := s.own
  refine ⟨s.sh, s.bh, s.lo, s.old, by simp only [List.length_cons]; rw [s.len], fun i => match i with | 0 => [] | i + 1 => f i, fun i o e => ?_, fun i => ?_, fun i j a hij ha => ?_, fun i a ha => ?_⟩
  · cases i with
    | zero =>
      cases e
      exact ⟨v, rfl, rfl, a⟩
    | succ i =>
      obtain ⟨u, e1, e2⟩ := h i o e
      exact ⟨u, by simpa using e1, e2⟩
  · cases i with
    | zero => exact List.nodup_nil
    | succ i => exact nd i
  · cases i with
    | zero => cases ha
    | succ i =>
      cases j with
      | zero => exact List.not_mem_nil
      | succ j => exact dj i j a (fun z => hij (by rw [z])) ha
  · cases i with
    | zero => cases ha
    | succ i => exact fr i a ha
end

/-! ### statements -/
structure DEnd where
  nx : Sl → Prop
  bk : Sl → Prop
  ct : Sl → Prop
  rt : O → Sl → Prop
  ex : DExc → Sl → Prop
abbrev SS := DEnd → Sl → Prop
structure Lk (G : Gx) (W : WX) (F : Fix) (D : DEnd) (DD : Ends) : Prop where
  nx : ∀ S H env σ, StO G F S H env σ → D.nx env → DD.nx σ H
  bk : ∀ S H env σ, StO G F S H env σ → D.bk env → DD.bk σ H
  ct : ∀ S H env σ, StO G F S H env σ → D.ct env → DD.ct σ H
  rt : ∀ S H env σ o v, StO G F S H (some o :: env) (some v :: σ) → D.rt o env → DD.rt v H
  ex : ∀ S H env σ x c dd, StO G F S H env σ → ExAt G S H x c dd → D.ex x env → W c dd σ H
theorem Lk.w {G : Gx} {W : WX} {F : Fix} {D : DEnd} {DD : Ends} (l : Lk G W F D DD) {S H : Hp} {env : Sl} {σ : L2.St} (s : StO G F S H env σ) : WOk G W S H σ (fun x => D.ex x env) :=
  fun S' H' x c dd g e q => l.ex S' H' env σ x c dd (s.gr g) e q
def SndS (G : Gx) (W : WX) (ts : TS) (d : SS) : Prop := ∀ (F : Fix) (S H : Hp) (env : Sl) (σ : L2.St) (D : DEnd) (DD : Ends), StO G F S H env σ → Lk G W F D DD → d D env → ts DD σ H
structure DS (X : Cx) (W : WX) (st : Stmt) (ts : TS) (d : SS) : Prop where
  ps : PS X st ts
  sn : SndS (gx X) W ts d
structure DSs (X : Cx) (W : WX) (st : List Stmt) (ts : TS) (d : SS) : Prop where
  ps : PSs X st ts
  sn : SndS (gx X) W ts d
section
variable {X : Cx} {W : WX} {pos : Pos} {st : Stmt} {rest : List Stmt} {t u : TS} {d d' : SS} {e c : Expr} {te : TE} {de : ES} {tt : TT} {dt : BS}
def sNext : SS := fun D env => D.nx env
def sSeq (a b : SS) : SS := fun D env => a { D with nx := b D } env
def sBrk : SS := fun D env => D.bk env
def sCont : SS := fun D env => D.ct env
theorem dss_nil : DSs X W [] tNext sNext := ⟨pss_nil, fun F S H env σ D DD s l h => l.nx S H env σ s h⟩
theorem dss_cons (h1 : DS X W st t d) (h2 : DSs X W rest u d') : DSs X W (st :: rest) (tSeq t u) (sSeq d d') :=
  ⟨pss_cons h1.ps h2.ps, fun F S H env σ D DD s l h => h1.sn F S H env σ { D with nx := d' D } { DD with nx := u DD } s ⟨fun S H env σ s q => h2.sn F S H env σ D DD s l q, l.bk, l.ct, l.rt, l.ex⟩ h⟩
theorem dss_one (h1 : DS X W st t d) : DSs X W [st] t d := ⟨pss_one h1.ps, h1.sn⟩
theorem ds_pass : DS X W (.Pass pos) tNext sNext := ⟨ps_pass, fun F S H env σ D DD s l h => l.nx S H env σ s h⟩
theorem ds_break : DS X W (.Break pos) tBreak sBrk := ⟨ps_break, fun F S H env σ D DD s l h => l.bk S H env σ s h⟩
theorem ds_continue : DS X W (.Continue pos) tCont sCont := ⟨ps_continue, fun F S H env σ D DD s l h => l.ct S H env σ s h⟩
/-- e; -/
def sExpr (de : ES) : SS := fun D env => de env (fun _ => D.nx env) (fun x => D.ex x env)
theorem ds_expr (he : DE RA X W e te de) (hs : swapsWith e none pos.line X.env = pure false := by rfl) : DS X W (.Expr e pos) (tDrop te) (sExpr de) :=
  ⟨ps_expr he.pe hs, fun F S H env σ D DD s l h => he.sn S H env σ _ _ _ s.sh s.p h (fun S1 H1 x v g a q => l.nx S1 H1 env σ (s.gr g) q) (l.w s)⟩
/-- return e -/
def sRet (de : ES) : SS := fun D env => de env (fun x => D.rt (.fz x) env) (fun x => D.ex x env)
theorem ds_ret (he : DE RA X W e te de) : DS X W (.Return (some e) pos) (tRet te) (sRet de) :=
  ⟨ps_ret he.pe, fun F S H env σ D DD s l h => he.sn S H env σ _ _ _ s.sh s.p h (fun S1 H1 x v g a q => l.rt S1 H1 env σ _ v ((s.gr g).consF a) q) (l.w s)⟩
def sRetN : SS := fun D env => D.rt (.fz .non) env
theorem ds_retN : DS X W (.Return none pos) tRetN sRetN := ⟨ps_retN, fun F S H env σ D DD s l h => l.rt S H env σ _ .non (s.consF (x := .non) rfl) h⟩
/-- if -/
def sIf (dt : BS) (a b : SS) : SS := fun D env => dt env (fun k => if k = true then a D env else b D env) (fun x => D.ex x env)
theorem ds_if {a b : List Stmt} (hc : DT X W c tt dt) (ha : DSs X W a t d) (hb : DSs X W b u d') : DS X W (.If c a b pos) (tIfS tt t u) (sIf dt d d') := by
  refine ⟨ps_if hc.pt ha.ps hb.ps, fun F S H env σ D DD s l h => ?_⟩
  refine hc.sn S H env σ _ _ _ s.sh s.p h (fun S1 H1 k g q => ?_) (l.w s)
  cases k with
  | true => exact ha.sn F S1 H1 env σ D DD (s.gr g) l q
  | false => exact hb.sn F S1 H1 env σ D DD (s.gr g) l q
/-- x = e -/
def sSet (i : Nat) (de : ES) : SS := fun D env => de env (fun x => D.nx (pt env i (some (.fz x)))) (fun x => D.ex x env)
theorem snd_set {G : Gx} {i : Nat} (h : SndE RA G W te de) : SndS G W (tAsg te (gName i)) (sSet i de) := fun F S H env σ D DD s l q =>
  h S H env σ _ _ _ s.sh s.p q (fun S1 H1 x v g a q => l.nx S1 H1 _ _ ((s.gr g).set a) q) (l.w s)
theorem ds_set {i : Nat} {x : Str} {pos' : Pos} (hN : X.N.Nodup) (hi : X.N[i]? = some x) (hx : Loc X.env.scope x) (he : DE RA X W e te de) (hs : swapsWith e (some (.Name x pos')) pos.line X.env = pure false := by rfl) (hf : X.fn x = true ∨ X.env.scope.names.lookup x = some .local := by first | exact .inl rfl | exact .inr rfl | assumption) :
    DS X W (.Assign [.Name x pos'] e pos) (tAsg te (gName i)) (sSet i de) := ⟨ps_set hN hi hx he.pe hs hf, snd_set he.sn⟩
/-- x = a new list, owned from now on -/
def sSetO (i : Nat) (dl : LS) : SS := fun D env => dl env (fun xs => D.nx (pt env i (some (.lst xs)))) (fun x => D.ex x env)
theorem snd_setO {G : Gx} {i : Nat} {dl : LS} (h : SndL G W te dl) : SndS G W (tAsg te (gName i)) (sSetO i dl) := by
  intro F S H env σ D DD s l q
  refine h S H env σ _ _ _ s.sh s.p q (fun S1 H1 p xs vs g hp a q H2 hh => ?_) (l.w s)
  obtain rfl := upd_all hh
  exact l.nx S1 _ _ _ ((s.gr g).alloc (o := .lst xs) hp ⟨p, vs, rfl, rfl, upd_same, a⟩) q
theorem ds_setO {i : Nat} {x : Str} {pos' : Pos} {dl : LS} (hN : X.N.Nodup) (hi : X.N[i]? = some x) (hx : Loc X.env.scope x) (he : DL X W e te dl) (hs : swapsWith e (some (.Name x pos')) pos.line X.env = pure false := by rfl) (hf : X.fn x = true ∨ X.env.scope.names.lookup x = some .local := by first | exact .inl rfl | exact .inr rfl | assumption) :
    DS X W (.Assign [.Name x pos'] e pos) (tAsg te (gName i)) (sSetO i dl) := ⟨ps_set hN hi hx he.pe hs hf, snd_setO he.sn⟩
/-- targets = e -/
def sAsg (f : Tgt) (de : ES) : SS := fun D env => de env (fun x => match f x with
  | some as => D.nx (pts env as)
  | none => False) (fun x => D.ex x env)
theorem ds_asg {tg : Expr} {g : TG} {is : List Nat} {f : Tgt} (he : DE RA X W e te de) (hg : DG X W tg g is f) (hs : swapsWithSole [tg] e pos.line X.env = pure false := by rfl) (hw : swappedStores [tg] e X.env = pure none := by rfl)
    (h1 : (assignEach [tg] X.env).map (·.2) = [assign tg X.env] := by rfl) : DS X W (.Assign [tg] e pos) (tAsg te g) (sAsg f de) := by
  refine ⟨ps_asg he.pe hg.pg hs hw h1, fun F S H env σ D DD s l q => ?_⟩
  refine he.sn S H env σ _ _ _ s.sh s.p q (fun S1 H1 x v g1 a q => ?_) (l.w s)
  cases hf : f x with
  | none => rw [hf] at q; exact q.elim
  | some as =>
    rw [hf] at q
    exact hg.sn S1 H1 x v as σ _ g1.sh a hf fun bs m => l.nx S1 H1 _ _ ((s.gr g1).pts m) q
/-- xs.append(e), xs owned by slot i -/
def sApp (i : Nat) (de : ES) : SS := fun D env => match gt env i with
  | some (.lst xs) => de env (fun y => xs.length < 16000000 ∧ D.nx (pt env i (some (.lst (xs ++ [y]))))) (fun x => D.ex x env)
  | _ => False
theorem ds_app (i : Nat) {x : Str} {p1 p2 : Pos} {cpos : Pos} (ho : PE X (.Name x p1) (tVar i)) (he : DE RA X W e te de)
    (hbase : attributeBase (.Name x p1) "append" X.env (eval (.Name x p1) X.env) = eval (.Name x p1) X.env := by rfl)
    (hfew : ((backTo cpos (starEach [e] X.env)).all (fun x => !x.1) && (backToKw cpos (keywordEach [] X.env)).all (fun x => x.1.isSome)
      && decide (([e] : List Expr).length + ([] : List Keyword).length + (if ([] : List Keyword).isEmpty then 0 else 1) < 30)) = true := by rfl)
    (hline : (p2.endLine == cpos.line) = true := by rfl) (hs : starEach [e] X.env = (false, eval e X.env) :: starEach [] X.env := by rfl) (hplain : (backTo cpos (starEach [] X.env)).any (·.1) = false := by rfl)
    (hsw : swapsWith (.Call (.Attribute (.Name x p1) "append" p2) [e] [] cpos) none pos.line X.env = pure false := by rfl) :
    DS X W (.Expr (.Call (.Attribute (.Name x p1) "append" p2) [e] [] cpos) pos) (tDrop (tBM X.K "list" rAppend (tVar i) (tCons te tNil))) (sApp i de) := by
  refine ⟨ps_expr (pe_bm PySem.F.plainAttrs_list PySem.F.slot_list_append PySem.F.type_list_append mt_append ho (pa_cons he.pe pa_nil hs) hbase hfew hline hs hplain) hsw, fun F S H env σ D DD s l q => ?_⟩
  unfold sApp at q
  split at q
  · rename_i xs hgt
    obtain ⟨v, fp, e1, a, vs, rfl, rfl, e3, e4⟩ := s.p.at' i _ hgt
    refine ⟨_, e1, .inl ⟨rfl, vs, SqL.of e3⟩, ?_⟩
    refine he.sn S H env σ _ _ _ s.sh s.p q (fun S1 H1 y w g aw q => ?_) (l.w s)
    have h1 : H1 a = some (.lst vs) := g.h a _ e3
    have a1 := e4.mono g.s
    refine ⟨a, vs, w, rfl, rfl, h1, by rw [← e4.length]; exact sz16l q.1, ?_⟩
    refine l.nx S1 _ _ _ ((s.gr g).mut hgt (fun v fp ow hv hfp => ?_) (fun v fp ow => ?_) ⟨_, e1, rfl⟩) q.2
    · exact ⟨a, vs ++ [w], rfl, rfl, upd_same, a1.append ⟨w, [], rfl, aw, rfl⟩⟩
    · obtain ⟨b, ws, h1, h2, _⟩ := ow
      exact ⟨b, h1, h2⟩
  · exact q.elim
/-- xs[k] = e, xs owned by slot i -/
def sPutIx (i : Nat) (de dk : ES) : SS := fun D env => match gt env i with
  | some (.lst xs) => de env (fun y => dk env (fun kk => asI kk fun k => match ixN xs.length k with
    | some j => D.nx (pt env i (some (.lst (xs.set j y))))
    | none => False) (fun x => D.ex x env)) (fun x => D.ex x env)
  | _ => False
theorem AtL.setV {G : Gx} {S : Hp} {xs : List D} {vs : List V} {x : D} {v : V} (n : Nat) (h : AtL G S xs vs) (a : At G S x v) : AtL G S (xs.set n x) (vs.set n v) := h.set n a
theorem ds_putIx (i : Nat) {x : Str} {k : Expr} {tk : TE} {dk : ES} {p1 p2 : Pos} (ho : PE X (.Name x p1) (tVar i)) (he : DE RA X W e te de) (hk : DE RA X W k tk dk)
    (ha : ∀ v, assign (.Subscript (.Name x p1) k p2) X.env v = (do
      let ov ← holding [v] (eval (.Name x p1) X.env)
      let iv ← holding [v, ov] (eval k X.env)
      standAt p2
      holding [v, ov, iv] (setItem ov iv v)
      release [v, ov, iv] []) := by intro _; rfl)
    (hs : swapsWithSole [.Subscript (.Name x p1) k p2] e pos.line X.env = pure false := by rfl) (hw : swappedStores [.Subscript (.Name x p1) k p2] e X.env = pure none := by rfl)
    (h1 : (assignEach [.Subscript (.Name x p1) k p2] X.env).map (·.2) = [assign (.Subscript (.Name x p1) k p2) X.env] := by rfl) :
    DS X W (.Assign [.Subscript (.Name x p1) k p2] e pos) (tAsg te (L2.gSub (tVar i) tk rSetL)) (sPutIx i de dk) := by
  refine ⟨ps_asg he.pe (pg_sub ho hk.pe set_list ha) hs hw h1, fun F S H env σ D DD s l q => ?_⟩
  unfold sPutIx at q
  split at q
  · rename_i xs hgt
    refine he.sn S H env σ _ _ _ s.sh s.p q (fun S1 H1 y w g1 aw q => ?_) (l.w s)
    have s1 := s.gr g1
    obtain ⟨v, fp, e1, a, vs, rfl, rfl, e3, e4⟩ := s1.p.at' i _ hgt
    refine ⟨_, e1, ?_⟩
    refine hk.sn S1 H1 env σ _ _ _ s1.sh s1.p q (fun S2 H2 kk u g2 ak q => ?_) (l.w s1)
    obtain ⟨k', rfl, q⟩ := asI_at q ak
    have a2 : H2 a = some (.lst vs) := g2.h a _ e3
    have a3 := e4.mono g2.s
    cases hj : ixN xs.length k' with
    | none => simp only [hj] at q
    | some j =>
      simp only [hj] at q
      refine ⟨a, vs, k', j, rfl, rfl, a2, by rw [← e4.length]; exact hj, ?_⟩
      refine l.nx S2 _ _ _ ((s1.gr g2).mut hgt (fun v fp ow hv hfp => ?_) (fun v fp ow => ?_) ⟨_, e1, rfl⟩) q
      · exact ⟨a, vs.set j w, rfl, rfl, upd_same, a3.set j (aw.mono g2.s)⟩
      · obtain ⟨b, ws, h1, h2, _⟩ := ow
        exact ⟨b, h1, h2⟩
  · exact q.elim
end
end DL

/-! DL7: loops; defs. -/
namespace DL
open PySem L2 PyProof.Rows
section
variable {X : Cx} {W : WX} {pos : Pos} {body : List Stmt} {t : TS} {d : SS} {e c tg iter : Expr} {tt : TT} {dt : BS}
/-! ### for -/
def forGo (f : Tgt) (body : SS) (Z : DEnd) : List D → Sl → Prop
  | [], env => Z.nx env
  | x :: xs, env => match f x with
    | some as => body { Z with nx := forGo f body Z xs, ct := forGo f body Z xs, bk := Z.nx } (pts env as)
    | none => False
def sFor (di : IS) (f : Tgt) (body : SS) : SS := fun D env => di env (fun items => forGo f body D items env) (fun x => D.ex x env)
theorem snd_for {G : Gx} {wi : TI} {g : TG} {di : IS} {f : Tgt}
    (hi : ∀ (S H : Hp) (env : Sl) (σ : L2.St) (Q : List D → Prop) (E : DExc → Prop) (R : It → Hp → Prop), Ext S H → EnvP G S H env σ → di env Q E → (∀ S' H' J items, Gr S H S' H' → ItOk G S' J items → Q items → R J H') → WOk G W S H σ E → wi σ H R)
    (hg : ∀ (S H : Hp) (x : D) (v : V) (as : List (Nat × D)) (σ : L2.St) (Q : L2.St → Hp → Prop), Ext S H → At G S x v → f x = some as → (∀ bs, Mch G S as bs → Q (sets σ bs) H) → g v σ H Q)
    (hb : SndS G W t d) : SndS G W (tFor wi g t) (sFor di f d) := by
  intro F S H env σ D DD s l h
  refine hi S H env σ _ _ _ s.sh s.p h (fun S1 H1 J items g1 J1 q1 => ?_) (l.w s)
  have s1 := s.gr g1
  have low : Ext F.L S1 := s1.lo
  refine ⟨fun i m σ' H' => m = items.length - i ∧ i ≤ items.length ∧ ∃ S' env', StO G { F with L := S1 } S' H' env' σ' ∧ forGo f d D (items.drop i) env', ⟨_, rfl, Nat.zero_le _, S1, env, s1.high (.refl _), q1⟩, ?_⟩
  rintro i m σ' H' ⟨rfl, hi', S', env', s', go⟩
  obtain ⟨it1, it2⟩ := J1 S' H' s'.lo s'.sh i
  by_cases hlt : i < items.length
  · have hxi : items[i]? = some items[i] := List.getElem?_eq_getElem hlt
    obtain ⟨jgo, jy⟩ := it1 _ hxi
    rw [List.drop_eq_getElem_cons hlt] at go
    refine .inr ⟨jgo, fun σ2 H2 => ∃ S' env', StO G { F with L := S1 } S' H2 env' σ2 ∧ forGo f d D (items.drop (i + 1)) env', fun σ2 H2 hn => ⟨_, Nat.sub_lt_sub_left hlt (Nat.lt_succ_self i), rfl, hlt, hn⟩, fun v Hy y => ?_⟩
    obtain ⟨S2, g2, av⟩ := jy v Hy y
    simp only [forGo] at go
    cases hf : f items[i] with
    | none => rw [hf] at go; exact go.elim
    | some as =>
      rw [hf] at go
      refine hg S2 Hy _ v as σ' _ g2.sh av hf fun bs mb => ?_
      refine hb { F with L := S1 } S2 Hy _ _ _ _ ((s'.gr g2).pts mb) ⟨?_, ?_, ?_, ?_, ?_⟩ go
      · exact fun S H env σ s q => ⟨S, env, s, q⟩
      · exact fun S H env σ s q => l.nx S H env σ (s.low low) q
      · exact fun S H env σ s q => ⟨S, env, s, q⟩
      · exact fun S H env σ o v s q => l.rt S H env σ o v (s.low low) q
      · exact fun S H env σ x c dd s a q => l.ex S H env σ x c dd (s.low low) a q
  · have e : i = items.length := by omega
    refine .inl ⟨it2 (by omega), ?_⟩
    rw [e, List.drop_length] at go
    exact l.nx S' H' env' σ' (s'.low low) go
theorem ds_for {wi : TI} {g : TG} {di : IS} {f : Tgt} {is : List Nat} (hp : PassesOwn (model X.prog X.w) X.A X.env X.xe) (hc : X.calm = true) (hi : DI X W tg iter wi di) (hg : DG X W tg g is f) (hb : DSs X W body t d)
    (hs : ∀ x, foldedSetIterable iter X.env x = pure x := by intro _; rfl) : DS X W (.For tg iter body [] pos) (tFor wi g t) (sFor di f d) := ⟨ps_for hp hc hi.pi hg.pg hb.ps hs, snd_for hi.sn hg.sn hb.sn⟩
/-! ### while -/
def sWhile (dt : BS) (body : SS) : SS := fun D env => ∃ I : Nat → Sl → Prop, (∃ m, I m env) ∧ ∀ m env, I m env →
  dt env (fun b => if b = true then body { D with nx := fun e => ∃ m', m' < m ∧ I m' e, ct := fun e => ∃ m', m' < m ∧ I m' e, bk := D.nx } env else D.nx env) (fun x => D.ex x env)
theorem ds_while (hp : PassesOwn (model X.prog X.w) X.A X.env X.xe) (hc : DT X W c tt dt) (hb : DSs X W body t d) : DS X W (.While c body [] pos) (tWhile tt t) (sWhile dt d) := by
  refine ⟨ps_while hp hc.pt hb.ps, fun F S H env σ D DD s l h => ?_⟩
  obtain ⟨I, ⟨m0, i0⟩, turn⟩ := h
  refine ⟨fun m σ' H' => ∃ S' env', StO (gx X) F S' H' env' σ' ∧ I m env', ⟨m0, S, env, s, i0⟩, ?_⟩
  rintro m σ' H' ⟨S', env', s', i'⟩
  refine hc.sn S' H' env' σ' _ _ _ s'.sh s'.p (turn m env' i') (fun S1 H1 b g q => ?_) (l.w s')
  cases b with
  | false => exact l.nx S1 H1 env' σ' (s'.gr g) q
  | true =>
    refine ⟨fun σ2 H2 => ∃ S2 env2, StO (gx X) F S2 H2 env2 σ2 ∧ ∃ m', m' < m ∧ I m' env2, ?_, ?_⟩
    · rintro σ2 H2 ⟨S2, env2, s2, m', lt, i2⟩
      exact ⟨m', lt, S2, env2, s2, i2⟩
    · rw [if_pos rfl] at q
      exact hb.sn F S1 H1 env' σ' { D with nx := fun e => ∃ m', m' < m ∧ I m' e, ct := fun e => ∃ m', m' < m ∧ I m' e, bk := D.nx } _ (s'.gr g) ⟨fun S H env σ s q => ⟨S, env, s, q⟩, fun S H env σ s q => l.nx S H env σ s q, fun S H env σ s q => ⟨S, env, s, q⟩, l.rt, l.ex⟩ q
end

/-! ### defs -/
def en (n : Nat) (ds : List D) : Sl := ds.map (fun x => some (.fz x)) ++ List.replicate (n - ds.length) none
def dEnd (Q : D → Prop) (E : DExc → Prop) : DEnd where
  nx := fun _ => Q .non
  bk := fun _ => False
  ct := fun _ => False
  rt := fun o _ => match o with
    | .fz x => Q x
    | _ => False
  ex := fun x _ => E x
theorem en_start {G : Gx} {S : Hp} {n : Nat} : ∀ {ds : List D} {vs : List V}, AtL G S ds vs → ∀ i o, gt (ds.map fun x => some (O.fz x)) i = some o → ∃ v, (vs.map some)[i]? = some (some v) ∧ ∃ x, o = .fz x ∧ At G S x v
  | [], _, _, i, o, e => by
    simp only [List.map_nil, gt] at e
    cases e
  | x :: xs, _, h, i, o, e => by
    obtain ⟨v, r, rfl, a, b⟩ := h
    cases i with
    | zero =>
      simp only [List.map_cons, gt] at e
      cases e
      exact ⟨v, rfl, x, rfl, a⟩
    | succ i =>
      simp only [List.map_cons, gt] at e
      obtain ⟨w, q1, q2⟩ := en_start (n := n) b i o e
      exact ⟨w, by simpa using q1, q2⟩
theorem gt_app (e : Sl) (n i : Nat) : gt (e ++ List.replicate n none) i = gt e i := by
  rw [gt_eq, gt_eq]
  by_cases h : i < e.length
  · rw [List.getElem?_append_left h]
  · rw [List.getElem?_append_right (by omega), List.getElem?_replicate, List.getElem?_eq_none (by omega)]
    split <;> rfl
theorem st_start {G : Gx} {S H : Hp} {N : List Str} {ds : List D} {vs : List V} (es : Ext S H) (a : AtL G S ds vs) : StO G ⟨H, S, S⟩ S H (en N.length ds) (L2.start N vs) := by
  refine ⟨es, .refl _, .refl _, fun _ _ => rfl, ?_, fun _ => [], fun i o e => ?_, fun _ => List.nodup_nil, fun i j a _ h => (List.not_mem_nil h).elim, fun i a h => (List.not_mem_nil h).elim⟩
  · unfold en L2.start
    simp only [List.length_append, List.length_map, List.length_replicate]
    rw [a.length]
  · unfold en at e
    rw [gt_app] at e
    obtain ⟨v, q1, x, rfl, q2⟩ := en_start (n := 0) a i o e
    refine ⟨v, ?_, rfl, q2⟩
    unfold L2.start
    rw [List.getElem?_append_left (List.getElem?_eq_some_iff.mp q1).1]
    exact q1
section
variable {P : Program} {w : World} {K : PySem.W.Frag} {mg : Str → Option Value} {base : Heap} {x qual : Str} {params : Arguments} {body : List Stmt} {scope : Scope} {f : Addr} {fd : FuncData}
/-- THE RULE for a def that changes none of its arguments -/
theorem fn_def {N ps : List Str} {k : Nat} {psp : PSp} {d : SS} (F : FunD K x qual params body scope [] [] f fd) (sc : FnScope N ps scope) (hm : mg x = some (.ref f)) (hb : Binds K fd ps [])
    (hbody : ∀ (cdv : Value) (A : Around) (outer : List Env) (s : Shared) (H : Hp) (E : XK), Room k (A.deeper (envOfC qual scope s.heap.objs.size f cdv)) →
      ∃ ts, DSs (cxOf (L2.CX P w) P w K mg base N qual scope f cdv A outer s H E) (fun c d _ H => E c d H) body ts d)
    (hd : ∀ ds Q E, ds.length = ps.length → psp ds Q E → d (dEnd Q E) (en N.length ds)) : Fn P w K mg base (k + 1) x ps.length psp := by
  refine ⟨f, fd, ps, ?_, hm, F.kp, hb⟩
  refine FunD.ok F sc (fun vs H Q E h => ?_) fun cdv A outer s H vs Q E hr h => ?_
  · obtain ⟨S, ds, _, _, _, a, l, _⟩ := h
    rw [← a.length, l]
  · obtain ⟨S, ds, Qd, Ed, es, a, l, p, k1, k2⟩ := h
    obtain ⟨ts, h1⟩ := hbody cdv A outer s H E hr
    refine ⟨ts, h1.ps, ?_⟩
    have fin : ∀ {S' H' : Hp} {env : Sl} {σ : L2.St}, StO ⟨K, mg⟩ ⟨H, S, S⟩ S' H' env σ → Gr S H S' H' := fun s => ⟨s.bh, s.lo, s.sh, s.old⟩
    refine h1.sn ⟨H, S, S⟩ S H _ _ (dEnd Qd Ed) _ (st_start es a) ⟨?_, ?_, ?_, ?_, ?_⟩ (hd ds Qd Ed l p)
    · exact fun S' H' env σ s q => k1 S' H' .non .non (fin s) rfl q
    · exact fun _ _ _ _ _ q => q
    · exact fun _ _ _ _ _ q => q
    · intro S' H' env σ o v s q
      cases o with
      | fz x =>
        obtain ⟨g, h, _⟩ := s.own
        obtain ⟨u, e1, e2⟩ := h 0 _ rfl
        cases e1
        exact k1 S' H' x v (fin s) e2.2 q
      | _ => exact q.elim
    · exact fun S' H' env σ x c dd s a q => k2 S' H' x c dd (fin s) a q
end
end DL

/-! DL8: freezing what is owned; built-ins by name; more rules. -/
namespace DL
open PySem L2
section
variable {G : Gx} {F : Fix} {S H : Hp} {env : Sl} {σ : L2.St} {W : WX} {t : TS} {d : SS}
theorem StO.frz (s : StO G F S H env σ) {i : Nat} {xs : List D} (e : gt env i = some (.lst xs)) : ∃ S', StO G F S' H (pt env i (some (.fz (.lst xs)))) σ := by
  obtain ⟨f, h, nd, dj, fr⟩ := s.own
  obtain ⟨v, e1, a, vs, rfl, hf, e3, e4⟩ := h i _ e
  have am : a ∈ f i := by rw [hf]; exact List.mem_singleton.mpr rfl
  obtain ⟨p1, p2, p3⟩ := fr i a am
  have ex : Ext S (upd S a (.lst vs)) := .new p1
  refine ⟨upd S a (.lst vs), fun b u q => ?_, s.bh, s.lo.trans ex, fun b hb => ?_, by rw [pt_len]; exact s.len, fun j => if j = i then [] else f j, fun j o q => ?_, fun j => ?_, fun j k b hjk hb => ?_, fun j b hb => ?_⟩
  · by_cases c : b = a
    · rw [c, upd_same] at q
      cases q
      rw [c]
      exact e3
    · rw [upd_ne c] at q
      exact s.sh b u q
  · have c : b ≠ a := fun c => by rw [c, p2] at hb; exact hb rfl
    rw [upd_ne c]
    exact s.old b hb
  · rw [gt_pt] at q
    by_cases c : i = j ∧ i < env.length
    · rw [if_pos c] at q
      cases q
      obtain ⟨rfl, l⟩ := c
      refine ⟨_, e1, ?_⟩
      show Own G _ H _ _ (if i = i then [] else f i)
      rw [if_pos rfl]
      exact ⟨rfl, a, vs, rfl, upd_same, e4.mono ex⟩
    · rw [if_neg c] at q
      obtain ⟨u, q1, q2⟩ := h j o q
      have hji : j ≠ i := by
        rintro rfl
        refine c ⟨rfl, ?_⟩
        rw [s.len]
        exact (List.getElem?_eq_some_iff.mp q1).1
      refine ⟨u, q1, ?_⟩
      show Own G _ H _ _ (if j = i then [] else f j)
      rw [if_neg hji]
      exact q2.mono ex fun b _ z q => q
  · show (if j = i then [] else f j).Nodup
    split
    · exact List.nodup_nil
    · exact nd j
  · have hb' : b ∈ (if j = i then [] else f j) := hb
    show b ∉ (if k = i then [] else f k)
    by_cases c : j = i
    · rw [if_pos c] at hb'
      cases hb'
    · rw [if_neg c] at hb'
      by_cases c2 : k = i
      · rw [if_pos c2]
        exact List.not_mem_nil
      · rw [if_neg c2]
        exact dj j k b hjk hb'
  · have hb' : b ∈ (if j = i then [] else f j) := hb
    by_cases c : j = i
    · rw [if_pos c] at hb'
      cases hb'
    · rw [if_neg c] at hb'
      obtain ⟨f1, f2, f3⟩ := fr j b hb'
      have hba : b ≠ a := fun z => dj i j a (fun z => c z.symm) am (z ▸ hb')
      exact ⟨by rw [upd_ne hba]; exact f1, f2, f3⟩
/-- a list that is owned becomes plain data -/
def sFz (i : Nat) (d : SS) : SS := fun D env => match gt env i with
  | some (.lst xs) => d D (pt env i (some (.fz (.lst xs))))
  | some (.fz x) => d D env
  | _ => False
theorem snd_fz (i : Nat) (h : SndS G W t d) : SndS G W t (sFz i d) := by
  intro F S H env σ D DD s l q
  unfold sFz at q
  split at q
  · rename_i xs e
    obtain ⟨S', s'⟩ := s.frz e
    exact h F S' H _ σ D DD s' l q
  · exact h F S H _ σ D DD s l q
  · exact q.elim
end
theorem DS.fz {X : Cx} {W : WX} {st : Stmt} {t : TS} {d : SS} (i : Nat) (h : DS X W st t d) : DS X W st t (sFz i d) := ⟨h.ps, snd_fz i h.sn⟩

section
variable {X : Cx} {W : WX} {pos : Pos} {a e : Expr} {ta te : TE} {da de : ES}
/-- a class as a value -/
theorem de_ty {x : Str} {n : String} (hg : Gl X x) (hm : X.mg x = none) (hv : bootBuiltins x = some (.type n)) (hn : x ≠ "__name__" := by decide) (hd : (x == ("__debug__" : Str)) = false := by decide) : DE RA X W (.Name x pos) (tC (.ty n)) (dC (.ty n)) :=
  ⟨pe_bltn hg hm hv rfl hn hd, snd_c fun _ => rfl⟩
/-- -e -/
def dNeg (d : ES) : ES := fun env Q E => d env (fun x => asI x fun i => Q (.int (-i))) E
theorem de_neg (h : DE RA X W e te de) : DE RA X W (.UnaryOp .USub e pos) (tUn (rU fun i => .int (-i)) te) (dNeg de) :=
  ⟨pe_un un_neg h.pe, fun S H env σ Q E QV es ev hd k w => h.sn S H env σ _ E _ es ev hd (fun S1 H1 x v g a q => by
    obtain ⟨i, e, q⟩ := asI_at q a
    exact ⟨i, e, k S1 H1 (.int _) _ g rfl q⟩) w⟩
/-- name = [..] on one line, the name a plain local -/
theorem ds_setLc {i : Nat} {y : Str} {py : Pos} {elt tg iter : Expr} {ifs : List Expr} {scope : Scope} {own : List (Str × Nat)} {spos : Pos} {wi : TI} {g : TG} {tt : TT} {di : IS} {f : Tgt} {cond : BS} {dl : ES} {is : List Nat} (hc : X.calm = true) (hN : X.N.Nodup) (hy : X.N[i]? = some y) (hyl : X.env.scope.names.lookup y = some .local)
    (hsw : swapsWith (.ListComp elt [⟨tg, iter, ifs, 0⟩] scope pos) (some (.Name y py)) spos.line X.env = pure true) (hi : DI X W tg iter wi di) (ok : BlkOk X.N X.env.scope scope own)
    (hg : ∀ (s : Shared) (H : Hp) (C : Addr) (cl : List (Str × Addr)) (fp : List Addr), DG (X.blk s H scope (compEnvC scope cl C X.env) fp) W0 tg g is f) (hs : ∀ i ∈ is, i ∈ own.map (·.2))
    (ht : ∀ (s : Shared) (H : Hp) (C : Addr) (cl : List (Str × Addr)) (fp : List Addr), DTs (X.blk s H scope (compEnvC scope cl C X.env) fp) W0 ifs tt cond)
    (he : ∀ (s : Shared) (H : Hp) (C : Addr) (cl : List (Str × Addr)) (fp : List Addr), DE RA (X.blk s H scope (compEnvC scope cl C X.env) fp) W0 elt te dl) (hf : ∀ x, foldedSetIterable iter X.env x = pure x := by intro _; rfl) :
    DS X W (.Assign [.Name y py] (.ListComp elt [⟨tg, iter, ifs, 0⟩] scope pos) spos) (tAsg (tLc wi g tt te (own.map (·.2))) (gName i)) (sSet i (dLstV (dComp (own.map (·.2)) di f cond dl))) :=
  ⟨ps_setLc hc hN hy hyl hsw hi.pi ok (fun s H C cl fp => (hg s H C cl fp).pg) (fun s H C cl fp => (ht s H C cl fp).pt) (fun s H C cl fp => (he s H C cl fp).pe) hf,
    snd_set (dl_comp (pos := pos) hc hN hi ok hg hs ht he hf).v.sn⟩
theorem ds_setLcO {i : Nat} {y : Str} {py : Pos} {elt tg iter : Expr} {ifs : List Expr} {scope : Scope} {own : List (Str × Nat)} {spos : Pos} {wi : TI} {g : TG} {tt : TT} {di : IS} {f : Tgt} {cond : BS} {dl : ES} {is : List Nat} (hc : X.calm = true) (hN : X.N.Nodup) (hy : X.N[i]? = some y) (hyl : X.env.scope.names.lookup y = some .local)
    (hsw : swapsWith (.ListComp elt [⟨tg, iter, ifs, 0⟩] scope pos) (some (.Name y py)) spos.line X.env = pure true) (hi : DI X W tg iter wi di) (ok : BlkOk X.N X.env.scope scope own)
    (hg : ∀ (s : Shared) (H : Hp) (C : Addr) (cl : List (Str × Addr)) (fp : List Addr), DG (X.blk s H scope (compEnvC scope cl C X.env) fp) W0 tg g is f) (hs : ∀ i ∈ is, i ∈ own.map (·.2))
    (ht : ∀ (s : Shared) (H : Hp) (C : Addr) (cl : List (Str × Addr)) (fp : List Addr), DTs (X.blk s H scope (compEnvC scope cl C X.env) fp) W0 ifs tt cond)
    (he : ∀ (s : Shared) (H : Hp) (C : Addr) (cl : List (Str × Addr)) (fp : List Addr), DE RA (X.blk s H scope (compEnvC scope cl C X.env) fp) W0 elt te dl) (hf : ∀ x, foldedSetIterable iter X.env x = pure x := by intro _; rfl) :
    DS X W (.Assign [.Name y py] (.ListComp elt [⟨tg, iter, ifs, 0⟩] scope pos) spos) (tAsg (tLc wi g tt te (own.map (·.2))) (gName i)) (sSetO i (dComp (own.map (·.2)) di f cond dl)) :=
  ⟨ps_setLc hc hN hy hyl hsw hi.pi ok (fun s H C cl fp => (hg s H C cl fp).pg) (fun s H C cl fp => (ht s H C cl fp).pt) (fun s H C cl fp => (he s H C cl fp).pe) hf,
    snd_setO (dl_comp (pos := pos) hc hN hi ok hg hs ht he hf).sn⟩
end
/-! ### built-ins by name -/
structure Bt (mg : Str → Option Value) : Prop where
  len : mg "len" = none
  int : mg "int" = none
  bool : mg "bool" = none
  tuple : mg "tuple" = none
  list : mg "list" = none
  range : mg "range" = none
  max : mg "max" = none
  min : mg "min" = none
  sorted : mg "sorted" = none
  isinstance : mg "isinstance" = none
  repr : mg "repr" = none
theorem bt_len : bootBuiltins "len" = some (.builtin "len") := by decide +kernel
theorem bt_int : bootBuiltins "int" = some (.type "int") := by decide +kernel
theorem bt_bool : bootBuiltins "bool" = some (.type "bool") := by decide +kernel
theorem bt_tuple : bootBuiltins "tuple" = some (.type "tuple") := by decide +kernel
theorem bt_list : bootBuiltins "list" = some (.type "list") := by decide +kernel
theorem bt_max : bootBuiltins "max" = some (.builtin "max") := by decide +kernel
theorem bt_min : bootBuiltins "min" = some (.builtin "min") := by decide +kernel
theorem bt_sorted : bootBuiltins "sorted" = some (.builtin "sorted") := by decide +kernel
theorem bt_isinstance : bootBuiltins "isinstance" = some (.builtin "isinstance") := by decide +kernel
theorem bt_repr : bootBuiltins "repr" = some (.builtin "repr") := by decide +kernel

/-! ### the operators by name -/
section
variable {X : Cx} {W : WX} {pos : Pos} {a b e : Expr} {ta tb te : TE} {da db : ES} {es : List Expr} {tr : TA} {dr : AS} {p : Pos} {k : Nat}
theorem hu65 {A : Around} {k : Nat} (h : Room k A) : A.units + 65 < cLine := by have := h.un; omega
theorem de_add {K : PySem.W.Frag} (ha : DE Hd X W a ta da) (hb : DE Hd X W b tb db) (hK : X.K = K := by rfl) : DE RA X W (.BinOp a .Add b pos) (tOp (rAddA K) ta tb) (dBin gAdd da db) := by subst hK; exact de_op op_addA os_add ha hb
theorem de_sub (ha : DE Hd X W a ta da) (hb : DE Hd X W b tb db) : DE RA X W (.BinOp a .Sub b pos) (tOp (rI0 fun i j => .int (i - j)) ta tb) (dBin DL.gSub da db) := de_op op_sub os_sub ha hb
theorem de_mul (ha : DE Hd X W a ta da) (hb : DE Hd X W b tb db) : DE RA X W (.BinOp a .Mult b pos) (tOp rMulA ta tb) (dBin gMul da db) := de_op op_mulA os_mul ha hb
theorem de_mod (ha : DE Hd X W a ta da) (hb : DE Hd X W b tb db) : DE RA X W (.BinOp a .Mod b pos) (tOp (rI (fun _ j => 0 < j) fun i j => .int (i % j)) ta tb) (dBin gMod da db) := de_op op_mod os_mod ha hb
theorem de_fdiv (ha : DE Hd X W a ta da) (hb : DE Hd X W b tb db) : DE RA X W (.BinOp a .FloorDiv b pos) (tOp rFdivA ta tb) (dBin gFdiv da db) := de_op op_fdivA os_fdiv ha hb
theorem de_pow (ha : DE Hd X W a ta da) (hb : DE Hd X W b tb db) : DE RA X W (.BinOp a .Pow b pos) (tOp (rI CPow fun i j => .int (i ^ j.toNat)) ta tb) (dBin gPow da db) := de_op op_pow os_pow ha hb
theorem de_eq {K : PySem.W.Frag} (hr : Room k X.A) (ha : DE Hd X W a ta da) (hb : DE Hd X W b tb db) (hK : X.K = K := by rfl) : DE RA X W (.Compare a [.Eq] [b] pos) (tOp (rEqS K) ta tb) (dBin gEq da db) := by subst hK; exact de_cmp (op_eqS hr.units) os_eq ha hb (nomark _)
theorem dt_eq {K : PySem.W.Frag} (hr : Room k X.A) (ha : DE Hd X W a ta da) (hb : DE Hd X W b tb db) (hK : X.K = K := by rfl) : DT X W (.Compare a [.Eq] [b] pos) (tTest (tOp (rEqS K) ta tb)) (dTst (dBin gEq da db)) := by subst hK; exact dt_cmp (op_eqS hr.units) os_eq ha hb (nomark _)
theorem de_ne {K : PySem.W.Frag} (hr : Room k X.A) (ha : DE Hd X W a ta da) (hb : DE Hd X W b tb db) (hK : X.K = K := by rfl) : DE RA X W (.Compare a [.NotEq] [b] pos) (tOp (rNeS K) ta tb) (dBin gNe da db) := by subst hK; exact de_cmp (op_neS hr.units) os_ne ha hb (nomark _)
theorem dt_ne {K : PySem.W.Frag} (hr : Room k X.A) (ha : DE Hd X W a ta da) (hb : DE Hd X W b tb db) (hK : X.K = K := by rfl) : DT X W (.Compare a [.NotEq] [b] pos) (tTest (tOp (rNeS K) ta tb)) (dTst (dBin gNe da db)) := by subst hK; exact dt_cmp (op_neS hr.units) os_ne ha hb (nomark _)
theorem de_lt (ha : DE Hd X W a ta da) (hb : DE Hd X W b tb db) : DE RA X W (.Compare a [.Lt] [b] pos) (tOp (rI0 fun i j => .bl (decide (i < j))) ta tb) (dBin gLt da db) := de_cmp op_lt os_lt ha hb (nomark _)
theorem dt_lt (ha : DE Hd X W a ta da) (hb : DE Hd X W b tb db) : DT X W (.Compare a [.Lt] [b] pos) (tTest (tOp (rI0 fun i j => .bl (decide (i < j))) ta tb)) (dTst (dBin gLt da db)) := dt_cmp op_lt os_lt ha hb (nomark _)
theorem de_le (ha : DE Hd X W a ta da) (hb : DE Hd X W b tb db) : DE RA X W (.Compare a [.LtE] [b] pos) (tOp (rI0 fun i j => .bl (decide (i ≤ j))) ta tb) (dBin gLe da db) := de_cmp op_le os_le ha hb (nomark _)
theorem dt_le (ha : DE Hd X W a ta da) (hb : DE Hd X W b tb db) : DT X W (.Compare a [.LtE] [b] pos) (tTest (tOp (rI0 fun i j => .bl (decide (i ≤ j))) ta tb)) (dTst (dBin gLe da db)) := dt_cmp op_le os_le ha hb (nomark _)
theorem de_gt (ha : DE Hd X W a ta da) (hb : DE Hd X W b tb db) : DE RA X W (.Compare a [.Gt] [b] pos) (tOp (rI0 fun i j => .bl (decide (j < i))) ta tb) (dBin gGt da db) := de_cmp op_gt os_gt ha hb (nomark _)
theorem dt_gt (ha : DE Hd X W a ta da) (hb : DE Hd X W b tb db) : DT X W (.Compare a [.Gt] [b] pos) (tTest (tOp (rI0 fun i j => .bl (decide (j < i))) ta tb)) (dTst (dBin gGt da db)) := dt_cmp op_gt os_gt ha hb (nomark _)
theorem de_ge (ha : DE Hd X W a ta da) (hb : DE Hd X W b tb db) : DE RA X W (.Compare a [.GtE] [b] pos) (tOp (rI0 fun i j => .bl (decide (j ≤ i))) ta tb) (dBin gGe da db) := de_cmp op_ge os_ge ha hb (nomark _)
theorem dt_ge (ha : DE Hd X W a ta da) (hb : DE Hd X W b tb db) : DT X W (.Compare a [.GtE] [b] pos) (tTest (tOp (rI0 fun i j => .bl (decide (j ≤ i))) ta tb)) (dTst (dBin gGe da db)) := dt_cmp op_ge os_ge ha hb (nomark _)
theorem de_in {K : PySem.W.Frag} (hr : Room k X.A) (ha : DE Hd X W a ta da) (hb : DE Hd X W b tb db) (hm : behindInMarks .In b = false := by rfl) (hK : X.K = K := by rfl) : DE RA X W (.Compare a [.In] [b] pos) (tOp (rInS K) ta tb) (dBin gIn da db) := by subst hK; exact de_cmp (op_inS (hu65 hr)) os_in ha hb hm
theorem dt_in {K : PySem.W.Frag} (hr : Room k X.A) (ha : DE Hd X W a ta da) (hb : DE Hd X W b tb db) (hm : behindInMarks .In b = false := by rfl) (hK : X.K = K := by rfl) : DT X W (.Compare a [.In] [b] pos) (tTest (tOp (rInS K) ta tb)) (dTst (dBin gIn da db)) := by subst hK; exact dt_cmp (op_inS (hu65 hr)) os_in ha hb hm
theorem de_nin {K : PySem.W.Frag} (hr : Room k X.A) (ha : DE Hd X W a ta da) (hb : DE Hd X W b tb db) (hm : behindInMarks .NotIn b = false := by rfl) (hK : X.K = K := by rfl) : DE RA X W (.Compare a [.NotIn] [b] pos) (tOp (rNinS K) ta tb) (dBin gNin da db) := by subst hK; exact de_cmp (op_ninS (hu65 hr)) os_nin ha hb hm
theorem dt_nin {K : PySem.W.Frag} (hr : Room k X.A) (ha : DE Hd X W a ta da) (hb : DE Hd X W b tb db) (hm : behindInMarks .NotIn b = false := by rfl) (hK : X.K = K := by rfl) : DT X W (.Compare a [.NotIn] [b] pos) (tTest (tOp (rNinS K) ta tb)) (dTst (dBin gNin da db)) := by subst hK; exact dt_cmp (op_ninS (hu65 hr)) os_nin ha hb hm
theorem de_isN (ha : DE Hd X W a ta da) (hb : DE Hd X W b tb db) : DE RA X W (.Compare a [.Is] [b] pos) (tOp (fun x y H Q => y = .non ∧ Q (.bl (decide (x = .non))) H) ta tb) (dBin gIsN da db) := de_cmp op_isN os_isN ha hb (nomark _)
theorem dt_isN (ha : DE Hd X W a ta da) (hb : DE Hd X W b tb db) : DT X W (.Compare a [.Is] [b] pos) (tTest (tOp (fun x y H Q => y = .non ∧ Q (.bl (decide (x = .non))) H) ta tb)) (dTst (dBin gIsN da db)) := dt_cmp op_isN os_isN ha hb (nomark _)
theorem de_notN (ha : DE Hd X W a ta da) (hb : DE Hd X W b tb db) : DE RA X W (.Compare a [.IsNot] [b] pos) (tOp (fun x y H Q => y = .non ∧ Q (.bl (!decide (x = .non))) H) ta tb) (dBin gNotN da db) := de_cmp op_notN os_notN ha hb (nomark _)
theorem dt_notN (ha : DE Hd X W a ta da) (hb : DE Hd X W b tb db) : DT X W (.Compare a [.IsNot] [b] pos) (tTest (tOp (fun x y H Q => y = .non ∧ Q (.bl (!decide (x = .non))) H) ta tb)) (dTst (dBin gNotN da db)) := dt_cmp op_notN os_notN ha hb (nomark _)
theorem de_idx {K : PySem.W.Frag} (ha : DE Hd X W a ta da) (hb : DE Hd X W b tb db) (hp : PlainIx b := by exact fun _ _ => rfl) (hK : X.K = K := by rfl) : DE RA X W (.Subscript a b pos) (tOp (rIx K) ta tb) (dBin gIx da db) := by subst hK; exact de_ix ix_seq os_ix ha hb hp
theorem de_cut {K : PySem.W.Frag} {lo hi : Option Expr} {tl th : TO} {dl dh : PSl} {p2 : Pos} (he : DE Hd X W a ta da) (hl : DP X W lo tl dl) (hh : DP X W hi th dh) (hK : X.K = K := by rfl) : DE RA X W (.Subscript a (.Slice lo hi none p2) pos) (tSl (rSlS K) ta tl th) (dSl gSl da dl dh) := by subst hK; exact de_slice sl_S ss_sl he hl hh
theorem dc_len {K : PySem.W.Frag} (hg : Gl X "len") (hm : X.mg "len" = none) (ha : DA Hd X W (e :: es) tr dr) (he : starEach (e :: es) X.env = (false, eval e X.env) :: starEach es X.env := by rfl) (hpl : (backTo pos (starEach es X.env)).any (·.1) = false := by rfl) (hK : X.K = K := by rfl) : DE RA X W (.Call (.Name "len" p) (e :: es) [] pos) (tCB (rLenS K) tr) (dCB gLen dr) := by subst hK; exact de_callB call_lenS cs_len hg hm bt_len ha (by decide) (by decide) he hpl
theorem dc_int (hg : Gl X "int") (hm : X.mg "int" = none) (ha : DA Hd X W (e :: es) tr dr) (he : starEach (e :: es) X.env = (false, eval e X.env) :: starEach es X.env := by rfl) (hpl : (backTo pos (starEach es X.env)).any (·.1) = false := by rfl) : DE RA X W (.Call (.Name "int" p) (e :: es) [] pos) (tCB (fun xs H Q => (∃ i, xs = [.int i] ∧ Q (.int i) H) ∨ ∃ k, xs = [.bl k] ∧ Q (.int (if k then 1 else 0)) H) tr) (dCB gInt dr) := de_callTy call_int1 cs_int hg hm bt_int ha (by decide) (by decide) he hpl
theorem dc_tuple {K : PySem.W.Frag} (hg : Gl X "tuple") (hm : X.mg "tuple" = none) (ha : DA Hd X W (e :: es) tr dr) (he : starEach (e :: es) X.env = (false, eval e X.env) :: starEach es X.env := by rfl) (hpl : (backTo pos (starEach es X.env)).any (·.1) = false := by rfl) (hK : X.K = K := by rfl) : DE RA X W (.Call (.Name "tuple" p) (e :: es) [] pos) (tCB (fun xs H Q => ∃ p ys, xs = [.ref p] ∧ ((SqL K H p ys ∧ ∀ l, H l = none → Q (.ref l) (upd H l (.tup ys))) ∨ (SqT K H p ys ∧ Q (.ref p) H))) tr) (dCB gTuple dr) := by subst hK; exact de_callTy call_tuple_of cs_tuple hg hm bt_tuple ha (by decide) (by decide) he hpl
theorem dc_list {K : PySem.W.Frag} (hg : Gl X "list") (hm : X.mg "list" = none) (ha : DA Hd X W (e :: es) tr dr) (he : starEach (e :: es) X.env = (false, eval e X.env) :: starEach es X.env := by rfl) (hpl : (backTo pos (starEach es X.env)).any (·.1) = false := by rfl) (hK : X.K = K := by rfl) : DE RA X W (.Call (.Name "list" p) (e :: es) [] pos) (tCB (rListS K) tr) (dCB gList dr) := by subst hK; exact de_callTy call_list_of cs_list hg hm bt_list ha (by decide) (by decide) he hpl
theorem dc_max (hc : X.calm = true) (hg : Gl X "max") (hm : X.mg "max" = none) (ha : DA Hd X W (e :: es) tr dr) (he : starEach (e :: es) X.env = (false, eval e X.env) :: starEach es X.env := by rfl) (hpl : (backTo pos (starEach es X.env)).any (·.1) = false := by rfl) : DE RA X W (.Call (.Name "max" p) (e :: es) [] pos) (tCB (fun xs H Q => ∃ i j, xs = [.int i, .int j] ∧ Q (.int (if j > i then j else i)) H) tr) (dCB gMax dr) := de_callB (call_max2 hc) cs_max hg hm bt_max ha (by decide) (by decide) he hpl
theorem dc_min (hc : X.calm = true) (hg : Gl X "min") (hm : X.mg "min" = none) (ha : DA Hd X W (e :: es) tr dr) (he : starEach (e :: es) X.env = (false, eval e X.env) :: starEach es X.env := by rfl) (hpl : (backTo pos (starEach es X.env)).any (·.1) = false := by rfl) : DE RA X W (.Call (.Name "min" p) (e :: es) [] pos) (tCB (fun xs H Q => ∃ i j, xs = [.int i, .int j] ∧ Q (.int (if j < i then j else i)) H) tr) (dCB gMin dr) := de_callB (call_min2 hc) cs_min hg hm bt_min ha (by decide) (by decide) he hpl
theorem dc_isi {K : PySem.W.Frag} (hg : Gl X "isinstance") (hm : X.mg "isinstance" = none) (ha : DA Hd X W (e :: es) tr dr) (he : starEach (e :: es) X.env = (false, eval e X.env) :: starEach es X.env := by rfl) (hpl : (backTo pos (starEach es X.env)).any (·.1) = false := by rfl) (hK : X.K = K := by rfl) : DE RA X W (.Call (.Name "isinstance" p) (e :: es) [] pos) (tCB (rIsi K) tr) (dCB gIsi dr) := by subst hK; exact de_callB call_isi cs_isi hg hm bt_isinstance ha (by decide) (by decide) he hpl
theorem di_seqK {K : PySem.W.Frag} {tg : Expr} (h : DE RA X W e te da) (hK : X.K = K := by rfl) : DI X W tg e (iSeq K te) (dIt da) := by subst hK; exact di_seq h
theorem dg_tupK {K : PySem.W.Frag} {ts : List Expr} {q : Nat} {t : TGs} {is : List Nat} {r : Tgs} (hc : X.calm = true) (h : DGs X W ts t is r)
    (hn : (assignEach ts X.env).length = ts.length := by rfl) (hst : (assignEach ts X.env).findIdx? (·.1) = none := by rfl) (hK : X.K = K := by rfl) : DG X W (.Tuple ts q pos) (gTup K ts.length t) is (tgTup r) := by subst hK; exact dg_tup hc h hn hst
def dListL (d : AS) : LS := fun env Q E => d env (fun xs => gListL xs Q) E
theorem dl_listK {K : PySem.W.Frag} (hg : Gl X "list") (hm : X.mg "list" = none) (ha : DA Hd X W (e :: es) tr dr) (he : starEach (e :: es) X.env = (false, eval e X.env) :: starEach es X.env := by rfl) (hpl : (backTo pos (starEach es X.env)).any (·.1) = false := by rfl) (hK : X.K = K := by rfl) :
    DL X W (.Call (.Name "list" p) (e :: es) [] pos) (tCB (rListS K) tr) (dListL dr) := by subst hK; exact dl_list hg hm bt_list ha (by decide) (by decide) he hpl
theorem de_callK {K : PySem.W.Frag} {mg : Str → Option Value} {n : Nat} {name : Str} {psp : PSp} (F : Fn X.prog X.w X.K X.mg X.base k name n psp) (hr : Room k X.A) (hg : Gl X name) (tk : Takes X W) (ha : DA RA X W (e :: es) tr dr) (hl : (e :: es).length = n := by rfl)
    (hdb : (name == ("__debug__" : Str)) = false := by decide) (he : starEach (e :: es) X.env = (false, eval e X.env) :: starEach es X.env := by rfl) (hpl : (backTo pos (starEach es X.env)).any (·.1) = false := by rfl) (hK : X.K = K := by rfl) (hM : X.mg = mg := by rfl) :
    DE RA X W (.Call (.Name name p) (e :: es) [] pos) (tCallSD (spP ⟨K, mg⟩ n psp) [] (fun σ => WE W σ) tr) (dCall psp dr) := by subst hK; subst hM; exact de_call F hr hg tk ha hl hdb he hpl
end
end DL

/-! DL9: defs that are run where no repr is under way (G); the law's call; repr; sorted. -/
namespace DL
open PySem L2 PyProof.Rows
/-- as FnOk, for a call where no guard is under way -/
structure FnG (P : Program) (w : World) (K : PySem.W.Frag) (mg : Str → Option Value) (base : Heap) (CX : CXT) (k : Nat) (f : Addr) (fd : FuncData) (ps : List Str) (sp : Sp) : Prop where
  lenG : ∀ vs H Q E, sp vs H Q E → vs.length = ps.length
  runG : ∀ (A : Around) (outer : List Env) (s : Shared) (H : Hp) (args : Args) (us : List Value) (vs : List V) (Q : VK) (E : XK), Room k A → A.guards = some [] → Env0 P w K mg base A outer s H → BindsTo s fd args (ps.zip us) → Vals vs us → sp vs H Q E →
    codeAny (model P w) A (.call (.ref f) args) (CR CX outer P w H s Q E) s
theorem guards_deeper {A : Around} {env : Env} (h : A.guards = some []) : (A.deeper env).guards = some [] := h
section
variable {P : Program} {w : World} {K : PySem.W.Frag} {mg : Str → Option Value} {base : Heap} {x qual : Str} {params : Arguments} {body : List Stmt} {scope : Scope} {f : Addr} {fd : FuncData} {CX : CXT}
theorem fnG_of {N ps : List Str} {k : Nat} {sp : Sp} (F : FunD K x qual params body scope [] [] f fd) (sc : FnScope N ps scope) (len : ∀ vs H Q E, sp vs H Q E → vs.length = ps.length)
    (hbody : ∀ (cdv : Value) (A : Around) (outer : List Env) (s : Shared) (H : Hp) (vs : List V) (Q : VK) (E : XK), Room k (A.deeper (envOfC qual scope s.heap.objs.size f cdv)) → A.guards = some [] → sp vs H Q E →
      ∃ t, PSs (cxOf CX P w K mg base N qual scope f cdv A outer s H E) body t ∧ t { nx := fun _ H' => Q .non H', rt := Q } (L2.start N vs) H) : FnG P w K mg base CX (k + 1) f fd ps sp := by
  obtain ⟨oc, od, dV, kV, doc, pm, an, cdv, ct, osl, rfl, lk, hcd, _, _⟩ := F.ex
  constructor
  · exact len
  · intro A outer s H args us vs Q E room hG env bnd rv hsp
    have hlen := len vs H Q E hsp
    have inS : K.In s.heap := env.mod.kin.keeps fun b o e => (env.bs b o e).1
    have par : ∀ y ∈ ps.zip us, scope.names.lookup y.1 = some .local ∨ (scope.names.lookup y.1 = some .cell ∧ ((cellsFrom (s.heap.objs.size + 1) scope.names []).lookup y.1).isSome = true) := by
      intro y hy
      rcases sc.par y.1 (List.of_mem_zip (a := y.1) (b := y.2) hy).1 with q | q
      · exact Or.inl q
      · exact Or.inr ⟨q, PySem.W.cellsFrom_some _ _ _ (Or.inl q)⟩
    apply codeAny_call_function room.depth (inS _ _ lk) rfl sc.co sc.gen rfl (PySem.W.codeRec_of inS hcd) (bnd _ _ _ _ _)
    apply wpAny_newFunctionEnv_cells sc.kind par
    rintro e rfl s1 z
    refine ⟨(env.mod.nolimit.keeps fun b o e => (env.bs b o e).1).keeps z.toInCall.keep, codeAny_func ?_⟩
    obtain ⟨t, h1, h2⟩ := hbody cdv A outer s H vs Q E (room.deeper _) hG hsp
    have J0 := inv_start (CX := CX) (qual := qual) (f := f) (cd := cdv) (E := E) sc room.hd env hlen rv z
    refine wpAny_mono (h1.run [] s1 _ H _ J0 h2) ?_ (fun e s' q => q)
    intro fl s' hs
    cases fl with
    | brk => obtain ⟨_, _, _, q⟩ := hs; exact q.elim
    | cont => obtain ⟨_, _, _, q⟩ := hs; exact q.elim
    | next =>
      obtain ⟨σ', H', J, q⟩ := hs
      exact ⟨V.non, H', J.os, J.bare, J.base, J.hok, rfl, q⟩
    | ret u =>
      obtain ⟨v, σ', H', J, r', q⟩ := hs
      exact ⟨v, H', J.os, J.bare, J.base, J.hok, r', q⟩
end

/-! ### the law's call -/
section
variable {P : Program} {w : World} {K : PySem.W.Frag} {mg mb : Str → Option Value} {k : Nat} {fa a : Addr} {fd : FuncData} {x : Str} {sp : Sp} {t : Shared} {vs : List Value} {ns : List Int}
theorem callG (KX : K.In t.heap) (gl : t.heap.Ns mainGlobals mg) (bl : t.heap.Ns builtinsNs mb) (blb : ∀ x : Str, x ≠ "__name__" → mb x = bootBuiltins x) (lim : t.heap.NoLimit) (hg : t.gens = #[])
    (ha : t.heap.get? a = some { cls := .type "list", data := .seq vs.toArray }) (hi : IntsAre vs ns) (hl : ns.length ≤ sizeLine) (hr : Room k callerA) {CX : CXT}
    (F : ∀ base : Heap, K.In base → base.Ns mainGlobals mg → FnG P w K mg base CX k fa fd [x] sp) (bind : ∀ (s : Shared) (u : Value), BindsTo s fd ⟨[u], []⟩ [(x, u)])
    (hsp : ∀ H : Hp, SqL K H a (ns.map V.int) → sp [.ref a] H (fun v _ => v = .bl true) fun _ _ _ => False) (hCX : ∀ H e s', CX [] H t (fun _ _ _ => False) e s' → False) :
    codeAny (model P w) callerA (.call (.ref fa) ⟨[.ref a], []⟩) (fun r s' => r = .ok (.ret (.bool true)) ∧ OldK t.heap s'.heap ∧ s'.os = t.os ∧ AllBare s'.gens) t := by
  have rv := vals_ints hi
  have ln := hi.length
  -- the abstract heap tracks the script at most: what it tracks stands at a and is frozen
  have main : ∀ H : Hp, (∀ b u, H b = some u → b = a ∧ u = .frz { cls := .type "list", data := .seq vs.toArray } (.lst (ns.map V.int)) ∧ K.lookup a = none) → SqL K H a (ns.map V.int) → HOk P w H t.heap →
      codeAny (model P w) callerA (.call (.ref fa) ⟨[.ref a], []⟩) (fun r s' => r = .ok (.ret (.bool true)) ∧ OldK t.heap s'.heap ∧ s'.os = t.os ∧ AllBare s'.gens) t := by
    intro H only hS hok
    have free : ∀ {b : Addr} {o : Obj}, t.heap.get? b = some o → (∀ es ep, o.data = .dict es ep → H b = none) := by
      intro b o e es ep d
      cases q : H b with
      | none => rfl
      | some u =>
        obtain ⟨rfl, _⟩ := only b u q
        rw [ha] at e
        cases e
        cases (show Data.seq vs.toArray _ = Data.dict es ep from d)
    have nsB : ∀ {b : Addr} {m : Str → Option Value}, t.heap.Ns b m → (hidT t.heap H).Ns b m := by
      rintro b m ⟨o, es, ep, e, d, r⟩
      exact ⟨o, es, ep, hidT_get e (free e es ep d), d, r⟩
    have kin : K.In (hidT t.heap H) := by
      intro b o e
      refine hidT_get (KX b o e) ?_
      cases q : H b with
      | none => rfl
      | some u =>
        obtain ⟨rfl, _, n⟩ := only b u q
        rw [n] at e
        cases e
    obtain ⟨mc, l1, l2⟩ := lim
    have env : Env0 P w K mg (hidT t.heap H) callerA [] t H :=
      ⟨rfl, ⟨kin, nsB gl, ⟨mb, nsB bl, blb⟩, ⟨mc, nsB l1, l2⟩⟩, fun b o e => of_hidT e, Nat.le_of_eq (hidT_size _ _), trivial, fun b hb => (List.not_mem_nil (show b ∈ ([] : List Addr) from hb)).elim, hok, .of_eq hg⟩
    refine codeAny_mono ((F _ kin (nsB gl)).runG callerA [] t H ⟨[.ref a], []⟩ [.ref a] [.ref a] _ _ hr rfl env (bind t (.ref a)) (.cons rfl .nil) (hsp H hS)) ?_
    intro r s' h
    match r, h with
    | .error e, h => exact (hCX H e s' h).elim
    | .ok .next, h => exact h.elim
    | .ok .brk, h => exact h.elim
    | .ok .cont, h => exact h.elim
    | .ok (.ret u), h =>
      obtain ⟨v, H', os, bare, un, hok', r', q⟩ := h
      obtain rfl : v = .bl true := q
      obtain rfl : u = Value.bool true := r'
      refine ⟨rfl, OldK.of_keep fun b o e => ?_, os, bare⟩
      cases q : H b with
      | none => exact un.keep b o e q (fun z => List.not_mem_nil (show b ∈ ([] : List Addr) from z)) List.not_mem_nil
      | some u =>
        obtain ⟨rfl, rfl, _⟩ := only b u q
        obtain ⟨e1, _⟩ := hok b _ q
        obtain ⟨e2, _⟩ := hok' b _ (un.frzs b _ _ q)
        rw [e] at e1
        cases e1
        exact e2
  cases hk : K.lookup a with
  | some o =>
    have e := KX a o hk
    rw [ha] at e
    cases e
    refine main (fun _ => none) (fun b u z => nomatch z) (Or.inr ⟨_, vs.toArray, _, hk, rfl, rfl, rfl, ?_, by simpa using rv⟩) fun b u z => nomatch z
    rw [List.size_toArray, ln]
    exact hl
  | none =>
    refine main (fun b => if b = a then some (.frz { cls := .type "list", data := .seq vs.toArray } (.lst (ns.map V.int))) else none) (fun b u z => ?_) (Or.inl (Or.inr ⟨_, if_pos rfl⟩)) fun b u z => ?_
    · by_cases hb : b = a
      · rw [if_pos hb] at z
        cases z
        exact ⟨hb, rfl, hk⟩
      · rw [if_neg hb] at z
        cases z
    · dsimp only at z
      by_cases hb : b = a
      · rw [if_pos hb] at z
        cases z
        subst hb
        exact ⟨ha, by rw [List.length_map]; exact hl, vs, _, rv, ha⟩
      · rw [if_neg hb] at z
        cases z
end
theorem walkG {l : PySem.W.OpenLaw} {n k : Nat} {q : Program} {loose : List Str} {XP : (Str → Option Value) → Heap → Prop} {YP : World → Heap → Prop} {d : DefRec} {x : Str} {CX : World → CXT}
    (hn : l.most = some n) (hn2 : n ≤ sizeLine) (hdf : d.params.defaults = []) (hr : Room k callerA)
    (F : ∀ (w : World) (mg : Str → Option Value) (fa : Addr) (h : Heap), YP w h → h.Ns mainGlobals mg → mg d.name = some (.ref fa) →
      ∃ (K : PySem.W.Frag) (fd : FuncData) (sp : Sp), K.In h ∧ (∀ (s : Shared) (u : Value), BindsTo s fd ⟨[u], []⟩ [(x, u)]) ∧
        (∀ (H : Hp) (a : Addr) (ns : List Int), ns.length ≤ n → SqL K H a (ns.map V.int) → sp [.ref a] H (fun v _ => v = .bl true) fun _ _ _ => False) ∧
        ∀ base : Heap, K.In base → base.Ns mainGlobals mg → FnG l.prog w K mg base (CX w) k fa fd [x] sp)
    (hCX : ∀ (w : World) (H : Hp) (s : Shared) (e : Value) (s' : Shared), CX w [] H s (fun _ _ _ => False) e s' → False) :
    PySem.W.WalkO q loose XP YP l.row.toRowW d [] (fun f vs => PySem.call f vs) := by
  refine Att.attach_call hn hdf fun w s₀ s₁ mg mb fa o pm cd doc a vs ns G Y ho hd hcd hmg hobj hints hlen hg => ?_
  obtain ⟨K, fd, sp, KX, hb, hsp, hF⟩ := F w mg fa _ Y G.T.g hmg
  exact callG KX G.T.g G.T.b G.T.builtins G.T.nolimit hg hobj hints (Nat.le_trans hlen hn2) hr hF hb (fun H hS => hsp H a ns hlen hS) fun H e s' => hCX w H s₁ e s'

/-! ### repr -/
section
variable {X : Cx} {W : WX} {pos p : Pos} {e : Expr} {es : List Expr} {tr : TA} {dr : AS}
def rReprD (K : PySem.W.Frag) : List V → Hp → VK → Prop := fun xs H Q => ∃ (a : Addr) (d : PyData), xs = [.ref a] ∧ Dp K H (.ref a) d ∧ d.showable = true ∧ d.hasDict = false ∧ d.depth ≤ 60 ∧ d.shown.length ≤ sizeLine ∧ Q (.str d.shown) H
theorem call_reprD (hG : X.A.guards = some []) (hu : X.A.units + 64 < cLine) : CallR X (.builtin "repr") (rReprD X.K) := by
  intro pins s σ H xs us Q I r h
  obtain ⟨a, d, rfl, hd, h1, h2, h3, h4, q⟩ := h
  obtain ⟨u, rfl, ru⟩ := vals1 r
  obtain rfl : u = Value.ref a := ru
  obtain ⟨as, rd⟩ := Dp.reads I d _ _ hd rfl
  refine repr_of_reads' rd h1 (PyData.noDict_hsm h2) hG (by omega) (fun _ _ e => e) (fun h' u tk hk => ?_) h4
  exact ⟨.str _, H, I.kept hk, ⟨_, rfl⟩, q⟩
def gRepr : GC
  | [.lst xs], Q => (D.lst xs).ok = true ∧ (D.lst xs).py.showable = true ∧ (D.lst xs).py.depth ≤ 60 ∧ (D.lst xs).py.shown.length ≤ 16000000 ∧ Q (.str (D.lst xs).py.shown)
  | [.tup xs], Q => (D.tup xs).ok = true ∧ (D.tup xs).py.showable = true ∧ (D.tup xs).py.depth ≤ 60 ∧ (D.tup xs).py.shown.length ≤ 16000000 ∧ Q (.str (D.tup xs).py.shown)
  | _, _ => False
theorem cs_repr {G : Gx} : CallS G (rReprD G.K) gRepr := by
  intro S H xs vs Q QV es hx hg k
  unfold gRepr at hg
  split at hg
  · obtain ⟨v, rfl, hv⟩ := rl1 hx
    obtain ⟨h0, h1, h2, h3, q⟩ := hg
    have dp := dp_of (Hd.at es hv) (D.ok_lay h0)
    obtain ⟨a, ws, rfl, _⟩ := hv
    exact ⟨a, _, rfl, dp, h1, PyData.hasDict_of_canLay _ (D.ok_lay h0), h2, sz16 h3, k S H (.str _) _ (.refl es) rfl q⟩
  · obtain ⟨v, rfl, hv⟩ := rl1 hx
    obtain ⟨h0, h1, h2, h3, q⟩ := hg
    have dp := dp_of (Hd.at es hv) (D.ok_lay h0)
    obtain ⟨a, ws, rfl, _⟩ := hv
    exact ⟨a, _, rfl, dp, h1, PyData.hasDict_of_canLay _ (D.ok_lay h0), h2, sz16 h3, k S H (.str _) _ (.refl es) rfl q⟩
  · exact hg.elim
theorem dc_repr {K : PySem.W.Frag} (hG : X.A.guards = some []) (hu : X.A.units + 64 < cLine) (hg : Gl X "repr") (hm : X.mg "repr" = none) (ha : DA Hd X W (e :: es) tr dr) (he : starEach (e :: es) X.env = (false, eval e X.env) :: starEach es X.env := by rfl) (hpl : (backTo pos (starEach es X.env)).any (·.1) = false := by rfl) (hK : X.K = K := by rfl) :
    DE RA X W (.Call (.Name "repr" p) (e :: es) [] pos) (tCB (rReprD K) tr) (dCB gRepr dr) := by subst hK; exact de_callB (call_reprD hG hu) cs_repr hg hm bt_repr ha (by decide) (by decide) he hpl

/-! ### sorted: ints, pairs of ints -/
def prD2 (p : Int × Int) : D := .tup [.int p.1, .int p.2]
def lexLe (p q : Int × Int) : Prop := p.1 < q.1 ∨ (p.1 = q.1 ∧ p.2 ≤ q.2)
def gSorted : GC
  | [.lst xs], Q => (∃ ns : List Int, xs = ns.map .int ∧ ∀ ms : List Int, ms.Perm ns → ms.Pairwise (· ≤ ·) → Q (.lst (ms.map .int))) ∨
      ∃ ps : List (Int × Int), xs = ps.map prD2 ∧ ∀ qs : List (Int × Int), qs.Perm ps → qs.Pairwise lexLe → Q (.lst (qs.map prD2))
  | _, _ => False
abbrev rSortS (K : PySem.W.Frag) : List V → Hp → VK → Prop := fun vs H Q => rSortedI K vs H Q ∨ rSortedPO K vs H Q
def kOf (S : Hp) : V → Int × Int
  | .ref t => match S t with
    | some (.tup [.int a, .int b]) => (a, b)
    | _ => (0, 0)
  | _ => (0, 0)
theorem prs_at {G : Gx} {S : Hp} : ∀ {ps : List (Int × Int)} {vs : List V}, AtL G S (ps.map prD2) vs → vs.map (kOf S) = ps ∧ ∀ v ∈ vs, ∃ t, v = .ref t ∧ S t = some (.tup [.int (kOf S v).1, .int (kOf S v).2])
  | [], _, h => by
    rw [show _ = _ from h]
    exact ⟨rfl, fun v hv => nomatch hv⟩
  | p :: ps, _, h => by
    obtain ⟨v, r, rfl, a, b⟩ := h
    obtain ⟨t, ws, rfl, e2, e3⟩ := a
    obtain ⟨v1, r1, rfl, a1, v2, r2, rfl, a2, a3⟩ := e3
    rw [show v1 = _ from a1, show v2 = _ from a2, show r2 = _ from a3] at e2
    have ek : kOf S (.ref t) = p := by
      unfold kOf
      simp only [e2]
    obtain ⟨h1, h2⟩ := prs_at b
    refine ⟨by rw [List.map_cons, ek, h1], fun v hv => ?_⟩
    rcases List.mem_cons.mp hv with rfl | hv
    · rw [ek]
      exact ⟨t, rfl, e2⟩
    · exact h2 v hv
theorem at_prs {G : Gx} {S : Hp} : ∀ {vs : List V}, (∀ v ∈ vs, ∃ t, v = .ref t ∧ S t = some (.tup [.int (kOf S v).1, .int (kOf S v).2])) → AtL G S ((vs.map (kOf S)).map prD2) vs
  | [], _ => rfl
  | v :: vs, h => by
    obtain ⟨t, e, e2⟩ := h v List.mem_cons_self
    refine ⟨v, vs, rfl, ?_, at_prs fun u hu => h u (List.mem_cons_of_mem _ hu)⟩
    exact ⟨t, _, e, e2, _, _, rfl, rfl, _, _, rfl, rfl, rfl⟩
theorem cs_sorted {G : Gx} : CallS G (rSortS G.K) gSorted := by
  intro S H xs vs Q QV es hx hg k
  unfold gSorted at hg
  split at hg
  · obtain ⟨v, rfl, a, ws, rfl, e2, e3⟩ := rl1 hx
    rcases hg with ⟨ns, rfl, q⟩ | ⟨ps, rfl, q⟩
    · rw [e3.ints] at e2
      refine .inl ⟨a, ns, rfl, SqL.of e2, fun ms p pm so hp => ?_⟩
      have g1 : Gr S H _ _ := Gr.new (p := p) (o := .lst (ms.map .int)) es hp
      exact k _ _ (.lst _) _ g1 ⟨p, _, rfl, upd_same, AtL.of_ints⟩ (q ms pm so)
    · obtain ⟨h1, h2⟩ := prs_at e3
      refine .inr ⟨a, ws, kOf S, rfl, SqL.of e2, fun v hv => ?_, fun ys p so st hp => ?_⟩
      · obtain ⟨t, e, e'⟩ := h2 v hv
        exact ⟨t, e, es t _ e'⟩
      · have g1 : Gr S H _ _ := Gr.new (p := p) (o := .lst ys) es hp
        have h3 : ∀ v ∈ ys, ∃ t, v = .ref t ∧ S t = some (.tup [.int (kOf S v).1, .int (kOf S v).2]) := fun v hv => h2 v (st.perm.mem_iff.mp hv)
        refine k _ _ (.lst ((ys.map (kOf S)).map prD2)) _ g1 ⟨p, ys, rfl, upd_same, (at_prs h3).mono g1.s⟩ (q _ ?_ ?_)
        · rw [← h1]
          exact st.perm.map _
        · refine List.pairwise_map.mpr (so.imp fun {x y} h => ?_)
          have := SrtO.lexB_no.mp h
          unfold lexLe
          omega
  · exact hg.elim
theorem dc_sorted {K : PySem.W.Frag} (hg : Gl X "sorted") (hm : X.mg "sorted" = none) (ha : DA Hd X W (e :: es) tr dr) (he : starEach (e :: es) X.env = (false, eval e X.env) :: starEach es X.env := by rfl) (hpl : (backTo pos (starEach es X.env)).any (·.1) = false := by rfl) (hK : X.K = K := by rfl) :
    DE RA X W (.Call (.Name "sorted" p) (e :: es) [] pos) (tCB (rSortS K) tr) (dCB gSorted dr) := by subst hK; exact de_callB (cr_sortedI.or cr_sortedPO) cs_sorted hg hm bt_sorted ha (by decide) (by decide) he hpl
end
end DL

/-! DL10: running a reading on plain data by rewriting. -/
namespace DL
open PySem L2
section
variable {env : Sl} {Q : D → Prop} {E : DExc → Prop} {QB : Bool → Prop} {QL : List D → Prop} {QO : Option Int → Prop} {Z : DEnd} {o : Option O}
/-! ### slots -/
theorem gt_0 : gt (o :: env) 0 = o := rfl
theorem gt_s {i : Nat} : gt (o :: env) (i + 1) = gt env i := rfl
theorem pt_0 {a : Option O} : pt (a :: env) 0 o = o :: env := rfl
theorem pt_s {a : Option O} {i : Nat} : pt (a :: env) (i + 1) o = a :: pt env i o := rfl
def gv (o : Option O) (Q : D → Prop) : Prop := match o with
  | some (.fz x) => Q x
  | _ => False
theorem gv_fz {x : D} : gv (some (.fz x)) Q = Q x := rfl
theorem x_var {i : Nat} : dVar i env Q E = gv (gt env i) Q := rfl
def go (o : Option O) (Q : D → Prop) : Prop := match o with
  | some (.fz x) => Q x
  | some (.lst xs) => Q (.lst xs)
  | some (.dk ks xs) => Q (.dk ks xs)
  | some (.dt ks xs) => Q (.dt ks xs)
  | some (.obj c fs xs) => Q (.obj c fs xs)
  | _ => False
theorem go_fz {x : D} : go (some (.fz x)) Q = Q x := rfl
theorem go_lst {x : List D} : go (some (.lst x)) Q = Q (.lst x) := rfl
theorem x_own {i : Nat} : dOwn i env Q E = go (gt env i) Q := rfl
theorem x_c {x : D} : dC x env Q E = Q x := rfl
theorem x_bin {g : G2} {a b : ES} : dBin g a b env Q E = a env (fun x => b env (fun y => g x y Q) E) E := rfl
theorem x_tst {d : ES} : dTst d env QB E = d env (fun x => asB x QB) E := rfl
theorem asB_bl {b : Bool} : asB (.bl b) QB = QB b := rfl
theorem x_chain {g g' : G2} {a b c : ES} : dChain g g' a b c env Q E = a env (fun x => b env (fun y => g x y fun z => asB z fun k => if k = true then c env (fun u => g' y u Q) E else Q (.bl false)) E) E := rfl
theorem x_and {p q : BS} : dAnd p q env QB E = p env (fun c => if c = true then q env QB E else QB false) E := rfl
theorem x_or {p q : BS} : dOr p q env QB E = p env (fun c => if c = true then QB true else q env QB E) E := rfl
theorem x_not {p : BS} : dNot p env QB E = p env (fun c => QB (!c)) E := rfl
theorem x_andV {a b : ES} : dAndV a b env Q E = a env (fun x => asB x fun c => if c = true then b env Q E else Q (.bl false)) E := rfl
theorem x_orV {a b : ES} : dOrV a b env Q E = a env (fun x => asB x fun c => if c = true then Q (.bl true) else b env Q E) E := rfl
theorem x_notV {a : ES} : dNotV a env Q E = a env (fun x => asB x fun c => Q (.bl (!c))) E := rfl
theorem x_if {p : BS} {a b : ES} : dIf p a b env Q E = p env (fun c => if c = true then a env Q E else b env Q E) E := rfl
theorem x_nil : dNil env QL E = QL [] := rfl
theorem x_cons {a : ES} {r : AS} : dCons a r env QL E = a env (fun x => r env (fun xs => QL (x :: xs)) E) E := rfl
theorem x_tup {r : AS} : dTup r env Q E = r env (fun xs => Q (.tup xs)) E := rfl
theorem x_cb {g : GC} {r : AS} : dCB g r env Q E = r env (fun xs => g xs Q) E := rfl
theorem x_call {p : PSp} {r : AS} : dCall p r env Q E = r env (fun xs => p xs Q E) E := rfl
theorem x_noPart : dNoPart env QO E = QO none := rfl
theorem x_part {d : ES} : dPart d env QO E = d env (fun x => asI x fun i => QO (some i)) E := rfl
theorem asI_int {i : Int} {Q : Int → Prop} : asI (.int i) Q = Q i := rfl
theorem x_sl {g : GS} {d : ES} {l h : PSl} : dSl g d l h env Q E = d env (fun x => l env (fun lo => h env (fun hi => g x lo hi Q) E) E) E := rfl
theorem x_neg {d : ES} : dNeg d env Q E = d env (fun x => asI x fun i => Q (.int (-i))) E := rfl
theorem x_lstV {d : LS} : dLstV d env Q E = d env (fun xs => Q (.lst xs)) E := rfl
theorem x_listL {r : AS} : dListL r env QL E = r env (fun xs => gListL xs QL) E := rfl
theorem x_it {d : ES} : dIt d env QL E = d env (fun x => asL x QL) E := rfl
theorem x_rng1 {d : AS} : dRng1 d env QL E = d env (fun xs => ints1 xs fun j => -(2 ^ 62) ≤ j ∧ j < 2 ^ 62 ∧ QL (rng 0 j.toNat)) E := rfl
theorem x_rng2 {d : AS} : dRng2 d env QL E = d env (fun xs => ints2 xs fun i j => (-(2 ^ 62) ≤ i ∧ i < 2 ^ 62 ∧ -(2 ^ 62) ≤ j ∧ j < 2 ^ 62) ∧ QL (rng i (j - i).toNat)) E := rfl
theorem ints1_int {i : Int} {Q : Int → Prop} : ints1 [.int i] Q = Q i := rfl
theorem ints2_int {i j : Int} {Q : Int → Int → Prop} : ints2 [.int i, .int j] Q = Q i j := rfl
theorem asL_lst {xs : List D} : asL (.lst xs) QL = QL xs := rfl
theorem asL_tup {xs : List D} : asL (.tup xs) QL = QL xs := rfl
theorem asL_scr {ns : List Int} : asL (.scr ns) QL = QL (ns.map .int) := rfl
theorem x_comp {vs : List Nat} {di : IS} {f : Tgt} {c : BS} {e : ES} : dComp vs di f c e env QL E = di env (fun items => items.length ≤ 16000000 ∧ compGo f c e (wip env vs) items [] QL) E := rfl
theorem x_yes : dYes env QB E = QB true := rfl
theorem wip_nil : wip env [] = env := rfl
theorem wip_cons {i : Nat} {r : List Nat} : wip env (i :: r) = pt (wip env r) i none := rfl
/-! ### statements -/
theorem x_next : sNext Z env = Z.nx env := rfl
theorem x_seq {a b : SS} : sSeq a b Z env = a { Z with nx := b Z } env := rfl
theorem x_brk : sBrk Z env = Z.bk env := rfl
theorem x_cont : sCont Z env = Z.ct env := rfl
theorem x_expr {d : ES} : sExpr d Z env = d env (fun _ => Z.nx env) (fun x => Z.ex x env) := rfl
theorem x_ret {d : ES} : sRet d Z env = d env (fun x => Z.rt (.fz x) env) (fun x => Z.ex x env) := rfl
theorem x_retN : sRetN Z env = Z.rt (.fz .non) env := rfl
theorem x_sif {p : BS} {a b : SS} : sIf p a b Z env = p env (fun k => if k = true then a Z env else b Z env) (fun x => Z.ex x env) := rfl
theorem x_set {i : Nat} {d : ES} : sSet i d Z env = d env (fun x => Z.nx (pt env i (some (.fz x)))) (fun x => Z.ex x env) := rfl
theorem x_setO {i : Nat} {d : LS} : sSetO i d Z env = d env (fun xs => Z.nx (pt env i (some (.lst xs)))) (fun x => Z.ex x env) := rfl
def tgK (o : Option (List (Nat × D))) (k : List (Nat × D) → Prop) : Prop := match o with
  | some as => k as
  | none => False
theorem tgK_some {as : List (Nat × D)} {k : List (Nat × D) → Prop} : tgK (some as) k = k as := rfl
theorem x_asg {f : Tgt} {d : ES} : sAsg f d Z env = d env (fun x => tgK (f x) fun as => Z.nx (pts env as)) (fun x => Z.ex x env) := rfl
theorem x_tgN {i : Nat} {x : D} : tgN i x = some [(i, x)] := rfl
theorem x_tgTup {r : Tgs} {xs : List D} : tgTup r (.tup xs) = r xs := rfl
theorem x_tgNil : tgNil [] = some [] := rfl
theorem x_tgConsN {i : Nat} {r : Tgs} {x : D} {xs : List D} : tgCons (tgN i) r (x :: xs) = (r xs).map fun bs => (i, x) :: bs := rfl
theorem map_some {α β : Type} {f : α → β} {x : α} : (some x).map f = some (f x) := rfl
theorem pts_nil : pts env [] = env := rfl
theorem pts_cons {i : Nat} {x : D} {r : List (Nat × D)} : pts env ((i, x) :: r) = pts (pt env i (some (.fz x))) r := rfl
def gl (o : Option O) (k : List D → Prop) : Prop := match o with
  | some (.lst xs) => k xs
  | _ => False
theorem gl_lst {xs : List D} : gl (some (.lst xs)) QL = QL xs := rfl
theorem x_app {i : Nat} {d : ES} : sApp i d Z env = gl (gt env i) fun xs => d env (fun y => xs.length < 16000000 ∧ Z.nx (pt env i (some (.lst (xs ++ [y]))))) (fun x => Z.ex x env) := rfl
theorem x_putIx {i : Nat} {d k : ES} : sPutIx i d k Z env = gl (gt env i) fun xs => d env (fun y => k env (fun kk => asI kk fun k => match ixN xs.length k with
    | some j => Z.nx (pt env i (some (.lst (xs.set j y))))
    | none => False) (fun x => Z.ex x env)) (fun x => Z.ex x env) := rfl
def gf (o : Option O) (k : D → Prop) (same : Prop) : Prop := match o with
  | some (.lst xs) => k (.lst xs)
  | some (.fz x) => same
  | _ => False
theorem gf_lst {xs : List D} {k : D → Prop} {s : Prop} : gf (some (.lst xs)) k s = k (.lst xs) := rfl
theorem gf_fz {x : D} {k : D → Prop} {s : Prop} : gf (some (.fz x)) k s = s := rfl
theorem x_fz {i : Nat} {d : SS} : sFz i d Z env = gf (gt env i) (fun x => d Z (pt env i (some (.fz x)))) (d Z env) := by
  unfold sFz gf
  cases gt env i with
  | none => rfl
  | some o => cases o <;> rfl
theorem x_for {di : IS} {f : Tgt} {b : SS} : sFor di f b Z env = di env (fun items => forGo f b Z items env) (fun x => Z.ex x env) := rfl
theorem forGo_nil {f : Tgt} {b : SS} : forGo f b Z [] env = Z.nx env := rfl
theorem forGo_cons {f : Tgt} {b : SS} {x : D} {xs : List D} : forGo f b Z (x :: xs) env = tgK (f x) fun as => b { Z with nx := forGo f b Z xs, ct := forGo f b Z xs, bk := Z.nx } (pts env as) := rfl
theorem compGo_nil {f : Tgt} {c : BS} {e : ES} {acc : List D} : compGo f c e env [] acc QL = QL acc := rfl
theorem compGo_cons {f : Tgt} {c : BS} {e : ES} {acc : List D} {x : D} {xs : List D} : compGo f c e env (x :: xs) acc QL = tgK (f x) fun as => c (pts env as) (fun b => if b = true then e (pts env as) (fun y => compGo f c e env xs (acc ++ [y]) QL) (fun _ => False) else compGo f c e env xs acc QL) (fun _ => False) := rfl
theorem x_end_nx {QE : DExc → Prop} : (dEnd Q QE).nx env = Q .non := rfl
theorem x_end_rt {QE : DExc → Prop} {x : D} : (dEnd Q QE).rt (.fz x) env = Q x := rfl
/-! ### values -/
theorem g_eqS {a b : Str} : gEq (.str a) (.str b) Q = Q (.bl (decide (a = b))) := rfl
theorem g_eqI {a b : Int} : gEq (.int a) (.int b) Q = Q (.bl (decide (a = b))) := rfl
theorem g_neS {a b : Str} : gNe (.str a) (.str b) Q = Q (.bl (!decide (a = b))) := rfl
theorem g_neI {a b : Int} : gNe (.int a) (.int b) Q = Q (.bl (!decide (a = b))) := rfl
theorem g_lt {a b : Int} : gLt (.int a) (.int b) Q = Q (.bl (decide (a < b))) := rfl
theorem g_le {a b : Int} : gLe (.int a) (.int b) Q = Q (.bl (decide (a ≤ b))) := rfl
theorem g_gt {a b : Int} : gGt (.int a) (.int b) Q = Q (.bl (decide (b < a))) := rfl
theorem g_ge {a b : Int} : gGe (.int a) (.int b) Q = Q (.bl (decide (b ≤ a))) := rfl
theorem g_add {a b : Int} : gAdd (.int a) (.int b) Q = Q (.int (a + b)) := rfl
theorem g_addL {a b : List D} : gAdd (.lst a) (.lst b) Q = (a.length + b.length ≤ 16000000 ∧ Q (.lst (a ++ b))) := rfl
theorem g_addT {a b : List D} : gAdd (.tup a) (.tup b) Q = (a.length + b.length ≤ 16000000 ∧ Q (.tup (a ++ b))) := rfl
theorem g_sub {a b : Int} : DL.gSub (.int a) (.int b) Q = Q (.int (a - b)) := rfl
theorem g_mul {a b : Int} : gMul (.int a) (.int b) Q = ((CMul a b ∨ CMulW a b) ∧ Q (.int (a * b))) := rfl
theorem g_mulL {xs : List D} {k : Int} : gMul (.lst xs) (.int k) Q = (0 ≤ k ∧ k ≤ 16000000 ∧ xs.length * k.toNat ≤ 16000000 ∧ Q (.lst (List.replicate k.toNat xs).flatten)) := rfl
theorem g_mod {a b : Int} : gMod (.int a) (.int b) Q = (0 < b ∧ Q (.int (a % b))) := rfl
theorem g_fdiv {a b : Int} : gFdiv (.int a) (.int b) Q = (CDivA a b ∧ Q (.int (a / b))) := rfl
theorem g_pow {a b : Int} : gPow (.int a) (.int b) Q = (CPow a b ∧ Q (.int (a ^ b.toNat))) := rfl
theorem g_isN {x : D} : gIsN x .non Q = Q (.bl x.isNon) := by cases x <;> rfl
theorem g_notN {x : D} : gNotN x .non Q = Q (.bl (!x.isNon)) := by cases x <;> rfl
def ixQ (xs : List D) (i : Int) (Q : D → Prop) : Prop := match atI xs i with
  | some x => Q x
  | none => False
theorem g_ixT {xs : List D} {i : Int} : gIx (.tup xs) (.int i) Q = ixQ xs i Q := rfl
theorem g_ixL {xs : List D} {i : Int} : gIx (.lst xs) (.int i) Q = ixQ xs i Q := rfl
theorem g_ixS {xs : List Int} {i : Int} : gIx (.scr xs) (.int i) Q = ixQ (xs.map .int) i Q := by
  unfold ixQ atI
  simp only [gIx, atI, List.length_map]
  cases ixN xs.length i with
  | none => rfl
  | some j =>
    simp only [Option.bind_some, List.getElem?_map]
    cases xs[j]? <;> rfl
theorem ixQ_at {α : Type} {enc : α → D} {xs : List α} {i : Nat} {a : α} (h : xs[i]? = some a) (q : Q (enc a)) : ixQ (xs.map enc) i Q := by
  have hl : i < xs.length := (List.getElem?_eq_some_iff.mp h).1
  unfold ixQ atI ixN
  rw [if_pos (by omega), if_pos (by rw [List.length_map]; omega)]
  simp only [Option.bind_some, Int.toNat_natCast, List.getElem?_map, h, Option.map_some]
  exact q
theorem ixQ_n {xs : List D} {i : Nat} {a : D} (h : xs[i]? = some a) : ixQ xs (i : Int) Q = Q a := by
  have hl : i < xs.length := (List.getElem?_eq_some_iff.mp h).1
  unfold ixQ atI ixN
  rw [if_pos (by omega), if_pos (by omega)]
  simp only [Option.bind_some, Int.toNat_natCast, h]
variable {a b c d e f g h : D} {xs : List D}
theorem ix0 : ixQ (a :: xs) 0 Q = Q a := ixQ_n (i := 0) rfl
theorem ix1 : ixQ (a :: b :: xs) 1 Q = Q b := ixQ_n (i := 1) rfl
theorem ix2 : ixQ (a :: b :: c :: xs) 2 Q = Q c := ixQ_n (i := 2) rfl
theorem ix3 : ixQ (a :: b :: c :: d :: xs) 3 Q = Q d := ixQ_n (i := 3) rfl
theorem ix4 : ixQ (a :: b :: c :: d :: e :: xs) 4 Q = Q e := ixQ_n (i := 4) rfl
theorem ix5 : ixQ (a :: b :: c :: d :: e :: f :: xs) 5 Q = Q f := ixQ_n (i := 5) rfl
theorem ix6 : ixQ (a :: b :: c :: d :: e :: f :: g :: xs) 6 Q = Q g := ixQ_n (i := 6) rfl
theorem ix7 : ixQ (a :: b :: c :: d :: e :: f :: g :: h :: xs) 7 Q = Q h := ixQ_n (i := 7) rfl
theorem g_lenT {xs : List D} : gLen [.tup xs] Q = Q (.int xs.length) := rfl
theorem g_lenL {xs : List D} : gLen [.lst xs] Q = Q (.int xs.length) := rfl
theorem g_lenS {xs : List Int} : gLen [.scr xs] Q = Q (.int xs.length) := rfl
theorem g_int {i : Int} : gInt [.int i] Q = Q (.int i) := rfl
theorem g_intB {b : Bool} : gInt [.bl b] Q = Q (.int (if b then 1 else 0)) := rfl
theorem g_tupT {xs : List D} : gTuple [.tup xs] Q = Q (.tup xs) := rfl
theorem g_tupL {xs : List D} : gTuple [.lst xs] Q = Q (.tup xs) := rfl
theorem g_lsT {xs : List D} : gListL [.tup xs] QL = QL xs := rfl
theorem g_lsL {xs : List D} : gListL [.lst xs] QL = QL xs := rfl
theorem g_max {i j : Int} : gMax [.int i, .int j] Q = Q (.int (if j > i then j else i)) := rfl
theorem g_min {i j : Int} : gMin [.int i, .int j] Q = Q (.int (if j < i then j else i)) := rfl
theorem g_slT {xs : List D} {lo hi : Option Int} : gSl (.tup xs) lo hi Q = Q (.tup (cutD xs lo hi)) := rfl
theorem g_slL {xs : List D} {lo hi : Option Int} : gSl (.lst xs) lo hi Q = Q (.lst (cutD xs lo hi)) := rfl
def isQ (o : Option Bool) (Q : D → Prop) : Prop := match o with
  | some r => Q (.bl r)
  | none => False
theorem isQ_some {r : Bool} : isQ (some r) Q = Q (.bl r) := rfl
theorem g_isi {x : D} {n : String} : gIsi [x, .ty n] Q = isQ (isiB x n) Q := by cases x <;> rfl
theorem i_int {i : Int} {n : String} : isiB (.int i) n = kitB "int" n := rfl
theorem i_bl {i : Bool} {n : String} : isiB (.bl i) n = kitB "bool" n := rfl
theorem i_tup {xs : List D} {n : String} : isiB (.tup xs) n = kitB "tuple" n := rfl
theorem i_lst {xs : List D} {n : String} : isiB (.lst xs) n = kitB "list" n := rfl
theorem i_non {n : String} : isiB .non n = kitB "NoneType" n := rfl
theorem i_str {s : Str} {n : String} : isiB (.str s) n = kitB "str" n := rfl
theorem bl_decide_true {p : Prop} [Decidable p] : (decide p = true) = p := by simp
end
end DL

/-! DL11: small data: may be compared and shown. -/
namespace DL
open PySem L2
structure Nice (n w : Nat) (x : D) : Prop where
  lay : x.py.canLay0 = true
  dep : x.py.depth ≤ n
  wt : x.py.weight ≤ w
  int : x.py.intsShort 13 = true
  sh : x.py.showable = true
structure NiceL (n w : Nat) (L : Nat) (xs : List D) : Prop where
  lay : PyData.canLayAll0 (pyL xs) = true
  dep : PyData.depthAll (pyL xs) ≤ n
  wt : PyData.weightAll (pyL xs) ≤ L * (w + 1)
  int : PyData.intsShortAll 13 (pyL xs) = true
  sh : PyData.showableAll (pyL xs) = true
theorem Nice.non : Nice 0 0 .non := ⟨rfl, Nat.le_refl _, Nat.le_refl _, rfl, rfl⟩
theorem Nice.mono {n w n' w' : Nat} {x : D} (h : Nice n w x) (hn : n ≤ n') (hw : w ≤ w') : Nice n' w' x := ⟨h.lay, Nat.le_trans h.dep hn, Nat.le_trans h.wt hw, h.int, h.sh⟩
theorem Nice.int' {i : Int} (h : i.natAbs < 10 ^ 12) : Nice 0 40 (.int i) := by
  have hl : i.natAbs.log2 < 40 := by
    by_cases h0 : i.natAbs = 0
    · rw [h0]; decide
    · exact (Nat.log2_lt h0).mpr (Nat.lt_of_lt_of_le h (by decide))
  refine ⟨rfl, Nat.le_refl _, ?_, ?_, ?_⟩
  · show (if i == 0 then 0 else i.natAbs.log2 + 1) ≤ 40
    split <;> omega
  · exact decide_eq_true (PyData.shown_int_le h)
  · exact decide_eq_true (by omega)
theorem NiceL.nil {n w : Nat} : NiceL n w 0 [] := ⟨rfl, Nat.zero_le _, Nat.zero_le _, rfl, rfl⟩
theorem NiceL.cons {n w L : Nat} {x : D} {xs : List D} (h : Nice n w x) (r : NiceL n w L xs) : NiceL n w (L + 1) (x :: xs) := by
  refine ⟨?_, ?_, ?_, ?_, ?_⟩
  · simp only [pyL, PyData.canLayAll0, h.lay, r.lay, Bool.and_self]
  · simp only [pyL, PyData.depthAll]
    exact Nat.max_le.mpr ⟨h.dep, r.dep⟩
  · simp only [pyL, PyData.weightAll]
    have := h.wt
    have := r.wt
    rw [Nat.add_mul]
    omega
  · simp only [pyL, PyData.intsShortAll, h.int, r.int, Bool.and_self]
  · simp only [pyL, PyData.showableAll, h.sh, r.sh, Bool.and_self]
theorem NiceL.of {n w : Nat} : ∀ {xs : List D}, (∀ x ∈ xs, Nice n w x) → NiceL n w xs.length xs
  | [], _ => .nil
  | x :: xs, h => .cons (h x List.mem_cons_self) (NiceL.of fun y hy => h y (List.mem_cons_of_mem _ hy))
theorem NiceL.lst {n w L : Nat} {xs : List D} (h : NiceL n w L xs) : Nice (n + 1) (L * (w + 1)) (.lst xs) := ⟨h.lay, Nat.add_le_add_right h.dep 1, h.wt, h.int, h.sh⟩
theorem NiceL.tup {n w L : Nat} {xs : List D} (h : NiceL n w L xs) : Nice (n + 1) (L * (w + 1)) (.tup xs) := ⟨h.lay, Nat.add_le_add_right h.dep 1, h.wt, h.int, h.sh⟩
theorem Nice.lst {n w L : Nat} {xs : List D} (h : ∀ x ∈ xs, Nice n w x) (hl : xs.length ≤ L) : Nice (n + 1) (L * (w + 1)) (.lst xs) := (NiceL.of h).lst.mono (Nat.le_refl _) (Nat.mul_le_mul_right _ hl)
theorem Nice.tup {n w L : Nat} {xs : List D} (h : ∀ x ∈ xs, Nice n w x) (hl : xs.length ≤ L) : Nice (n + 1) (L * (w + 1)) (.tup xs) := (NiceL.of h).tup.mono (Nat.le_refl _) (Nat.mul_le_mul_right _ hl)
theorem Nice.ok {n w : Nat} {x : D} (h : Nice n w x) (hn : n ≤ 64 := by decide) : x.ok = true := by
  show (x.py.canLay0 && decide (x.py.depth ≤ 64)) = true
  rw [h.lay, Bool.true_and]
  exact decide_eq_true (Nat.le_trans h.dep hn)
theorem Nice.len {n w : Nat} {x : D} (h : Nice n w x) (hn : n ≤ 64 := by decide) (hw : w ≤ 1048576 := by decide) : x.py.shown.length ≤ 16000000 := by
  have hl : x.py.layable0 = true := by
    show (x.py.canLay0 && decide (x.py.depth ≤ 64) && decide (x.py.weight ≤ 2 ^ 20)) = true
    rw [h.lay, Bool.true_and, decide_eq_true (Nat.le_trans h.dep hn), Bool.true_and]
    exact decide_eq_true (Nat.le_trans h.wt hw)
  exact Nat.le_trans (PyData.shown_le_of_layable0 hl h.int) (by decide)
theorem g_reprL {n w : Nat} {xs : List D} {Q : D → Prop} (h : Nice n w (.lst xs)) (hn : n ≤ 60 := by decide) (hw : w ≤ 1048576 := by decide) : gRepr [.lst xs] Q = Q (.str (D.lst xs).py.shown) :=
  propext ⟨fun h => h.2.2.2.2, fun q => ⟨h.ok (Nat.le_trans hn (by decide)), h.sh, Nat.le_trans h.dep hn, h.len (Nat.le_trans hn (by decide)) hw, q⟩⟩
theorem g_reprT {n w : Nat} {xs : List D} {Q : D → Prop} (h : Nice n w (.tup xs)) (hn : n ≤ 60 := by decide) (hw : w ≤ 1048576 := by decide) : gRepr [.tup xs] Q = Q (.str (D.tup xs).py.shown) :=
  propext ⟨fun h => h.2.2.2.2, fun q => ⟨h.ok (Nat.le_trans hn (by decide)), h.sh, Nat.le_trans h.dep hn, h.len (Nat.le_trans hn (by decide)) hw, q⟩⟩
theorem eqb_refl {n w : Nat} {x : D} (h : Nice n w x) : x.eqb x = true := PySem.SeqAt.eqv_refl _ h.lay
theorem Nice.str {w : Str} (h : PyData.strOk w = true) (hl : w.cps.size ≤ 1000 := by decide) : Nice 0 1000 (.str w) := ⟨h, Nat.le_refl _, hl, rfl, rfl⟩
end DL

/-! DL12: the law; a def that calls itself. -/
namespace DL
open PySem L2 PyProof.Rows
section
variable {P : Program} {w : World} {K : PySem.W.Frag} {mg : Str → Option Value} {base : Heap} {x qual : Str} {params : Arguments} {body : List Stmt} {scope : Scope} {f : Addr} {fd : FuncData}
def spLaw (K : PySem.W.Frag) : Sp := fun vs H Q _ => ∃ (a : Addr) (ns : List Int), vs = [.ref a] ∧ ns.length ≤ 63 ∧ SqL K H a (ns.map V.int) ∧ ∀ H', Q (.bl true) H'
theorem law_fnG {N : List Str} {k : Nat} {d : SS} {pn : Str} (F : FunD K x qual params body scope [] [] f fd) (sc : FnScope N [pn] scope)
    (hbody : ∀ (cdv : Value) (A : Around) (outer : List Env) (s : Shared) (H : Hp) (E : XK), A.guards = some [] → Room k (A.deeper (envOfC qual scope s.heap.objs.size f cdv)) →
      ∃ ts, DSs (cxOf (L2.CX P w) P w K mg base N qual scope f cdv A outer s H E) (fun c d _ H => E c d H) body ts d)
    (hd : ∀ ns : List Int, ns.length ≤ 63 → d (dEnd (fun r => r = .bl true) (fun _ => False)) (en N.length [.scr ns])) : FnG P w K mg base (L2.CX P w) (k + 1) f fd [pn] (spLaw K) := by
  refine fnG_of F sc (fun vs H Q E h => ?_) fun cdv A outer s H vs Q E hr hG h => ?_
  · obtain ⟨a, ns, rfl, _⟩ := h
    rfl
  · obtain ⟨a, ns, rfl, hl, hS, hQ⟩ := h
    obtain ⟨ts, h1⟩ := hbody cdv A outer s H E hG hr
    refine ⟨ts, h1.ps, ?_⟩
    have aa : AtL ⟨K, mg⟩ H [.scr ns] [.ref a] := ⟨.ref a, [], rfl, ⟨a, rfl, hS⟩, rfl⟩
    refine h1.sn ⟨H, H, H⟩ H H _ _ (dEnd (fun r => r = .bl true) (fun _ => False)) _ (st_start (.refl H) aa) ⟨?_, ?_, ?_, ?_, ?_⟩ (hd ns hl)
    · exact fun _ _ _ _ _ q => by cases (show D.non = D.bl true from q)
    · exact fun _ _ _ _ _ q => q
    · exact fun _ _ _ _ _ q => q
    · intro S' H' env σ o v s q
      cases o with
      | fz x =>
        have q : x = .bl true := q
        obtain ⟨g, h, _⟩ := s.own
        obtain ⟨u, e1, e2⟩ := h 0 _ rfl
        cases e1
        subst q
        have e3 : v = .bl true := e2.2
        rw [e3]
        exact hQ H'
      | _ => exact q.elim
    · exact fun _ _ _ _ _ _ _ _ _ q => q.elim
theorem fn_false {N ps : List Str} {k : Nat} (F : FunD K x qual params body scope [] [] f fd) (sc : FnScope N ps scope) (hm : mg x = some (.ref f)) (hb : Binds K fd ps []) : Fn P w K mg base (k + 1) x ps.length (fun _ _ _ => False) := by
  refine ⟨f, fd, ps, ?_, hm, F.kp, hb⟩
  refine FunD.ok F sc (fun vs H Q E h => ?_) fun cdv A outer s H vs Q E hr h => ?_
  · obtain ⟨_, _, _, _, _, _, _, p, _⟩ := h
    exact p.elim
  · obtain ⟨_, _, _, _, _, _, _, p, _⟩ := h
    exact p.elim
theorem cx_false {P : Program} (w : World) (H : Hp) (s : Shared) (e : Value) (s' : Shared) (h : L2.CX P w [] H s (fun _ _ _ => False) e s') : False := by
  obtain ⟨_, _, _, _, _, _, _, _, _, _, _, _, q⟩ := h
  exact q
end
end DL

namespace K64
open PySem L2 DL
/-! ### plain data of the stories -/
def seq (l : Bool) (xs : List D) : D := if l then .lst xs else .tup xs
theorem seq_f {xs : List D} : seq false xs = .tup xs := rfl
theorem seq_t {xs : List D} : seq true xs = .lst xs := rfl
abbrev iL (ns : List Int) : List D := ns.map .int
inductive Task where
  | begun | leader | free | votes
deriving DecidableEq
def Task.s : Task → Str
  | .begun => "begun"
  | .leader => "leader"
  | .free => "free"
  | .votes => "votes"
structure St where
  fl : Bool
  h : Nat
  f : Int
  l : Nat
  a : Nat
  task : Task
  lasting : Bool
def St.xs (s : St) : List D :=
  if s.fl then [.str "falls", .int s.h, .int s.f, .int s.l, .int s.a, .str s.task.s, .str (if s.lasting then "lasting" else "standing")]
  else [.str "losses", .int s.h, .int s.f, .int s.l, .int s.a, .str s.task.s]
inductive Part where
  | non
  | fall (t : Int) (to : List Int)
  | row (ps : List (Int × Int))
def Part.d (l : Bool) : Part → D
  | .non => .non
  | .fall t r => seq l [.int t, seq l (iL r)]
  | .row ps => seq l (ps.map fun p => seq l [.int p.1, .int p.2])
def Part.ok (s : St) : Part → Prop
  | .non => s.fl = true
  | .fall t r => s.fl = true ∧ 1 ≤ t ∧ t ≤ s.l ∧ r.length ≤ 5 ∧ ∀ x ∈ r, 0 ≤ x ∧ x < 5
  | .row ps => s.fl = false ∧ ps.length ≤ 12 ∧ ∀ p ∈ ps, 0 ≤ p.1 ∧ p.1 < 5 ∧ 0 ≤ p.2 ∧ p.2 < 5
def secD (l : Bool) (ps : List Part) : D := seq l (ps.map (Part.d l))
def storyD (l : Bool) (b : List Int) (ps : List Part) : D := seq l [seq l (iL b), secD l ps]
structure St.Ok (s : St) : Prop where
  h2 : 2 ≤ s.h
  h5 : s.h ≤ 5
  l1 : 1 ≤ s.l
  l5 : s.l ≤ 5
  a1 : 1 ≤ s.a
  a4 : s.a ≤ 4
  v2 : s.task = .votes → s.a = 2
structure BOk (s : St) (b : List Int) : Prop where
  len : b.length = s.h
  all : ∀ x ∈ b, 0 ≤ x ∧ x < s.a
structure POk (s : St) (ps : List Part) : Prop where
  len : ps.length = if s.fl then s.h else s.l
  all : ∀ x ∈ ps, x.ok s
/-- what the law says -/
def empty : Part → Bool
  | .non => true
  | .fall _ _ => false
  | .row ps => ps.isEmpty
def smooth (ps : List Part) : Bool := ps.all empty
def count (s : St) : Part → Int
  | .fall t _ => if s.lasting then 0 else t
  | _ => s.l + 1
def counts (s : St) (ps : List Part) : List Int := (List.range s.h).map fun i => if s.fl then count s (ps.getD i .non) else s.l + 1
def good (s : St) (b : List Int) (ps : List Part) (x : Int) : Bool := match s.task with
  | .free => true
  | .begun => b.contains x
  | .votes => if x = 1 then !b.contains 0 else b.contains 0 || !smooth ps
  | .leader => x = b.headD 0 || (!smooth ps && b.contains x)
def answers (s : St) : List Int := (List.range s.a).map fun i : Nat => (i : Int)
def right (s : St) (b : List Int) (ps : List Part) : List Int := (answers s).filter (good s b ps)
/-! ### promises -/
def sp_stands : PSp := fun ds Q _ => ∃ (l m : Bool) (s : St) (b : List Int) (ps : List Part) (h x : Nat), s.Ok ∧ POk s ps ∧ h < s.h ∧ ds = [seq l s.xs, storyD m b ps, .int h, .int x] ∧
  Q (.bl (if s.fl then match ps.getD h .non with | .fall t _ => decide ((x : Int) < t) | _ => true else true))
def sp_is_smooth : PSp := fun ds Q _ => ∃ (l m : Bool) (s : St) (b : List Int) (ps : List Part), s.Ok ∧ POk s ps ∧ ds = [seq l s.xs, storyD m b ps] ∧ Q (.bl (smooth ps))
def sp_counts_in : PSp := fun ds Q _ => ∃ (l m : Bool) (s : St) (b : List Int) (ps : List Part), s.Ok ∧ POk s ps ∧ ds = [seq l s.xs, storyD m b ps] ∧ Q (.tup (iL (counts s ps)))
def sp_right_in : PSp := fun ds Q _ => ∃ (l m : Bool) (s : St) (b : List Int) (ps : List Part), s.Ok ∧ BOk s b ∧ POk s ps ∧ ds = [seq l s.xs, storyD m b ps] ∧ Q (.tup (iL (right s b ps)))
def sp_l_whole : PSp := fun ds Q _ => ∃ i, ds = [.int i] ∧ Q (.bl true)
def sp_l_same0 : PSp := fun ds Q _ => ∃ i, ds = [.int i, .int i] ∧ Q (.bl true)
def sp_l_same : PSp := fun ds Q _ => ∃ ns, ns.length ≤ 1000 ∧ ds = [.tup (iL ns), .tup (iL ns)] ∧ Q (.bl true)
def sp_l_cell : PSp := fun ds Q _ => ∃ (ns : List Int) (k : Nat), ds = [.scr ns, .int k] ∧ k < 1000 ∧ ns.length ≤ 63 ∧ ∀ c, Q (.int c)
def Row (row sizes : List Int) : Prop := row.length = sizes.length ∧ ∀ (i : Nat) (r s : Int), row[i]? = some r → sizes[i]? = some s → 0 ≤ r ∧ r < s
def sp_l_digits : PSp := fun ds Q _ => ∃ (c : Int) (sizes : List Int), ds = [.int c, .lst (iL sizes)] ∧ sizes.length ≤ 100000 ∧ (∀ s ∈ sizes, 0 < s ∧ s ≤ 1000) ∧ ∀ row, Row row sizes → Q (.lst (iL row))
def others (h x : Nat) : List Int := ((List.range h).filter fun y => y ≠ x).map fun y : Nat => (y : Int)
def sp_l_others : PSp := fun ds Q _ => ∃ h x : Nat, h ≤ 5 ∧ ds = [.int h, .int x] ∧ Q (.lst (iL (others h x)))
def letters (h : Nat) : List (Int × Int) := (List.range h).flatMap fun s => (others h s).map fun r => ((s : Int), r)
def sp_l_letters : PSp := fun ds Q _ => ∃ h : Nat, h ≤ 5 ∧ ds = [.int h] ∧ Q (.lst ((letters h).map prD2))
structure St.Big (s : St) : Prop where
  ok : s.Ok
  nv : s.task = .votes → s.a = 2
  f0 : 0 ≤ s.f
  f1 : s.f ≤ 20
  hl : s.fl = false → s.h ≤ 4 ∧ s.l ≤ 4
def sp_l_setting : PSp := fun ds Q _ => ∃ c : Int, ds = [.int c] ∧ ∀ s : St, s.Big → Q (.tup s.xs)
def sp_l_story : PSp := fun ds Q _ => ∃ (s : St) (c m : Int), s.Big ∧ ds = [.tup s.xs, .int c, .int m] ∧ ∀ b ps, BOk s b → POk s ps → Q (storyD false b ps)
def sp_l_lossy : PSp := fun ds Q _ => ∃ (s : St) (c m : Int), s.Big ∧ s.fl = false ∧ ds = [.tup s.xs, .int c, .int m] ∧ ∀ b ps, BOk s b → POk s ps → Q (storyD false b ps)
def sp_l_passed : PSp := fun ds Q _ => ∃ (s : St) (l : Bool), ds = [.tup s.xs, .bl l] ∧ Q (seq l s.xs)
def sp_l_form : PSp := fun ds Q _ => ∃ (s : St) (b : List Int) (ps : List Part) (l : Bool), s.Ok ∧ BOk s b ∧ POk s ps ∧ ds = [.tup s.xs, storyD false b ps, .bl l] ∧ Q (storyD l b ps)
def sp_l_counts : PSp := fun ds Q _ => ∃ (s : St) (b : List Int) (ps : List Part), s.Ok ∧ POk s ps ∧ ds = [.tup s.xs, storyD false b ps] ∧ Q (.tup (iL (counts s ps)))
def sp_l_right : PSp := fun ds Q _ => ∃ (s : St) (b : List Int) (ps : List Part), s.Ok ∧ BOk s b ∧ POk s ps ∧ ds = [.tup s.xs, storyD false b ps] ∧ Q (.tup (iL (right s b ps)))
structure Sim (s v : St) : Prop where
  fl : v.fl = s.fl
  h : v.h = s.h
  f : v.f = s.f
  l : v.l = s.l
  a : v.a = s.a
  ok : v.Ok
def sp_l_variants : PSp := fun ds Q _ => ∃ s : St, s.Big ∧ ds = [.tup s.xs] ∧ ∀ vs : List St, (∀ v ∈ vs, Sim s v) → Q (.lst (vs.map fun v => .tup v.xs))
def sp_l_seconds : PSp := fun ds Q _ => ∃ (s : St) (h : Nat), s.Big ∧ h < s.h ∧ ds = [.tup s.xs, .int h] ∧ ∀ pss : List (List Part), pss.length ≤ 10 → (∀ ps ∈ pss, POk s ps) → Q (.lst (pss.map (secD false)))
def sp_l_beginnings : PSp := fun ds Q _ => ∃ (s : St) (b : List Int) (h : Nat) (x : Int), s.Big ∧ BOk s b ∧ h < s.h ∧ 0 ≤ x ∧ x < s.a ∧ ds = [.tup s.xs, .tup (iL b), .int h, .int x] ∧ ∀ bs : List (List Int), (∀ b ∈ bs, BOk s b) → Q (.lst (bs.map fun b => .tup (iL b)))
/-! ### rewriting -/
section
variable {Q : D → Prop} {QL : List D → Prop} {l : Bool} {xs : List D}
theorem g_ixQ {i : Int} : gIx (seq l xs) (.int i) Q = ixQ xs i Q := by cases l <;> rfl
theorem g_lenQ : gLen [seq l xs] Q = Q (.int xs.length) := by cases l <;> rfl
theorem asL_seq : asL (seq l xs) QL = QL xs := by cases l <;> rfl
theorem isNon_seq : (seq l xs).isNon = false := by cases l <;> rfl
theorem g_ixSt {b : List Int} {ps : List Part} {i : Int} : gIx (storyD l b ps) (.int i) Q = ixQ [seq l (iL b), secD l ps] i Q := g_ixQ
theorem g_ixSec {ps : List Part} {i : Int} : gIx (secD l ps) (.int i) Q = ixQ (ps.map (Part.d l)) i Q := g_ixQ
theorem asL_sec {ps : List Part} : asL (secD l ps) QL = QL (ps.map (Part.d l)) := asL_seq
variable {s : St}
def St.kind (s : St) : Str := if s.fl then "falls" else "losses"
theorem xs0 : ixQ s.xs 0 Q = Q (.str s.kind) := by unfold St.xs St.kind; cases s.fl <;> simp only [if_true, if_false, Bool.false_eq_true, ix0]
theorem xs1 : ixQ s.xs 1 Q = Q (.int s.h) := by unfold St.xs; cases s.fl <;> simp only [if_true, if_false, Bool.false_eq_true, ix1]
theorem xs2 : ixQ s.xs 2 Q = Q (.int s.f) := by unfold St.xs; cases s.fl <;> simp only [if_true, if_false, Bool.false_eq_true, ix2]
theorem xs3 : ixQ s.xs 3 Q = Q (.int s.l) := by unfold St.xs; cases s.fl <;> simp only [if_true, if_false, Bool.false_eq_true, ix3]
theorem xs4 : ixQ s.xs 4 Q = Q (.int s.a) := by unfold St.xs; cases s.fl <;> simp only [if_true, if_false, Bool.false_eq_true, ix4]
theorem xs5 : ixQ s.xs 5 Q = Q (.str s.task.s) := by unfold St.xs; cases s.fl <;> simp only [if_true, if_false, Bool.false_eq_true, ix5]
theorem xs6 (h : s.fl = true) : ixQ s.xs 6 Q = Q (.str (if s.lasting then "lasting" else "standing")) := by unfold St.xs; simp only [h, if_true, ix6]
theorem kl : (s.kind = "losses") = (s.fl = false) := by unfold St.kind; cases s.fl <;> simp <;> decide +kernel
theorem kf : (s.kind = "falls") = (s.fl = true) := by unfold St.kind; cases s.fl <;> simp <;> decide +kernel
theorem ks {b : Bool} : ((if b = true then ("lasting" : Str) else "standing") = "lasting") = (b = true) := by cases b <;> simp <;> decide +kernel
theorem tb {t : Task} : (t.s = "begun") = (t = .begun) := by cases t <;> simp only [Task.s, reduceCtorEq, eq_self] <;> (try simp only [eq_iff_iff, iff_false]) <;> decide +kernel
theorem tl {t : Task} : (t.s = "leader") = (t = .leader) := by cases t <;> simp only [Task.s, reduceCtorEq, eq_self] <;> (try simp only [eq_iff_iff, iff_false]) <;> decide +kernel
theorem tf {t : Task} : (t.s = "free") = (t = .free) := by cases t <;> simp only [Task.s, reduceCtorEq, eq_self] <;> (try simp only [eq_iff_iff, iff_false]) <;> decide +kernel
theorem tv {t : Task} : (t.s = "votes") = (t = .votes) := by cases t <;> simp only [Task.s, reduceCtorEq, eq_self] <;> (try simp only [eq_iff_iff, iff_false]) <;> decide +kernel
theorem mulR {a b : Int} (h : -1000000000000 ≤ b) (h' : b ≤ 1000000000000) : CMul a b ∨ CMulW a b := .inl (.inr ⟨by omega, by omega⟩)
theorem divR {a b : Int} (h : 0 < b) (h' : b ≤ 1000000000) : CDivA a b := .inl ⟨h, by omega⟩
theorem ixQ_mem {i : Int} (h0 : 0 ≤ i) (h1 : i < xs.length) (q : ∀ x, xs[i.toNat]? = some x → Q x) : ixQ xs i Q := by
  have hl : i.toNat < xs.length := by omega
  have e : (i.toNat : Int) = i := by omega
  rw [← e, ixQ_n (List.getElem?_eq_getElem hl)]
  exact q _ (List.getElem?_eq_getElem hl)
theorem ixQ_il {ns : List Int} {i : Int} (h0 : 0 ≤ i) (h1 : i < ns.length) (q : ∀ x, ns[i.toNat]? = some x → Q (.int x)) : ixQ (iL ns) i Q := by
  refine ixQ_mem h0 (by rw [List.length_map]; exact h1) fun x hx => ?_
  rw [List.getElem?_map] at hx
  cases hn : ns[i.toNat]? with
  | none => rw [hn] at hx; cases hx
  | some n => rw [hn] at hx; cases hx; exact q n hn
theorem rngE (n : Nat) : rng 0 n = iL ((List.range n).map fun i : Nat => (i : Int)) := by
  refine List.ext_getElem? fun i => ?_
  rw [rng_get]
  simp only [List.getElem?_map, List.getElem?_range]
  by_cases h : i < n
  · rw [if_pos h, List.getElem?_eq_getElem (by simpa using h)]
    simp
  · rw [if_neg h, List.getElem?_eq_none (by simpa using h)]
    rfl
theorem compGo_of {α : Type} {f : Tgt} {cond : BS} {elt : ES} {env : Sl} {QL : List D → Prop} (enc : α → D) (p : α → Bool) (g : α → D) : ∀ (items : List α) (acc : List D),
    (∀ x ∈ items, ∃ as, f (enc x) = some as ∧ (∀ (Q : Bool → Prop) (E : DExc → Prop), Q (p x) → cond (pts env as) Q E) ∧ (p x = true → ∀ (Q : D → Prop) (E : DExc → Prop), Q (g x) → elt (pts env as) Q E)) →
    QL (acc ++ (items.filter p).map g) → compGo f cond elt env (items.map enc) acc QL
  | [], acc, _, q => by simpa [compGo] using q
  | x :: xs, acc, h, q => by
    obtain ⟨as, h1, h2, h3⟩ := h x List.mem_cons_self
    rw [List.map_cons, compGo_cons, h1, tgK_some]
    refine h2 _ _ ?_
    have hr : ∀ y ∈ xs, _ := fun y hy => h y (List.mem_cons_of_mem _ hy)
    cases hp : p x with
    | true =>
      rw [if_pos rfl]
      refine h3 hp _ _ (compGo_of enc p g xs _ hr ?_)
      simpa [List.filter_cons, hp] using q
    | false =>
      rw [if_neg Bool.false_ne_true]
      refine compGo_of enc p g xs _ hr ?_
      simpa [List.filter_cons, hp] using q
theorem filter_t {α : Type} {xs : List α} : xs.filter (fun _ => true) = xs := List.filter_eq_self.mpr fun _ _ => rfl
theorem ne1 : ("falls" : Str) ≠ "losses" := by decide +kernel
theorem ne2 : ("losses" : Str) ≠ "falls" := by decide +kernel
end
end K64

namespace K64
open PySem L2 DL
abbrev N_stands : List Str := ["setting", "story", "house", "moment", "fall"]
def b_stands : SS := (sSeq (sIf (dTst (dBin gEq (dBin gIx (dVar 0) (dC (.int 0))) (dC (.str "losses")))) (sRet (dC (.bl true))) sNext) (sSeq (sSet 4 (dBin gIx (dBin gIx (dVar 1) (dC (.int 1))) (dVar 2))) (sRet (dOrV (dBin gIsN (dVar 4) (dC .non)) (dBin gLt (dVar 3) (dBin gIx (dVar 4) (dC (.int 0))))))))
theorem en_stands {v0 v1 v2 v3 : D} : en N_stands.length [v0, v1, v2, v3] = [some (.fz v0), some (.fz v1), some (.fz v2), some (.fz v3), none] := rfl
abbrev N_is_smooth : List Str := ["setting", "story", "fall", "lost"]
def b_is_smooth : SS := (sSeq (sIf (dTst (dBin gEq (dBin gIx (dVar 0) (dC (.int 0))) (dC (.str "losses")))) (sRet (dBin gEq (dCB gLen (dCons (dLstV (dComp [3] (dIt (dBin gIx (dVar 1) (dC (.int 1)))) (tgN 3) (dTst (dBin gGt (dCB gLen (dCons (dVar 3) dNil)) (dC (.int 0)))) (dVar 3))) dNil)) (dC (.int 0)))) sNext) (sRet (dBin gEq (dCB gLen (dCons (dLstV (dComp [2] (dIt (dBin gIx (dVar 1) (dC (.int 1)))) (tgN 2) (dTst (dBin gNotN (dVar 2) (dC .non))) (dVar 2))) dNil)) (dC (.int 0)))))
theorem en_is_smooth {v0 v1 : D} : en N_is_smooth.length [v0, v1] = [some (.fz v0), some (.fz v1), none, none] := rfl
abbrev N_counts_in : List Str := ["setting", "story", "counts", "house", "standing", "moment"]
def lp_counts_in_1 : SS := (sSeq (sSet 4 (dLstV (dComp [5] (dRng1 (dCons (dBin gAdd (dBin gIx (dVar 0) (dC (.int 3))) (dC (.int 1))) dNil)) (tgN 5) (dTst (dCall sp_stands (dCons (dVar 0) (dCons (dVar 1) (dCons (dVar 3) (dCons (dVar 5) dNil)))))) (dVar 5)))) (sIf (dAnd (dTst (dBin gLe (dCB gLen (dCons (dVar 4) dNil)) (dBin gIx (dVar 0) (dC (.int 3))))) (dTst (dBin gEq (dBin gIx (dVar 0) (dC (.int 6))) (dC (.str "lasting"))))) (sApp 2 (dC (.int 0))) (sApp 2 (dCB gLen (dCons (dVar 4) dNil)))))
theorem u_counts_in_1 {Z : DEnd} {env : Sl} : lp_counts_in_1 Z env = (sSeq (sSet 4 (dLstV (dComp [5] (dRng1 (dCons (dBin gAdd (dBin gIx (dVar 0) (dC (.int 3))) (dC (.int 1))) dNil)) (tgN 5) (dTst (dCall sp_stands (dCons (dVar 0) (dCons (dVar 1) (dCons (dVar 3) (dCons (dVar 5) dNil)))))) (dVar 5)))) (sIf (dAnd (dTst (dBin gLe (dCB gLen (dCons (dVar 4) dNil)) (dBin gIx (dVar 0) (dC (.int 3))))) (dTst (dBin gEq (dBin gIx (dVar 0) (dC (.int 6))) (dC (.str "lasting"))))) (sApp 2 (dC (.int 0))) (sApp 2 (dCB gLen (dCons (dVar 4) dNil))))) Z env := rfl
def b_counts_in : SS := (sSeq (sSetO 2 dNil) (sSeq (sFor (dRng1 (dCons (dBin gIx (dVar 0) (dC (.int 1))) dNil)) (tgN 3) lp_counts_in_1) (sRet (dCB gTuple (dCons (dOwn 2) dNil)))))
theorem en_counts_in {v0 v1 : D} : en N_counts_in.length [v0, v1] = [some (.fz v0), some (.fz v1), none, none, none, none] := rfl
abbrev N_right_in : List Str := ["setting", "story", "begins", "smooth", "right", "answer", "good"]
def lp_right_in_1 : SS := (sIf (dTst (dVar 6)) (sApp 4 (dVar 5)) sNext)
theorem u_right_in_1 {Z : DEnd} {env : Sl} : lp_right_in_1 Z env = (sIf (dTst (dVar 6)) (sApp 4 (dVar 5)) sNext) Z env := rfl
def lp_right_in_2 : SS := (sSeq (sIf (dTst (dBin gEq (dBin gIx (dVar 0) (dC (.int 5))) (dC (.str "free")))) (sSet 6 (dC (.bl true))) (sIf (dTst (dBin gEq (dBin gIx (dVar 0) (dC (.int 5))) (dC (.str "begun")))) (sSet 6 (dBin gIn (dVar 5) (dVar 2))) (sIf (dAnd (dTst (dBin gEq (dBin gIx (dVar 0) (dC (.int 5))) (dC (.str "votes")))) (dTst (dBin gEq (dVar 5) (dC (.int 1))))) (sSet 6 (dBin gNin (dC (.int 0)) (dVar 2))) (sIf (dTst (dBin gEq (dBin gIx (dVar 0) (dC (.int 5))) (dC (.str "votes")))) (sSet 6 (dOrV (dBin gIn (dC (.int 0)) (dVar 2)) (dNotV (dVar 3)))) (sSet 6 (dOrV (dBin gEq (dVar 5) (dBin gIx (dVar 2) (dC (.int 0)))) (dAndV (dNotV (dVar 3)) (dBin gIn (dVar 5) (dVar 2))))))))) lp_right_in_1)
theorem u_right_in_2 {Z : DEnd} {env : Sl} : lp_right_in_2 Z env = (sSeq (sIf (dTst (dBin gEq (dBin gIx (dVar 0) (dC (.int 5))) (dC (.str "free")))) (sSet 6 (dC (.bl true))) (sIf (dTst (dBin gEq (dBin gIx (dVar 0) (dC (.int 5))) (dC (.str "begun")))) (sSet 6 (dBin gIn (dVar 5) (dVar 2))) (sIf (dAnd (dTst (dBin gEq (dBin gIx (dVar 0) (dC (.int 5))) (dC (.str "votes")))) (dTst (dBin gEq (dVar 5) (dC (.int 1))))) (sSet 6 (dBin gNin (dC (.int 0)) (dVar 2))) (sIf (dTst (dBin gEq (dBin gIx (dVar 0) (dC (.int 5))) (dC (.str "votes")))) (sSet 6 (dOrV (dBin gIn (dC (.int 0)) (dVar 2)) (dNotV (dVar 3)))) (sSet 6 (dOrV (dBin gEq (dVar 5) (dBin gIx (dVar 2) (dC (.int 0)))) (dAndV (dNotV (dVar 3)) (dBin gIn (dVar 5) (dVar 2))))))))) lp_right_in_1) Z env := rfl
def b_right_in : SS := (sSeq (sSet 2 (dBin gIx (dVar 1) (dC (.int 0)))) (sSeq (sSet 3 (dCall sp_is_smooth (dCons (dVar 0) (dCons (dVar 1) dNil)))) (sSeq (sSetO 4 dNil) (sSeq (sFor (dRng1 (dCons (dBin gIx (dVar 0) (dC (.int 4))) dNil)) (tgN 5) lp_right_in_2) (sRet (dCB gTuple (dCons (dOwn 4) dNil)))))))
theorem en_right_in {v0 v1 : D} : en N_right_in.length [v0, v1] = [some (.fz v0), some (.fz v1), none, none, none, none, none] := rfl
abbrev N_l_whole : List Str := ["value"]
def b_l_whole : SS := (sRet (dAndV (dCB gIsi (dCons (dVar 0) (dCons (dC (.ty "int")) dNil))) (dNotV (dCB gIsi (dCons (dVar 0) (dCons (dC (.ty "bool")) dNil))))))
theorem en_l_whole {v0 : D} : en N_l_whole.length [v0] = [some (.fz v0)] := rfl
abbrev N_l_cell : List Str := ["script", "k", "seed", "cell"]
def lp_l_cell_1 : SS := (sSet 2 (dBin gMod (dCB gInt (dCons (dBin gAdd (dBin gMul (dVar 2) (dC (.int 31))) (dBin gMod (dCB gInt (dCons (dVar 3) dNil)) (dC (.int 1000003)))) dNil)) (dC (.int 1000003))))
theorem u_l_cell_1 {Z : DEnd} {env : Sl} : lp_l_cell_1 Z env = (sSet 2 (dBin gMod (dCB gInt (dCons (dBin gAdd (dBin gMul (dVar 2) (dC (.int 31))) (dBin gMod (dCB gInt (dCons (dVar 3) dNil)) (dC (.int 1000003)))) dNil)) (dC (.int 1000003)))) Z env := rfl
def b_l_cell : SS := (sSeq (sIf (dTst (dBin gLt (dVar 1) (dCB gLen (dCons (dVar 0) dNil)))) (sRet (dBin gIx (dVar 0) (dVar 1))) sNext) (sSeq (sSet 2 (dC (.int 17))) (sSeq (sFor (dIt (dVar 0)) (tgN 3) lp_l_cell_1) (sRet (dBin gMod (dCB gInt (dCons (dBin gMul (dBin gMul (dBin gAdd (dVar 2) (dC (.int 7))) (dBin gAdd (dVar 1) (dC (.int 3)))) (dC (.int 69621))) dNil)) (dC (.int 2147483647)))))))
theorem en_l_cell {v0 v1 : D} : en N_l_cell.length [v0, v1] = [some (.fz v0), some (.fz v1), none, none] := rfl
abbrev N_l_digits : List Str := ["cell", "sizes", "row", "rest", "size", "seed", "k", "twice"]
def lp_l_digits_1 : SS := (sSeq (sApp 2 (dBin gMod (dCB gInt (dCons (dVar 3) dNil)) (dVar 4))) (sSet 3 (dBin gFdiv (dCB gInt (dCons (dVar 3) dNil)) (dVar 4))))
theorem u_l_digits_1 {Z : DEnd} {env : Sl} : lp_l_digits_1 Z env = (sSeq (sApp 2 (dBin gMod (dCB gInt (dCons (dVar 3) dNil)) (dVar 4))) (sSet 3 (dBin gFdiv (dCB gInt (dCons (dVar 3) dNil)) (dVar 4)))) Z env := rfl
def lp_l_digits_2 : SS := (sSeq (sSet 5 (dBin gMod (dCB gInt (dCons (dBin gAdd (dBin gAdd (dBin gMul (dVar 5) (dC (.int 48271))) (dBin gMul (dC (.int 974711)) (dVar 6))) (dC (.int 12345))) dNil)) (dC (.int 2147483647)))) (sSeq (sSet 7 (dBin gMod (dCB gInt (dCons (dBin gMul (dVar 5) (dBin gAdd (dBin gFdiv (dVar 5) (dC (.int 65537))) (dC (.int 3)))) dNil)) (dC (.int 2147483629)))) (sApp 2 (dBin gMod (dCB gInt (dCons (dBin gFdiv (dVar 7) (dC (.int 19))) dNil)) (dBin gIx (dVar 1) (dVar 6))))))
theorem u_l_digits_2 {Z : DEnd} {env : Sl} : lp_l_digits_2 Z env = (sSeq (sSet 5 (dBin gMod (dCB gInt (dCons (dBin gAdd (dBin gAdd (dBin gMul (dVar 5) (dC (.int 48271))) (dBin gMul (dC (.int 974711)) (dVar 6))) (dC (.int 12345))) dNil)) (dC (.int 2147483647)))) (sSeq (sSet 7 (dBin gMod (dCB gInt (dCons (dBin gMul (dVar 5) (dBin gAdd (dBin gFdiv (dVar 5) (dC (.int 65537))) (dC (.int 3)))) dNil)) (dC (.int 2147483629)))) (sApp 2 (dBin gMod (dCB gInt (dCons (dBin gFdiv (dVar 7) (dC (.int 19))) dNil)) (dBin gIx (dVar 1) (dVar 6)))))) Z env := rfl
def b_l_digits : SS := (sSeq (sSetO 2 dNil) (sSeq (sSet 3 (dCB gInt (dCons (dVar 0) dNil))) (sSeq (sIf (dTst (dBin gGe (dVar 3) (dBin gPow (dC (.int 10)) (dC (.int 18))))) (sSeq (sSet 3 (dBin DL.gSub (dVar 3) (dBin gPow (dC (.int 10)) (dC (.int 18))))) (sSeq (sFor (dIt (dVar 1)) (tgN 4) lp_l_digits_1) (sFz 2 (sRet (dVar 2))))) sNext) (sSeq (sSet 5 (dBin gMod (dCB gInt (dCons (dVar 3) dNil)) (dC (.int 2147483629)))) (sSeq (sFor (dRng1 (dCons (dCB gLen (dCons (dVar 1) dNil)) dNil)) (tgN 6) lp_l_digits_2) (sFz 2 (sRet (dVar 2))))))))
theorem en_l_digits {v0 v1 : D} : en N_l_digits.length [v0, v1] = [some (.fz v0), some (.fz v1), none, none, none, none, none, none] := rfl
abbrev N_l_same : List Str := ["told", "expected", "k"]
def lp_l_same_1 (rec : PSp) : SS := (sIf (dNot (dTst (dCall rec (dCons (dBin gIx (dVar 0) (dVar 2)) (dCons (dBin gIx (dVar 1) (dVar 2)) dNil))))) (sRet (dC (.bl false))) sNext)
theorem u_l_same_1 {rec : PSp} {Z : DEnd} {env : Sl} : lp_l_same_1 rec Z env = (sIf (dNot (dTst (dCall rec (dCons (dBin gIx (dVar 0) (dVar 2)) (dCons (dBin gIx (dVar 1) (dVar 2)) dNil))))) (sRet (dC (.bl false))) sNext) Z env := rfl
def b_l_same (rec : PSp) : SS := (sSeq (sIf (dTst (dBin gIsN (dVar 1) (dC .non))) (sRet (dBin gIsN (dVar 0) (dC .non))) sNext) (sSeq (sIf (dTst (dCB gIsi (dCons (dVar 1) (dCons (dC (.ty "tuple")) dNil)))) (sSeq (sIf (dOr (dNot (dTst (dCB gIsi (dCons (dVar 0) (dCons (dC (.ty "tuple")) dNil))))) (dTst (dBin gNe (dCB gLen (dCons (dVar 0) dNil)) (dCB gLen (dCons (dVar 1) dNil))))) (sRet (dC (.bl false))) sNext) (sSeq (sFor (dRng1 (dCons (dCB gLen (dCons (dVar 1) dNil)) dNil)) (tgN 2) (lp_l_same_1 rec)) (sRet (dC (.bl true))))) sNext) (sRet (dAndV (dCall sp_l_whole (dCons (dVar 0) dNil)) (dBin gEq (dVar 0) (dVar 1))))))
theorem en_l_same {v0 v1 : D} : en N_l_same.length [v0, v1] = [some (.fz v0), some (.fz v1), none] := rfl
abbrev N_l_others : List Str := ["houses", "house", "other"]
def b_l_others : SS := (sRet (dLstV (dComp [2] (dRng1 (dCons (dVar 0) dNil)) (tgN 2) (dTst (dBin gNe (dVar 2) (dVar 1))) (dVar 2))))
theorem en_l_others {v0 v1 : D} : en N_l_others.length [v0, v1] = [some (.fz v0), some (.fz v1), none] := rfl
abbrev N_l_letters : List Str := ["houses", "found", "sender", "receiver"]
def lp_l_letters_1 : SS := (sApp 1 (dTup (dCons (dVar 2) (dCons (dVar 3) dNil))))
theorem u_l_letters_1 {Z : DEnd} {env : Sl} : lp_l_letters_1 Z env = (sApp 1 (dTup (dCons (dVar 2) (dCons (dVar 3) dNil)))) Z env := rfl
def lp_l_letters_2 : SS := (sFor (dIt (dCall sp_l_others (dCons (dVar 0) (dCons (dVar 2) dNil)))) (tgN 3) lp_l_letters_1)
theorem u_l_letters_2 {Z : DEnd} {env : Sl} : lp_l_letters_2 Z env = (sFor (dIt (dCall sp_l_others (dCons (dVar 0) (dCons (dVar 2) dNil)))) (tgN 3) lp_l_letters_1) Z env := rfl
def b_l_letters : SS := (sSeq (sSetO 1 dNil) (sSeq (sFor (dRng1 (dCons (dVar 0) dNil)) (tgN 2) lp_l_letters_2) (sFz 1 (sRet (dVar 1)))))
theorem en_l_letters {v0 : D} : en N_l_letters.length [v0] = [some (.fz v0), none, none, none] := rfl
abbrev N_l_setting : List Str := ["cell", "row", "answers", "task", "houses", "faults", "most"]
def lp_l_setting_1 : SS := (sSeq (sIf (dTst (dBin gLt (dBin gIx (dVar 1) (dC (.int 0))) (dC (.int 3)))) (sSeq (sSet 4 (dBin gAdd (dC (.int 2)) (dBin gIx (dVar 1) (dC (.int 1))))) (sSeq (sSet 5 (dBin gIx (dLstV (dCons (dBin DL.gSub (dVar 4) (dC (.int 1))) (dCons (dBin gMod (dCB gInt (dCons (dBin gIx (dVar 1) (dC (.int 2))) dNil)) (dVar 4)) (dCons (dCB gMax (dCons (dC (.int 1)) (dCons (dBin gMod (dCB gInt (dCons (dBin gIx (dVar 1) (dC (.int 2))) dNil)) (dVar 4)) dNil))) dNil)))) (dBin gIx (dVar 1) (dC (.int 7))))) (sRet (dTup (dCons (dC (.str "falls")) (dCons (dVar 4) (dCons (dVar 5) (dCons (dBin gAdd (dC (.int 1)) (dBin gIx (dVar 1) (dC (.int 3)))) (dCons (dVar 2) (dCons (dVar 3) (dCons (dBin gIx (dLstV (dCons (dC (.str "lasting")) (dCons (dC (.str "standing")) dNil))) (dBin gIx (dVar 1) (dC (.int 6)))) dNil))))))))))) sNext) (sSeq (sSet 4 (dBin gAdd (dC (.int 2)) (dBin gMod (dCB gInt (dCons (dBin gIx (dVar 1) (dC (.int 1))) dNil)) (dC (.int 3))))) (sSeq (sSet 6 (dBin gIx (dLstV (dCons (dC (.int 1)) (dCons (dC (.int 2)) (dCons (dBin gMod (dCB gInt (dCons (dBin gIx (dVar 1) (dC (.int 2))) dNil)) (dBin gAdd (dBin gMul (dVar 4) (dBin DL.gSub (dVar 4) (dC (.int 1)))) (dC (.int 1)))) dNil)))) (dBin gIx (dVar 1) (dC (.int 7))))) (sRet (dTup (dCons (dC (.str "losses")) (dCons (dVar 4) (dCons (dVar 6) (dCons (dBin gAdd (dC (.int 1)) (dBin gMod (dCB gInt (dCons (dBin gIx (dVar 1) (dC (.int 3))) dNil)) (dC (.int 4)))) (dCons (dVar 2) (dCons (dVar 3) dNil)))))))))))
theorem u_l_setting_1 {Z : DEnd} {env : Sl} : lp_l_setting_1 Z env = (sSeq (sIf (dTst (dBin gLt (dBin gIx (dVar 1) (dC (.int 0))) (dC (.int 3)))) (sSeq (sSet 4 (dBin gAdd (dC (.int 2)) (dBin gIx (dVar 1) (dC (.int 1))))) (sSeq (sSet 5 (dBin gIx (dLstV (dCons (dBin DL.gSub (dVar 4) (dC (.int 1))) (dCons (dBin gMod (dCB gInt (dCons (dBin gIx (dVar 1) (dC (.int 2))) dNil)) (dVar 4)) (dCons (dCB gMax (dCons (dC (.int 1)) (dCons (dBin gMod (dCB gInt (dCons (dBin gIx (dVar 1) (dC (.int 2))) dNil)) (dVar 4)) dNil))) dNil)))) (dBin gIx (dVar 1) (dC (.int 7))))) (sRet (dTup (dCons (dC (.str "falls")) (dCons (dVar 4) (dCons (dVar 5) (dCons (dBin gAdd (dC (.int 1)) (dBin gIx (dVar 1) (dC (.int 3)))) (dCons (dVar 2) (dCons (dVar 3) (dCons (dBin gIx (dLstV (dCons (dC (.str "lasting")) (dCons (dC (.str "standing")) dNil))) (dBin gIx (dVar 1) (dC (.int 6)))) dNil))))))))))) sNext) (sSeq (sSet 4 (dBin gAdd (dC (.int 2)) (dBin gMod (dCB gInt (dCons (dBin gIx (dVar 1) (dC (.int 1))) dNil)) (dC (.int 3))))) (sSeq (sSet 6 (dBin gIx (dLstV (dCons (dC (.int 1)) (dCons (dC (.int 2)) (dCons (dBin gMod (dCB gInt (dCons (dBin gIx (dVar 1) (dC (.int 2))) dNil)) (dBin gAdd (dBin gMul (dVar 4) (dBin DL.gSub (dVar 4) (dC (.int 1)))) (dC (.int 1)))) dNil)))) (dBin gIx (dVar 1) (dC (.int 7))))) (sRet (dTup (dCons (dC (.str "losses")) (dCons (dVar 4) (dCons (dVar 6) (dCons (dBin gAdd (dC (.int 1)) (dBin gMod (dCB gInt (dCons (dBin gIx (dVar 1) (dC (.int 3))) dNil)) (dC (.int 4)))) (dCons (dVar 2) (dCons (dVar 3) dNil))))))))))) Z env := rfl
def b_l_setting : SS := (sSeq (sSet 1 (dCall sp_l_digits (dCons (dVar 0) (dCons (dLstV (dCons (dC (.int 5)) (dCons (dC (.int 4)) (dCons (dC (.int 60)) (dCons (dC (.int 5)) (dCons (dC (.int 8)) (dCons (dC (.int 4)) (dCons (dC (.int 2)) (dCons (dC (.int 3)) dNil))))))))) dNil)))) (sSeq (sSet 2 (dBin gIx (dLstV (dCons (dC (.int 2)) (dCons (dC (.int 2)) (dCons (dC (.int 3)) (dCons (dC (.int 2)) (dCons (dC (.int 1)) (dCons (dC (.int 4)) (dCons (dC (.int 2)) (dCons (dC (.int 3)) dNil))))))))) (dBin gIx (dVar 1) (dC (.int 4))))) (sSeq (sSet 3 (dBin gIx (dLstV (dCons (dC (.str "begun")) (dCons (dC (.str "leader")) (dCons (dC (.str "free")) (dCons (dC (.str "begun")) dNil))))) (dBin gIx (dVar 1) (dC (.int 5))))) (sSeq (sIf (dTst (dBin gEq (dVar 2) (dC (.int 2)))) (sSet 3 (dBin gIx (dLstV (dCons (dC (.str "begun")) (dCons (dC (.str "votes")) (dCons (dC (.str "leader")) (dCons (dC (.str "free")) dNil))))) (dBin gIx (dVar 1) (dC (.int 5))))) sNext) lp_l_setting_1))))
theorem en_l_setting {v0 : D} : en N_l_setting.length [v0] = [some (.fz v0), none, none, none, none, none, none] := rfl
abbrev N_l_lossy : List Str := ["setting", "cell", "more", "houses", "letters", "row", "drawn", "k", "begins", "rows", "turn", "mode", "chosen", "at"]
def lp_l_lossy_1 : SS := (sSeq (sSet 13 (dBin gMod (dCB gInt (dCons (dBin gAdd (dBin gIx (dVar 5) (dBin gAdd (dBin gAdd (dVar 3) (dC (.int 3))) (dBin gMul (dC (.int 2)) (dVar 10)))) (dVar 7)) dNil)) (dCB gLen (dCons (dVar 4) dNil)))) (sIf (dAnd (dTst (dBin gLt (dCB gLen (dCons (dOwn 12) dNil)) (dBin gIx (dVar 0) (dC (.int 2))))) (dOr (dTst (dBin gEq (dVar 11) (dC (.int 1)))) (dAnd (dTst (dBin gGt (dVar 11) (dC (.int 1)))) (dTst (dBin gEq (dBin gIx (dVar 6) (dBin gAdd (dBin gMul (dVar 10) (dCB gLen (dCons (dVar 4) dNil))) (dVar 13))) (dC (.int 0))))))) (sApp 12 (dBin gIx (dVar 4) (dVar 13))) sNext))
theorem u_l_lossy_1 {Z : DEnd} {env : Sl} : lp_l_lossy_1 Z env = (sSeq (sSet 13 (dBin gMod (dCB gInt (dCons (dBin gAdd (dBin gIx (dVar 5) (dBin gAdd (dBin gAdd (dVar 3) (dC (.int 3))) (dBin gMul (dC (.int 2)) (dVar 10)))) (dVar 7)) dNil)) (dCB gLen (dCons (dVar 4) dNil)))) (sIf (dAnd (dTst (dBin gLt (dCB gLen (dCons (dOwn 12) dNil)) (dBin gIx (dVar 0) (dC (.int 2))))) (dOr (dTst (dBin gEq (dVar 11) (dC (.int 1)))) (dAnd (dTst (dBin gGt (dVar 11) (dC (.int 1)))) (dTst (dBin gEq (dBin gIx (dVar 6) (dBin gAdd (dBin gMul (dVar 10) (dCB gLen (dCons (dVar 4) dNil))) (dVar 13))) (dC (.int 0))))))) (sApp 12 (dBin gIx (dVar 4) (dVar 13))) sNext)) Z env := rfl
def lp_l_lossy_2 : SS := (sSeq (sSet 11 (dBin gMul (dBin gIx (dVar 5) (dBin gAdd (dBin gAdd (dVar 3) (dC (.int 2))) (dBin gMul (dC (.int 2)) (dVar 10)))) (dCB gInt (dCons (dBin gGt (dBin gIx (dVar 5) (dBin gAdd (dVar 3) (dC (.int 1)))) (dC (.int 0))) dNil)))) (sSeq (sSetO 12 dNil) (sSeq (sFor (dRng1 (dCons (dCB gLen (dCons (dVar 4) dNil)) dNil)) (tgN 7) lp_l_lossy_1) (sApp 9 (dCB gTuple (dCons (dCB gSorted (dCons (dOwn 12) dNil)) dNil))))))
theorem u_l_lossy_2 {Z : DEnd} {env : Sl} : lp_l_lossy_2 Z env = (sSeq (sSet 11 (dBin gMul (dBin gIx (dVar 5) (dBin gAdd (dBin gAdd (dVar 3) (dC (.int 2))) (dBin gMul (dC (.int 2)) (dVar 10)))) (dCB gInt (dCons (dBin gGt (dBin gIx (dVar 5) (dBin gAdd (dVar 3) (dC (.int 1)))) (dC (.int 0))) dNil)))) (sSeq (sSetO 12 dNil) (sSeq (sFor (dRng1 (dCons (dCB gLen (dCons (dVar 4) dNil)) dNil)) (tgN 7) lp_l_lossy_1) (sApp 9 (dCB gTuple (dCons (dCB gSorted (dCons (dOwn 12) dNil)) dNil)))))) Z env := rfl
def b_l_lossy : SS := (sSeq (sSet 3 (dBin gIx (dVar 0) (dC (.int 1)))) (sSeq (sSet 4 (dCall sp_l_letters (dCons (dVar 3) dNil))) (sSeq (sSet 5 (dCall sp_l_digits (dCons (dVar 1) (dCons (dBin gAdd (dBin gAdd (dBin gMul (dLstV (dCons (dC (.int 12)) dNil)) (dVar 3)) (dLstV (dCons (dC (.int 4)) (dCons (dC (.int 4)) dNil)))) (dBin gMul (dLstV (dCons (dC (.int 4)) (dCons (dC (.int 12)) dNil))) (dBin gIx (dVar 0) (dC (.int 3))))) dNil)))) (sSeq (sSet 6 (dCall sp_l_digits (dCons (dVar 2) (dCons (dBin gMul (dLstV (dCons (dC (.int 3)) dNil)) (dBin gMul (dCB gLen (dCons (dVar 4) dNil)) (dBin gIx (dVar 0) (dC (.int 3))))) dNil)))) (sSeq (sSet 8 (dLstV (dComp [7] (dRng1 (dCons (dVar 3) dNil)) (tgN 7) dYes (dBin gMod (dCB gInt (dCons (dBin gIx (dVar 5) (dBin gMul (dVar 7) (dCB gInt (dCons (dBin gGt (dBin gIx (dVar 5) (dVar 3)) (dC (.int 0))) dNil)))) dNil)) (dBin gIx (dVar 0) (dC (.int 4))))))) (sSeq (sSetO 9 dNil) (sSeq (sFor (dRng1 (dCons (dBin gIx (dVar 0) (dC (.int 3))) dNil)) (tgN 10) lp_l_lossy_2) (sRet (dTup (dCons (dCB gTuple (dCons (dVar 8) dNil)) (dCons (dCB gTuple (dCons (dOwn 9) dNil)) dNil)))))))))))
theorem en_l_lossy {v0 v1 v2 : D} : en N_l_lossy.length [v0, v1, v2] = [some (.fz v0), some (.fz v1), some (.fz v2), none, none, none, none, none, none, none, none, none, none, none] := rfl
abbrev N_l_story : List Str := ["setting", "cell", "more", "houses", "row", "k", "begins", "house", "falls", "left", "part", "turn", "others", "reached", "j"]
def lp_l_story_1 : SS := (sSeq (sSet 9 (dBin DL.gSub (dVar 9) (dC (.int 1)))) (sSeq (sSet 11 (dBin gAdd (dC (.int 1)) (dBin gMod (dCB gInt (dCons (dBin gIx (dLstV (dCons (dBin gIx (dVar 10) (dC (.int 1))) (dCons (dVar 5) (dCons (dBin gIx (dVar 10) (dC (.int 1))) dNil)))) (dBin gMod (dCB gInt (dCons (dBin gIx (dVar 10) (dC (.int 0))) dNil)) (dC (.int 3)))) dNil)) (dBin gIx (dVar 0) (dC (.int 3)))))) (sSeq (sSet 12 (dCall sp_l_others (dCons (dVar 3) (dCons (dVar 7) dNil)))) (sSeq (sSet 13 (dLstV (dComp [14] (dRng1 (dCons (dCB gLen (dCons (dVar 12) dNil)) dNil)) (tgN 14) (dOr (dAnd (dTst (dBin gEq (dBin gIx (dVar 10) (dBin gAdd (dC (.int 2)) (dVar 14))) (dC (.int 1)))) (dTst (dBin gGt (dBin gIx (dVar 10) (dC (.int 6))) (dC (.int 1))))) (dTst (dBin gEq (dBin gIx (dVar 10) (dC (.int 6))) (dC (.int 1))))) (dBin gIx (dVar 12) (dVar 14))))) (sPutIx 8 (dTup (dCons (dVar 11) (dCons (dCB gTuple (dCons (dVar 13) dNil)) dNil))) (dVar 7))))))
theorem u_l_story_1 {Z : DEnd} {env : Sl} : lp_l_story_1 Z env = (sSeq (sSet 9 (dBin DL.gSub (dVar 9) (dC (.int 1)))) (sSeq (sSet 11 (dBin gAdd (dC (.int 1)) (dBin gMod (dCB gInt (dCons (dBin gIx (dLstV (dCons (dBin gIx (dVar 10) (dC (.int 1))) (dCons (dVar 5) (dCons (dBin gIx (dVar 10) (dC (.int 1))) dNil)))) (dBin gMod (dCB gInt (dCons (dBin gIx (dVar 10) (dC (.int 0))) dNil)) (dC (.int 3)))) dNil)) (dBin gIx (dVar 0) (dC (.int 3)))))) (sSeq (sSet 12 (dCall sp_l_others (dCons (dVar 3) (dCons (dVar 7) dNil)))) (sSeq (sSet 13 (dLstV (dComp [14] (dRng1 (dCons (dCB gLen (dCons (dVar 12) dNil)) dNil)) (tgN 14) (dOr (dAnd (dTst (dBin gEq (dBin gIx (dVar 10) (dBin gAdd (dC (.int 2)) (dVar 14))) (dC (.int 1)))) (dTst (dBin gGt (dBin gIx (dVar 10) (dC (.int 6))) (dC (.int 1))))) (dTst (dBin gEq (dBin gIx (dVar 10) (dC (.int 6))) (dC (.int 1))))) (dBin gIx (dVar 12) (dVar 14))))) (sPutIx 8 (dTup (dCons (dVar 11) (dCons (dCB gTuple (dCons (dVar 13) dNil)) dNil))) (dVar 7)))))) Z env := rfl
def lp_l_story_2 : SS := (sSeq (sSet 7 (dBin gMod (dCB gInt (dCons (dBin gAdd (dVar 5) (dBin gIx (dVar 4) (dBin gAdd (dVar 3) (dC (.int 1))))) dNil)) (dVar 3))) (sSeq (sSet 10 (dSl gSl (dVar 4) (dPart (dBin gAdd (dBin gAdd (dVar 3) (dC (.int 3))) (dBin gMul (dC (.int 7)) (dVar 5)))) (dPart (dBin gAdd (dBin gAdd (dVar 3) (dC (.int 10))) (dBin gMul (dC (.int 7)) (dVar 5)))))) (sIf (dAnd (dTst (dBin gGt (dVar 9) (dC (.int 0)))) (dOr (dTst (dBin gLt (dBin gIx (dVar 10) (dC (.int 0))) (dC (.int 3)))) (dTst (dBin gEq (dBin gIx (dVar 4) (dBin gAdd (dVar 3) (dC (.int 2)))) (dC (.int 1)))))) lp_l_story_1 sNext)))
theorem u_l_story_2 {Z : DEnd} {env : Sl} : lp_l_story_2 Z env = (sSeq (sSet 7 (dBin gMod (dCB gInt (dCons (dBin gAdd (dVar 5) (dBin gIx (dVar 4) (dBin gAdd (dVar 3) (dC (.int 1))))) dNil)) (dVar 3))) (sSeq (sSet 10 (dSl gSl (dVar 4) (dPart (dBin gAdd (dBin gAdd (dVar 3) (dC (.int 3))) (dBin gMul (dC (.int 7)) (dVar 5)))) (dPart (dBin gAdd (dBin gAdd (dVar 3) (dC (.int 10))) (dBin gMul (dC (.int 7)) (dVar 5)))))) (sIf (dAnd (dTst (dBin gGt (dVar 9) (dC (.int 0)))) (dOr (dTst (dBin gLt (dBin gIx (dVar 10) (dC (.int 0))) (dC (.int 3)))) (dTst (dBin gEq (dBin gIx (dVar 4) (dBin gAdd (dVar 3) (dC (.int 2)))) (dC (.int 1)))))) lp_l_story_1 sNext))) Z env := rfl
def b_l_story : SS := (sSeq (sSet 3 (dBin gIx (dVar 0) (dC (.int 1)))) (sSeq (sIf (dTst (dBin gEq (dBin gIx (dVar 0) (dC (.int 0))) (dC (.str "losses")))) (sRet (dCall sp_l_lossy (dCons (dVar 0) (dCons (dVar 1) (dCons (dVar 2) dNil))))) sNext) (sSeq (sSet 4 (dCall sp_l_digits (dCons (dVar 1) (dCons (dBin gAdd (dBin gAdd (dBin gMul (dLstV (dCons (dC (.int 12)) dNil)) (dVar 3)) (dLstV (dCons (dC (.int 4)) (dCons (dVar 3) (dCons (dC (.int 5)) dNil))))) (dBin gMul (dLstV (dCons (dC (.int 6)) (dCons (dC (.int 60)) (dCons (dC (.int 2)) (dCons (dC (.int 2)) (dCons (dC (.int 2)) (dCons (dC (.int 2)) (dCons (dC (.int 4)) dNil)))))))) (dVar 3))) dNil)))) (sSeq (sSet 6 (dLstV (dComp [5] (dRng1 (dCons (dVar 3) dNil)) (tgN 5) dYes (dBin gMod (dCB gInt (dCons (dBin gIx (dVar 4) (dBin gMul (dVar 5) (dCB gInt (dCons (dBin gGt (dBin gIx (dVar 4) (dVar 3)) (dC (.int 0))) dNil)))) dNil)) (dBin gIx (dVar 0) (dC (.int 4))))))) (sSeq (sSetO 8 (dComp [7] (dRng1 (dCons (dVar 3) dNil)) (tgN 7) dYes (dC .non))) (sSeq (sSet 9 (dBin gMul (dBin gIx (dVar 0) (dC (.int 2))) (dCB gInt (dCons (dBin gGt (dBin gIx (dVar 4) (dBin gAdd (dVar 3) (dC (.int 2)))) (dC (.int 0))) dNil)))) (sSeq (sFor (dRng1 (dCons (dVar 3) dNil)) (tgN 5) lp_l_story_2) (sRet (dTup (dCons (dCB gTuple (dCons (dVar 6) dNil)) (dCons (dCB gTuple (dCons (dOwn 8) dNil)) dNil)))))))))))
theorem en_l_story {v0 v1 v2 : D} : en N_l_story.length [v0, v1, v2] = [some (.fz v0), some (.fz v1), some (.fz v2), none, none, none, none, none, none, none, none, none, none, none, none] := rfl
abbrev N_l_passed : List Str := ["setting", "lists"]
def b_l_passed : SS := (sRet (dBin gIx (dLstV (dCons (dVar 0) (dCons (dCB gList (dCons (dVar 0) dNil)) dNil))) (dCB gInt (dCons (dVar 1) dNil))))
theorem en_l_passed {v0 v1 : D} : en N_l_passed.length [v0, v1] = [some (.fz v0), some (.fz v1)] := rfl
abbrev N_l_form : List Str := ["setting", "story", "lists", "rows", "part", "pair"]
def lp_l_form_1 : SS := (sIf (dTst (dBin gIsN (dVar 4) (dC .non))) (sApp 3 (dC .non)) (sIf (dTst (dBin gEq (dBin gIx (dVar 0) (dC (.int 0))) (dC (.str "falls")))) (sApp 3 (dLstV (dCons (dBin gIx (dVar 4) (dC (.int 0))) (dCons (dCB gList (dCons (dBin gIx (dVar 4) (dC (.int 1))) dNil)) dNil)))) (sApp 3 (dLstV (dComp [5] (dIt (dVar 4)) (tgN 5) dYes (dCB gList (dCons (dVar 5) dNil)))))))
theorem u_l_form_1 {Z : DEnd} {env : Sl} : lp_l_form_1 Z env = (sIf (dTst (dBin gIsN (dVar 4) (dC .non))) (sApp 3 (dC .non)) (sIf (dTst (dBin gEq (dBin gIx (dVar 0) (dC (.int 0))) (dC (.str "falls")))) (sApp 3 (dLstV (dCons (dBin gIx (dVar 4) (dC (.int 0))) (dCons (dCB gList (dCons (dBin gIx (dVar 4) (dC (.int 1))) dNil)) dNil)))) (sApp 3 (dLstV (dComp [5] (dIt (dVar 4)) (tgN 5) dYes (dCB gList (dCons (dVar 5) dNil))))))) Z env := rfl
def b_l_form : SS := (sSeq (sIf (dNot (dTst (dVar 2))) (sRet (dVar 1)) sNext) (sSeq (sSetO 3 dNil) (sSeq (sFor (dIt (dBin gIx (dVar 1) (dC (.int 1)))) (tgN 4) lp_l_form_1) (sFz 3 (sRet (dLstV (dCons (dCB gList (dCons (dBin gIx (dVar 1) (dC (.int 0))) dNil)) (dCons (dVar 3) dNil))))))))
theorem en_l_form {v0 v1 v2 : D} : en N_l_form.length [v0, v1, v2] = [some (.fz v0), some (.fz v1), some (.fz v2), none, none, none] := rfl
abbrev N_l_counts : List Str := ["setting", "story", "counts", "house"]
def lp_l_counts_1 : SS := (sIf (dOr (dTst (dBin gEq (dBin gIx (dVar 0) (dC (.int 0))) (dC (.str "losses")))) (dTst (dBin gIsN (dBin gIx (dBin gIx (dVar 1) (dC (.int 1))) (dVar 3)) (dC .non)))) (sApp 2 (dBin gAdd (dBin gIx (dVar 0) (dC (.int 3))) (dC (.int 1)))) (sIf (dTst (dBin gEq (dBin gIx (dVar 0) (dC (.int 6))) (dC (.str "lasting")))) (sApp 2 (dC (.int 0))) (sApp 2 (dBin gIx (dBin gIx (dBin gIx (dVar 1) (dC (.int 1))) (dVar 3)) (dC (.int 0))))))
theorem u_l_counts_1 {Z : DEnd} {env : Sl} : lp_l_counts_1 Z env = (sIf (dOr (dTst (dBin gEq (dBin gIx (dVar 0) (dC (.int 0))) (dC (.str "losses")))) (dTst (dBin gIsN (dBin gIx (dBin gIx (dVar 1) (dC (.int 1))) (dVar 3)) (dC .non)))) (sApp 2 (dBin gAdd (dBin gIx (dVar 0) (dC (.int 3))) (dC (.int 1)))) (sIf (dTst (dBin gEq (dBin gIx (dVar 0) (dC (.int 6))) (dC (.str "lasting")))) (sApp 2 (dC (.int 0))) (sApp 2 (dBin gIx (dBin gIx (dBin gIx (dVar 1) (dC (.int 1))) (dVar 3)) (dC (.int 0)))))) Z env := rfl
def b_l_counts : SS := (sSeq (sSetO 2 dNil) (sSeq (sFor (dRng1 (dCons (dBin gIx (dVar 0) (dC (.int 1))) dNil)) (tgN 3) lp_l_counts_1) (sRet (dCB gTuple (dCons (dOwn 2) dNil)))))
theorem en_l_counts {v0 v1 : D} : en N_l_counts.length [v0, v1] = [some (.fz v0), some (.fz v1), none, none] := rfl
abbrev N_l_right : List Str := ["setting", "story", "houses", "smooth", "begun", "ones", "right", "b", "begin", "item"]
def lp_l_right_1 : SS := (sRet (dCB gTuple (dCons (dOwn 6) dNil)))
theorem u_l_right_1 {Z : DEnd} {env : Sl} : lp_l_right_1 Z env = (sRet (dCB gTuple (dCons (dOwn 6) dNil))) Z env := rfl
def lp_l_right_2 : SS := (sSeq (sIf (dTst (dBin gEq (dVar 5) (dVar 2))) (sApp 6 (dC (.int 1))) sNext) lp_l_right_1)
theorem u_l_right_2 {Z : DEnd} {env : Sl} : lp_l_right_2 Z env = (sSeq (sIf (dTst (dBin gEq (dVar 5) (dVar 2))) (sApp 6 (dC (.int 1))) sNext) lp_l_right_1) Z env := rfl
def b_l_right : SS := (sSeq (sSet 2 (dBin gIx (dVar 0) (dC (.int 1)))) (sSeq (sSet 3 (dBin gEq (dCB gLen (dCons (dLstV (dComp [9] (dIt (dBin gIx (dVar 1) (dC (.int 1)))) (tgN 9) (dAnd (dTst (dBin gNotN (dVar 9) (dC .non))) (dTst (dBin gGt (dCB gLen (dCons (dVar 9) dNil)) (dC (.int 0))))) (dVar 9))) dNil)) (dC (.int 0)))) (sSeq (sSet 4 (dLstV (dComp [7] (dRng1 (dCons (dBin gIx (dVar 0) (dC (.int 4))) dNil)) (tgN 7) (dTst (dBin gIn (dVar 7) (dBin gIx (dVar 1) (dC (.int 0))))) (dVar 7)))) (sSeq (sIf (dTst (dBin gEq (dBin gIx (dVar 0) (dC (.int 5))) (dC (.str "begun")))) (sRet (dCB gTuple (dCons (dVar 4) dNil))) sNext) (sSeq (sIf (dTst (dBin gEq (dBin gIx (dVar 0) (dC (.int 5))) (dC (.str "free")))) (sRet (dCB gTuple (dCons (dLstV (dComp [7] (dRng1 (dCons (dBin gIx (dVar 0) (dC (.int 4))) dNil)) (tgN 7) dYes (dVar 7))) dNil))) sNext) (sSeq (sIf (dTst (dBin gEq (dBin gIx (dVar 0) (dC (.int 5))) (dC (.str "leader")))) (sSeq (sIf (dTst (dVar 3)) (sRet (dTup (dCons (dBin gIx (dBin gIx (dVar 1) (dC (.int 0))) (dC (.int 0))) dNil))) sNext) (sRet (dCB gTuple (dCons (dVar 4) dNil)))) sNext) (sSeq (sSet 5 (dCB gLen (dCons (dLstV (dComp [8] (dIt (dBin gIx (dVar 1) (dC (.int 0)))) (tgN 8) (dTst (dBin gEq (dVar 8) (dC (.int 1)))) (dVar 8))) dNil))) (sSeq (sSetO 6 dNil) (sSeq (sIf (dOr (dTst (dBin gLt (dVar 5) (dVar 2))) (dNot (dTst (dVar 3)))) (sApp 6 (dC (.int 0))) sNext) lp_l_right_2)))))))))
theorem en_l_right {v0 v1 : D} : en N_l_right.length [v0, v1] = [some (.fz v0), some (.fz v1), none, none, none, none, none, none, none, none] := rfl
abbrev N_l_variants : List Str := ["setting", "found", "task"]
def lp_l_variants_1 : SS := (sIf (dTst (dBin gEq (dBin gIx (dVar 0) (dC (.int 0))) (dC (.str "losses")))) (sApp 1 (dBin gAdd (dSl gSl (dVar 0) dNoPart (dPart (dC (.int 5)))) (dTup (dCons (dVar 2) dNil)))) (sSeq (sApp 1 (dBin gAdd (dSl gSl (dVar 0) dNoPart (dPart (dC (.int 5)))) (dTup (dCons (dVar 2) (dCons (dC (.str "lasting")) dNil))))) (sApp 1 (dBin gAdd (dSl gSl (dVar 0) dNoPart (dPart (dC (.int 5)))) (dTup (dCons (dVar 2) (dCons (dC (.str "standing")) dNil)))))))
theorem u_l_variants_1 {Z : DEnd} {env : Sl} : lp_l_variants_1 Z env = (sIf (dTst (dBin gEq (dBin gIx (dVar 0) (dC (.int 0))) (dC (.str "losses")))) (sApp 1 (dBin gAdd (dSl gSl (dVar 0) dNoPart (dPart (dC (.int 5)))) (dTup (dCons (dVar 2) dNil)))) (sSeq (sApp 1 (dBin gAdd (dSl gSl (dVar 0) dNoPart (dPart (dC (.int 5)))) (dTup (dCons (dVar 2) (dCons (dC (.str "lasting")) dNil))))) (sApp 1 (dBin gAdd (dSl gSl (dVar 0) dNoPart (dPart (dC (.int 5)))) (dTup (dCons (dVar 2) (dCons (dC (.str "standing")) dNil))))))) Z env := rfl
def b_l_variants : SS := (sSeq (sSetO 1 dNil) (sSeq (sFor (dIt (dSl gSl (dLstV (dCons (dC (.str "begun")) (dCons (dC (.str "leader")) (dCons (dC (.str "free")) (dCons (dC (.str "votes")) dNil))))) dNoPart (dPart (dBin gAdd (dC (.int 3)) (dCB gInt (dCons (dBin gEq (dBin gIx (dVar 0) (dC (.int 4))) (dC (.int 2))) dNil)))))) (tgN 2) lp_l_variants_1) (sFz 1 (sRet (dVar 1)))))
theorem en_l_variants {v0 : D} : en N_l_variants.length [v0] = [some (.fz v0), none, none] := rfl
abbrev N_l_seconds : List Str := ["setting", "house", "houses", "letters", "turn", "smooth", "one", "near", "second", "other"]
def lp_l_seconds_1 : SS := (sApp 7 (dBin gAdd (dBin gAdd (dSl gSl (dVar 5) dNoPart (dPart (dVar 1))) (dLstV (dCons (dTup (dCons (dVar 4) (dCons (dCB gTuple (dCons (dCall sp_l_others (dCons (dVar 2) (dCons (dVar 1) dNil))) dNil)) dNil))) dNil))) (dSl gSl (dVar 5) (dPart (dBin gAdd (dVar 1) (dC (.int 1)))) dNoPart)))
theorem u_l_seconds_1 {Z : DEnd} {env : Sl} : lp_l_seconds_1 Z env = (sApp 7 (dBin gAdd (dBin gAdd (dSl gSl (dVar 5) dNoPart (dPart (dVar 1))) (dLstV (dCons (dTup (dCons (dVar 4) (dCons (dCB gTuple (dCons (dCall sp_l_others (dCons (dVar 2) (dCons (dVar 1) dNil))) dNil)) dNil))) dNil))) (dSl gSl (dVar 5) (dPart (dBin gAdd (dVar 1) (dC (.int 1)))) dNoPart))) Z env := rfl
def lp_l_seconds_2 : SS := (sRet (dLstV (dComp [8] (dIt (dBin gAdd (dLstV (dCons (dVar 5) dNil)) (dOwn 7))) (tgN 8) dYes (dCB gTuple (dCons (dVar 8) dNil)))))
theorem u_l_seconds_2 {Z : DEnd} {env : Sl} : lp_l_seconds_2 Z env = (sRet (dLstV (dComp [8] (dIt (dBin gAdd (dLstV (dCons (dVar 5) dNil)) (dOwn 7))) (tgN 8) dYes (dCB gTuple (dCons (dVar 8) dNil))))) Z env := rfl
def lp_l_seconds_3 : SS := (sSeq (sIf (dTst (dBin gEq (dBin gIx (dVar 0) (dC (.int 2))) (dC (.int 0)))) (sSetO 7 dNil) sNext) lp_l_seconds_2)
theorem u_l_seconds_3 {Z : DEnd} {env : Sl} : lp_l_seconds_3 Z env = (sSeq (sIf (dTst (dBin gEq (dBin gIx (dVar 0) (dC (.int 2))) (dC (.int 0)))) (sSetO 7 dNil) sNext) lp_l_seconds_2) Z env := rfl
def b_l_seconds : SS := (sSeq (sSet 2 (dBin gIx (dVar 0) (dC (.int 1)))) (sSeq (sSet 3 (dCall sp_l_letters (dCons (dVar 2) dNil))) (sSeq (sIf (dTst (dBin gEq (dBin gIx (dVar 0) (dC (.int 0))) (dC (.str "losses")))) (sSeq (sSet 5 (dLstV (dComp [4] (dRng1 (dCons (dBin gIx (dVar 0) (dC (.int 3))) dNil)) (tgN 4) dYes (dTup dNil)))) (sSeq (sSet 6 (dTup (dCons (dBin gIx (dVar 3) (dBin gMod (dCB gInt (dCons (dBin gMul (dVar 1) (dC (.int 5))) dNil)) (dCB gLen (dCons (dVar 3) dNil)))) dNil))) (sSetO 7 (dCons (dBin gAdd (dSl gSl (dVar 5) dNoPart (dPart (dNeg (dC (.int 1))))) (dLstV (dCons (dVar 6) dNil))) (dCons (dBin gAdd (dLstV (dCons (dVar 6) dNil)) (dSl gSl (dVar 5) (dPart (dC (.int 1))) dNoPart)) dNil))))) (sSeq (sSet 5 (dLstV (dComp [9] (dRng1 (dCons (dVar 2) dNil)) (tgN 9) dYes (dC .non)))) (sSeq (sSetO 7 dNil) (sFor (dIt (dLstV (dCons (dBin gIx (dVar 0) (dC (.int 3))) (dCons (dC (.int 1)) dNil)))) (tgN 4) lp_l_seconds_1)))) lp_l_seconds_3)))
theorem en_l_seconds {v0 v1 : D} : en N_l_seconds.length [v0, v1] = [some (.fz v0), some (.fz v1), none, none, none, none, none, none, none, none] := rfl
abbrev N_l_beginnings : List Str := ["setting", "drawn", "house", "answer", "houses", "alike", "other", "k"]
def b_l_beginnings : SS := (sSeq (sSet 4 (dBin gIx (dVar 0) (dC (.int 1)))) (sSeq (sSet 5 (dLstV (dComp [7] (dRng1 (dCons (dVar 4) dNil)) (tgN 7) dYes (dVar 3)))) (sSeq (sSet 6 (dBin gAdd (dBin gAdd (dSl gSl (dVar 5) dNoPart (dPart (dVar 2))) (dLstV (dCons (dBin gMod (dCB gInt (dCons (dBin gAdd (dVar 3) (dC (.int 1))) dNil)) (dBin gIx (dVar 0) (dC (.int 4)))) dNil))) (dSl gSl (dVar 5) (dPart (dBin gAdd (dVar 2) (dC (.int 1)))) dNoPart))) (sRet (dLstV (dCons (dVar 1) (dCons (dCB gTuple (dCons (dVar 5) dNil)) (dCons (dCB gTuple (dCons (dVar 6) dNil)) (dCons (dCB gTuple (dCons (dLstV (dComp [7] (dRng1 (dCons (dVar 4) dNil)) (tgN 7) dYes (dC (.int 0)))) dNil)) (dCons (dCB gTuple (dCons (dLstV (dComp [7] (dRng1 (dCons (dVar 4) dNil)) (tgN 7) dYes (dBin DL.gSub (dBin gIx (dVar 0) (dC (.int 4))) (dC (.int 1))))) dNil)) dNil))))))))))
theorem en_l_beginnings {v0 v1 v2 v3 : D} : en N_l_beginnings.length [v0, v1, v2, v3] = [some (.fz v0), some (.fz v1), some (.fz v2), some (.fz v3), none, none, none, none] := rfl
abbrev N_law : List Str := ["script", "setting", "row", "one", "two", "house", "lists", "begins", "second", "handed", "before", "variant", "passed"]
def lp_law_1 : SS := (sSeq (sSet 12 (dCall sp_l_passed (dCons (dVar 11) (dCons (dVar 6) dNil)))) (sSeq (sIf (dNot (dTst (dCall sp_l_same (dCons (dCall sp_right_in (dCons (dVar 12) (dCons (dVar 9) dNil))) (dCons (dCall sp_l_right (dCons (dVar 11) (dCons (dTup (dCons (dVar 7) (dCons (dVar 8) dNil))) dNil))) dNil))))) (sRet (dC (.bl false))) sNext) (sSeq (sIf (dNot (dTst (dCall sp_l_same (dCons (dCall sp_counts_in (dCons (dVar 12) (dCons (dVar 9) dNil))) (dCons (dCall sp_l_counts (dCons (dVar 11) (dCons (dTup (dCons (dVar 7) (dCons (dVar 8) dNil))) dNil))) dNil))))) (sRet (dC (.bl false))) sNext) (sIf (dOr (dTst (dBin gNe (dCB gTuple (dCons (dVar 12) dNil)) (dVar 11))) (dTst (dBin gNe (dCB gRepr (dCons (dVar 9) dNil)) (dVar 10)))) (sRet (dC (.bl false))) sNext))))
theorem u_law_1 {Z : DEnd} {env : Sl} : lp_law_1 Z env = (sSeq (sSet 12 (dCall sp_l_passed (dCons (dVar 11) (dCons (dVar 6) dNil)))) (sSeq (sIf (dNot (dTst (dCall sp_l_same (dCons (dCall sp_right_in (dCons (dVar 12) (dCons (dVar 9) dNil))) (dCons (dCall sp_l_right (dCons (dVar 11) (dCons (dTup (dCons (dVar 7) (dCons (dVar 8) dNil))) dNil))) dNil))))) (sRet (dC (.bl false))) sNext) (sSeq (sIf (dNot (dTst (dCall sp_l_same (dCons (dCall sp_counts_in (dCons (dVar 12) (dCons (dVar 9) dNil))) (dCons (dCall sp_l_counts (dCons (dVar 11) (dCons (dTup (dCons (dVar 7) (dCons (dVar 8) dNil))) dNil))) dNil))))) (sRet (dC (.bl false))) sNext) (sIf (dOr (dTst (dBin gNe (dCB gTuple (dCons (dVar 12) dNil)) (dVar 11))) (dTst (dBin gNe (dCB gRepr (dCons (dVar 9) dNil)) (dVar 10)))) (sRet (dC (.bl false))) sNext)))) Z env := rfl
def lp_law_2 : SS := (sSeq (sSet 6 (dNotV (dVar 6))) (sSeq (sSet 9 (dCall sp_l_form (dCons (dVar 1) (dCons (dTup (dCons (dVar 7) (dCons (dVar 8) dNil))) (dCons (dVar 6) dNil))))) (sSeq (sSet 10 (dCB gRepr (dCons (dVar 9) dNil))) (sFor (dIt (dCall sp_l_variants (dCons (dVar 1) dNil))) (tgN 11) lp_law_1))))
theorem u_law_2 {Z : DEnd} {env : Sl} : lp_law_2 Z env = (sSeq (sSet 6 (dNotV (dVar 6))) (sSeq (sSet 9 (dCall sp_l_form (dCons (dVar 1) (dCons (dTup (dCons (dVar 7) (dCons (dVar 8) dNil))) (dCons (dVar 6) dNil))))) (sSeq (sSet 10 (dCB gRepr (dCons (dVar 9) dNil))) (sFor (dIt (dCall sp_l_variants (dCons (dVar 1) dNil))) (tgN 11) lp_law_1)))) Z env := rfl
def lp_law_3 : SS := (sFor (dIt (dBin gAdd (dLstV (dCons (dBin gIx (dVar 3) (dC (.int 1))) (dCons (dBin gIx (dVar 4) (dC (.int 1))) dNil))) (dCall sp_l_seconds (dCons (dVar 1) (dCons (dVar 5) dNil))))) (tgN 8) lp_law_2)
theorem u_law_3 {Z : DEnd} {env : Sl} : lp_law_3 Z env = (sFor (dIt (dBin gAdd (dLstV (dCons (dBin gIx (dVar 3) (dC (.int 1))) (dCons (dBin gIx (dVar 4) (dC (.int 1))) dNil))) (dCall sp_l_seconds (dCons (dVar 1) (dCons (dVar 5) dNil))))) (tgN 8) lp_law_2) Z env := rfl
def b_law : SS := (sSeq (sSet 1 (dCall sp_l_setting (dCons (dCall sp_l_cell (dCons (dVar 0) (dCons (dC (.int 44)) dNil))) dNil))) (sSeq (sSet 2 (dCall sp_l_digits (dCons (dCall sp_l_cell (dCons (dVar 0) (dCons (dC (.int 1)) dNil))) (dCons (dLstV (dCons (dC (.int 2)) (dCons (dC (.int 60)) (dCons (dC (.int 12)) dNil)))) dNil)))) (sSeq (sSet 3 (dCall sp_l_story (dCons (dVar 1) (dCons (dCall sp_l_cell (dCons (dVar 0) (dCons (dC (.int 2)) dNil))) (dCons (dCall sp_l_cell (dCons (dVar 0) (dCons (dC (.int 3)) dNil))) dNil))))) (sSeq (sSet 4 (dCall sp_l_story (dCons (dVar 1) (dCons (dCall sp_l_cell (dCons (dVar 0) (dCons (dC (.int 4)) dNil))) (dCons (dCall sp_l_cell (dCons (dVar 0) (dCons (dC (.int 5)) dNil))) dNil))))) (sSeq (sSet 5 (dBin gMod (dCB gInt (dCons (dBin gIx (dVar 2) (dC (.int 1))) dNil)) (dBin gIx (dVar 1) (dC (.int 1))))) (sSeq (sSet 6 (dBin gEq (dBin gIx (dVar 2) (dC (.int 0))) (dC (.int 1)))) (sSeq (sFor (dIt (dCall sp_l_beginnings (dCons (dVar 1) (dCons (dBin gIx (dVar 3) (dC (.int 0))) (dCons (dVar 5) (dCons (dBin gMod (dCB gInt (dCons (dBin gIx (dVar 2) (dC (.int 2))) dNil)) (dBin gIx (dVar 1) (dC (.int 4)))) dNil)))))) (tgN 7) lp_law_3) (sRet (dC (.bl true))))))))))
theorem en_law {v0 : D} : en N_law.length [v0] = [some (.fz v0), none, none, none, none, none, none, none, none, none, none, none, none] := rfl
end K64

namespace K64
open PySem L2 DL
theorem p_l_whole (ds : List D) (Q : D → Prop) (E : DExc → Prop) (hl : ds.length = 1) (h : sp_l_whole ds Q E) : b_l_whole (dEnd Q E) (en N_l_whole.length ds) := by
  obtain ⟨i, rfl, q⟩ := h
  rw [en_l_whole]
  simp only [↓DL.gt_0, ↓DL.gt_s, ↓DL.pt_0, ↓DL.pt_s, ↓DL.gv_fz, ↓DL.x_var, ↓DL.go_fz, ↓DL.go_lst, ↓DL.x_own, ↓DL.x_c, ↓DL.x_bin, ↓DL.x_tst, ↓DL.asB_bl, ↓DL.x_chain, ↓DL.x_and, ↓DL.x_or, ↓DL.x_not, ↓DL.x_andV, ↓DL.x_orV, ↓DL.x_notV, ↓DL.x_if, ↓DL.x_nil, ↓DL.x_cons, ↓DL.x_tup, ↓DL.x_cb, ↓DL.x_call, ↓DL.x_noPart, ↓DL.x_part, ↓DL.asI_int, ↓DL.x_sl, ↓DL.x_neg, ↓DL.x_lstV, ↓DL.x_listL, ↓DL.x_it, ↓DL.x_rng1, ↓DL.x_rng2, ↓DL.ints1_int, ↓DL.ints2_int, ↓DL.asL_lst, ↓DL.asL_tup, ↓DL.asL_scr, ↓DL.x_comp, ↓DL.x_yes, ↓DL.wip_nil, ↓DL.wip_cons, ↓DL.x_next, ↓DL.x_seq, ↓DL.x_brk, ↓DL.x_cont, ↓DL.x_expr, ↓DL.x_ret, ↓DL.x_retN, ↓DL.x_sif, ↓DL.x_set, ↓DL.x_setO, ↓DL.tgK_some, ↓DL.x_asg, ↓DL.x_tgN, ↓DL.x_tgTup, ↓DL.x_tgNil, ↓DL.x_tgConsN, ↓DL.map_some, ↓DL.pts_nil, ↓DL.pts_cons, ↓DL.gl_lst, ↓DL.x_app, ↓DL.x_putIx, ↓DL.gf_lst, ↓DL.gf_fz, ↓DL.x_fz, ↓DL.x_for, ↓DL.x_end_nx, ↓DL.x_end_rt, ↓DL.g_eqS, ↓DL.g_eqI, ↓DL.g_neS, ↓DL.g_neI, ↓DL.g_lt, ↓DL.g_le, ↓DL.g_gt, ↓DL.g_ge, ↓DL.g_add, ↓DL.g_addL, ↓DL.g_addT, ↓DL.g_sub, ↓DL.g_mul, ↓DL.g_mulL, ↓DL.g_mod, ↓DL.g_fdiv, ↓DL.g_pow, ↓DL.g_isN, ↓DL.g_notN, ↓DL.g_ixT, ↓DL.g_ixL, ↓DL.g_ixS, ↓DL.ix0, ↓DL.ix1, ↓DL.ix2, ↓DL.ix3, ↓DL.ix4, ↓DL.ix5, ↓DL.ix6, ↓DL.ix7, ↓DL.g_lenT, ↓DL.g_lenL, ↓DL.g_lenS, ↓DL.g_int, ↓DL.g_intB, ↓DL.g_tupT, ↓DL.g_tupL, ↓DL.g_lsT, ↓DL.g_lsL, ↓DL.g_max, ↓DL.g_min, ↓DL.g_slT, ↓DL.g_slL, ↓DL.isQ_some, ↓DL.g_isi, ↓DL.i_int, ↓DL.i_bl, ↓DL.i_tup, ↓DL.i_lst, ↓DL.i_non, ↓DL.i_str, if_true, if_false, Bool.false_eq_true, Bool.not_true, Bool.not_false, reduceCtorEq, decide_eq_true_eq, decide_true, decide_false, Bool.not_eq_true', decide_eq_false_iff_not, b_l_whole, kit_ii, kit_ib]
  exact q
theorem p_stands (ds : List D) (Q : D → Prop) (E : DExc → Prop) (hl : ds.length = 4) (h : sp_stands ds Q E) : b_stands (dEnd Q E) (en N_stands.length ds) := by
  obtain ⟨l, m, s, b, ps, h, x, ok, pk, hh, rfl, q⟩ := h
  rw [en_stands]
  simp only [↓DL.gt_0, ↓DL.gt_s, ↓DL.pt_0, ↓DL.pt_s, ↓DL.gv_fz, ↓DL.x_var, ↓DL.go_fz, ↓DL.go_lst, ↓DL.x_own, ↓DL.x_c, ↓DL.x_bin, ↓DL.x_tst, ↓DL.asB_bl, ↓DL.x_chain, ↓DL.x_and, ↓DL.x_or, ↓DL.x_not, ↓DL.x_andV, ↓DL.x_orV, ↓DL.x_notV, ↓DL.x_if, ↓DL.x_nil, ↓DL.x_cons, ↓DL.x_tup, ↓DL.x_cb, ↓DL.x_call, ↓DL.x_noPart, ↓DL.x_part, ↓DL.asI_int, ↓DL.x_sl, ↓DL.x_neg, ↓DL.x_lstV, ↓DL.x_listL, ↓DL.x_it, ↓DL.x_rng1, ↓DL.x_rng2, ↓DL.ints1_int, ↓DL.ints2_int, ↓DL.asL_lst, ↓DL.asL_tup, ↓DL.asL_scr, ↓DL.x_comp, ↓DL.x_yes, ↓DL.wip_nil, ↓DL.wip_cons, ↓DL.x_next, ↓DL.x_seq, ↓DL.x_brk, ↓DL.x_cont, ↓DL.x_expr, ↓DL.x_ret, ↓DL.x_retN, ↓DL.x_sif, ↓DL.x_set, ↓DL.x_setO, ↓DL.tgK_some, ↓DL.x_asg, ↓DL.x_tgN, ↓DL.x_tgTup, ↓DL.x_tgNil, ↓DL.x_tgConsN, ↓DL.map_some, ↓DL.pts_nil, ↓DL.pts_cons, ↓DL.gl_lst, ↓DL.x_app, ↓DL.x_putIx, ↓DL.gf_lst, ↓DL.gf_fz, ↓DL.x_fz, ↓DL.x_for, ↓DL.x_end_nx, ↓DL.x_end_rt, ↓DL.g_eqS, ↓DL.g_eqI, ↓DL.g_neS, ↓DL.g_neI, ↓DL.g_lt, ↓DL.g_le, ↓DL.g_gt, ↓DL.g_ge, ↓DL.g_add, ↓DL.g_addL, ↓DL.g_addT, ↓DL.g_sub, ↓DL.g_mul, ↓DL.g_mulL, ↓DL.g_mod, ↓DL.g_fdiv, ↓DL.g_pow, ↓DL.g_isN, ↓DL.g_notN, ↓DL.g_ixT, ↓DL.g_ixL, ↓DL.g_ixS, ↓DL.ix0, ↓DL.ix1, ↓DL.ix2, ↓DL.ix3, ↓DL.ix4, ↓DL.ix5, ↓DL.ix6, ↓DL.ix7, ↓DL.g_lenT, ↓DL.g_lenL, ↓DL.g_lenS, ↓DL.g_int, ↓DL.g_intB, ↓DL.g_tupT, ↓DL.g_tupL, ↓DL.g_lsT, ↓DL.g_lsL, ↓DL.g_max, ↓DL.g_min, ↓DL.g_slT, ↓DL.g_slL, ↓DL.isQ_some, ↓DL.g_isi, ↓DL.i_int, ↓DL.i_bl, ↓DL.i_tup, ↓DL.i_lst, ↓DL.i_non, ↓DL.i_str, if_true, if_false, Bool.false_eq_true, Bool.not_true, Bool.not_false, reduceCtorEq, decide_eq_true_eq, decide_true, decide_false, Bool.not_eq_true', decide_eq_false_iff_not, b_stands, ↓g_ixQ, ↓xs0, kl, ↓g_ixSt, ↓g_ixSec]
  cases hf : s.fl with
  | false =>
    rw [hf] at q
    exact q
  | true =>
    rw [if_neg (by simp)]
    rw [if_pos hf] at q
    have hp : h < ps.length := by rw [pk.len, if_pos hf]; exact hh
    have he : ps[h]? = some ps[h] := List.getElem?_eq_getElem hp
    refine ixQ_at he ?_
    have hok := pk.all _ (List.getElem_mem hp)
    rw [List.getD_eq_getElem?_getD, he, Option.getD_some] at q
    cases hq : ps[h] with
    | non =>
      rw [hq] at q
      exact q
    | fall t r =>
      rw [hq] at q
      simp only [↓DL.gt_0, ↓DL.gt_s, ↓DL.pt_0, ↓DL.pt_s, ↓DL.gv_fz, ↓DL.x_var, ↓DL.go_fz, ↓DL.go_lst, ↓DL.x_own, ↓DL.x_c, ↓DL.x_bin, ↓DL.x_tst, ↓DL.asB_bl, ↓DL.x_chain, ↓DL.x_and, ↓DL.x_or, ↓DL.x_not, ↓DL.x_andV, ↓DL.x_orV, ↓DL.x_notV, ↓DL.x_if, ↓DL.x_nil, ↓DL.x_cons, ↓DL.x_tup, ↓DL.x_cb, ↓DL.x_call, ↓DL.x_noPart, ↓DL.x_part, ↓DL.asI_int, ↓DL.x_sl, ↓DL.x_neg, ↓DL.x_lstV, ↓DL.x_listL, ↓DL.x_it, ↓DL.x_rng1, ↓DL.x_rng2, ↓DL.ints1_int, ↓DL.ints2_int, ↓DL.asL_lst, ↓DL.asL_tup, ↓DL.asL_scr, ↓DL.x_comp, ↓DL.x_yes, ↓DL.wip_nil, ↓DL.wip_cons, ↓DL.x_next, ↓DL.x_seq, ↓DL.x_brk, ↓DL.x_cont, ↓DL.x_expr, ↓DL.x_ret, ↓DL.x_retN, ↓DL.x_sif, ↓DL.x_set, ↓DL.x_setO, ↓DL.tgK_some, ↓DL.x_asg, ↓DL.x_tgN, ↓DL.x_tgTup, ↓DL.x_tgNil, ↓DL.x_tgConsN, ↓DL.map_some, ↓DL.pts_nil, ↓DL.pts_cons, ↓DL.gl_lst, ↓DL.x_app, ↓DL.x_putIx, ↓DL.gf_lst, ↓DL.gf_fz, ↓DL.x_fz, ↓DL.x_for, ↓DL.x_end_nx, ↓DL.x_end_rt, ↓DL.g_eqS, ↓DL.g_eqI, ↓DL.g_neS, ↓DL.g_neI, ↓DL.g_lt, ↓DL.g_le, ↓DL.g_gt, ↓DL.g_ge, ↓DL.g_add, ↓DL.g_addL, ↓DL.g_addT, ↓DL.g_sub, ↓DL.g_mul, ↓DL.g_mulL, ↓DL.g_mod, ↓DL.g_fdiv, ↓DL.g_pow, ↓DL.g_isN, ↓DL.g_notN, ↓DL.g_ixT, ↓DL.g_ixL, ↓DL.g_ixS, ↓DL.ix0, ↓DL.ix1, ↓DL.ix2, ↓DL.ix3, ↓DL.ix4, ↓DL.ix5, ↓DL.ix6, ↓DL.ix7, ↓DL.g_lenT, ↓DL.g_lenL, ↓DL.g_lenS, ↓DL.g_int, ↓DL.g_intB, ↓DL.g_tupT, ↓DL.g_tupL, ↓DL.g_lsT, ↓DL.g_lsL, ↓DL.g_max, ↓DL.g_min, ↓DL.g_slT, ↓DL.g_slL, ↓DL.isQ_some, ↓DL.g_isi, ↓DL.i_int, ↓DL.i_bl, ↓DL.i_tup, ↓DL.i_lst, ↓DL.i_non, ↓DL.i_str, if_true, if_false, Bool.false_eq_true, Bool.not_true, Bool.not_false, reduceCtorEq, decide_eq_true_eq, decide_true, decide_false, Bool.not_eq_true', decide_eq_false_iff_not, Part.d, ↓isNon_seq, ↓g_ixQ]
      exact q
    | row r =>
      rw [hq] at hok
      rw [hok.1] at hf
      cases hf
theorem p_l_same0 (ds : List D) (Q : D → Prop) (E : DExc → Prop) (hl : ds.length = 2) (h : sp_l_same0 ds Q E) : b_l_same (fun _ _ _ => False) (dEnd Q E) (en N_l_same.length ds) := by
  obtain ⟨i, rfl, q⟩ := h
  rw [en_l_same]
  simp only [↓DL.gt_0, ↓DL.gt_s, ↓DL.pt_0, ↓DL.pt_s, ↓DL.gv_fz, ↓DL.x_var, ↓DL.go_fz, ↓DL.go_lst, ↓DL.x_own, ↓DL.x_c, ↓DL.x_bin, ↓DL.x_tst, ↓DL.asB_bl, ↓DL.x_chain, ↓DL.x_and, ↓DL.x_or, ↓DL.x_not, ↓DL.x_andV, ↓DL.x_orV, ↓DL.x_notV, ↓DL.x_if, ↓DL.x_nil, ↓DL.x_cons, ↓DL.x_tup, ↓DL.x_cb, ↓DL.x_call, ↓DL.x_noPart, ↓DL.x_part, ↓DL.asI_int, ↓DL.x_sl, ↓DL.x_neg, ↓DL.x_lstV, ↓DL.x_listL, ↓DL.x_it, ↓DL.x_rng1, ↓DL.x_rng2, ↓DL.ints1_int, ↓DL.ints2_int, ↓DL.asL_lst, ↓DL.asL_tup, ↓DL.asL_scr, ↓DL.x_comp, ↓DL.x_yes, ↓DL.wip_nil, ↓DL.wip_cons, ↓DL.x_next, ↓DL.x_seq, ↓DL.x_brk, ↓DL.x_cont, ↓DL.x_expr, ↓DL.x_ret, ↓DL.x_retN, ↓DL.x_sif, ↓DL.x_set, ↓DL.x_setO, ↓DL.tgK_some, ↓DL.x_asg, ↓DL.x_tgN, ↓DL.x_tgTup, ↓DL.x_tgNil, ↓DL.x_tgConsN, ↓DL.map_some, ↓DL.pts_nil, ↓DL.pts_cons, ↓DL.gl_lst, ↓DL.x_app, ↓DL.x_putIx, ↓DL.gf_lst, ↓DL.gf_fz, ↓DL.x_fz, ↓DL.x_for, ↓DL.x_end_nx, ↓DL.x_end_rt, ↓DL.g_eqS, ↓DL.g_eqI, ↓DL.g_neS, ↓DL.g_neI, ↓DL.g_lt, ↓DL.g_le, ↓DL.g_gt, ↓DL.g_ge, ↓DL.g_add, ↓DL.g_addL, ↓DL.g_addT, ↓DL.g_sub, ↓DL.g_mul, ↓DL.g_mulL, ↓DL.g_mod, ↓DL.g_fdiv, ↓DL.g_pow, ↓DL.g_isN, ↓DL.g_notN, ↓DL.g_ixT, ↓DL.g_ixL, ↓DL.g_ixS, ↓DL.ix0, ↓DL.ix1, ↓DL.ix2, ↓DL.ix3, ↓DL.ix4, ↓DL.ix5, ↓DL.ix6, ↓DL.ix7, ↓DL.g_lenT, ↓DL.g_lenL, ↓DL.g_lenS, ↓DL.g_int, ↓DL.g_intB, ↓DL.g_tupT, ↓DL.g_tupL, ↓DL.g_lsT, ↓DL.g_lsL, ↓DL.g_max, ↓DL.g_min, ↓DL.g_slT, ↓DL.g_slL, ↓DL.isQ_some, ↓DL.g_isi, ↓DL.i_int, ↓DL.i_bl, ↓DL.i_tup, ↓DL.i_lst, ↓DL.i_non, ↓DL.i_str, if_true, if_false, Bool.false_eq_true, Bool.not_true, Bool.not_false, reduceCtorEq, decide_eq_true_eq, decide_true, decide_false, Bool.not_eq_true', decide_eq_false_iff_not, b_l_same, kit_it, D.isNon]
  refine ⟨i, rfl, ?_⟩
  simp only [↓DL.gt_0, ↓DL.gt_s, ↓DL.pt_0, ↓DL.pt_s, ↓DL.gv_fz, ↓DL.x_var, ↓DL.go_fz, ↓DL.go_lst, ↓DL.x_own, ↓DL.x_c, ↓DL.x_bin, ↓DL.x_tst, ↓DL.asB_bl, ↓DL.x_chain, ↓DL.x_and, ↓DL.x_or, ↓DL.x_not, ↓DL.x_andV, ↓DL.x_orV, ↓DL.x_notV, ↓DL.x_if, ↓DL.x_nil, ↓DL.x_cons, ↓DL.x_tup, ↓DL.x_cb, ↓DL.x_call, ↓DL.x_noPart, ↓DL.x_part, ↓DL.asI_int, ↓DL.x_sl, ↓DL.x_neg, ↓DL.x_lstV, ↓DL.x_listL, ↓DL.x_it, ↓DL.x_rng1, ↓DL.x_rng2, ↓DL.ints1_int, ↓DL.ints2_int, ↓DL.asL_lst, ↓DL.asL_tup, ↓DL.asL_scr, ↓DL.x_comp, ↓DL.x_yes, ↓DL.wip_nil, ↓DL.wip_cons, ↓DL.x_next, ↓DL.x_seq, ↓DL.x_brk, ↓DL.x_cont, ↓DL.x_expr, ↓DL.x_ret, ↓DL.x_retN, ↓DL.x_sif, ↓DL.x_set, ↓DL.x_setO, ↓DL.tgK_some, ↓DL.x_asg, ↓DL.x_tgN, ↓DL.x_tgTup, ↓DL.x_tgNil, ↓DL.x_tgConsN, ↓DL.map_some, ↓DL.pts_nil, ↓DL.pts_cons, ↓DL.gl_lst, ↓DL.x_app, ↓DL.x_putIx, ↓DL.gf_lst, ↓DL.gf_fz, ↓DL.x_fz, ↓DL.x_for, ↓DL.x_end_nx, ↓DL.x_end_rt, ↓DL.g_eqS, ↓DL.g_eqI, ↓DL.g_neS, ↓DL.g_neI, ↓DL.g_lt, ↓DL.g_le, ↓DL.g_gt, ↓DL.g_ge, ↓DL.g_add, ↓DL.g_addL, ↓DL.g_addT, ↓DL.g_sub, ↓DL.g_mul, ↓DL.g_mulL, ↓DL.g_mod, ↓DL.g_fdiv, ↓DL.g_pow, ↓DL.g_isN, ↓DL.g_notN, ↓DL.g_ixT, ↓DL.g_ixL, ↓DL.g_ixS, ↓DL.ix0, ↓DL.ix1, ↓DL.ix2, ↓DL.ix3, ↓DL.ix4, ↓DL.ix5, ↓DL.ix6, ↓DL.ix7, ↓DL.g_lenT, ↓DL.g_lenL, ↓DL.g_lenS, ↓DL.g_int, ↓DL.g_intB, ↓DL.g_tupT, ↓DL.g_tupL, ↓DL.g_lsT, ↓DL.g_lsL, ↓DL.g_max, ↓DL.g_min, ↓DL.g_slT, ↓DL.g_slL, ↓DL.isQ_some, ↓DL.g_isi, ↓DL.i_int, ↓DL.i_bl, ↓DL.i_tup, ↓DL.i_lst, ↓DL.i_non, ↓DL.i_str, if_true, if_false, Bool.false_eq_true, Bool.not_true, Bool.not_false, reduceCtorEq, decide_eq_true_eq, decide_true, decide_false, Bool.not_eq_true', decide_eq_false_iff_not]
  exact q
theorem p_l_same_1 {ns : List Int} {Z : DEnd} : ∀ (n i : Nat) (o : Option O), i + n = ns.length → (∀ o, Z.nx [some (.fz (.tup (iL ns))), some (.fz (.tup (iL ns))), o]) → forGo (tgN 2) (lp_l_same_1 sp_l_same0) Z (rng i n) [some (.fz (.tup (iL ns))), some (.fz (.tup (iL ns))), o]
  | 0, i, o, h, q => q o
  | n + 1, i, o, h, q => by
    have he : ns[i]? = some ns[i] := List.getElem?_eq_getElem (by omega)
    simp only [↓DL.gt_0, ↓DL.gt_s, ↓DL.pt_0, ↓DL.pt_s, ↓DL.gv_fz, ↓DL.x_var, ↓DL.go_fz, ↓DL.go_lst, ↓DL.x_own, ↓DL.x_c, ↓DL.x_bin, ↓DL.x_tst, ↓DL.asB_bl, ↓DL.x_chain, ↓DL.x_and, ↓DL.x_or, ↓DL.x_not, ↓DL.x_andV, ↓DL.x_orV, ↓DL.x_notV, ↓DL.x_if, ↓DL.x_nil, ↓DL.x_cons, ↓DL.x_tup, ↓DL.x_cb, ↓DL.x_call, ↓DL.x_noPart, ↓DL.x_part, ↓DL.asI_int, ↓DL.x_sl, ↓DL.x_neg, ↓DL.x_lstV, ↓DL.x_listL, ↓DL.x_it, ↓DL.x_rng1, ↓DL.x_rng2, ↓DL.ints1_int, ↓DL.ints2_int, ↓DL.asL_lst, ↓DL.asL_tup, ↓DL.asL_scr, ↓DL.x_comp, ↓DL.x_yes, ↓DL.wip_nil, ↓DL.wip_cons, ↓DL.x_next, ↓DL.x_seq, ↓DL.x_brk, ↓DL.x_cont, ↓DL.x_expr, ↓DL.x_ret, ↓DL.x_retN, ↓DL.x_sif, ↓DL.x_set, ↓DL.x_setO, ↓DL.tgK_some, ↓DL.x_asg, ↓DL.x_tgN, ↓DL.x_tgTup, ↓DL.x_tgNil, ↓DL.x_tgConsN, ↓DL.map_some, ↓DL.pts_nil, ↓DL.pts_cons, ↓DL.gl_lst, ↓DL.x_app, ↓DL.x_putIx, ↓DL.gf_lst, ↓DL.gf_fz, ↓DL.x_fz, ↓DL.x_for, ↓DL.x_end_nx, ↓DL.x_end_rt, ↓DL.g_eqS, ↓DL.g_eqI, ↓DL.g_neS, ↓DL.g_neI, ↓DL.g_lt, ↓DL.g_le, ↓DL.g_gt, ↓DL.g_ge, ↓DL.g_add, ↓DL.g_addL, ↓DL.g_addT, ↓DL.g_sub, ↓DL.g_mul, ↓DL.g_mulL, ↓DL.g_mod, ↓DL.g_fdiv, ↓DL.g_pow, ↓DL.g_isN, ↓DL.g_notN, ↓DL.g_ixT, ↓DL.g_ixL, ↓DL.g_ixS, ↓DL.ix0, ↓DL.ix1, ↓DL.ix2, ↓DL.ix3, ↓DL.ix4, ↓DL.ix5, ↓DL.ix6, ↓DL.ix7, ↓DL.g_lenT, ↓DL.g_lenL, ↓DL.g_lenS, ↓DL.g_int, ↓DL.g_intB, ↓DL.g_tupT, ↓DL.g_tupL, ↓DL.g_lsT, ↓DL.g_lsL, ↓DL.g_max, ↓DL.g_min, ↓DL.g_slT, ↓DL.g_slL, ↓DL.isQ_some, ↓DL.g_isi, ↓DL.i_int, ↓DL.i_bl, ↓DL.i_tup, ↓DL.i_lst, ↓DL.i_non, ↓DL.i_str, if_true, if_false, Bool.false_eq_true, Bool.not_true, Bool.not_false, reduceCtorEq, decide_eq_true_eq, decide_true, decide_false, Bool.not_eq_true', decide_eq_false_iff_not, rng, ↓forGo_cons, ↓u_l_same_1]
    refine ixQ_at he ?_
    refine ixQ_at he ?_
    refine ⟨_, rfl, ?_⟩
    simp only [↓DL.gt_0, ↓DL.gt_s, ↓DL.pt_0, ↓DL.pt_s, ↓DL.gv_fz, ↓DL.x_var, ↓DL.go_fz, ↓DL.go_lst, ↓DL.x_own, ↓DL.x_c, ↓DL.x_bin, ↓DL.x_tst, ↓DL.asB_bl, ↓DL.x_chain, ↓DL.x_and, ↓DL.x_or, ↓DL.x_not, ↓DL.x_andV, ↓DL.x_orV, ↓DL.x_notV, ↓DL.x_if, ↓DL.x_nil, ↓DL.x_cons, ↓DL.x_tup, ↓DL.x_cb, ↓DL.x_call, ↓DL.x_noPart, ↓DL.x_part, ↓DL.asI_int, ↓DL.x_sl, ↓DL.x_neg, ↓DL.x_lstV, ↓DL.x_listL, ↓DL.x_it, ↓DL.x_rng1, ↓DL.x_rng2, ↓DL.ints1_int, ↓DL.ints2_int, ↓DL.asL_lst, ↓DL.asL_tup, ↓DL.asL_scr, ↓DL.x_comp, ↓DL.x_yes, ↓DL.wip_nil, ↓DL.wip_cons, ↓DL.x_next, ↓DL.x_seq, ↓DL.x_brk, ↓DL.x_cont, ↓DL.x_expr, ↓DL.x_ret, ↓DL.x_retN, ↓DL.x_sif, ↓DL.x_set, ↓DL.x_setO, ↓DL.tgK_some, ↓DL.x_asg, ↓DL.x_tgN, ↓DL.x_tgTup, ↓DL.x_tgNil, ↓DL.x_tgConsN, ↓DL.map_some, ↓DL.pts_nil, ↓DL.pts_cons, ↓DL.gl_lst, ↓DL.x_app, ↓DL.x_putIx, ↓DL.gf_lst, ↓DL.gf_fz, ↓DL.x_fz, ↓DL.x_for, ↓DL.x_end_nx, ↓DL.x_end_rt, ↓DL.g_eqS, ↓DL.g_eqI, ↓DL.g_neS, ↓DL.g_neI, ↓DL.g_lt, ↓DL.g_le, ↓DL.g_gt, ↓DL.g_ge, ↓DL.g_add, ↓DL.g_addL, ↓DL.g_addT, ↓DL.g_sub, ↓DL.g_mul, ↓DL.g_mulL, ↓DL.g_mod, ↓DL.g_fdiv, ↓DL.g_pow, ↓DL.g_isN, ↓DL.g_notN, ↓DL.g_ixT, ↓DL.g_ixL, ↓DL.g_ixS, ↓DL.ix0, ↓DL.ix1, ↓DL.ix2, ↓DL.ix3, ↓DL.ix4, ↓DL.ix5, ↓DL.ix6, ↓DL.ix7, ↓DL.g_lenT, ↓DL.g_lenL, ↓DL.g_lenS, ↓DL.g_int, ↓DL.g_intB, ↓DL.g_tupT, ↓DL.g_tupL, ↓DL.g_lsT, ↓DL.g_lsL, ↓DL.g_max, ↓DL.g_min, ↓DL.g_slT, ↓DL.g_slL, ↓DL.isQ_some, ↓DL.g_isi, ↓DL.i_int, ↓DL.i_bl, ↓DL.i_tup, ↓DL.i_lst, ↓DL.i_non, ↓DL.i_str, if_true, if_false, Bool.false_eq_true, Bool.not_true, Bool.not_false, reduceCtorEq, decide_eq_true_eq, decide_true, decide_false, Bool.not_eq_true', decide_eq_false_iff_not]
    exact p_l_same_1 n (i + 1) _ (by omega) q
theorem p_l_same1 (ds : List D) (Q : D → Prop) (E : DExc → Prop) (hl : ds.length = 2) (h : sp_l_same ds Q E) : b_l_same sp_l_same0 (dEnd Q E) (en N_l_same.length ds) := by
  obtain ⟨ns, hn, rfl, q⟩ := h
  rw [en_l_same]
  simp only [↓DL.gt_0, ↓DL.gt_s, ↓DL.pt_0, ↓DL.pt_s, ↓DL.gv_fz, ↓DL.x_var, ↓DL.go_fz, ↓DL.go_lst, ↓DL.x_own, ↓DL.x_c, ↓DL.x_bin, ↓DL.x_tst, ↓DL.asB_bl, ↓DL.x_chain, ↓DL.x_and, ↓DL.x_or, ↓DL.x_not, ↓DL.x_andV, ↓DL.x_orV, ↓DL.x_notV, ↓DL.x_if, ↓DL.x_nil, ↓DL.x_cons, ↓DL.x_tup, ↓DL.x_cb, ↓DL.x_call, ↓DL.x_noPart, ↓DL.x_part, ↓DL.asI_int, ↓DL.x_sl, ↓DL.x_neg, ↓DL.x_lstV, ↓DL.x_listL, ↓DL.x_it, ↓DL.x_rng1, ↓DL.x_rng2, ↓DL.ints1_int, ↓DL.ints2_int, ↓DL.asL_lst, ↓DL.asL_tup, ↓DL.asL_scr, ↓DL.x_comp, ↓DL.x_yes, ↓DL.wip_nil, ↓DL.wip_cons, ↓DL.x_next, ↓DL.x_seq, ↓DL.x_brk, ↓DL.x_cont, ↓DL.x_expr, ↓DL.x_ret, ↓DL.x_retN, ↓DL.x_sif, ↓DL.x_set, ↓DL.x_setO, ↓DL.tgK_some, ↓DL.x_asg, ↓DL.x_tgN, ↓DL.x_tgTup, ↓DL.x_tgNil, ↓DL.x_tgConsN, ↓DL.map_some, ↓DL.pts_nil, ↓DL.pts_cons, ↓DL.gl_lst, ↓DL.x_app, ↓DL.x_putIx, ↓DL.gf_lst, ↓DL.gf_fz, ↓DL.x_fz, ↓DL.x_for, ↓DL.x_end_nx, ↓DL.x_end_rt, ↓DL.g_eqS, ↓DL.g_eqI, ↓DL.g_neS, ↓DL.g_neI, ↓DL.g_lt, ↓DL.g_le, ↓DL.g_gt, ↓DL.g_ge, ↓DL.g_add, ↓DL.g_addL, ↓DL.g_addT, ↓DL.g_sub, ↓DL.g_mul, ↓DL.g_mulL, ↓DL.g_mod, ↓DL.g_fdiv, ↓DL.g_pow, ↓DL.g_isN, ↓DL.g_notN, ↓DL.g_ixT, ↓DL.g_ixL, ↓DL.g_ixS, ↓DL.ix0, ↓DL.ix1, ↓DL.ix2, ↓DL.ix3, ↓DL.ix4, ↓DL.ix5, ↓DL.ix6, ↓DL.ix7, ↓DL.g_lenT, ↓DL.g_lenL, ↓DL.g_lenS, ↓DL.g_int, ↓DL.g_intB, ↓DL.g_tupT, ↓DL.g_tupL, ↓DL.g_lsT, ↓DL.g_lsL, ↓DL.g_max, ↓DL.g_min, ↓DL.g_slT, ↓DL.g_slL, ↓DL.isQ_some, ↓DL.g_isi, ↓DL.i_int, ↓DL.i_bl, ↓DL.i_tup, ↓DL.i_lst, ↓DL.i_non, ↓DL.i_str, if_true, if_false, Bool.false_eq_true, Bool.not_true, Bool.not_false, reduceCtorEq, decide_eq_true_eq, decide_true, decide_false, Bool.not_eq_true', decide_eq_false_iff_not, b_l_same, kit_tt, D.isNon, List.length_map, ne_eq, not_true]
  refine ⟨by omega, by omega, ?_⟩
  rw [Int.toNat_natCast]
  refine p_l_same_1 ns.length 0 _ (by omega) fun o => ?_
  simp only [↓DL.gt_0, ↓DL.gt_s, ↓DL.pt_0, ↓DL.pt_s, ↓DL.gv_fz, ↓DL.x_var, ↓DL.go_fz, ↓DL.go_lst, ↓DL.x_own, ↓DL.x_c, ↓DL.x_bin, ↓DL.x_tst, ↓DL.asB_bl, ↓DL.x_chain, ↓DL.x_and, ↓DL.x_or, ↓DL.x_not, ↓DL.x_andV, ↓DL.x_orV, ↓DL.x_notV, ↓DL.x_if, ↓DL.x_nil, ↓DL.x_cons, ↓DL.x_tup, ↓DL.x_cb, ↓DL.x_call, ↓DL.x_noPart, ↓DL.x_part, ↓DL.asI_int, ↓DL.x_sl, ↓DL.x_neg, ↓DL.x_lstV, ↓DL.x_listL, ↓DL.x_it, ↓DL.x_rng1, ↓DL.x_rng2, ↓DL.ints1_int, ↓DL.ints2_int, ↓DL.asL_lst, ↓DL.asL_tup, ↓DL.asL_scr, ↓DL.x_comp, ↓DL.x_yes, ↓DL.wip_nil, ↓DL.wip_cons, ↓DL.x_next, ↓DL.x_seq, ↓DL.x_brk, ↓DL.x_cont, ↓DL.x_expr, ↓DL.x_ret, ↓DL.x_retN, ↓DL.x_sif, ↓DL.x_set, ↓DL.x_setO, ↓DL.tgK_some, ↓DL.x_asg, ↓DL.x_tgN, ↓DL.x_tgTup, ↓DL.x_tgNil, ↓DL.x_tgConsN, ↓DL.map_some, ↓DL.pts_nil, ↓DL.pts_cons, ↓DL.gl_lst, ↓DL.x_app, ↓DL.x_putIx, ↓DL.gf_lst, ↓DL.gf_fz, ↓DL.x_fz, ↓DL.x_for, ↓DL.x_end_nx, ↓DL.x_end_rt, ↓DL.g_eqS, ↓DL.g_eqI, ↓DL.g_neS, ↓DL.g_neI, ↓DL.g_lt, ↓DL.g_le, ↓DL.g_gt, ↓DL.g_ge, ↓DL.g_add, ↓DL.g_addL, ↓DL.g_addT, ↓DL.g_sub, ↓DL.g_mul, ↓DL.g_mulL, ↓DL.g_mod, ↓DL.g_fdiv, ↓DL.g_pow, ↓DL.g_isN, ↓DL.g_notN, ↓DL.g_ixT, ↓DL.g_ixL, ↓DL.g_ixS, ↓DL.ix0, ↓DL.ix1, ↓DL.ix2, ↓DL.ix3, ↓DL.ix4, ↓DL.ix5, ↓DL.ix6, ↓DL.ix7, ↓DL.g_lenT, ↓DL.g_lenL, ↓DL.g_lenS, ↓DL.g_int, ↓DL.g_intB, ↓DL.g_tupT, ↓DL.g_tupL, ↓DL.g_lsT, ↓DL.g_lsL, ↓DL.g_max, ↓DL.g_min, ↓DL.g_slT, ↓DL.g_slL, ↓DL.isQ_some, ↓DL.g_isi, ↓DL.i_int, ↓DL.i_bl, ↓DL.i_tup, ↓DL.i_lst, ↓DL.i_non, ↓DL.i_str, if_true, if_false, Bool.false_eq_true, Bool.not_true, Bool.not_false, reduceCtorEq, decide_eq_true_eq, decide_true, decide_false, Bool.not_eq_true', decide_eq_false_iff_not]
  exact q
theorem p_l_cell_1 {a b : O} {Z : DEnd} (hz : ∀ (s : Int) o, Z.nx [some a, some b, some (.fz (.int s)), o]) : ∀ (ns : List Int) (s : Int) (o : Option O), forGo (tgN 3) lp_l_cell_1 Z (ns.map .int) [some a, some b, some (.fz (.int s)), o]
  | [], s, o => hz s o
  | n :: ns, s, o => by
    simp only [↓DL.gt_0, ↓DL.gt_s, ↓DL.pt_0, ↓DL.pt_s, ↓DL.gv_fz, ↓DL.x_var, ↓DL.go_fz, ↓DL.go_lst, ↓DL.x_own, ↓DL.x_c, ↓DL.x_bin, ↓DL.x_tst, ↓DL.asB_bl, ↓DL.x_chain, ↓DL.x_and, ↓DL.x_or, ↓DL.x_not, ↓DL.x_andV, ↓DL.x_orV, ↓DL.x_notV, ↓DL.x_if, ↓DL.x_nil, ↓DL.x_cons, ↓DL.x_tup, ↓DL.x_cb, ↓DL.x_call, ↓DL.x_noPart, ↓DL.x_part, ↓DL.asI_int, ↓DL.x_sl, ↓DL.x_neg, ↓DL.x_lstV, ↓DL.x_listL, ↓DL.x_it, ↓DL.x_rng1, ↓DL.x_rng2, ↓DL.ints1_int, ↓DL.ints2_int, ↓DL.asL_lst, ↓DL.asL_tup, ↓DL.asL_scr, ↓DL.x_comp, ↓DL.x_yes, ↓DL.wip_nil, ↓DL.wip_cons, ↓DL.x_next, ↓DL.x_seq, ↓DL.x_brk, ↓DL.x_cont, ↓DL.x_expr, ↓DL.x_ret, ↓DL.x_retN, ↓DL.x_sif, ↓DL.x_set, ↓DL.x_setO, ↓DL.tgK_some, ↓DL.x_asg, ↓DL.x_tgN, ↓DL.x_tgTup, ↓DL.x_tgNil, ↓DL.x_tgConsN, ↓DL.map_some, ↓DL.pts_nil, ↓DL.pts_cons, ↓DL.gl_lst, ↓DL.x_app, ↓DL.x_putIx, ↓DL.gf_lst, ↓DL.gf_fz, ↓DL.x_fz, ↓DL.x_for, ↓DL.x_end_nx, ↓DL.x_end_rt, ↓DL.g_eqS, ↓DL.g_eqI, ↓DL.g_neS, ↓DL.g_neI, ↓DL.g_lt, ↓DL.g_le, ↓DL.g_gt, ↓DL.g_ge, ↓DL.g_add, ↓DL.g_addL, ↓DL.g_addT, ↓DL.g_sub, ↓DL.g_mul, ↓DL.g_mulL, ↓DL.g_mod, ↓DL.g_fdiv, ↓DL.g_pow, ↓DL.g_isN, ↓DL.g_notN, ↓DL.g_ixT, ↓DL.g_ixL, ↓DL.g_ixS, ↓DL.ix0, ↓DL.ix1, ↓DL.ix2, ↓DL.ix3, ↓DL.ix4, ↓DL.ix5, ↓DL.ix6, ↓DL.ix7, ↓DL.g_lenT, ↓DL.g_lenL, ↓DL.g_lenS, ↓DL.g_int, ↓DL.g_intB, ↓DL.g_tupT, ↓DL.g_tupL, ↓DL.g_lsT, ↓DL.g_lsL, ↓DL.g_max, ↓DL.g_min, ↓DL.g_slT, ↓DL.g_slL, ↓DL.isQ_some, ↓DL.g_isi, ↓DL.i_int, ↓DL.i_bl, ↓DL.i_tup, ↓DL.i_lst, ↓DL.i_non, ↓DL.i_str, if_true, if_false, Bool.false_eq_true, Bool.not_true, Bool.not_false, reduceCtorEq, decide_eq_true_eq, decide_true, decide_false, Bool.not_eq_true', decide_eq_false_iff_not, List.map_cons, ↓forGo_cons, ↓u_l_cell_1]
    refine ⟨mulR (by decide) (by decide), by decide, by decide, ?_⟩
    exact p_l_cell_1 hz ns _ _
theorem p_l_cell (ds : List D) (Q : D → Prop) (E : DExc → Prop) (hl : ds.length = 2) (h : sp_l_cell ds Q E) : b_l_cell (dEnd Q E) (en N_l_cell.length ds) := by
  obtain ⟨ns, k, rfl, hk, hn, q⟩ := h
  rw [en_l_cell]
  simp only [↓DL.gt_0, ↓DL.gt_s, ↓DL.pt_0, ↓DL.pt_s, ↓DL.gv_fz, ↓DL.x_var, ↓DL.go_fz, ↓DL.go_lst, ↓DL.x_own, ↓DL.x_c, ↓DL.x_bin, ↓DL.x_tst, ↓DL.asB_bl, ↓DL.x_chain, ↓DL.x_and, ↓DL.x_or, ↓DL.x_not, ↓DL.x_andV, ↓DL.x_orV, ↓DL.x_notV, ↓DL.x_if, ↓DL.x_nil, ↓DL.x_cons, ↓DL.x_tup, ↓DL.x_cb, ↓DL.x_call, ↓DL.x_noPart, ↓DL.x_part, ↓DL.asI_int, ↓DL.x_sl, ↓DL.x_neg, ↓DL.x_lstV, ↓DL.x_listL, ↓DL.x_it, ↓DL.x_rng1, ↓DL.x_rng2, ↓DL.ints1_int, ↓DL.ints2_int, ↓DL.asL_lst, ↓DL.asL_tup, ↓DL.asL_scr, ↓DL.x_comp, ↓DL.x_yes, ↓DL.wip_nil, ↓DL.wip_cons, ↓DL.x_next, ↓DL.x_seq, ↓DL.x_brk, ↓DL.x_cont, ↓DL.x_expr, ↓DL.x_ret, ↓DL.x_retN, ↓DL.x_sif, ↓DL.x_set, ↓DL.x_setO, ↓DL.tgK_some, ↓DL.x_asg, ↓DL.x_tgN, ↓DL.x_tgTup, ↓DL.x_tgNil, ↓DL.x_tgConsN, ↓DL.map_some, ↓DL.pts_nil, ↓DL.pts_cons, ↓DL.gl_lst, ↓DL.x_app, ↓DL.x_putIx, ↓DL.gf_lst, ↓DL.gf_fz, ↓DL.x_fz, ↓DL.x_for, ↓DL.x_end_nx, ↓DL.x_end_rt, ↓DL.g_eqS, ↓DL.g_eqI, ↓DL.g_neS, ↓DL.g_neI, ↓DL.g_lt, ↓DL.g_le, ↓DL.g_gt, ↓DL.g_ge, ↓DL.g_add, ↓DL.g_addL, ↓DL.g_addT, ↓DL.g_sub, ↓DL.g_mul, ↓DL.g_mulL, ↓DL.g_mod, ↓DL.g_fdiv, ↓DL.g_pow, ↓DL.g_isN, ↓DL.g_notN, ↓DL.g_ixT, ↓DL.g_ixL, ↓DL.g_ixS, ↓DL.ix0, ↓DL.ix1, ↓DL.ix2, ↓DL.ix3, ↓DL.ix4, ↓DL.ix5, ↓DL.ix6, ↓DL.ix7, ↓DL.g_lenT, ↓DL.g_lenL, ↓DL.g_lenS, ↓DL.g_int, ↓DL.g_intB, ↓DL.g_tupT, ↓DL.g_tupL, ↓DL.g_lsT, ↓DL.g_lsL, ↓DL.g_max, ↓DL.g_min, ↓DL.g_slT, ↓DL.g_slL, ↓DL.isQ_some, ↓DL.g_isi, ↓DL.i_int, ↓DL.i_bl, ↓DL.i_tup, ↓DL.i_lst, ↓DL.i_non, ↓DL.i_str, if_true, if_false, Bool.false_eq_true, Bool.not_true, Bool.not_false, reduceCtorEq, decide_eq_true_eq, decide_true, decide_false, Bool.not_eq_true', decide_eq_false_iff_not, b_l_cell]
  split
  · rename_i h
    exact ixQ_il (by omega) (by omega) fun x _ => q x
  · refine p_l_cell_1 (fun s o => ?_) ns _ _
    simp only [↓DL.gt_0, ↓DL.gt_s, ↓DL.pt_0, ↓DL.pt_s, ↓DL.gv_fz, ↓DL.x_var, ↓DL.go_fz, ↓DL.go_lst, ↓DL.x_own, ↓DL.x_c, ↓DL.x_bin, ↓DL.x_tst, ↓DL.asB_bl, ↓DL.x_chain, ↓DL.x_and, ↓DL.x_or, ↓DL.x_not, ↓DL.x_andV, ↓DL.x_orV, ↓DL.x_notV, ↓DL.x_if, ↓DL.x_nil, ↓DL.x_cons, ↓DL.x_tup, ↓DL.x_cb, ↓DL.x_call, ↓DL.x_noPart, ↓DL.x_part, ↓DL.asI_int, ↓DL.x_sl, ↓DL.x_neg, ↓DL.x_lstV, ↓DL.x_listL, ↓DL.x_it, ↓DL.x_rng1, ↓DL.x_rng2, ↓DL.ints1_int, ↓DL.ints2_int, ↓DL.asL_lst, ↓DL.asL_tup, ↓DL.asL_scr, ↓DL.x_comp, ↓DL.x_yes, ↓DL.wip_nil, ↓DL.wip_cons, ↓DL.x_next, ↓DL.x_seq, ↓DL.x_brk, ↓DL.x_cont, ↓DL.x_expr, ↓DL.x_ret, ↓DL.x_retN, ↓DL.x_sif, ↓DL.x_set, ↓DL.x_setO, ↓DL.tgK_some, ↓DL.x_asg, ↓DL.x_tgN, ↓DL.x_tgTup, ↓DL.x_tgNil, ↓DL.x_tgConsN, ↓DL.map_some, ↓DL.pts_nil, ↓DL.pts_cons, ↓DL.gl_lst, ↓DL.x_app, ↓DL.x_putIx, ↓DL.gf_lst, ↓DL.gf_fz, ↓DL.x_fz, ↓DL.x_for, ↓DL.x_end_nx, ↓DL.x_end_rt, ↓DL.g_eqS, ↓DL.g_eqI, ↓DL.g_neS, ↓DL.g_neI, ↓DL.g_lt, ↓DL.g_le, ↓DL.g_gt, ↓DL.g_ge, ↓DL.g_add, ↓DL.g_addL, ↓DL.g_addT, ↓DL.g_sub, ↓DL.g_mul, ↓DL.g_mulL, ↓DL.g_mod, ↓DL.g_fdiv, ↓DL.g_pow, ↓DL.g_isN, ↓DL.g_notN, ↓DL.g_ixT, ↓DL.g_ixL, ↓DL.g_ixS, ↓DL.ix0, ↓DL.ix1, ↓DL.ix2, ↓DL.ix3, ↓DL.ix4, ↓DL.ix5, ↓DL.ix6, ↓DL.ix7, ↓DL.g_lenT, ↓DL.g_lenL, ↓DL.g_lenS, ↓DL.g_int, ↓DL.g_intB, ↓DL.g_tupT, ↓DL.g_tupL, ↓DL.g_lsT, ↓DL.g_lsL, ↓DL.g_max, ↓DL.g_min, ↓DL.g_slT, ↓DL.g_slL, ↓DL.isQ_some, ↓DL.g_isi, ↓DL.i_int, ↓DL.i_bl, ↓DL.i_tup, ↓DL.i_lst, ↓DL.i_non, ↓DL.i_str, if_true, if_false, Bool.false_eq_true, Bool.not_true, Bool.not_false, reduceCtorEq, decide_eq_true_eq, decide_true, decide_false, Bool.not_eq_true', decide_eq_false_iff_not]
    refine ⟨mulR (by omega) (by omega), mulR (by decide) (by decide), by decide, q _⟩
end K64

namespace K64
open PySem L2 DL
theorem Row.nil : Row [] [] := ⟨rfl, fun i r s h => by simp at h⟩
theorem Row.cons {x s : Int} {r ss : List Int} (h0 : 0 ≤ x) (h1 : x < s) (h : Row r ss) : Row (x :: r) (s :: ss) := ⟨by simp [h.1], fun i r' s' e1 e2 => by
  cases i with
  | zero => cases e1; cases e2; exact ⟨h0, h1⟩
  | succ i => exact h.2 i r' s' e1 e2⟩
theorem p_l_digits_1 {a b : O} {o5 o6 o7 : Option O} {Z : DEnd} : ∀ (ss acc : List Int) (rest : Int) (o4 : Option O), (∀ s ∈ ss, 0 < s ∧ s ≤ 1000) → acc.length + ss.length ≤ 100000 →
    (∀ r rest o4, Row r ss → Z.nx [some a, some b, some (.lst (iL (acc ++ r))), some (.fz (.int rest)), o4, o5, o6, o7]) →
    forGo (tgN 4) lp_l_digits_1 Z (iL ss) [some a, some b, some (.lst (iL acc)), some (.fz (.int rest)), o4, o5, o6, o7]
  | [], acc, rest, o4, hs, hl, q => by show Z.nx _; simpa using q [] rest o4 .nil
  | s :: ss, acc, rest, o4, hs, hl, q => by
    obtain ⟨s0, s1⟩ := hs s List.mem_cons_self
    rw [List.length_cons] at hl
    simp only [↓DL.gt_0, ↓DL.gt_s, ↓DL.pt_0, ↓DL.pt_s, ↓DL.gv_fz, ↓DL.x_var, ↓DL.go_fz, ↓DL.go_lst, ↓DL.x_own, ↓DL.x_c, ↓DL.x_bin, ↓DL.x_tst, ↓DL.asB_bl, ↓DL.x_chain, ↓DL.x_and, ↓DL.x_or, ↓DL.x_not, ↓DL.x_andV, ↓DL.x_orV, ↓DL.x_notV, ↓DL.x_if, ↓DL.x_nil, ↓DL.x_cons, ↓DL.x_tup, ↓DL.x_cb, ↓DL.x_call, ↓DL.x_noPart, ↓DL.x_part, ↓DL.asI_int, ↓DL.x_sl, ↓DL.x_neg, ↓DL.x_lstV, ↓DL.x_listL, ↓DL.x_it, ↓DL.x_rng1, ↓DL.x_rng2, ↓DL.ints1_int, ↓DL.ints2_int, ↓DL.asL_lst, ↓DL.asL_tup, ↓DL.asL_scr, ↓DL.x_comp, ↓DL.x_yes, ↓DL.wip_nil, ↓DL.wip_cons, ↓DL.x_next, ↓DL.x_seq, ↓DL.x_brk, ↓DL.x_cont, ↓DL.x_expr, ↓DL.x_ret, ↓DL.x_retN, ↓DL.x_sif, ↓DL.x_set, ↓DL.x_setO, ↓DL.tgK_some, ↓DL.x_asg, ↓DL.x_tgN, ↓DL.x_tgTup, ↓DL.x_tgNil, ↓DL.x_tgConsN, ↓DL.map_some, ↓DL.pts_nil, ↓DL.pts_cons, ↓DL.gl_lst, ↓DL.x_app, ↓DL.x_putIx, ↓DL.gf_lst, ↓DL.gf_fz, ↓DL.x_fz, ↓DL.x_for, ↓DL.x_end_nx, ↓DL.x_end_rt, ↓DL.g_eqS, ↓DL.g_eqI, ↓DL.g_neS, ↓DL.g_neI, ↓DL.g_lt, ↓DL.g_le, ↓DL.g_gt, ↓DL.g_ge, ↓DL.g_add, ↓DL.g_addL, ↓DL.g_addT, ↓DL.g_sub, ↓DL.g_mul, ↓DL.g_mulL, ↓DL.g_mod, ↓DL.g_fdiv, ↓DL.g_pow, ↓DL.g_isN, ↓DL.g_notN, ↓DL.g_ixT, ↓DL.g_ixL, ↓DL.g_ixS, ↓DL.ix0, ↓DL.ix1, ↓DL.ix2, ↓DL.ix3, ↓DL.ix4, ↓DL.ix5, ↓DL.ix6, ↓DL.ix7, ↓DL.g_lenT, ↓DL.g_lenL, ↓DL.g_lenS, ↓DL.g_int, ↓DL.g_intB, ↓DL.g_tupT, ↓DL.g_tupL, ↓DL.g_lsT, ↓DL.g_lsL, ↓DL.g_max, ↓DL.g_min, ↓DL.g_slT, ↓DL.g_slL, ↓DL.isQ_some, ↓DL.g_isi, ↓DL.i_int, ↓DL.i_bl, ↓DL.i_tup, ↓DL.i_lst, ↓DL.i_non, ↓DL.i_str, if_true, if_false, Bool.false_eq_true, Bool.not_true, Bool.not_false, reduceCtorEq, decide_eq_true_eq, decide_true, decide_false, Bool.not_eq_true', decide_eq_false_iff_not, List.map_cons, ↓forGo_cons, ↓u_l_digits_1, List.length_map]
    refine ⟨s0, by omega, divR s0 (by omega), ?_⟩
    have e : iL acc ++ [.int (rest % s)] = iL (acc ++ [rest % s]) := by simp
    rw [e]
    refine p_l_digits_1 ss _ _ _ (fun x hx => hs x (List.mem_cons_of_mem _ hx)) (by simp; omega) fun r rest' o4' hr => ?_
    rw [List.append_assoc]
    exact q _ _ _ (hr.cons (Int.emod_nonneg _ (by omega)) (Int.emod_lt_of_pos _ s0))
theorem p_l_digits_2 {a : O} {o3 o4 : Option O} {sizes : List Int} {Z : DEnd} (hs : ∀ s ∈ sizes, 0 < s ∧ s ≤ 1000) (hl : sizes.length ≤ 100000) : ∀ (n i : Nat) (acc : List Int) (seed : Int) (o6 o7 : Option O), i + n = sizes.length → acc.length = i →
    (∀ r o5 o6 o7, Row r (sizes.drop i) → Z.nx [some a, some (.fz (.lst (iL sizes))), some (.lst (iL (acc ++ r))), o3, o4, o5, o6, o7]) →
    forGo (tgN 6) lp_l_digits_2 Z (rng i n) [some a, some (.fz (.lst (iL sizes))), some (.lst (iL acc)), o3, o4, some (.fz (.int seed)), o6, o7]
  | 0, i, acc, seed, o6, o7, hi, ha, q => by
    have e : sizes.drop i = [] := List.drop_eq_nil_of_le (by omega)
    rw [e] at q
    show Z.nx _
    simpa using q [] _ o6 o7 .nil
  | n + 1, i, acc, seed, o6, o7, hi, ha, q => by
    have hlt : i < sizes.length := by omega
    obtain ⟨s0, s1⟩ := hs _ (List.getElem_mem hlt)
    simp only [↓DL.gt_0, ↓DL.gt_s, ↓DL.pt_0, ↓DL.pt_s, ↓DL.gv_fz, ↓DL.x_var, ↓DL.go_fz, ↓DL.go_lst, ↓DL.x_own, ↓DL.x_c, ↓DL.x_bin, ↓DL.x_tst, ↓DL.asB_bl, ↓DL.x_chain, ↓DL.x_and, ↓DL.x_or, ↓DL.x_not, ↓DL.x_andV, ↓DL.x_orV, ↓DL.x_notV, ↓DL.x_if, ↓DL.x_nil, ↓DL.x_cons, ↓DL.x_tup, ↓DL.x_cb, ↓DL.x_call, ↓DL.x_noPart, ↓DL.x_part, ↓DL.asI_int, ↓DL.x_sl, ↓DL.x_neg, ↓DL.x_lstV, ↓DL.x_listL, ↓DL.x_it, ↓DL.x_rng1, ↓DL.x_rng2, ↓DL.ints1_int, ↓DL.ints2_int, ↓DL.asL_lst, ↓DL.asL_tup, ↓DL.asL_scr, ↓DL.x_comp, ↓DL.x_yes, ↓DL.wip_nil, ↓DL.wip_cons, ↓DL.x_next, ↓DL.x_seq, ↓DL.x_brk, ↓DL.x_cont, ↓DL.x_expr, ↓DL.x_ret, ↓DL.x_retN, ↓DL.x_sif, ↓DL.x_set, ↓DL.x_setO, ↓DL.tgK_some, ↓DL.x_asg, ↓DL.x_tgN, ↓DL.x_tgTup, ↓DL.x_tgNil, ↓DL.x_tgConsN, ↓DL.map_some, ↓DL.pts_nil, ↓DL.pts_cons, ↓DL.gl_lst, ↓DL.x_app, ↓DL.x_putIx, ↓DL.gf_lst, ↓DL.gf_fz, ↓DL.x_fz, ↓DL.x_for, ↓DL.x_end_nx, ↓DL.x_end_rt, ↓DL.g_eqS, ↓DL.g_eqI, ↓DL.g_neS, ↓DL.g_neI, ↓DL.g_lt, ↓DL.g_le, ↓DL.g_gt, ↓DL.g_ge, ↓DL.g_add, ↓DL.g_addL, ↓DL.g_addT, ↓DL.g_sub, ↓DL.g_mul, ↓DL.g_mulL, ↓DL.g_mod, ↓DL.g_fdiv, ↓DL.g_pow, ↓DL.g_isN, ↓DL.g_notN, ↓DL.g_ixT, ↓DL.g_ixL, ↓DL.g_ixS, ↓DL.ix0, ↓DL.ix1, ↓DL.ix2, ↓DL.ix3, ↓DL.ix4, ↓DL.ix5, ↓DL.ix6, ↓DL.ix7, ↓DL.g_lenT, ↓DL.g_lenL, ↓DL.g_lenS, ↓DL.g_int, ↓DL.g_intB, ↓DL.g_tupT, ↓DL.g_tupL, ↓DL.g_lsT, ↓DL.g_lsL, ↓DL.g_max, ↓DL.g_min, ↓DL.g_slT, ↓DL.g_slL, ↓DL.isQ_some, ↓DL.g_isi, ↓DL.i_int, ↓DL.i_bl, ↓DL.i_tup, ↓DL.i_lst, ↓DL.i_non, ↓DL.i_str, if_true, if_false, Bool.false_eq_true, Bool.not_true, Bool.not_false, reduceCtorEq, decide_eq_true_eq, decide_true, decide_false, Bool.not_eq_true', decide_eq_false_iff_not, rng, ↓forGo_cons, ↓u_l_digits_2, List.length_map]
    refine ⟨mulR (by decide) (by decide), .inl (.inl ⟨by decide, by decide⟩), by decide, divR (by decide) (by decide), ?_⟩
    have b0 : 0 ≤ (seed * 48271 + 974711 * (i : Int) + 12345) % 2147483647 := Int.emod_nonneg _ (by decide)
    have b1 : (seed * 48271 + 974711 * (i : Int) + 12345) % 2147483647 < 2147483647 := Int.emod_lt_of_pos _ (by decide)
    refine ⟨mulR (by omega) (by omega), by decide, divR (by decide) (by decide), ixQ_at (List.getElem?_eq_getElem hlt) ?_⟩
    simp only [↓DL.gt_0, ↓DL.gt_s, ↓DL.pt_0, ↓DL.pt_s, ↓DL.gv_fz, ↓DL.x_var, ↓DL.go_fz, ↓DL.go_lst, ↓DL.x_own, ↓DL.x_c, ↓DL.x_bin, ↓DL.x_tst, ↓DL.asB_bl, ↓DL.x_chain, ↓DL.x_and, ↓DL.x_or, ↓DL.x_not, ↓DL.x_andV, ↓DL.x_orV, ↓DL.x_notV, ↓DL.x_if, ↓DL.x_nil, ↓DL.x_cons, ↓DL.x_tup, ↓DL.x_cb, ↓DL.x_call, ↓DL.x_noPart, ↓DL.x_part, ↓DL.asI_int, ↓DL.x_sl, ↓DL.x_neg, ↓DL.x_lstV, ↓DL.x_listL, ↓DL.x_it, ↓DL.x_rng1, ↓DL.x_rng2, ↓DL.ints1_int, ↓DL.ints2_int, ↓DL.asL_lst, ↓DL.asL_tup, ↓DL.asL_scr, ↓DL.x_comp, ↓DL.x_yes, ↓DL.wip_nil, ↓DL.wip_cons, ↓DL.x_next, ↓DL.x_seq, ↓DL.x_brk, ↓DL.x_cont, ↓DL.x_expr, ↓DL.x_ret, ↓DL.x_retN, ↓DL.x_sif, ↓DL.x_set, ↓DL.x_setO, ↓DL.tgK_some, ↓DL.x_asg, ↓DL.x_tgN, ↓DL.x_tgTup, ↓DL.x_tgNil, ↓DL.x_tgConsN, ↓DL.map_some, ↓DL.pts_nil, ↓DL.pts_cons, ↓DL.gl_lst, ↓DL.x_app, ↓DL.x_putIx, ↓DL.gf_lst, ↓DL.gf_fz, ↓DL.x_fz, ↓DL.x_for, ↓DL.x_end_nx, ↓DL.x_end_rt, ↓DL.g_eqS, ↓DL.g_eqI, ↓DL.g_neS, ↓DL.g_neI, ↓DL.g_lt, ↓DL.g_le, ↓DL.g_gt, ↓DL.g_ge, ↓DL.g_add, ↓DL.g_addL, ↓DL.g_addT, ↓DL.g_sub, ↓DL.g_mul, ↓DL.g_mulL, ↓DL.g_mod, ↓DL.g_fdiv, ↓DL.g_pow, ↓DL.g_isN, ↓DL.g_notN, ↓DL.g_ixT, ↓DL.g_ixL, ↓DL.g_ixS, ↓DL.ix0, ↓DL.ix1, ↓DL.ix2, ↓DL.ix3, ↓DL.ix4, ↓DL.ix5, ↓DL.ix6, ↓DL.ix7, ↓DL.g_lenT, ↓DL.g_lenL, ↓DL.g_lenS, ↓DL.g_int, ↓DL.g_intB, ↓DL.g_tupT, ↓DL.g_tupL, ↓DL.g_lsT, ↓DL.g_lsL, ↓DL.g_max, ↓DL.g_min, ↓DL.g_slT, ↓DL.g_slL, ↓DL.isQ_some, ↓DL.g_isi, ↓DL.i_int, ↓DL.i_bl, ↓DL.i_tup, ↓DL.i_lst, ↓DL.i_non, ↓DL.i_str, if_true, if_false, Bool.false_eq_true, Bool.not_true, Bool.not_false, reduceCtorEq, decide_eq_true_eq, decide_true, decide_false, Bool.not_eq_true', decide_eq_false_iff_not]
    refine ⟨s0, by omega, ?_⟩
    generalize hx : (_ / 19 % sizes[i] : Int) = x
    have x0 : 0 ≤ x := by rw [← hx]; exact Int.emod_nonneg _ (by omega)
    have x1 : x < sizes[i] := by rw [← hx]; exact Int.emod_lt_of_pos _ s0
    have e : iL acc ++ [.int x] = iL (acc ++ [x]) := by simp
    rw [e]
    refine p_l_digits_2 hs hl n (i + 1) _ _ _ _ (by omega) (by simp; omega) fun r o5 o6 o7 hr => ?_
    rw [List.append_assoc]
    refine q _ _ _ _ ?_
    rw [List.drop_eq_getElem_cons hlt]
    exact hr.cons x0 x1
theorem p_l_digits (ds : List D) (Q : D → Prop) (E : DExc → Prop) (hl : ds.length = 2) (h : sp_l_digits ds Q E) : b_l_digits (dEnd Q E) (en N_l_digits.length ds) := by
  obtain ⟨c, sizes, rfl, hn, hs, q⟩ := h
  rw [en_l_digits]
  simp only [↓DL.gt_0, ↓DL.gt_s, ↓DL.pt_0, ↓DL.pt_s, ↓DL.gv_fz, ↓DL.x_var, ↓DL.go_fz, ↓DL.go_lst, ↓DL.x_own, ↓DL.x_c, ↓DL.x_bin, ↓DL.x_tst, ↓DL.asB_bl, ↓DL.x_chain, ↓DL.x_and, ↓DL.x_or, ↓DL.x_not, ↓DL.x_andV, ↓DL.x_orV, ↓DL.x_notV, ↓DL.x_if, ↓DL.x_nil, ↓DL.x_cons, ↓DL.x_tup, ↓DL.x_cb, ↓DL.x_call, ↓DL.x_noPart, ↓DL.x_part, ↓DL.asI_int, ↓DL.x_sl, ↓DL.x_neg, ↓DL.x_lstV, ↓DL.x_listL, ↓DL.x_it, ↓DL.x_rng1, ↓DL.x_rng2, ↓DL.ints1_int, ↓DL.ints2_int, ↓DL.asL_lst, ↓DL.asL_tup, ↓DL.asL_scr, ↓DL.x_comp, ↓DL.x_yes, ↓DL.wip_nil, ↓DL.wip_cons, ↓DL.x_next, ↓DL.x_seq, ↓DL.x_brk, ↓DL.x_cont, ↓DL.x_expr, ↓DL.x_ret, ↓DL.x_retN, ↓DL.x_sif, ↓DL.x_set, ↓DL.x_setO, ↓DL.tgK_some, ↓DL.x_asg, ↓DL.x_tgN, ↓DL.x_tgTup, ↓DL.x_tgNil, ↓DL.x_tgConsN, ↓DL.map_some, ↓DL.pts_nil, ↓DL.pts_cons, ↓DL.gl_lst, ↓DL.x_app, ↓DL.x_putIx, ↓DL.gf_lst, ↓DL.gf_fz, ↓DL.x_fz, ↓DL.x_for, ↓DL.x_end_nx, ↓DL.x_end_rt, ↓DL.g_eqS, ↓DL.g_eqI, ↓DL.g_neS, ↓DL.g_neI, ↓DL.g_lt, ↓DL.g_le, ↓DL.g_gt, ↓DL.g_ge, ↓DL.g_add, ↓DL.g_addL, ↓DL.g_addT, ↓DL.g_sub, ↓DL.g_mul, ↓DL.g_mulL, ↓DL.g_mod, ↓DL.g_fdiv, ↓DL.g_pow, ↓DL.g_isN, ↓DL.g_notN, ↓DL.g_ixT, ↓DL.g_ixL, ↓DL.g_ixS, ↓DL.ix0, ↓DL.ix1, ↓DL.ix2, ↓DL.ix3, ↓DL.ix4, ↓DL.ix5, ↓DL.ix6, ↓DL.ix7, ↓DL.g_lenT, ↓DL.g_lenL, ↓DL.g_lenS, ↓DL.g_int, ↓DL.g_intB, ↓DL.g_tupT, ↓DL.g_tupL, ↓DL.g_lsT, ↓DL.g_lsL, ↓DL.g_max, ↓DL.g_min, ↓DL.g_slT, ↓DL.g_slL, ↓DL.isQ_some, ↓DL.g_isi, ↓DL.i_int, ↓DL.i_bl, ↓DL.i_tup, ↓DL.i_lst, ↓DL.i_non, ↓DL.i_str, if_true, if_false, Bool.false_eq_true, Bool.not_true, Bool.not_false, reduceCtorEq, decide_eq_true_eq, decide_true, decide_false, Bool.not_eq_true', decide_eq_false_iff_not, b_l_digits]
  refine ⟨⟨by decide, by decide, by decide⟩, ?_⟩
  split
  · refine ⟨⟨by decide, by decide, by decide⟩, ?_⟩
    refine p_l_digits_1 sizes [] _ _ hs (by simpa using hn) fun r rest o4 hr => ?_
    simp only [↓DL.gt_0, ↓DL.gt_s, ↓DL.pt_0, ↓DL.pt_s, ↓DL.gv_fz, ↓DL.x_var, ↓DL.go_fz, ↓DL.go_lst, ↓DL.x_own, ↓DL.x_c, ↓DL.x_bin, ↓DL.x_tst, ↓DL.asB_bl, ↓DL.x_chain, ↓DL.x_and, ↓DL.x_or, ↓DL.x_not, ↓DL.x_andV, ↓DL.x_orV, ↓DL.x_notV, ↓DL.x_if, ↓DL.x_nil, ↓DL.x_cons, ↓DL.x_tup, ↓DL.x_cb, ↓DL.x_call, ↓DL.x_noPart, ↓DL.x_part, ↓DL.asI_int, ↓DL.x_sl, ↓DL.x_neg, ↓DL.x_lstV, ↓DL.x_listL, ↓DL.x_it, ↓DL.x_rng1, ↓DL.x_rng2, ↓DL.ints1_int, ↓DL.ints2_int, ↓DL.asL_lst, ↓DL.asL_tup, ↓DL.asL_scr, ↓DL.x_comp, ↓DL.x_yes, ↓DL.wip_nil, ↓DL.wip_cons, ↓DL.x_next, ↓DL.x_seq, ↓DL.x_brk, ↓DL.x_cont, ↓DL.x_expr, ↓DL.x_ret, ↓DL.x_retN, ↓DL.x_sif, ↓DL.x_set, ↓DL.x_setO, ↓DL.tgK_some, ↓DL.x_asg, ↓DL.x_tgN, ↓DL.x_tgTup, ↓DL.x_tgNil, ↓DL.x_tgConsN, ↓DL.map_some, ↓DL.pts_nil, ↓DL.pts_cons, ↓DL.gl_lst, ↓DL.x_app, ↓DL.x_putIx, ↓DL.gf_lst, ↓DL.gf_fz, ↓DL.x_fz, ↓DL.x_for, ↓DL.x_end_nx, ↓DL.x_end_rt, ↓DL.g_eqS, ↓DL.g_eqI, ↓DL.g_neS, ↓DL.g_neI, ↓DL.g_lt, ↓DL.g_le, ↓DL.g_gt, ↓DL.g_ge, ↓DL.g_add, ↓DL.g_addL, ↓DL.g_addT, ↓DL.g_sub, ↓DL.g_mul, ↓DL.g_mulL, ↓DL.g_mod, ↓DL.g_fdiv, ↓DL.g_pow, ↓DL.g_isN, ↓DL.g_notN, ↓DL.g_ixT, ↓DL.g_ixL, ↓DL.g_ixS, ↓DL.ix0, ↓DL.ix1, ↓DL.ix2, ↓DL.ix3, ↓DL.ix4, ↓DL.ix5, ↓DL.ix6, ↓DL.ix7, ↓DL.g_lenT, ↓DL.g_lenL, ↓DL.g_lenS, ↓DL.g_int, ↓DL.g_intB, ↓DL.g_tupT, ↓DL.g_tupL, ↓DL.g_lsT, ↓DL.g_lsL, ↓DL.g_max, ↓DL.g_min, ↓DL.g_slT, ↓DL.g_slL, ↓DL.isQ_some, ↓DL.g_isi, ↓DL.i_int, ↓DL.i_bl, ↓DL.i_tup, ↓DL.i_lst, ↓DL.i_non, ↓DL.i_str, if_true, if_false, Bool.false_eq_true, Bool.not_true, Bool.not_false, reduceCtorEq, decide_eq_true_eq, decide_true, decide_false, Bool.not_eq_true', decide_eq_false_iff_not]
    exact q _ hr
  · simp only [↓DL.gt_0, ↓DL.gt_s, ↓DL.pt_0, ↓DL.pt_s, ↓DL.gv_fz, ↓DL.x_var, ↓DL.go_fz, ↓DL.go_lst, ↓DL.x_own, ↓DL.x_c, ↓DL.x_bin, ↓DL.x_tst, ↓DL.asB_bl, ↓DL.x_chain, ↓DL.x_and, ↓DL.x_or, ↓DL.x_not, ↓DL.x_andV, ↓DL.x_orV, ↓DL.x_notV, ↓DL.x_if, ↓DL.x_nil, ↓DL.x_cons, ↓DL.x_tup, ↓DL.x_cb, ↓DL.x_call, ↓DL.x_noPart, ↓DL.x_part, ↓DL.asI_int, ↓DL.x_sl, ↓DL.x_neg, ↓DL.x_lstV, ↓DL.x_listL, ↓DL.x_it, ↓DL.x_rng1, ↓DL.x_rng2, ↓DL.ints1_int, ↓DL.ints2_int, ↓DL.asL_lst, ↓DL.asL_tup, ↓DL.asL_scr, ↓DL.x_comp, ↓DL.x_yes, ↓DL.wip_nil, ↓DL.wip_cons, ↓DL.x_next, ↓DL.x_seq, ↓DL.x_brk, ↓DL.x_cont, ↓DL.x_expr, ↓DL.x_ret, ↓DL.x_retN, ↓DL.x_sif, ↓DL.x_set, ↓DL.x_setO, ↓DL.tgK_some, ↓DL.x_asg, ↓DL.x_tgN, ↓DL.x_tgTup, ↓DL.x_tgNil, ↓DL.x_tgConsN, ↓DL.map_some, ↓DL.pts_nil, ↓DL.pts_cons, ↓DL.gl_lst, ↓DL.x_app, ↓DL.x_putIx, ↓DL.gf_lst, ↓DL.gf_fz, ↓DL.x_fz, ↓DL.x_for, ↓DL.x_end_nx, ↓DL.x_end_rt, ↓DL.g_eqS, ↓DL.g_eqI, ↓DL.g_neS, ↓DL.g_neI, ↓DL.g_lt, ↓DL.g_le, ↓DL.g_gt, ↓DL.g_ge, ↓DL.g_add, ↓DL.g_addL, ↓DL.g_addT, ↓DL.g_sub, ↓DL.g_mul, ↓DL.g_mulL, ↓DL.g_mod, ↓DL.g_fdiv, ↓DL.g_pow, ↓DL.g_isN, ↓DL.g_notN, ↓DL.g_ixT, ↓DL.g_ixL, ↓DL.g_ixS, ↓DL.ix0, ↓DL.ix1, ↓DL.ix2, ↓DL.ix3, ↓DL.ix4, ↓DL.ix5, ↓DL.ix6, ↓DL.ix7, ↓DL.g_lenT, ↓DL.g_lenL, ↓DL.g_lenS, ↓DL.g_int, ↓DL.g_intB, ↓DL.g_tupT, ↓DL.g_tupL, ↓DL.g_lsT, ↓DL.g_lsL, ↓DL.g_max, ↓DL.g_min, ↓DL.g_slT, ↓DL.g_slL, ↓DL.isQ_some, ↓DL.g_isi, ↓DL.i_int, ↓DL.i_bl, ↓DL.i_tup, ↓DL.i_lst, ↓DL.i_non, ↓DL.i_str, if_true, if_false, Bool.false_eq_true, Bool.not_true, Bool.not_false, reduceCtorEq, decide_eq_true_eq, decide_true, decide_false, Bool.not_eq_true', decide_eq_false_iff_not, List.length_map]
    refine ⟨by decide, by omega, by omega, ?_⟩
    rw [Int.toNat_natCast]
    refine p_l_digits_2 hs hn sizes.length 0 [] _ _ _ (by omega) rfl fun r o5 o6 o7 hr => ?_
    simp only [↓DL.gt_0, ↓DL.gt_s, ↓DL.pt_0, ↓DL.pt_s, ↓DL.gv_fz, ↓DL.x_var, ↓DL.go_fz, ↓DL.go_lst, ↓DL.x_own, ↓DL.x_c, ↓DL.x_bin, ↓DL.x_tst, ↓DL.asB_bl, ↓DL.x_chain, ↓DL.x_and, ↓DL.x_or, ↓DL.x_not, ↓DL.x_andV, ↓DL.x_orV, ↓DL.x_notV, ↓DL.x_if, ↓DL.x_nil, ↓DL.x_cons, ↓DL.x_tup, ↓DL.x_cb, ↓DL.x_call, ↓DL.x_noPart, ↓DL.x_part, ↓DL.asI_int, ↓DL.x_sl, ↓DL.x_neg, ↓DL.x_lstV, ↓DL.x_listL, ↓DL.x_it, ↓DL.x_rng1, ↓DL.x_rng2, ↓DL.ints1_int, ↓DL.ints2_int, ↓DL.asL_lst, ↓DL.asL_tup, ↓DL.asL_scr, ↓DL.x_comp, ↓DL.x_yes, ↓DL.wip_nil, ↓DL.wip_cons, ↓DL.x_next, ↓DL.x_seq, ↓DL.x_brk, ↓DL.x_cont, ↓DL.x_expr, ↓DL.x_ret, ↓DL.x_retN, ↓DL.x_sif, ↓DL.x_set, ↓DL.x_setO, ↓DL.tgK_some, ↓DL.x_asg, ↓DL.x_tgN, ↓DL.x_tgTup, ↓DL.x_tgNil, ↓DL.x_tgConsN, ↓DL.map_some, ↓DL.pts_nil, ↓DL.pts_cons, ↓DL.gl_lst, ↓DL.x_app, ↓DL.x_putIx, ↓DL.gf_lst, ↓DL.gf_fz, ↓DL.x_fz, ↓DL.x_for, ↓DL.x_end_nx, ↓DL.x_end_rt, ↓DL.g_eqS, ↓DL.g_eqI, ↓DL.g_neS, ↓DL.g_neI, ↓DL.g_lt, ↓DL.g_le, ↓DL.g_gt, ↓DL.g_ge, ↓DL.g_add, ↓DL.g_addL, ↓DL.g_addT, ↓DL.g_sub, ↓DL.g_mul, ↓DL.g_mulL, ↓DL.g_mod, ↓DL.g_fdiv, ↓DL.g_pow, ↓DL.g_isN, ↓DL.g_notN, ↓DL.g_ixT, ↓DL.g_ixL, ↓DL.g_ixS, ↓DL.ix0, ↓DL.ix1, ↓DL.ix2, ↓DL.ix3, ↓DL.ix4, ↓DL.ix5, ↓DL.ix6, ↓DL.ix7, ↓DL.g_lenT, ↓DL.g_lenL, ↓DL.g_lenS, ↓DL.g_int, ↓DL.g_intB, ↓DL.g_tupT, ↓DL.g_tupL, ↓DL.g_lsT, ↓DL.g_lsL, ↓DL.g_max, ↓DL.g_min, ↓DL.g_slT, ↓DL.g_slL, ↓DL.isQ_some, ↓DL.g_isi, ↓DL.i_int, ↓DL.i_bl, ↓DL.i_tup, ↓DL.i_lst, ↓DL.i_non, ↓DL.i_str, if_true, if_false, Bool.false_eq_true, Bool.not_true, Bool.not_false, reduceCtorEq, decide_eq_true_eq, decide_true, decide_false, Bool.not_eq_true', decide_eq_false_iff_not]
    exact q _ hr
theorem p_l_others (ds : List D) (Q : D → Prop) (E : DExc → Prop) (hl : ds.length = 2) (h : sp_l_others ds Q E) : b_l_others (dEnd Q E) (en N_l_others.length ds) := by
  obtain ⟨h, x, hh, rfl, q⟩ := h
  rw [en_l_others]
  simp only [↓DL.gt_0, ↓DL.gt_s, ↓DL.pt_0, ↓DL.pt_s, ↓DL.gv_fz, ↓DL.x_var, ↓DL.go_fz, ↓DL.go_lst, ↓DL.x_own, ↓DL.x_c, ↓DL.x_bin, ↓DL.x_tst, ↓DL.asB_bl, ↓DL.x_chain, ↓DL.x_and, ↓DL.x_or, ↓DL.x_not, ↓DL.x_andV, ↓DL.x_orV, ↓DL.x_notV, ↓DL.x_if, ↓DL.x_nil, ↓DL.x_cons, ↓DL.x_tup, ↓DL.x_cb, ↓DL.x_call, ↓DL.x_noPart, ↓DL.x_part, ↓DL.asI_int, ↓DL.x_sl, ↓DL.x_neg, ↓DL.x_lstV, ↓DL.x_listL, ↓DL.x_it, ↓DL.x_rng1, ↓DL.x_rng2, ↓DL.ints1_int, ↓DL.ints2_int, ↓DL.asL_lst, ↓DL.asL_tup, ↓DL.asL_scr, ↓DL.x_comp, ↓DL.x_yes, ↓DL.wip_nil, ↓DL.wip_cons, ↓DL.x_next, ↓DL.x_seq, ↓DL.x_brk, ↓DL.x_cont, ↓DL.x_expr, ↓DL.x_ret, ↓DL.x_retN, ↓DL.x_sif, ↓DL.x_set, ↓DL.x_setO, ↓DL.tgK_some, ↓DL.x_asg, ↓DL.x_tgN, ↓DL.x_tgTup, ↓DL.x_tgNil, ↓DL.x_tgConsN, ↓DL.map_some, ↓DL.pts_nil, ↓DL.pts_cons, ↓DL.gl_lst, ↓DL.x_app, ↓DL.x_putIx, ↓DL.gf_lst, ↓DL.gf_fz, ↓DL.x_fz, ↓DL.x_for, ↓DL.x_end_nx, ↓DL.x_end_rt, ↓DL.g_eqS, ↓DL.g_eqI, ↓DL.g_neS, ↓DL.g_neI, ↓DL.g_lt, ↓DL.g_le, ↓DL.g_gt, ↓DL.g_ge, ↓DL.g_add, ↓DL.g_addL, ↓DL.g_addT, ↓DL.g_sub, ↓DL.g_mul, ↓DL.g_mulL, ↓DL.g_mod, ↓DL.g_fdiv, ↓DL.g_pow, ↓DL.g_isN, ↓DL.g_notN, ↓DL.g_ixT, ↓DL.g_ixL, ↓DL.g_ixS, ↓DL.ix0, ↓DL.ix1, ↓DL.ix2, ↓DL.ix3, ↓DL.ix4, ↓DL.ix5, ↓DL.ix6, ↓DL.ix7, ↓DL.g_lenT, ↓DL.g_lenL, ↓DL.g_lenS, ↓DL.g_int, ↓DL.g_intB, ↓DL.g_tupT, ↓DL.g_tupL, ↓DL.g_lsT, ↓DL.g_lsL, ↓DL.g_max, ↓DL.g_min, ↓DL.g_slT, ↓DL.g_slL, ↓DL.isQ_some, ↓DL.g_isi, ↓DL.i_int, ↓DL.i_bl, ↓DL.i_tup, ↓DL.i_lst, ↓DL.i_non, ↓DL.i_str, if_true, if_false, Bool.false_eq_true, Bool.not_true, Bool.not_false, reduceCtorEq, decide_eq_true_eq, decide_true, decide_false, Bool.not_eq_true', decide_eq_false_iff_not, b_l_others]
  refine ⟨by omega, by omega, ?_⟩
  rw [Int.toNat_natCast, rngE]
  refine ⟨by simp; omega, compGo_of .int (fun y => y ≠ x) .int _ _ (fun y hy => ⟨_, rfl, fun Q E q => ?_, fun _ Q E q => ?_⟩) ?_⟩
  · simp only [↓DL.gt_0, ↓DL.gt_s, ↓DL.pt_0, ↓DL.pt_s, ↓DL.gv_fz, ↓DL.x_var, ↓DL.go_fz, ↓DL.go_lst, ↓DL.x_own, ↓DL.x_c, ↓DL.x_bin, ↓DL.x_tst, ↓DL.asB_bl, ↓DL.x_chain, ↓DL.x_and, ↓DL.x_or, ↓DL.x_not, ↓DL.x_andV, ↓DL.x_orV, ↓DL.x_notV, ↓DL.x_if, ↓DL.x_nil, ↓DL.x_cons, ↓DL.x_tup, ↓DL.x_cb, ↓DL.x_call, ↓DL.x_noPart, ↓DL.x_part, ↓DL.asI_int, ↓DL.x_sl, ↓DL.x_neg, ↓DL.x_lstV, ↓DL.x_listL, ↓DL.x_it, ↓DL.x_rng1, ↓DL.x_rng2, ↓DL.ints1_int, ↓DL.ints2_int, ↓DL.asL_lst, ↓DL.asL_tup, ↓DL.asL_scr, ↓DL.x_comp, ↓DL.x_yes, ↓DL.wip_nil, ↓DL.wip_cons, ↓DL.x_next, ↓DL.x_seq, ↓DL.x_brk, ↓DL.x_cont, ↓DL.x_expr, ↓DL.x_ret, ↓DL.x_retN, ↓DL.x_sif, ↓DL.x_set, ↓DL.x_setO, ↓DL.tgK_some, ↓DL.x_asg, ↓DL.x_tgN, ↓DL.x_tgTup, ↓DL.x_tgNil, ↓DL.x_tgConsN, ↓DL.map_some, ↓DL.pts_nil, ↓DL.pts_cons, ↓DL.gl_lst, ↓DL.x_app, ↓DL.x_putIx, ↓DL.gf_lst, ↓DL.gf_fz, ↓DL.x_fz, ↓DL.x_for, ↓DL.x_end_nx, ↓DL.x_end_rt, ↓DL.g_eqS, ↓DL.g_eqI, ↓DL.g_neS, ↓DL.g_neI, ↓DL.g_lt, ↓DL.g_le, ↓DL.g_gt, ↓DL.g_ge, ↓DL.g_add, ↓DL.g_addL, ↓DL.g_addT, ↓DL.g_sub, ↓DL.g_mul, ↓DL.g_mulL, ↓DL.g_mod, ↓DL.g_fdiv, ↓DL.g_pow, ↓DL.g_isN, ↓DL.g_notN, ↓DL.g_ixT, ↓DL.g_ixL, ↓DL.g_ixS, ↓DL.ix0, ↓DL.ix1, ↓DL.ix2, ↓DL.ix3, ↓DL.ix4, ↓DL.ix5, ↓DL.ix6, ↓DL.ix7, ↓DL.g_lenT, ↓DL.g_lenL, ↓DL.g_lenS, ↓DL.g_int, ↓DL.g_intB, ↓DL.g_tupT, ↓DL.g_tupL, ↓DL.g_lsT, ↓DL.g_lsL, ↓DL.g_max, ↓DL.g_min, ↓DL.g_slT, ↓DL.g_slL, ↓DL.isQ_some, ↓DL.g_isi, ↓DL.i_int, ↓DL.i_bl, ↓DL.i_tup, ↓DL.i_lst, ↓DL.i_non, ↓DL.i_str, if_true, if_false, Bool.false_eq_true, Bool.not_true, Bool.not_false, reduceCtorEq, decide_eq_true_eq, decide_true, decide_false, Bool.not_eq_true', decide_eq_false_iff_not]
    simpa using q
  · simp only [↓DL.gt_0, ↓DL.gt_s, ↓DL.pt_0, ↓DL.pt_s, ↓DL.gv_fz, ↓DL.x_var, ↓DL.go_fz, ↓DL.go_lst, ↓DL.x_own, ↓DL.x_c, ↓DL.x_bin, ↓DL.x_tst, ↓DL.asB_bl, ↓DL.x_chain, ↓DL.x_and, ↓DL.x_or, ↓DL.x_not, ↓DL.x_andV, ↓DL.x_orV, ↓DL.x_notV, ↓DL.x_if, ↓DL.x_nil, ↓DL.x_cons, ↓DL.x_tup, ↓DL.x_cb, ↓DL.x_call, ↓DL.x_noPart, ↓DL.x_part, ↓DL.asI_int, ↓DL.x_sl, ↓DL.x_neg, ↓DL.x_lstV, ↓DL.x_listL, ↓DL.x_it, ↓DL.x_rng1, ↓DL.x_rng2, ↓DL.ints1_int, ↓DL.ints2_int, ↓DL.asL_lst, ↓DL.asL_tup, ↓DL.asL_scr, ↓DL.x_comp, ↓DL.x_yes, ↓DL.wip_nil, ↓DL.wip_cons, ↓DL.x_next, ↓DL.x_seq, ↓DL.x_brk, ↓DL.x_cont, ↓DL.x_expr, ↓DL.x_ret, ↓DL.x_retN, ↓DL.x_sif, ↓DL.x_set, ↓DL.x_setO, ↓DL.tgK_some, ↓DL.x_asg, ↓DL.x_tgN, ↓DL.x_tgTup, ↓DL.x_tgNil, ↓DL.x_tgConsN, ↓DL.map_some, ↓DL.pts_nil, ↓DL.pts_cons, ↓DL.gl_lst, ↓DL.x_app, ↓DL.x_putIx, ↓DL.gf_lst, ↓DL.gf_fz, ↓DL.x_fz, ↓DL.x_for, ↓DL.x_end_nx, ↓DL.x_end_rt, ↓DL.g_eqS, ↓DL.g_eqI, ↓DL.g_neS, ↓DL.g_neI, ↓DL.g_lt, ↓DL.g_le, ↓DL.g_gt, ↓DL.g_ge, ↓DL.g_add, ↓DL.g_addL, ↓DL.g_addT, ↓DL.g_sub, ↓DL.g_mul, ↓DL.g_mulL, ↓DL.g_mod, ↓DL.g_fdiv, ↓DL.g_pow, ↓DL.g_isN, ↓DL.g_notN, ↓DL.g_ixT, ↓DL.g_ixL, ↓DL.g_ixS, ↓DL.ix0, ↓DL.ix1, ↓DL.ix2, ↓DL.ix3, ↓DL.ix4, ↓DL.ix5, ↓DL.ix6, ↓DL.ix7, ↓DL.g_lenT, ↓DL.g_lenL, ↓DL.g_lenS, ↓DL.g_int, ↓DL.g_intB, ↓DL.g_tupT, ↓DL.g_tupL, ↓DL.g_lsT, ↓DL.g_lsL, ↓DL.g_max, ↓DL.g_min, ↓DL.g_slT, ↓DL.g_slL, ↓DL.isQ_some, ↓DL.g_isi, ↓DL.i_int, ↓DL.i_bl, ↓DL.i_tup, ↓DL.i_lst, ↓DL.i_non, ↓DL.i_str, if_true, if_false, Bool.false_eq_true, Bool.not_true, Bool.not_false, reduceCtorEq, decide_eq_true_eq, decide_true, decide_false, Bool.not_eq_true', decide_eq_false_iff_not]
    exact q
  · have e : ([] ++ iL (((List.range h).map fun i : Nat => (i : Int)).filter fun y => decide (y ≠ (x : Int)))) = iL (others h x) := by
      unfold others
      rw [List.nil_append, List.filter_map]
      congr 3
      funext y
      simp
      omega
    rw [e]
    exact q
theorem oth_len {h x : Nat} (hh : h ≤ 5) : (others h x).length ≤ 5 := by
  unfold others
  rw [List.length_map]
  have := List.length_filter_le (fun y => decide (y ≠ x)) (List.range h)
  simp only [List.length_range] at this
  omega
theorem p_l_letters_1 {a : O} {x : Int} {Z : DEnd} : ∀ (rs : List Int) (acc : List (Int × Int)) (o : Option O), acc.length + rs.length ≤ 100 →
    (∀ o, Z.nx [some a, some (.lst ((acc ++ rs.map fun r => (x, r)).map prD2)), some (.fz (.int x)), o]) →
    forGo (tgN 3) lp_l_letters_1 Z (iL rs) [some a, some (.lst (acc.map prD2)), some (.fz (.int x)), o]
  | [], acc, o, hl, q => by show Z.nx _; simpa using q o
  | r :: rs, acc, o, hl, q => by
    rw [List.length_cons] at hl
    simp only [↓DL.gt_0, ↓DL.gt_s, ↓DL.pt_0, ↓DL.pt_s, ↓DL.gv_fz, ↓DL.x_var, ↓DL.go_fz, ↓DL.go_lst, ↓DL.x_own, ↓DL.x_c, ↓DL.x_bin, ↓DL.x_tst, ↓DL.asB_bl, ↓DL.x_chain, ↓DL.x_and, ↓DL.x_or, ↓DL.x_not, ↓DL.x_andV, ↓DL.x_orV, ↓DL.x_notV, ↓DL.x_if, ↓DL.x_nil, ↓DL.x_cons, ↓DL.x_tup, ↓DL.x_cb, ↓DL.x_call, ↓DL.x_noPart, ↓DL.x_part, ↓DL.asI_int, ↓DL.x_sl, ↓DL.x_neg, ↓DL.x_lstV, ↓DL.x_listL, ↓DL.x_it, ↓DL.x_rng1, ↓DL.x_rng2, ↓DL.ints1_int, ↓DL.ints2_int, ↓DL.asL_lst, ↓DL.asL_tup, ↓DL.asL_scr, ↓DL.x_comp, ↓DL.x_yes, ↓DL.wip_nil, ↓DL.wip_cons, ↓DL.x_next, ↓DL.x_seq, ↓DL.x_brk, ↓DL.x_cont, ↓DL.x_expr, ↓DL.x_ret, ↓DL.x_retN, ↓DL.x_sif, ↓DL.x_set, ↓DL.x_setO, ↓DL.tgK_some, ↓DL.x_asg, ↓DL.x_tgN, ↓DL.x_tgTup, ↓DL.x_tgNil, ↓DL.x_tgConsN, ↓DL.map_some, ↓DL.pts_nil, ↓DL.pts_cons, ↓DL.gl_lst, ↓DL.x_app, ↓DL.x_putIx, ↓DL.gf_lst, ↓DL.gf_fz, ↓DL.x_fz, ↓DL.x_for, ↓DL.x_end_nx, ↓DL.x_end_rt, ↓DL.g_eqS, ↓DL.g_eqI, ↓DL.g_neS, ↓DL.g_neI, ↓DL.g_lt, ↓DL.g_le, ↓DL.g_gt, ↓DL.g_ge, ↓DL.g_add, ↓DL.g_addL, ↓DL.g_addT, ↓DL.g_sub, ↓DL.g_mul, ↓DL.g_mulL, ↓DL.g_mod, ↓DL.g_fdiv, ↓DL.g_pow, ↓DL.g_isN, ↓DL.g_notN, ↓DL.g_ixT, ↓DL.g_ixL, ↓DL.g_ixS, ↓DL.ix0, ↓DL.ix1, ↓DL.ix2, ↓DL.ix3, ↓DL.ix4, ↓DL.ix5, ↓DL.ix6, ↓DL.ix7, ↓DL.g_lenT, ↓DL.g_lenL, ↓DL.g_lenS, ↓DL.g_int, ↓DL.g_intB, ↓DL.g_tupT, ↓DL.g_tupL, ↓DL.g_lsT, ↓DL.g_lsL, ↓DL.g_max, ↓DL.g_min, ↓DL.g_slT, ↓DL.g_slL, ↓DL.isQ_some, ↓DL.g_isi, ↓DL.i_int, ↓DL.i_bl, ↓DL.i_tup, ↓DL.i_lst, ↓DL.i_non, ↓DL.i_str, if_true, if_false, Bool.false_eq_true, Bool.not_true, Bool.not_false, reduceCtorEq, decide_eq_true_eq, decide_true, decide_false, Bool.not_eq_true', decide_eq_false_iff_not, List.map_cons, ↓forGo_cons, ↓u_l_letters_1, List.length_map]
    refine ⟨by omega, ?_⟩
    have e : acc.map prD2 ++ [.tup [.int x, .int r]] = (acc ++ [(x, r)]).map prD2 := by simp [prD2]
    rw [e]
    refine p_l_letters_1 rs _ _ (by simp; omega) fun o => ?_
    rw [List.append_assoc]
    exact q o
def lettersTo (h : Nat) (xs : List Nat) : List (Int × Int) := xs.flatMap fun s => (others h s).map fun r => ((s : Int), r)
theorem lto_len {h : Nat} (hh : h ≤ 5) : ∀ xs : List Nat, (lettersTo h xs).length ≤ 5 * xs.length
  | [] => Nat.le_refl _
  | x :: xs => by
    have h1 := lto_len hh xs
    have h2 := oth_len (x := x) hh
    unfold lettersTo at *
    simp only [List.flatMap_cons, List.length_append, List.length_map, List.length_cons]
    omega
theorem p_l_letters_2 {h : Nat} {Z : DEnd} (hh : h ≤ 5) : ∀ (n i : Nat) (acc : List (Int × Int)) (o2 o3 : Option O), i + n = h → acc.length ≤ 5 * i →
    (∀ o2 o3, Z.nx [some (.fz (.int h)), some (.lst ((acc ++ lettersTo h (List.range' i n)).map prD2)), o2, o3]) →
    forGo (tgN 2) lp_l_letters_2 Z (rng i n) [some (.fz (.int h)), some (.lst (acc.map prD2)), o2, o3]
  | 0, i, acc, o2, o3, hi, ha, q => by show Z.nx _; simpa [lettersTo] using q o2 o3
  | n + 1, i, acc, o2, o3, hi, ha, q => by
    have hol := oth_len (x := i) hh
    simp only [↓DL.gt_0, ↓DL.gt_s, ↓DL.pt_0, ↓DL.pt_s, ↓DL.gv_fz, ↓DL.x_var, ↓DL.go_fz, ↓DL.go_lst, ↓DL.x_own, ↓DL.x_c, ↓DL.x_bin, ↓DL.x_tst, ↓DL.asB_bl, ↓DL.x_chain, ↓DL.x_and, ↓DL.x_or, ↓DL.x_not, ↓DL.x_andV, ↓DL.x_orV, ↓DL.x_notV, ↓DL.x_if, ↓DL.x_nil, ↓DL.x_cons, ↓DL.x_tup, ↓DL.x_cb, ↓DL.x_call, ↓DL.x_noPart, ↓DL.x_part, ↓DL.asI_int, ↓DL.x_sl, ↓DL.x_neg, ↓DL.x_lstV, ↓DL.x_listL, ↓DL.x_it, ↓DL.x_rng1, ↓DL.x_rng2, ↓DL.ints1_int, ↓DL.ints2_int, ↓DL.asL_lst, ↓DL.asL_tup, ↓DL.asL_scr, ↓DL.x_comp, ↓DL.x_yes, ↓DL.wip_nil, ↓DL.wip_cons, ↓DL.x_next, ↓DL.x_seq, ↓DL.x_brk, ↓DL.x_cont, ↓DL.x_expr, ↓DL.x_ret, ↓DL.x_retN, ↓DL.x_sif, ↓DL.x_set, ↓DL.x_setO, ↓DL.tgK_some, ↓DL.x_asg, ↓DL.x_tgN, ↓DL.x_tgTup, ↓DL.x_tgNil, ↓DL.x_tgConsN, ↓DL.map_some, ↓DL.pts_nil, ↓DL.pts_cons, ↓DL.gl_lst, ↓DL.x_app, ↓DL.x_putIx, ↓DL.gf_lst, ↓DL.gf_fz, ↓DL.x_fz, ↓DL.x_for, ↓DL.x_end_nx, ↓DL.x_end_rt, ↓DL.g_eqS, ↓DL.g_eqI, ↓DL.g_neS, ↓DL.g_neI, ↓DL.g_lt, ↓DL.g_le, ↓DL.g_gt, ↓DL.g_ge, ↓DL.g_add, ↓DL.g_addL, ↓DL.g_addT, ↓DL.g_sub, ↓DL.g_mul, ↓DL.g_mulL, ↓DL.g_mod, ↓DL.g_fdiv, ↓DL.g_pow, ↓DL.g_isN, ↓DL.g_notN, ↓DL.g_ixT, ↓DL.g_ixL, ↓DL.g_ixS, ↓DL.ix0, ↓DL.ix1, ↓DL.ix2, ↓DL.ix3, ↓DL.ix4, ↓DL.ix5, ↓DL.ix6, ↓DL.ix7, ↓DL.g_lenT, ↓DL.g_lenL, ↓DL.g_lenS, ↓DL.g_int, ↓DL.g_intB, ↓DL.g_tupT, ↓DL.g_tupL, ↓DL.g_lsT, ↓DL.g_lsL, ↓DL.g_max, ↓DL.g_min, ↓DL.g_slT, ↓DL.g_slL, ↓DL.isQ_some, ↓DL.g_isi, ↓DL.i_int, ↓DL.i_bl, ↓DL.i_tup, ↓DL.i_lst, ↓DL.i_non, ↓DL.i_str, if_true, if_false, Bool.false_eq_true, Bool.not_true, Bool.not_false, reduceCtorEq, decide_eq_true_eq, decide_true, decide_false, Bool.not_eq_true', decide_eq_false_iff_not, rng, ↓forGo_cons, ↓u_l_letters_2]
    refine ⟨h, i, hh, rfl, ?_⟩
    simp only [↓DL.gt_0, ↓DL.gt_s, ↓DL.pt_0, ↓DL.pt_s, ↓DL.gv_fz, ↓DL.x_var, ↓DL.go_fz, ↓DL.go_lst, ↓DL.x_own, ↓DL.x_c, ↓DL.x_bin, ↓DL.x_tst, ↓DL.asB_bl, ↓DL.x_chain, ↓DL.x_and, ↓DL.x_or, ↓DL.x_not, ↓DL.x_andV, ↓DL.x_orV, ↓DL.x_notV, ↓DL.x_if, ↓DL.x_nil, ↓DL.x_cons, ↓DL.x_tup, ↓DL.x_cb, ↓DL.x_call, ↓DL.x_noPart, ↓DL.x_part, ↓DL.asI_int, ↓DL.x_sl, ↓DL.x_neg, ↓DL.x_lstV, ↓DL.x_listL, ↓DL.x_it, ↓DL.x_rng1, ↓DL.x_rng2, ↓DL.ints1_int, ↓DL.ints2_int, ↓DL.asL_lst, ↓DL.asL_tup, ↓DL.asL_scr, ↓DL.x_comp, ↓DL.x_yes, ↓DL.wip_nil, ↓DL.wip_cons, ↓DL.x_next, ↓DL.x_seq, ↓DL.x_brk, ↓DL.x_cont, ↓DL.x_expr, ↓DL.x_ret, ↓DL.x_retN, ↓DL.x_sif, ↓DL.x_set, ↓DL.x_setO, ↓DL.tgK_some, ↓DL.x_asg, ↓DL.x_tgN, ↓DL.x_tgTup, ↓DL.x_tgNil, ↓DL.x_tgConsN, ↓DL.map_some, ↓DL.pts_nil, ↓DL.pts_cons, ↓DL.gl_lst, ↓DL.x_app, ↓DL.x_putIx, ↓DL.gf_lst, ↓DL.gf_fz, ↓DL.x_fz, ↓DL.x_for, ↓DL.x_end_nx, ↓DL.x_end_rt, ↓DL.g_eqS, ↓DL.g_eqI, ↓DL.g_neS, ↓DL.g_neI, ↓DL.g_lt, ↓DL.g_le, ↓DL.g_gt, ↓DL.g_ge, ↓DL.g_add, ↓DL.g_addL, ↓DL.g_addT, ↓DL.g_sub, ↓DL.g_mul, ↓DL.g_mulL, ↓DL.g_mod, ↓DL.g_fdiv, ↓DL.g_pow, ↓DL.g_isN, ↓DL.g_notN, ↓DL.g_ixT, ↓DL.g_ixL, ↓DL.g_ixS, ↓DL.ix0, ↓DL.ix1, ↓DL.ix2, ↓DL.ix3, ↓DL.ix4, ↓DL.ix5, ↓DL.ix6, ↓DL.ix7, ↓DL.g_lenT, ↓DL.g_lenL, ↓DL.g_lenS, ↓DL.g_int, ↓DL.g_intB, ↓DL.g_tupT, ↓DL.g_tupL, ↓DL.g_lsT, ↓DL.g_lsL, ↓DL.g_max, ↓DL.g_min, ↓DL.g_slT, ↓DL.g_slL, ↓DL.isQ_some, ↓DL.g_isi, ↓DL.i_int, ↓DL.i_bl, ↓DL.i_tup, ↓DL.i_lst, ↓DL.i_non, ↓DL.i_str, if_true, if_false, Bool.false_eq_true, Bool.not_true, Bool.not_false, reduceCtorEq, decide_eq_true_eq, decide_true, decide_false, Bool.not_eq_true', decide_eq_false_iff_not]
    refine p_l_letters_1 _ _ _ (by omega) fun o => ?_
    simp only [↓DL.gt_0, ↓DL.gt_s, ↓DL.pt_0, ↓DL.pt_s, ↓DL.gv_fz, ↓DL.x_var, ↓DL.go_fz, ↓DL.go_lst, ↓DL.x_own, ↓DL.x_c, ↓DL.x_bin, ↓DL.x_tst, ↓DL.asB_bl, ↓DL.x_chain, ↓DL.x_and, ↓DL.x_or, ↓DL.x_not, ↓DL.x_andV, ↓DL.x_orV, ↓DL.x_notV, ↓DL.x_if, ↓DL.x_nil, ↓DL.x_cons, ↓DL.x_tup, ↓DL.x_cb, ↓DL.x_call, ↓DL.x_noPart, ↓DL.x_part, ↓DL.asI_int, ↓DL.x_sl, ↓DL.x_neg, ↓DL.x_lstV, ↓DL.x_listL, ↓DL.x_it, ↓DL.x_rng1, ↓DL.x_rng2, ↓DL.ints1_int, ↓DL.ints2_int, ↓DL.asL_lst, ↓DL.asL_tup, ↓DL.asL_scr, ↓DL.x_comp, ↓DL.x_yes, ↓DL.wip_nil, ↓DL.wip_cons, ↓DL.x_next, ↓DL.x_seq, ↓DL.x_brk, ↓DL.x_cont, ↓DL.x_expr, ↓DL.x_ret, ↓DL.x_retN, ↓DL.x_sif, ↓DL.x_set, ↓DL.x_setO, ↓DL.tgK_some, ↓DL.x_asg, ↓DL.x_tgN, ↓DL.x_tgTup, ↓DL.x_tgNil, ↓DL.x_tgConsN, ↓DL.map_some, ↓DL.pts_nil, ↓DL.pts_cons, ↓DL.gl_lst, ↓DL.x_app, ↓DL.x_putIx, ↓DL.gf_lst, ↓DL.gf_fz, ↓DL.x_fz, ↓DL.x_for, ↓DL.x_end_nx, ↓DL.x_end_rt, ↓DL.g_eqS, ↓DL.g_eqI, ↓DL.g_neS, ↓DL.g_neI, ↓DL.g_lt, ↓DL.g_le, ↓DL.g_gt, ↓DL.g_ge, ↓DL.g_add, ↓DL.g_addL, ↓DL.g_addT, ↓DL.g_sub, ↓DL.g_mul, ↓DL.g_mulL, ↓DL.g_mod, ↓DL.g_fdiv, ↓DL.g_pow, ↓DL.g_isN, ↓DL.g_notN, ↓DL.g_ixT, ↓DL.g_ixL, ↓DL.g_ixS, ↓DL.ix0, ↓DL.ix1, ↓DL.ix2, ↓DL.ix3, ↓DL.ix4, ↓DL.ix5, ↓DL.ix6, ↓DL.ix7, ↓DL.g_lenT, ↓DL.g_lenL, ↓DL.g_lenS, ↓DL.g_int, ↓DL.g_intB, ↓DL.g_tupT, ↓DL.g_tupL, ↓DL.g_lsT, ↓DL.g_lsL, ↓DL.g_max, ↓DL.g_min, ↓DL.g_slT, ↓DL.g_slL, ↓DL.isQ_some, ↓DL.g_isi, ↓DL.i_int, ↓DL.i_bl, ↓DL.i_tup, ↓DL.i_lst, ↓DL.i_non, ↓DL.i_str, if_true, if_false, Bool.false_eq_true, Bool.not_true, Bool.not_false, reduceCtorEq, decide_eq_true_eq, decide_true, decide_false, Bool.not_eq_true', decide_eq_false_iff_not]
    refine p_l_letters_2 hh n (i + 1) _ _ _ (by omega) (by simp; omega) fun o2 o3 => ?_
    rw [List.append_assoc]
    simpa [List.range'_succ, lettersTo] using q o2 o3
theorem p_l_letters (ds : List D) (Q : D → Prop) (E : DExc → Prop) (hl : ds.length = 1) (h : sp_l_letters ds Q E) : b_l_letters (dEnd Q E) (en N_l_letters.length ds) := by
  obtain ⟨h, hh, rfl, q⟩ := h
  rw [en_l_letters]
  simp only [↓DL.gt_0, ↓DL.gt_s, ↓DL.pt_0, ↓DL.pt_s, ↓DL.gv_fz, ↓DL.x_var, ↓DL.go_fz, ↓DL.go_lst, ↓DL.x_own, ↓DL.x_c, ↓DL.x_bin, ↓DL.x_tst, ↓DL.asB_bl, ↓DL.x_chain, ↓DL.x_and, ↓DL.x_or, ↓DL.x_not, ↓DL.x_andV, ↓DL.x_orV, ↓DL.x_notV, ↓DL.x_if, ↓DL.x_nil, ↓DL.x_cons, ↓DL.x_tup, ↓DL.x_cb, ↓DL.x_call, ↓DL.x_noPart, ↓DL.x_part, ↓DL.asI_int, ↓DL.x_sl, ↓DL.x_neg, ↓DL.x_lstV, ↓DL.x_listL, ↓DL.x_it, ↓DL.x_rng1, ↓DL.x_rng2, ↓DL.ints1_int, ↓DL.ints2_int, ↓DL.asL_lst, ↓DL.asL_tup, ↓DL.asL_scr, ↓DL.x_comp, ↓DL.x_yes, ↓DL.wip_nil, ↓DL.wip_cons, ↓DL.x_next, ↓DL.x_seq, ↓DL.x_brk, ↓DL.x_cont, ↓DL.x_expr, ↓DL.x_ret, ↓DL.x_retN, ↓DL.x_sif, ↓DL.x_set, ↓DL.x_setO, ↓DL.tgK_some, ↓DL.x_asg, ↓DL.x_tgN, ↓DL.x_tgTup, ↓DL.x_tgNil, ↓DL.x_tgConsN, ↓DL.map_some, ↓DL.pts_nil, ↓DL.pts_cons, ↓DL.gl_lst, ↓DL.x_app, ↓DL.x_putIx, ↓DL.gf_lst, ↓DL.gf_fz, ↓DL.x_fz, ↓DL.x_for, ↓DL.x_end_nx, ↓DL.x_end_rt, ↓DL.g_eqS, ↓DL.g_eqI, ↓DL.g_neS, ↓DL.g_neI, ↓DL.g_lt, ↓DL.g_le, ↓DL.g_gt, ↓DL.g_ge, ↓DL.g_add, ↓DL.g_addL, ↓DL.g_addT, ↓DL.g_sub, ↓DL.g_mul, ↓DL.g_mulL, ↓DL.g_mod, ↓DL.g_fdiv, ↓DL.g_pow, ↓DL.g_isN, ↓DL.g_notN, ↓DL.g_ixT, ↓DL.g_ixL, ↓DL.g_ixS, ↓DL.ix0, ↓DL.ix1, ↓DL.ix2, ↓DL.ix3, ↓DL.ix4, ↓DL.ix5, ↓DL.ix6, ↓DL.ix7, ↓DL.g_lenT, ↓DL.g_lenL, ↓DL.g_lenS, ↓DL.g_int, ↓DL.g_intB, ↓DL.g_tupT, ↓DL.g_tupL, ↓DL.g_lsT, ↓DL.g_lsL, ↓DL.g_max, ↓DL.g_min, ↓DL.g_slT, ↓DL.g_slL, ↓DL.isQ_some, ↓DL.g_isi, ↓DL.i_int, ↓DL.i_bl, ↓DL.i_tup, ↓DL.i_lst, ↓DL.i_non, ↓DL.i_str, if_true, if_false, Bool.false_eq_true, Bool.not_true, Bool.not_false, reduceCtorEq, decide_eq_true_eq, decide_true, decide_false, Bool.not_eq_true', decide_eq_false_iff_not, b_l_letters]
  refine ⟨by omega, by omega, ?_⟩
  rw [Int.toNat_natCast]
  refine p_l_letters_2 hh h 0 [] _ _ (by omega) (by simp) fun o2 o3 => ?_
  simp only [↓DL.gt_0, ↓DL.gt_s, ↓DL.pt_0, ↓DL.pt_s, ↓DL.gv_fz, ↓DL.x_var, ↓DL.go_fz, ↓DL.go_lst, ↓DL.x_own, ↓DL.x_c, ↓DL.x_bin, ↓DL.x_tst, ↓DL.asB_bl, ↓DL.x_chain, ↓DL.x_and, ↓DL.x_or, ↓DL.x_not, ↓DL.x_andV, ↓DL.x_orV, ↓DL.x_notV, ↓DL.x_if, ↓DL.x_nil, ↓DL.x_cons, ↓DL.x_tup, ↓DL.x_cb, ↓DL.x_call, ↓DL.x_noPart, ↓DL.x_part, ↓DL.asI_int, ↓DL.x_sl, ↓DL.x_neg, ↓DL.x_lstV, ↓DL.x_listL, ↓DL.x_it, ↓DL.x_rng1, ↓DL.x_rng2, ↓DL.ints1_int, ↓DL.ints2_int, ↓DL.asL_lst, ↓DL.asL_tup, ↓DL.asL_scr, ↓DL.x_comp, ↓DL.x_yes, ↓DL.wip_nil, ↓DL.wip_cons, ↓DL.x_next, ↓DL.x_seq, ↓DL.x_brk, ↓DL.x_cont, ↓DL.x_expr, ↓DL.x_ret, ↓DL.x_retN, ↓DL.x_sif, ↓DL.x_set, ↓DL.x_setO, ↓DL.tgK_some, ↓DL.x_asg, ↓DL.x_tgN, ↓DL.x_tgTup, ↓DL.x_tgNil, ↓DL.x_tgConsN, ↓DL.map_some, ↓DL.pts_nil, ↓DL.pts_cons, ↓DL.gl_lst, ↓DL.x_app, ↓DL.x_putIx, ↓DL.gf_lst, ↓DL.gf_fz, ↓DL.x_fz, ↓DL.x_for, ↓DL.x_end_nx, ↓DL.x_end_rt, ↓DL.g_eqS, ↓DL.g_eqI, ↓DL.g_neS, ↓DL.g_neI, ↓DL.g_lt, ↓DL.g_le, ↓DL.g_gt, ↓DL.g_ge, ↓DL.g_add, ↓DL.g_addL, ↓DL.g_addT, ↓DL.g_sub, ↓DL.g_mul, ↓DL.g_mulL, ↓DL.g_mod, ↓DL.g_fdiv, ↓DL.g_pow, ↓DL.g_isN, ↓DL.g_notN, ↓DL.g_ixT, ↓DL.g_ixL, ↓DL.g_ixS, ↓DL.ix0, ↓DL.ix1, ↓DL.ix2, ↓DL.ix3, ↓DL.ix4, ↓DL.ix5, ↓DL.ix6, ↓DL.ix7, ↓DL.g_lenT, ↓DL.g_lenL, ↓DL.g_lenS, ↓DL.g_int, ↓DL.g_intB, ↓DL.g_tupT, ↓DL.g_tupL, ↓DL.g_lsT, ↓DL.g_lsL, ↓DL.g_max, ↓DL.g_min, ↓DL.g_slT, ↓DL.g_slL, ↓DL.isQ_some, ↓DL.g_isi, ↓DL.i_int, ↓DL.i_bl, ↓DL.i_tup, ↓DL.i_lst, ↓DL.i_non, ↓DL.i_str, if_true, if_false, Bool.false_eq_true, Bool.not_true, Bool.not_false, reduceCtorEq, decide_eq_true_eq, decide_true, decide_false, Bool.not_eq_true', decide_eq_false_iff_not]
  unfold letters at q
  simpa [lettersTo, List.range_eq_range'] using q
end K64

namespace K64
open PySem L2 DL
theorem emod_b {a b : Int} (h : 0 < b) : 0 ≤ a % b ∧ a % b < b := ⟨Int.emod_nonneg _ (by omega), Int.emod_lt_of_pos _ h⟩
theorem p_l_setting_1 {Q : D → Prop} {E : DExc → Prop} {x o6 : Option O} {ox : Option O} {r0 r1 r2 r3 r4 r5 r6 r7 : Int} {a : Nat} {t : Task} (b0 : 0 ≤ r0 ∧ r0 < 5) (b1 : 0 ≤ r1 ∧ r1 < 4) (b3 : 0 ≤ r3 ∧ r3 < 5) (b6 : 0 ≤ r6 ∧ r6 < 2) (b7 : 0 ≤ r7 ∧ r7 < 3)
    (a1 : 1 ≤ a) (a4 : a ≤ 4) (hv : t = .votes → a = 2) (q : ∀ s : St, s.Big → Q (.tup s.xs)) :
    lp_l_setting_1 (dEnd Q E) [x, some (.fz (.lst [.int r0, .int r1, .int r2, .int r3, .int r4, .int r5, .int r6, .int r7])), some (.fz (.int a)), some (.fz (.str t.s)), none, none, none] := by
  simp only [↓DL.gt_0, ↓DL.gt_s, ↓DL.pt_0, ↓DL.pt_s, ↓DL.gv_fz, ↓DL.x_var, ↓DL.go_fz, ↓DL.go_lst, ↓DL.x_own, ↓DL.x_c, ↓DL.x_bin, ↓DL.x_tst, ↓DL.asB_bl, ↓DL.x_chain, ↓DL.x_and, ↓DL.x_or, ↓DL.x_not, ↓DL.x_andV, ↓DL.x_orV, ↓DL.x_notV, ↓DL.x_if, ↓DL.x_nil, ↓DL.x_cons, ↓DL.x_tup, ↓DL.x_cb, ↓DL.x_call, ↓DL.x_noPart, ↓DL.x_part, ↓DL.asI_int, ↓DL.x_sl, ↓DL.x_neg, ↓DL.x_lstV, ↓DL.x_listL, ↓DL.x_it, ↓DL.x_rng1, ↓DL.x_rng2, ↓DL.ints1_int, ↓DL.ints2_int, ↓DL.asL_lst, ↓DL.asL_tup, ↓DL.asL_scr, ↓DL.x_comp, ↓DL.x_yes, ↓DL.wip_nil, ↓DL.wip_cons, ↓DL.x_next, ↓DL.x_seq, ↓DL.x_brk, ↓DL.x_cont, ↓DL.x_expr, ↓DL.x_ret, ↓DL.x_retN, ↓DL.x_sif, ↓DL.x_set, ↓DL.x_setO, ↓DL.tgK_some, ↓DL.x_asg, ↓DL.x_tgN, ↓DL.x_tgTup, ↓DL.x_tgNil, ↓DL.x_tgConsN, ↓DL.map_some, ↓DL.pts_nil, ↓DL.pts_cons, ↓DL.gl_lst, ↓DL.x_app, ↓DL.x_putIx, ↓DL.gf_lst, ↓DL.gf_fz, ↓DL.x_fz, ↓DL.x_for, ↓DL.x_end_nx, ↓DL.x_end_rt, ↓DL.g_eqS, ↓DL.g_eqI, ↓DL.g_neS, ↓DL.g_neI, ↓DL.g_lt, ↓DL.g_le, ↓DL.g_gt, ↓DL.g_ge, ↓DL.g_add, ↓DL.g_addL, ↓DL.g_addT, ↓DL.g_sub, ↓DL.g_mul, ↓DL.g_mulL, ↓DL.g_mod, ↓DL.g_fdiv, ↓DL.g_pow, ↓DL.g_isN, ↓DL.g_notN, ↓DL.g_ixT, ↓DL.g_ixL, ↓DL.g_ixS, ↓DL.ix0, ↓DL.ix1, ↓DL.ix2, ↓DL.ix3, ↓DL.ix4, ↓DL.ix5, ↓DL.ix6, ↓DL.ix7, ↓DL.g_lenT, ↓DL.g_lenL, ↓DL.g_lenS, ↓DL.g_int, ↓DL.g_intB, ↓DL.g_tupT, ↓DL.g_tupL, ↓DL.g_lsT, ↓DL.g_lsL, ↓DL.g_max, ↓DL.g_min, ↓DL.g_slT, ↓DL.g_slL, ↓DL.isQ_some, ↓DL.g_isi, ↓DL.i_int, ↓DL.i_bl, ↓DL.i_tup, ↓DL.i_lst, ↓DL.i_non, ↓DL.i_str, if_true, if_false, Bool.false_eq_true, Bool.not_true, Bool.not_false, reduceCtorEq, decide_eq_true_eq, decide_true, decide_false, Bool.not_eq_true', decide_eq_false_iff_not, ↓u_l_setting_1]
  obtain ⟨n1, rfl⟩ := Int.eq_ofNat_of_zero_le b1.1
  obtain ⟨n3, rfl⟩ := Int.eq_ofNat_of_zero_le b3.1
  split
  · obtain ⟨m0, m1⟩ := emod_b (a := r2) (b := 2 + (n1 : Int)) (by omega)
    generalize r2 % (2 + (n1 : Int)) = m at *
    have fin : ∀ F : Int, 0 ≤ F → F ≤ 20 → ∀ l : Bool, Q (.tup [.str "falls", .int (2 + n1), .int F, .int (1 + n3), .int a, .str t.s, .str (if l then "lasting" else "standing")]) := by
      intro F f0 f1 l
      exact q ⟨true, 2 + n1, F, 1 + n3, a, t, l⟩ ⟨⟨Nat.le_add_right _ _, by show 2 + n1 ≤ 5; omega, Nat.le_add_right _ _, by show 1 + n3 ≤ 5; omega, a1, a4, hv⟩, hv, f0, f1, fun h => nomatch h⟩
    have last : ∀ F : Int, 0 ≤ F → F ≤ 20 → ixQ [.str "lasting", .str "standing"] r6 fun c => Q (.tup [.str "falls", .int (2 + n1), .int F, .int (1 + n3), .int a, .str t.s, c]) := by
      intro F f0 f1
      rcases (by omega : r6 = 0 ∨ r6 = 1) with rfl | rfl <;> simp only [↓DL.gt_0, ↓DL.gt_s, ↓DL.pt_0, ↓DL.pt_s, ↓DL.gv_fz, ↓DL.x_var, ↓DL.go_fz, ↓DL.go_lst, ↓DL.x_own, ↓DL.x_c, ↓DL.x_bin, ↓DL.x_tst, ↓DL.asB_bl, ↓DL.x_chain, ↓DL.x_and, ↓DL.x_or, ↓DL.x_not, ↓DL.x_andV, ↓DL.x_orV, ↓DL.x_notV, ↓DL.x_if, ↓DL.x_nil, ↓DL.x_cons, ↓DL.x_tup, ↓DL.x_cb, ↓DL.x_call, ↓DL.x_noPart, ↓DL.x_part, ↓DL.asI_int, ↓DL.x_sl, ↓DL.x_neg, ↓DL.x_lstV, ↓DL.x_listL, ↓DL.x_it, ↓DL.x_rng1, ↓DL.x_rng2, ↓DL.ints1_int, ↓DL.ints2_int, ↓DL.asL_lst, ↓DL.asL_tup, ↓DL.asL_scr, ↓DL.x_comp, ↓DL.x_yes, ↓DL.wip_nil, ↓DL.wip_cons, ↓DL.x_next, ↓DL.x_seq, ↓DL.x_brk, ↓DL.x_cont, ↓DL.x_expr, ↓DL.x_ret, ↓DL.x_retN, ↓DL.x_sif, ↓DL.x_set, ↓DL.x_setO, ↓DL.tgK_some, ↓DL.x_asg, ↓DL.x_tgN, ↓DL.x_tgTup, ↓DL.x_tgNil, ↓DL.x_tgConsN, ↓DL.map_some, ↓DL.pts_nil, ↓DL.pts_cons, ↓DL.gl_lst, ↓DL.x_app, ↓DL.x_putIx, ↓DL.gf_lst, ↓DL.gf_fz, ↓DL.x_fz, ↓DL.x_for, ↓DL.x_end_nx, ↓DL.x_end_rt, ↓DL.g_eqS, ↓DL.g_eqI, ↓DL.g_neS, ↓DL.g_neI, ↓DL.g_lt, ↓DL.g_le, ↓DL.g_gt, ↓DL.g_ge, ↓DL.g_add, ↓DL.g_addL, ↓DL.g_addT, ↓DL.g_sub, ↓DL.g_mul, ↓DL.g_mulL, ↓DL.g_mod, ↓DL.g_fdiv, ↓DL.g_pow, ↓DL.g_isN, ↓DL.g_notN, ↓DL.g_ixT, ↓DL.g_ixL, ↓DL.g_ixS, ↓DL.ix0, ↓DL.ix1, ↓DL.ix2, ↓DL.ix3, ↓DL.ix4, ↓DL.ix5, ↓DL.ix6, ↓DL.ix7, ↓DL.g_lenT, ↓DL.g_lenL, ↓DL.g_lenS, ↓DL.g_int, ↓DL.g_intB, ↓DL.g_tupT, ↓DL.g_tupL, ↓DL.g_lsT, ↓DL.g_lsL, ↓DL.g_max, ↓DL.g_min, ↓DL.g_slT, ↓DL.g_slL, ↓DL.isQ_some, ↓DL.g_isi, ↓DL.i_int, ↓DL.i_bl, ↓DL.i_tup, ↓DL.i_lst, ↓DL.i_non, ↓DL.i_str, if_true, if_false, Bool.false_eq_true, Bool.not_true, Bool.not_false, reduceCtorEq, decide_eq_true_eq, decide_true, decide_false, Bool.not_eq_true', decide_eq_false_iff_not]
      · exact fin F f0 f1 true
      · exact fin F f0 f1 false
    refine ⟨by omega, by omega, ?_⟩
    rcases (by omega : r7 = 0 ∨ r7 = 1 ∨ r7 = 2) with rfl | rfl | rfl <;> simp only [↓DL.gt_0, ↓DL.gt_s, ↓DL.pt_0, ↓DL.pt_s, ↓DL.gv_fz, ↓DL.x_var, ↓DL.go_fz, ↓DL.go_lst, ↓DL.x_own, ↓DL.x_c, ↓DL.x_bin, ↓DL.x_tst, ↓DL.asB_bl, ↓DL.x_chain, ↓DL.x_and, ↓DL.x_or, ↓DL.x_not, ↓DL.x_andV, ↓DL.x_orV, ↓DL.x_notV, ↓DL.x_if, ↓DL.x_nil, ↓DL.x_cons, ↓DL.x_tup, ↓DL.x_cb, ↓DL.x_call, ↓DL.x_noPart, ↓DL.x_part, ↓DL.asI_int, ↓DL.x_sl, ↓DL.x_neg, ↓DL.x_lstV, ↓DL.x_listL, ↓DL.x_it, ↓DL.x_rng1, ↓DL.x_rng2, ↓DL.ints1_int, ↓DL.ints2_int, ↓DL.asL_lst, ↓DL.asL_tup, ↓DL.asL_scr, ↓DL.x_comp, ↓DL.x_yes, ↓DL.wip_nil, ↓DL.wip_cons, ↓DL.x_next, ↓DL.x_seq, ↓DL.x_brk, ↓DL.x_cont, ↓DL.x_expr, ↓DL.x_ret, ↓DL.x_retN, ↓DL.x_sif, ↓DL.x_set, ↓DL.x_setO, ↓DL.tgK_some, ↓DL.x_asg, ↓DL.x_tgN, ↓DL.x_tgTup, ↓DL.x_tgNil, ↓DL.x_tgConsN, ↓DL.map_some, ↓DL.pts_nil, ↓DL.pts_cons, ↓DL.gl_lst, ↓DL.x_app, ↓DL.x_putIx, ↓DL.gf_lst, ↓DL.gf_fz, ↓DL.x_fz, ↓DL.x_for, ↓DL.x_end_nx, ↓DL.x_end_rt, ↓DL.g_eqS, ↓DL.g_eqI, ↓DL.g_neS, ↓DL.g_neI, ↓DL.g_lt, ↓DL.g_le, ↓DL.g_gt, ↓DL.g_ge, ↓DL.g_add, ↓DL.g_addL, ↓DL.g_addT, ↓DL.g_sub, ↓DL.g_mul, ↓DL.g_mulL, ↓DL.g_mod, ↓DL.g_fdiv, ↓DL.g_pow, ↓DL.g_isN, ↓DL.g_notN, ↓DL.g_ixT, ↓DL.g_ixL, ↓DL.g_ixS, ↓DL.ix0, ↓DL.ix1, ↓DL.ix2, ↓DL.ix3, ↓DL.ix4, ↓DL.ix5, ↓DL.ix6, ↓DL.ix7, ↓DL.g_lenT, ↓DL.g_lenL, ↓DL.g_lenS, ↓DL.g_int, ↓DL.g_intB, ↓DL.g_tupT, ↓DL.g_tupL, ↓DL.g_lsT, ↓DL.g_lsL, ↓DL.g_max, ↓DL.g_min, ↓DL.g_slT, ↓DL.g_slL, ↓DL.isQ_some, ↓DL.g_isi, ↓DL.i_int, ↓DL.i_bl, ↓DL.i_tup, ↓DL.i_lst, ↓DL.i_non, ↓DL.i_str, if_true, if_false, Bool.false_eq_true, Bool.not_true, Bool.not_false, reduceCtorEq, decide_eq_true_eq, decide_true, decide_false, Bool.not_eq_true', decide_eq_false_iff_not]
    · exact last _ (by omega) (by omega)
    · exact last _ (by omega) (by omega)
    · split
      · exact last _ (by omega) (by omega)
      · exact last _ (by omega) (by omega)
  · refine ⟨by decide, mulR (by omega) (by omega), ?_⟩
    have h0 : 0 ≤ (n1 : Int) % 3 ∧ (n1 : Int) % 3 < 3 := by omega
    obtain ⟨n, hn⟩ := Int.eq_ofNat_of_zero_le h0.1
    rw [hn] at h0 ⊢
    have h3 : 0 ≤ (n3 : Int) % 4 ∧ (n3 : Int) % 4 < 4 := by omega
    obtain ⟨k, hk⟩ := Int.eq_ofNat_of_zero_le h3.1
    have key : 0 < (2 + (n : Int)) * (2 + (n : Int) - 1) + 1 ∧ (2 + (n : Int)) * (2 + (n : Int) - 1) + 1 ≤ 13 := by
      rcases (by omega : n = 0 ∨ n = 1 ∨ n = 2) with rfl | rfl | rfl <;> decide
    refine ⟨key.1, ?_⟩
    obtain ⟨m0, m1⟩ := emod_b (a := r2) key.1
    generalize r2 % ((2 + (n : Int)) * (2 + (n : Int) - 1) + 1) = m at *
    have fin : ∀ F : Int, 0 ≤ F → F ≤ 20 → Q (.tup [.str "losses", .int (2 + n), .int F, .int (1 + (n3 : Int) % 4), .int a, .str t.s]) := by
      intro F f0 f1
      rw [hk]
      exact q ⟨false, 2 + n, F, 1 + k, a, t, false⟩ ⟨⟨Nat.le_add_right _ _, by show 2 + n ≤ 5; omega, Nat.le_add_right _ _, by show 1 + k ≤ 5; omega, a1, a4, hv⟩, hv, f0, f1, fun h => ⟨by show 2 + n ≤ 4; omega, by show 1 + k ≤ 4; omega⟩⟩
    rcases (by omega : r7 = 0 ∨ r7 = 1 ∨ r7 = 2) with rfl | rfl | rfl <;> simp only [↓DL.gt_0, ↓DL.gt_s, ↓DL.pt_0, ↓DL.pt_s, ↓DL.gv_fz, ↓DL.x_var, ↓DL.go_fz, ↓DL.go_lst, ↓DL.x_own, ↓DL.x_c, ↓DL.x_bin, ↓DL.x_tst, ↓DL.asB_bl, ↓DL.x_chain, ↓DL.x_and, ↓DL.x_or, ↓DL.x_not, ↓DL.x_andV, ↓DL.x_orV, ↓DL.x_notV, ↓DL.x_if, ↓DL.x_nil, ↓DL.x_cons, ↓DL.x_tup, ↓DL.x_cb, ↓DL.x_call, ↓DL.x_noPart, ↓DL.x_part, ↓DL.asI_int, ↓DL.x_sl, ↓DL.x_neg, ↓DL.x_lstV, ↓DL.x_listL, ↓DL.x_it, ↓DL.x_rng1, ↓DL.x_rng2, ↓DL.ints1_int, ↓DL.ints2_int, ↓DL.asL_lst, ↓DL.asL_tup, ↓DL.asL_scr, ↓DL.x_comp, ↓DL.x_yes, ↓DL.wip_nil, ↓DL.wip_cons, ↓DL.x_next, ↓DL.x_seq, ↓DL.x_brk, ↓DL.x_cont, ↓DL.x_expr, ↓DL.x_ret, ↓DL.x_retN, ↓DL.x_sif, ↓DL.x_set, ↓DL.x_setO, ↓DL.tgK_some, ↓DL.x_asg, ↓DL.x_tgN, ↓DL.x_tgTup, ↓DL.x_tgNil, ↓DL.x_tgConsN, ↓DL.map_some, ↓DL.pts_nil, ↓DL.pts_cons, ↓DL.gl_lst, ↓DL.x_app, ↓DL.x_putIx, ↓DL.gf_lst, ↓DL.gf_fz, ↓DL.x_fz, ↓DL.x_for, ↓DL.x_end_nx, ↓DL.x_end_rt, ↓DL.g_eqS, ↓DL.g_eqI, ↓DL.g_neS, ↓DL.g_neI, ↓DL.g_lt, ↓DL.g_le, ↓DL.g_gt, ↓DL.g_ge, ↓DL.g_add, ↓DL.g_addL, ↓DL.g_addT, ↓DL.g_sub, ↓DL.g_mul, ↓DL.g_mulL, ↓DL.g_mod, ↓DL.g_fdiv, ↓DL.g_pow, ↓DL.g_isN, ↓DL.g_notN, ↓DL.g_ixT, ↓DL.g_ixL, ↓DL.g_ixS, ↓DL.ix0, ↓DL.ix1, ↓DL.ix2, ↓DL.ix3, ↓DL.ix4, ↓DL.ix5, ↓DL.ix6, ↓DL.ix7, ↓DL.g_lenT, ↓DL.g_lenL, ↓DL.g_lenS, ↓DL.g_int, ↓DL.g_intB, ↓DL.g_tupT, ↓DL.g_tupL, ↓DL.g_lsT, ↓DL.g_lsL, ↓DL.g_max, ↓DL.g_min, ↓DL.g_slT, ↓DL.g_slL, ↓DL.isQ_some, ↓DL.g_isi, ↓DL.i_int, ↓DL.i_bl, ↓DL.i_tup, ↓DL.i_lst, ↓DL.i_non, ↓DL.i_str, if_true, if_false, Bool.false_eq_true, Bool.not_true, Bool.not_false, reduceCtorEq, decide_eq_true_eq, decide_true, decide_false, Bool.not_eq_true', decide_eq_false_iff_not]
    · exact ⟨by decide, fin _ (by omega) (by omega)⟩
    · exact ⟨by decide, fin _ (by omega) (by omega)⟩
    · exact ⟨by decide, fin _ (by omega) (by omega)⟩
theorem p_l_setting (ds : List D) (Q : D → Prop) (E : DExc → Prop) (hl : ds.length = 1) (h : sp_l_setting ds Q E) : b_l_setting (dEnd Q E) (en N_l_setting.length ds) := by
  obtain ⟨c, rfl, q⟩ := h
  rw [en_l_setting]
  simp only [↓DL.gt_0, ↓DL.gt_s, ↓DL.pt_0, ↓DL.pt_s, ↓DL.gv_fz, ↓DL.x_var, ↓DL.go_fz, ↓DL.go_lst, ↓DL.x_own, ↓DL.x_c, ↓DL.x_bin, ↓DL.x_tst, ↓DL.asB_bl, ↓DL.x_chain, ↓DL.x_and, ↓DL.x_or, ↓DL.x_not, ↓DL.x_andV, ↓DL.x_orV, ↓DL.x_notV, ↓DL.x_if, ↓DL.x_nil, ↓DL.x_cons, ↓DL.x_tup, ↓DL.x_cb, ↓DL.x_call, ↓DL.x_noPart, ↓DL.x_part, ↓DL.asI_int, ↓DL.x_sl, ↓DL.x_neg, ↓DL.x_lstV, ↓DL.x_listL, ↓DL.x_it, ↓DL.x_rng1, ↓DL.x_rng2, ↓DL.ints1_int, ↓DL.ints2_int, ↓DL.asL_lst, ↓DL.asL_tup, ↓DL.asL_scr, ↓DL.x_comp, ↓DL.x_yes, ↓DL.wip_nil, ↓DL.wip_cons, ↓DL.x_next, ↓DL.x_seq, ↓DL.x_brk, ↓DL.x_cont, ↓DL.x_expr, ↓DL.x_ret, ↓DL.x_retN, ↓DL.x_sif, ↓DL.x_set, ↓DL.x_setO, ↓DL.tgK_some, ↓DL.x_asg, ↓DL.x_tgN, ↓DL.x_tgTup, ↓DL.x_tgNil, ↓DL.x_tgConsN, ↓DL.map_some, ↓DL.pts_nil, ↓DL.pts_cons, ↓DL.gl_lst, ↓DL.x_app, ↓DL.x_putIx, ↓DL.gf_lst, ↓DL.gf_fz, ↓DL.x_fz, ↓DL.x_for, ↓DL.x_end_nx, ↓DL.x_end_rt, ↓DL.g_eqS, ↓DL.g_eqI, ↓DL.g_neS, ↓DL.g_neI, ↓DL.g_lt, ↓DL.g_le, ↓DL.g_gt, ↓DL.g_ge, ↓DL.g_add, ↓DL.g_addL, ↓DL.g_addT, ↓DL.g_sub, ↓DL.g_mul, ↓DL.g_mulL, ↓DL.g_mod, ↓DL.g_fdiv, ↓DL.g_pow, ↓DL.g_isN, ↓DL.g_notN, ↓DL.g_ixT, ↓DL.g_ixL, ↓DL.g_ixS, ↓DL.ix0, ↓DL.ix1, ↓DL.ix2, ↓DL.ix3, ↓DL.ix4, ↓DL.ix5, ↓DL.ix6, ↓DL.ix7, ↓DL.g_lenT, ↓DL.g_lenL, ↓DL.g_lenS, ↓DL.g_int, ↓DL.g_intB, ↓DL.g_tupT, ↓DL.g_tupL, ↓DL.g_lsT, ↓DL.g_lsL, ↓DL.g_max, ↓DL.g_min, ↓DL.g_slT, ↓DL.g_slL, ↓DL.isQ_some, ↓DL.g_isi, ↓DL.i_int, ↓DL.i_bl, ↓DL.i_tup, ↓DL.i_lst, ↓DL.i_non, ↓DL.i_str, if_true, if_false, Bool.false_eq_true, Bool.not_true, Bool.not_false, reduceCtorEq, decide_eq_true_eq, decide_true, decide_false, Bool.not_eq_true', decide_eq_false_iff_not, b_l_setting]
  refine ⟨c, [5, 4, 60, 5, 8, 4, 2, 3], rfl, by decide, by decide, fun row hr => ?_⟩
  obtain ⟨len, hr⟩ := hr
  match row, len with
  | [r0, r1, r2, r3, r4, r5, r6, r7], _ =>
    have b0 := hr 0 _ _ rfl rfl
    have b1 := hr 1 _ _ rfl rfl
    have b2 := hr 2 _ _ rfl rfl
    have b3 := hr 3 _ _ rfl rfl
    have b4 := hr 4 _ _ rfl rfl
    have b5 := hr 5 _ _ rfl rfl
    have b6 := hr 6 _ _ rfl rfl
    have b7 := hr 7 _ _ rfl rfl
    clear hr
    simp only [↓DL.gt_0, ↓DL.gt_s, ↓DL.pt_0, ↓DL.pt_s, ↓DL.gv_fz, ↓DL.x_var, ↓DL.go_fz, ↓DL.go_lst, ↓DL.x_own, ↓DL.x_c, ↓DL.x_bin, ↓DL.x_tst, ↓DL.asB_bl, ↓DL.x_chain, ↓DL.x_and, ↓DL.x_or, ↓DL.x_not, ↓DL.x_andV, ↓DL.x_orV, ↓DL.x_notV, ↓DL.x_if, ↓DL.x_nil, ↓DL.x_cons, ↓DL.x_tup, ↓DL.x_cb, ↓DL.x_call, ↓DL.x_noPart, ↓DL.x_part, ↓DL.asI_int, ↓DL.x_sl, ↓DL.x_neg, ↓DL.x_lstV, ↓DL.x_listL, ↓DL.x_it, ↓DL.x_rng1, ↓DL.x_rng2, ↓DL.ints1_int, ↓DL.ints2_int, ↓DL.asL_lst, ↓DL.asL_tup, ↓DL.asL_scr, ↓DL.x_comp, ↓DL.x_yes, ↓DL.wip_nil, ↓DL.wip_cons, ↓DL.x_next, ↓DL.x_seq, ↓DL.x_brk, ↓DL.x_cont, ↓DL.x_expr, ↓DL.x_ret, ↓DL.x_retN, ↓DL.x_sif, ↓DL.x_set, ↓DL.x_setO, ↓DL.tgK_some, ↓DL.x_asg, ↓DL.x_tgN, ↓DL.x_tgTup, ↓DL.x_tgNil, ↓DL.x_tgConsN, ↓DL.map_some, ↓DL.pts_nil, ↓DL.pts_cons, ↓DL.gl_lst, ↓DL.x_app, ↓DL.x_putIx, ↓DL.gf_lst, ↓DL.gf_fz, ↓DL.x_fz, ↓DL.x_for, ↓DL.x_end_nx, ↓DL.x_end_rt, ↓DL.g_eqS, ↓DL.g_eqI, ↓DL.g_neS, ↓DL.g_neI, ↓DL.g_lt, ↓DL.g_le, ↓DL.g_gt, ↓DL.g_ge, ↓DL.g_add, ↓DL.g_addL, ↓DL.g_addT, ↓DL.g_sub, ↓DL.g_mul, ↓DL.g_mulL, ↓DL.g_mod, ↓DL.g_fdiv, ↓DL.g_pow, ↓DL.g_isN, ↓DL.g_notN, ↓DL.g_ixT, ↓DL.g_ixL, ↓DL.g_ixS, ↓DL.ix0, ↓DL.ix1, ↓DL.ix2, ↓DL.ix3, ↓DL.ix4, ↓DL.ix5, ↓DL.ix6, ↓DL.ix7, ↓DL.g_lenT, ↓DL.g_lenL, ↓DL.g_lenS, ↓DL.g_int, ↓DL.g_intB, ↓DL.g_tupT, ↓DL.g_tupL, ↓DL.g_lsT, ↓DL.g_lsL, ↓DL.g_max, ↓DL.g_min, ↓DL.g_slT, ↓DL.g_slL, ↓DL.isQ_some, ↓DL.g_isi, ↓DL.i_int, ↓DL.i_bl, ↓DL.i_tup, ↓DL.i_lst, ↓DL.i_non, ↓DL.i_str, if_true, if_false, Bool.false_eq_true, Bool.not_true, Bool.not_false, reduceCtorEq, decide_eq_true_eq, decide_true, decide_false, Bool.not_eq_true', decide_eq_false_iff_not, iL, List.map_cons, List.map_nil]
    -- the answers
    have A : ∀ i : Int, 0 ≤ i → i < 8 → ∀ Q : D → Prop, (∀ a : Nat, 1 ≤ a → a ≤ 4 → Q (.int a)) → ixQ [.int 2, .int 2, .int 3, .int 2, .int 1, .int 4, .int 2, .int 3] i Q := by
      intro i h0 h1 Q h
      rcases (by omega : i = 0 ∨ i = 1 ∨ i = 2 ∨ i = 3 ∨ i = 4 ∨ i = 5 ∨ i = 6 ∨ i = 7) with rfl | rfl | rfl | rfl | rfl | rfl | rfl | rfl <;> simp only [↓DL.gt_0, ↓DL.gt_s, ↓DL.pt_0, ↓DL.pt_s, ↓DL.gv_fz, ↓DL.x_var, ↓DL.go_fz, ↓DL.go_lst, ↓DL.x_own, ↓DL.x_c, ↓DL.x_bin, ↓DL.x_tst, ↓DL.asB_bl, ↓DL.x_chain, ↓DL.x_and, ↓DL.x_or, ↓DL.x_not, ↓DL.x_andV, ↓DL.x_orV, ↓DL.x_notV, ↓DL.x_if, ↓DL.x_nil, ↓DL.x_cons, ↓DL.x_tup, ↓DL.x_cb, ↓DL.x_call, ↓DL.x_noPart, ↓DL.x_part, ↓DL.asI_int, ↓DL.x_sl, ↓DL.x_neg, ↓DL.x_lstV, ↓DL.x_listL, ↓DL.x_it, ↓DL.x_rng1, ↓DL.x_rng2, ↓DL.ints1_int, ↓DL.ints2_int, ↓DL.asL_lst, ↓DL.asL_tup, ↓DL.asL_scr, ↓DL.x_comp, ↓DL.x_yes, ↓DL.wip_nil, ↓DL.wip_cons, ↓DL.x_next, ↓DL.x_seq, ↓DL.x_brk, ↓DL.x_cont, ↓DL.x_expr, ↓DL.x_ret, ↓DL.x_retN, ↓DL.x_sif, ↓DL.x_set, ↓DL.x_setO, ↓DL.tgK_some, ↓DL.x_asg, ↓DL.x_tgN, ↓DL.x_tgTup, ↓DL.x_tgNil, ↓DL.x_tgConsN, ↓DL.map_some, ↓DL.pts_nil, ↓DL.pts_cons, ↓DL.gl_lst, ↓DL.x_app, ↓DL.x_putIx, ↓DL.gf_lst, ↓DL.gf_fz, ↓DL.x_fz, ↓DL.x_for, ↓DL.x_end_nx, ↓DL.x_end_rt, ↓DL.g_eqS, ↓DL.g_eqI, ↓DL.g_neS, ↓DL.g_neI, ↓DL.g_lt, ↓DL.g_le, ↓DL.g_gt, ↓DL.g_ge, ↓DL.g_add, ↓DL.g_addL, ↓DL.g_addT, ↓DL.g_sub, ↓DL.g_mul, ↓DL.g_mulL, ↓DL.g_mod, ↓DL.g_fdiv, ↓DL.g_pow, ↓DL.g_isN, ↓DL.g_notN, ↓DL.g_ixT, ↓DL.g_ixL, ↓DL.g_ixS, ↓DL.ix0, ↓DL.ix1, ↓DL.ix2, ↓DL.ix3, ↓DL.ix4, ↓DL.ix5, ↓DL.ix6, ↓DL.ix7, ↓DL.g_lenT, ↓DL.g_lenL, ↓DL.g_lenS, ↓DL.g_int, ↓DL.g_intB, ↓DL.g_tupT, ↓DL.g_tupL, ↓DL.g_lsT, ↓DL.g_lsL, ↓DL.g_max, ↓DL.g_min, ↓DL.g_slT, ↓DL.g_slL, ↓DL.isQ_some, ↓DL.g_isi, ↓DL.i_int, ↓DL.i_bl, ↓DL.i_tup, ↓DL.i_lst, ↓DL.i_non, ↓DL.i_str, if_true, if_false, Bool.false_eq_true, Bool.not_true, Bool.not_false, reduceCtorEq, decide_eq_true_eq, decide_true, decide_false, Bool.not_eq_true', decide_eq_false_iff_not]
      · exact h 2 (by decide) (by decide)
      · exact h 2 (by decide) (by decide)
      · exact h 3 (by decide) (by decide)
      · exact h 2 (by decide) (by decide)
      · exact h 1 (by decide) (by decide)
      · exact h 4 (by decide) (by decide)
      · exact h 2 (by decide) (by decide)
      · exact h 3 (by decide) (by decide)
    refine A r4 b4.1 b4.2 _ fun a a1 a4 => ?_
    clear A
    have T1 : ∀ i : Int, 0 ≤ i → i < 4 → ∀ Q : D → Prop, (∀ t : Task, t ≠ .votes → Q (.str t.s)) → ixQ [.str "begun", .str "leader", .str "free", .str "begun"] i Q := by
      intro i h0 h1 Q h
      rcases (by omega : i = 0 ∨ i = 1 ∨ i = 2 ∨ i = 3) with rfl | rfl | rfl | rfl <;> simp only [↓DL.gt_0, ↓DL.gt_s, ↓DL.pt_0, ↓DL.pt_s, ↓DL.gv_fz, ↓DL.x_var, ↓DL.go_fz, ↓DL.go_lst, ↓DL.x_own, ↓DL.x_c, ↓DL.x_bin, ↓DL.x_tst, ↓DL.asB_bl, ↓DL.x_chain, ↓DL.x_and, ↓DL.x_or, ↓DL.x_not, ↓DL.x_andV, ↓DL.x_orV, ↓DL.x_notV, ↓DL.x_if, ↓DL.x_nil, ↓DL.x_cons, ↓DL.x_tup, ↓DL.x_cb, ↓DL.x_call, ↓DL.x_noPart, ↓DL.x_part, ↓DL.asI_int, ↓DL.x_sl, ↓DL.x_neg, ↓DL.x_lstV, ↓DL.x_listL, ↓DL.x_it, ↓DL.x_rng1, ↓DL.x_rng2, ↓DL.ints1_int, ↓DL.ints2_int, ↓DL.asL_lst, ↓DL.asL_tup, ↓DL.asL_scr, ↓DL.x_comp, ↓DL.x_yes, ↓DL.wip_nil, ↓DL.wip_cons, ↓DL.x_next, ↓DL.x_seq, ↓DL.x_brk, ↓DL.x_cont, ↓DL.x_expr, ↓DL.x_ret, ↓DL.x_retN, ↓DL.x_sif, ↓DL.x_set, ↓DL.x_setO, ↓DL.tgK_some, ↓DL.x_asg, ↓DL.x_tgN, ↓DL.x_tgTup, ↓DL.x_tgNil, ↓DL.x_tgConsN, ↓DL.map_some, ↓DL.pts_nil, ↓DL.pts_cons, ↓DL.gl_lst, ↓DL.x_app, ↓DL.x_putIx, ↓DL.gf_lst, ↓DL.gf_fz, ↓DL.x_fz, ↓DL.x_for, ↓DL.x_end_nx, ↓DL.x_end_rt, ↓DL.g_eqS, ↓DL.g_eqI, ↓DL.g_neS, ↓DL.g_neI, ↓DL.g_lt, ↓DL.g_le, ↓DL.g_gt, ↓DL.g_ge, ↓DL.g_add, ↓DL.g_addL, ↓DL.g_addT, ↓DL.g_sub, ↓DL.g_mul, ↓DL.g_mulL, ↓DL.g_mod, ↓DL.g_fdiv, ↓DL.g_pow, ↓DL.g_isN, ↓DL.g_notN, ↓DL.g_ixT, ↓DL.g_ixL, ↓DL.g_ixS, ↓DL.ix0, ↓DL.ix1, ↓DL.ix2, ↓DL.ix3, ↓DL.ix4, ↓DL.ix5, ↓DL.ix6, ↓DL.ix7, ↓DL.g_lenT, ↓DL.g_lenL, ↓DL.g_lenS, ↓DL.g_int, ↓DL.g_intB, ↓DL.g_tupT, ↓DL.g_tupL, ↓DL.g_lsT, ↓DL.g_lsL, ↓DL.g_max, ↓DL.g_min, ↓DL.g_slT, ↓DL.g_slL, ↓DL.isQ_some, ↓DL.g_isi, ↓DL.i_int, ↓DL.i_bl, ↓DL.i_tup, ↓DL.i_lst, ↓DL.i_non, ↓DL.i_str, if_true, if_false, Bool.false_eq_true, Bool.not_true, Bool.not_false, reduceCtorEq, decide_eq_true_eq, decide_true, decide_false, Bool.not_eq_true', decide_eq_false_iff_not]
      · exact h .begun (by simp)
      · exact h .leader (by simp)
      · exact h .free (by simp)
      · exact h .begun (by simp)
    have T2 : ∀ i : Int, 0 ≤ i → i < 4 → ∀ Q : D → Prop, (∀ t : Task, Q (.str t.s)) → ixQ [.str "begun", .str "votes", .str "leader", .str "free"] i Q := by
      intro i h0 h1 Q h
      rcases (by omega : i = 0 ∨ i = 1 ∨ i = 2 ∨ i = 3) with rfl | rfl | rfl | rfl <;> simp only [↓DL.gt_0, ↓DL.gt_s, ↓DL.pt_0, ↓DL.pt_s, ↓DL.gv_fz, ↓DL.x_var, ↓DL.go_fz, ↓DL.go_lst, ↓DL.x_own, ↓DL.x_c, ↓DL.x_bin, ↓DL.x_tst, ↓DL.asB_bl, ↓DL.x_chain, ↓DL.x_and, ↓DL.x_or, ↓DL.x_not, ↓DL.x_andV, ↓DL.x_orV, ↓DL.x_notV, ↓DL.x_if, ↓DL.x_nil, ↓DL.x_cons, ↓DL.x_tup, ↓DL.x_cb, ↓DL.x_call, ↓DL.x_noPart, ↓DL.x_part, ↓DL.asI_int, ↓DL.x_sl, ↓DL.x_neg, ↓DL.x_lstV, ↓DL.x_listL, ↓DL.x_it, ↓DL.x_rng1, ↓DL.x_rng2, ↓DL.ints1_int, ↓DL.ints2_int, ↓DL.asL_lst, ↓DL.asL_tup, ↓DL.asL_scr, ↓DL.x_comp, ↓DL.x_yes, ↓DL.wip_nil, ↓DL.wip_cons, ↓DL.x_next, ↓DL.x_seq, ↓DL.x_brk, ↓DL.x_cont, ↓DL.x_expr, ↓DL.x_ret, ↓DL.x_retN, ↓DL.x_sif, ↓DL.x_set, ↓DL.x_setO, ↓DL.tgK_some, ↓DL.x_asg, ↓DL.x_tgN, ↓DL.x_tgTup, ↓DL.x_tgNil, ↓DL.x_tgConsN, ↓DL.map_some, ↓DL.pts_nil, ↓DL.pts_cons, ↓DL.gl_lst, ↓DL.x_app, ↓DL.x_putIx, ↓DL.gf_lst, ↓DL.gf_fz, ↓DL.x_fz, ↓DL.x_for, ↓DL.x_end_nx, ↓DL.x_end_rt, ↓DL.g_eqS, ↓DL.g_eqI, ↓DL.g_neS, ↓DL.g_neI, ↓DL.g_lt, ↓DL.g_le, ↓DL.g_gt, ↓DL.g_ge, ↓DL.g_add, ↓DL.g_addL, ↓DL.g_addT, ↓DL.g_sub, ↓DL.g_mul, ↓DL.g_mulL, ↓DL.g_mod, ↓DL.g_fdiv, ↓DL.g_pow, ↓DL.g_isN, ↓DL.g_notN, ↓DL.g_ixT, ↓DL.g_ixL, ↓DL.g_ixS, ↓DL.ix0, ↓DL.ix1, ↓DL.ix2, ↓DL.ix3, ↓DL.ix4, ↓DL.ix5, ↓DL.ix6, ↓DL.ix7, ↓DL.g_lenT, ↓DL.g_lenL, ↓DL.g_lenS, ↓DL.g_int, ↓DL.g_intB, ↓DL.g_tupT, ↓DL.g_tupL, ↓DL.g_lsT, ↓DL.g_lsL, ↓DL.g_max, ↓DL.g_min, ↓DL.g_slT, ↓DL.g_slL, ↓DL.isQ_some, ↓DL.g_isi, ↓DL.i_int, ↓DL.i_bl, ↓DL.i_tup, ↓DL.i_lst, ↓DL.i_non, ↓DL.i_str, if_true, if_false, Bool.false_eq_true, Bool.not_true, Bool.not_false, reduceCtorEq, decide_eq_true_eq, decide_true, decide_false, Bool.not_eq_true', decide_eq_false_iff_not]
      · exact h .begun
      · exact h .votes
      · exact h .leader
      · exact h .free
    refine T1 r5 b5.1 b5.2 _ fun t0 ht0 => ?_
    simp only [↓DL.gt_0, ↓DL.gt_s, ↓DL.pt_0, ↓DL.pt_s, ↓DL.gv_fz, ↓DL.x_var, ↓DL.go_fz, ↓DL.go_lst, ↓DL.x_own, ↓DL.x_c, ↓DL.x_bin, ↓DL.x_tst, ↓DL.asB_bl, ↓DL.x_chain, ↓DL.x_and, ↓DL.x_or, ↓DL.x_not, ↓DL.x_andV, ↓DL.x_orV, ↓DL.x_notV, ↓DL.x_if, ↓DL.x_nil, ↓DL.x_cons, ↓DL.x_tup, ↓DL.x_cb, ↓DL.x_call, ↓DL.x_noPart, ↓DL.x_part, ↓DL.asI_int, ↓DL.x_sl, ↓DL.x_neg, ↓DL.x_lstV, ↓DL.x_listL, ↓DL.x_it, ↓DL.x_rng1, ↓DL.x_rng2, ↓DL.ints1_int, ↓DL.ints2_int, ↓DL.asL_lst, ↓DL.asL_tup, ↓DL.asL_scr, ↓DL.x_comp, ↓DL.x_yes, ↓DL.wip_nil, ↓DL.wip_cons, ↓DL.x_next, ↓DL.x_seq, ↓DL.x_brk, ↓DL.x_cont, ↓DL.x_expr, ↓DL.x_ret, ↓DL.x_retN, ↓DL.x_sif, ↓DL.x_set, ↓DL.x_setO, ↓DL.tgK_some, ↓DL.x_asg, ↓DL.x_tgN, ↓DL.x_tgTup, ↓DL.x_tgNil, ↓DL.x_tgConsN, ↓DL.map_some, ↓DL.pts_nil, ↓DL.pts_cons, ↓DL.gl_lst, ↓DL.x_app, ↓DL.x_putIx, ↓DL.gf_lst, ↓DL.gf_fz, ↓DL.x_fz, ↓DL.x_for, ↓DL.x_end_nx, ↓DL.x_end_rt, ↓DL.g_eqS, ↓DL.g_eqI, ↓DL.g_neS, ↓DL.g_neI, ↓DL.g_lt, ↓DL.g_le, ↓DL.g_gt, ↓DL.g_ge, ↓DL.g_add, ↓DL.g_addL, ↓DL.g_addT, ↓DL.g_sub, ↓DL.g_mul, ↓DL.g_mulL, ↓DL.g_mod, ↓DL.g_fdiv, ↓DL.g_pow, ↓DL.g_isN, ↓DL.g_notN, ↓DL.g_ixT, ↓DL.g_ixL, ↓DL.g_ixS, ↓DL.ix0, ↓DL.ix1, ↓DL.ix2, ↓DL.ix3, ↓DL.ix4, ↓DL.ix5, ↓DL.ix6, ↓DL.ix7, ↓DL.g_lenT, ↓DL.g_lenL, ↓DL.g_lenS, ↓DL.g_int, ↓DL.g_intB, ↓DL.g_tupT, ↓DL.g_tupL, ↓DL.g_lsT, ↓DL.g_lsL, ↓DL.g_max, ↓DL.g_min, ↓DL.g_slT, ↓DL.g_slL, ↓DL.isQ_some, ↓DL.g_isi, ↓DL.i_int, ↓DL.i_bl, ↓DL.i_tup, ↓DL.i_lst, ↓DL.i_non, ↓DL.i_str, if_true, if_false, Bool.false_eq_true, Bool.not_true, Bool.not_false, reduceCtorEq, decide_eq_true_eq, decide_true, decide_false, Bool.not_eq_true', decide_eq_false_iff_not]
    split
    · refine T2 r5 b5.1 b5.2 _ fun t => ?_
      exact p_l_setting_1 (ox := none) (o6 := none) b0 b1 b3 b6 b7 a1 a4 (fun _ => by omega) q
    · exact p_l_setting_1 (ox := none) (o6 := none) b0 b1 b3 b6 b7 a1 a4 (fun h => absurd h ht0) q
theorem p_l_passed (ds : List D) (Q : D → Prop) (E : DExc → Prop) (hl : ds.length = 2) (h : sp_l_passed ds Q E) : b_l_passed (dEnd Q E) (en N_l_passed.length ds) := by
  obtain ⟨s, l, rfl, q⟩ := h
  rw [en_l_passed]
  cases l with
  | true =>
    simp only [↓DL.gt_0, ↓DL.gt_s, ↓DL.pt_0, ↓DL.pt_s, ↓DL.gv_fz, ↓DL.x_var, ↓DL.go_fz, ↓DL.go_lst, ↓DL.x_own, ↓DL.x_c, ↓DL.x_bin, ↓DL.x_tst, ↓DL.asB_bl, ↓DL.x_chain, ↓DL.x_and, ↓DL.x_or, ↓DL.x_not, ↓DL.x_andV, ↓DL.x_orV, ↓DL.x_notV, ↓DL.x_if, ↓DL.x_nil, ↓DL.x_cons, ↓DL.x_tup, ↓DL.x_cb, ↓DL.x_call, ↓DL.x_noPart, ↓DL.x_part, ↓DL.asI_int, ↓DL.x_sl, ↓DL.x_neg, ↓DL.x_lstV, ↓DL.x_listL, ↓DL.x_it, ↓DL.x_rng1, ↓DL.x_rng2, ↓DL.ints1_int, ↓DL.ints2_int, ↓DL.asL_lst, ↓DL.asL_tup, ↓DL.asL_scr, ↓DL.x_comp, ↓DL.x_yes, ↓DL.wip_nil, ↓DL.wip_cons, ↓DL.x_next, ↓DL.x_seq, ↓DL.x_brk, ↓DL.x_cont, ↓DL.x_expr, ↓DL.x_ret, ↓DL.x_retN, ↓DL.x_sif, ↓DL.x_set, ↓DL.x_setO, ↓DL.tgK_some, ↓DL.x_asg, ↓DL.x_tgN, ↓DL.x_tgTup, ↓DL.x_tgNil, ↓DL.x_tgConsN, ↓DL.map_some, ↓DL.pts_nil, ↓DL.pts_cons, ↓DL.gl_lst, ↓DL.x_app, ↓DL.x_putIx, ↓DL.gf_lst, ↓DL.gf_fz, ↓DL.x_fz, ↓DL.x_for, ↓DL.x_end_nx, ↓DL.x_end_rt, ↓DL.g_eqS, ↓DL.g_eqI, ↓DL.g_neS, ↓DL.g_neI, ↓DL.g_lt, ↓DL.g_le, ↓DL.g_gt, ↓DL.g_ge, ↓DL.g_add, ↓DL.g_addL, ↓DL.g_addT, ↓DL.g_sub, ↓DL.g_mul, ↓DL.g_mulL, ↓DL.g_mod, ↓DL.g_fdiv, ↓DL.g_pow, ↓DL.g_isN, ↓DL.g_notN, ↓DL.g_ixT, ↓DL.g_ixL, ↓DL.g_ixS, ↓DL.ix0, ↓DL.ix1, ↓DL.ix2, ↓DL.ix3, ↓DL.ix4, ↓DL.ix5, ↓DL.ix6, ↓DL.ix7, ↓DL.g_lenT, ↓DL.g_lenL, ↓DL.g_lenS, ↓DL.g_int, ↓DL.g_intB, ↓DL.g_tupT, ↓DL.g_tupL, ↓DL.g_lsT, ↓DL.g_lsL, ↓DL.g_max, ↓DL.g_min, ↓DL.g_slT, ↓DL.g_slL, ↓DL.isQ_some, ↓DL.g_isi, ↓DL.i_int, ↓DL.i_bl, ↓DL.i_tup, ↓DL.i_lst, ↓DL.i_non, ↓DL.i_str, if_true, if_false, Bool.false_eq_true, Bool.not_true, Bool.not_false, reduceCtorEq, decide_eq_true_eq, decide_true, decide_false, Bool.not_eq_true', decide_eq_false_iff_not, b_l_passed, gList]
    exact q
  | false =>
    simp only [↓DL.gt_0, ↓DL.gt_s, ↓DL.pt_0, ↓DL.pt_s, ↓DL.gv_fz, ↓DL.x_var, ↓DL.go_fz, ↓DL.go_lst, ↓DL.x_own, ↓DL.x_c, ↓DL.x_bin, ↓DL.x_tst, ↓DL.asB_bl, ↓DL.x_chain, ↓DL.x_and, ↓DL.x_or, ↓DL.x_not, ↓DL.x_andV, ↓DL.x_orV, ↓DL.x_notV, ↓DL.x_if, ↓DL.x_nil, ↓DL.x_cons, ↓DL.x_tup, ↓DL.x_cb, ↓DL.x_call, ↓DL.x_noPart, ↓DL.x_part, ↓DL.asI_int, ↓DL.x_sl, ↓DL.x_neg, ↓DL.x_lstV, ↓DL.x_listL, ↓DL.x_it, ↓DL.x_rng1, ↓DL.x_rng2, ↓DL.ints1_int, ↓DL.ints2_int, ↓DL.asL_lst, ↓DL.asL_tup, ↓DL.asL_scr, ↓DL.x_comp, ↓DL.x_yes, ↓DL.wip_nil, ↓DL.wip_cons, ↓DL.x_next, ↓DL.x_seq, ↓DL.x_brk, ↓DL.x_cont, ↓DL.x_expr, ↓DL.x_ret, ↓DL.x_retN, ↓DL.x_sif, ↓DL.x_set, ↓DL.x_setO, ↓DL.tgK_some, ↓DL.x_asg, ↓DL.x_tgN, ↓DL.x_tgTup, ↓DL.x_tgNil, ↓DL.x_tgConsN, ↓DL.map_some, ↓DL.pts_nil, ↓DL.pts_cons, ↓DL.gl_lst, ↓DL.x_app, ↓DL.x_putIx, ↓DL.gf_lst, ↓DL.gf_fz, ↓DL.x_fz, ↓DL.x_for, ↓DL.x_end_nx, ↓DL.x_end_rt, ↓DL.g_eqS, ↓DL.g_eqI, ↓DL.g_neS, ↓DL.g_neI, ↓DL.g_lt, ↓DL.g_le, ↓DL.g_gt, ↓DL.g_ge, ↓DL.g_add, ↓DL.g_addL, ↓DL.g_addT, ↓DL.g_sub, ↓DL.g_mul, ↓DL.g_mulL, ↓DL.g_mod, ↓DL.g_fdiv, ↓DL.g_pow, ↓DL.g_isN, ↓DL.g_notN, ↓DL.g_ixT, ↓DL.g_ixL, ↓DL.g_ixS, ↓DL.ix0, ↓DL.ix1, ↓DL.ix2, ↓DL.ix3, ↓DL.ix4, ↓DL.ix5, ↓DL.ix6, ↓DL.ix7, ↓DL.g_lenT, ↓DL.g_lenL, ↓DL.g_lenS, ↓DL.g_int, ↓DL.g_intB, ↓DL.g_tupT, ↓DL.g_tupL, ↓DL.g_lsT, ↓DL.g_lsL, ↓DL.g_max, ↓DL.g_min, ↓DL.g_slT, ↓DL.g_slL, ↓DL.isQ_some, ↓DL.g_isi, ↓DL.i_int, ↓DL.i_bl, ↓DL.i_tup, ↓DL.i_lst, ↓DL.i_non, ↓DL.i_str, if_true, if_false, Bool.false_eq_true, Bool.not_true, Bool.not_false, reduceCtorEq, decide_eq_true_eq, decide_true, decide_false, Bool.not_eq_true', decide_eq_false_iff_not, b_l_passed, gList]
    exact q
theorem p_l_form_1 {s : St} {st : D} {l : O} {Z : DEnd} : ∀ (ps acc : List Part) (o4 o5 : Option O), acc.length + ps.length ≤ 100 → (∀ p ∈ ps, p.ok s) →
    (∀ o4 o5, Z.nx [some (.fz (.tup s.xs)), some (.fz st), some l, some (.lst ((acc ++ ps).map (Part.d true))), o4, o5]) →
    forGo (tgN 4) lp_l_form_1 Z (ps.map (Part.d false)) [some (.fz (.tup s.xs)), some (.fz st), some l, some (.lst (acc.map (Part.d true))), o4, o5]
  | [], acc, o4, o5, hl, ok, q => by show Z.nx _; simpa using q o4 o5
  | p :: ps, acc, o4, o5, hl, ok, q => by
    rw [List.length_cons] at hl
    have hp := ok p List.mem_cons_self
    have ih : ∀ o4 o5, forGo (tgN 4) lp_l_form_1 Z (ps.map (Part.d false)) [some (.fz (.tup s.xs)), some (.fz st), some l, some (.lst (acc.map (Part.d true) ++ [p.d true])), o4, o5] := by
      intro o4 o5
      have e : acc.map (Part.d true) ++ [p.d true] = (acc ++ [p]).map (Part.d true) := by simp
      rw [e]
      exact p_l_form_1 ps (acc ++ [p]) o4 o5 (by simp; omega) (fun x hx => ok x (List.mem_cons_of_mem _ hx)) (by simpa using q)
    cases p with
    | non =>
      simp only [↓DL.gt_0, ↓DL.gt_s, ↓DL.pt_0, ↓DL.pt_s, ↓DL.gv_fz, ↓DL.x_var, ↓DL.go_fz, ↓DL.go_lst, ↓DL.x_own, ↓DL.x_c, ↓DL.x_bin, ↓DL.x_tst, ↓DL.asB_bl, ↓DL.x_chain, ↓DL.x_and, ↓DL.x_or, ↓DL.x_not, ↓DL.x_andV, ↓DL.x_orV, ↓DL.x_notV, ↓DL.x_if, ↓DL.x_nil, ↓DL.x_cons, ↓DL.x_tup, ↓DL.x_cb, ↓DL.x_call, ↓DL.x_noPart, ↓DL.x_part, ↓DL.asI_int, ↓DL.x_sl, ↓DL.x_neg, ↓DL.x_lstV, ↓DL.x_listL, ↓DL.x_it, ↓DL.x_rng1, ↓DL.x_rng2, ↓DL.ints1_int, ↓DL.ints2_int, ↓DL.asL_lst, ↓DL.asL_tup, ↓DL.asL_scr, ↓DL.x_comp, ↓DL.x_yes, ↓DL.wip_nil, ↓DL.wip_cons, ↓DL.x_next, ↓DL.x_seq, ↓DL.x_brk, ↓DL.x_cont, ↓DL.x_expr, ↓DL.x_ret, ↓DL.x_retN, ↓DL.x_sif, ↓DL.x_set, ↓DL.x_setO, ↓DL.tgK_some, ↓DL.x_asg, ↓DL.x_tgN, ↓DL.x_tgTup, ↓DL.x_tgNil, ↓DL.x_tgConsN, ↓DL.map_some, ↓DL.pts_nil, ↓DL.pts_cons, ↓DL.gl_lst, ↓DL.x_app, ↓DL.x_putIx, ↓DL.gf_lst, ↓DL.gf_fz, ↓DL.x_fz, ↓DL.x_for, ↓DL.x_end_nx, ↓DL.x_end_rt, ↓DL.g_eqS, ↓DL.g_eqI, ↓DL.g_neS, ↓DL.g_neI, ↓DL.g_lt, ↓DL.g_le, ↓DL.g_gt, ↓DL.g_ge, ↓DL.g_add, ↓DL.g_addL, ↓DL.g_addT, ↓DL.g_sub, ↓DL.g_mul, ↓DL.g_mulL, ↓DL.g_mod, ↓DL.g_fdiv, ↓DL.g_pow, ↓DL.g_isN, ↓DL.g_notN, ↓DL.g_ixT, ↓DL.g_ixL, ↓DL.g_ixS, ↓DL.ix0, ↓DL.ix1, ↓DL.ix2, ↓DL.ix3, ↓DL.ix4, ↓DL.ix5, ↓DL.ix6, ↓DL.ix7, ↓DL.g_lenT, ↓DL.g_lenL, ↓DL.g_lenS, ↓DL.g_int, ↓DL.g_intB, ↓DL.g_tupT, ↓DL.g_tupL, ↓DL.g_lsT, ↓DL.g_lsL, ↓DL.g_max, ↓DL.g_min, ↓DL.g_slT, ↓DL.g_slL, ↓DL.isQ_some, ↓DL.g_isi, ↓DL.i_int, ↓DL.i_bl, ↓DL.i_tup, ↓DL.i_lst, ↓DL.i_non, ↓DL.i_str, if_true, if_false, Bool.false_eq_true, Bool.not_true, Bool.not_false, reduceCtorEq, decide_eq_true_eq, decide_true, decide_false, Bool.not_eq_true', decide_eq_false_iff_not, List.map_cons, ↓forGo_cons, ↓u_l_form_1, List.length_map, Part.d, D.isNon]
      exact ⟨by omega, ih _ _⟩
    | fall t r =>
      simp only [↓DL.gt_0, ↓DL.gt_s, ↓DL.pt_0, ↓DL.pt_s, ↓DL.gv_fz, ↓DL.x_var, ↓DL.go_fz, ↓DL.go_lst, ↓DL.x_own, ↓DL.x_c, ↓DL.x_bin, ↓DL.x_tst, ↓DL.asB_bl, ↓DL.x_chain, ↓DL.x_and, ↓DL.x_or, ↓DL.x_not, ↓DL.x_andV, ↓DL.x_orV, ↓DL.x_notV, ↓DL.x_if, ↓DL.x_nil, ↓DL.x_cons, ↓DL.x_tup, ↓DL.x_cb, ↓DL.x_call, ↓DL.x_noPart, ↓DL.x_part, ↓DL.asI_int, ↓DL.x_sl, ↓DL.x_neg, ↓DL.x_lstV, ↓DL.x_listL, ↓DL.x_it, ↓DL.x_rng1, ↓DL.x_rng2, ↓DL.ints1_int, ↓DL.ints2_int, ↓DL.asL_lst, ↓DL.asL_tup, ↓DL.asL_scr, ↓DL.x_comp, ↓DL.x_yes, ↓DL.wip_nil, ↓DL.wip_cons, ↓DL.x_next, ↓DL.x_seq, ↓DL.x_brk, ↓DL.x_cont, ↓DL.x_expr, ↓DL.x_ret, ↓DL.x_retN, ↓DL.x_sif, ↓DL.x_set, ↓DL.x_setO, ↓DL.tgK_some, ↓DL.x_asg, ↓DL.x_tgN, ↓DL.x_tgTup, ↓DL.x_tgNil, ↓DL.x_tgConsN, ↓DL.map_some, ↓DL.pts_nil, ↓DL.pts_cons, ↓DL.gl_lst, ↓DL.x_app, ↓DL.x_putIx, ↓DL.gf_lst, ↓DL.gf_fz, ↓DL.x_fz, ↓DL.x_for, ↓DL.x_end_nx, ↓DL.x_end_rt, ↓DL.g_eqS, ↓DL.g_eqI, ↓DL.g_neS, ↓DL.g_neI, ↓DL.g_lt, ↓DL.g_le, ↓DL.g_gt, ↓DL.g_ge, ↓DL.g_add, ↓DL.g_addL, ↓DL.g_addT, ↓DL.g_sub, ↓DL.g_mul, ↓DL.g_mulL, ↓DL.g_mod, ↓DL.g_fdiv, ↓DL.g_pow, ↓DL.g_isN, ↓DL.g_notN, ↓DL.g_ixT, ↓DL.g_ixL, ↓DL.g_ixS, ↓DL.ix0, ↓DL.ix1, ↓DL.ix2, ↓DL.ix3, ↓DL.ix4, ↓DL.ix5, ↓DL.ix6, ↓DL.ix7, ↓DL.g_lenT, ↓DL.g_lenL, ↓DL.g_lenS, ↓DL.g_int, ↓DL.g_intB, ↓DL.g_tupT, ↓DL.g_tupL, ↓DL.g_lsT, ↓DL.g_lsL, ↓DL.g_max, ↓DL.g_min, ↓DL.g_slT, ↓DL.g_slL, ↓DL.isQ_some, ↓DL.g_isi, ↓DL.i_int, ↓DL.i_bl, ↓DL.i_tup, ↓DL.i_lst, ↓DL.i_non, ↓DL.i_str, if_true, if_false, Bool.false_eq_true, Bool.not_true, Bool.not_false, reduceCtorEq, decide_eq_true_eq, decide_true, decide_false, Bool.not_eq_true', decide_eq_false_iff_not, List.map_cons, ↓forGo_cons, ↓u_l_form_1, List.length_map, Part.d, seq_f, D.isNon, ↓xs0, kf, hp.1, gList]
      exact ⟨by omega, ih _ _⟩
    | row r =>
      simp only [↓DL.gt_0, ↓DL.gt_s, ↓DL.pt_0, ↓DL.pt_s, ↓DL.gv_fz, ↓DL.x_var, ↓DL.go_fz, ↓DL.go_lst, ↓DL.x_own, ↓DL.x_c, ↓DL.x_bin, ↓DL.x_tst, ↓DL.asB_bl, ↓DL.x_chain, ↓DL.x_and, ↓DL.x_or, ↓DL.x_not, ↓DL.x_andV, ↓DL.x_orV, ↓DL.x_notV, ↓DL.x_if, ↓DL.x_nil, ↓DL.x_cons, ↓DL.x_tup, ↓DL.x_cb, ↓DL.x_call, ↓DL.x_noPart, ↓DL.x_part, ↓DL.asI_int, ↓DL.x_sl, ↓DL.x_neg, ↓DL.x_lstV, ↓DL.x_listL, ↓DL.x_it, ↓DL.x_rng1, ↓DL.x_rng2, ↓DL.ints1_int, ↓DL.ints2_int, ↓DL.asL_lst, ↓DL.asL_tup, ↓DL.asL_scr, ↓DL.x_comp, ↓DL.x_yes, ↓DL.wip_nil, ↓DL.wip_cons, ↓DL.x_next, ↓DL.x_seq, ↓DL.x_brk, ↓DL.x_cont, ↓DL.x_expr, ↓DL.x_ret, ↓DL.x_retN, ↓DL.x_sif, ↓DL.x_set, ↓DL.x_setO, ↓DL.tgK_some, ↓DL.x_asg, ↓DL.x_tgN, ↓DL.x_tgTup, ↓DL.x_tgNil, ↓DL.x_tgConsN, ↓DL.map_some, ↓DL.pts_nil, ↓DL.pts_cons, ↓DL.gl_lst, ↓DL.x_app, ↓DL.x_putIx, ↓DL.gf_lst, ↓DL.gf_fz, ↓DL.x_fz, ↓DL.x_for, ↓DL.x_end_nx, ↓DL.x_end_rt, ↓DL.g_eqS, ↓DL.g_eqI, ↓DL.g_neS, ↓DL.g_neI, ↓DL.g_lt, ↓DL.g_le, ↓DL.g_gt, ↓DL.g_ge, ↓DL.g_add, ↓DL.g_addL, ↓DL.g_addT, ↓DL.g_sub, ↓DL.g_mul, ↓DL.g_mulL, ↓DL.g_mod, ↓DL.g_fdiv, ↓DL.g_pow, ↓DL.g_isN, ↓DL.g_notN, ↓DL.g_ixT, ↓DL.g_ixL, ↓DL.g_ixS, ↓DL.ix0, ↓DL.ix1, ↓DL.ix2, ↓DL.ix3, ↓DL.ix4, ↓DL.ix5, ↓DL.ix6, ↓DL.ix7, ↓DL.g_lenT, ↓DL.g_lenL, ↓DL.g_lenS, ↓DL.g_int, ↓DL.g_intB, ↓DL.g_tupT, ↓DL.g_tupL, ↓DL.g_lsT, ↓DL.g_lsL, ↓DL.g_max, ↓DL.g_min, ↓DL.g_slT, ↓DL.g_slL, ↓DL.isQ_some, ↓DL.g_isi, ↓DL.i_int, ↓DL.i_bl, ↓DL.i_tup, ↓DL.i_lst, ↓DL.i_non, ↓DL.i_str, if_true, if_false, Bool.false_eq_true, Bool.not_true, Bool.not_false, reduceCtorEq, decide_eq_true_eq, decide_true, decide_false, Bool.not_eq_true', decide_eq_false_iff_not, List.map_cons, ↓forGo_cons, ↓u_l_form_1, List.length_map, Part.d, seq_f, D.isNon, ↓xs0, kf, hp.1, gList]
      have hr := hp.2.1
      refine ⟨by omega, ?_⟩
      refine compGo_of (fun p : Int × Int => D.tup [.int p.1, .int p.2]) (fun _ => true) (fun p => D.lst [.int p.1, .int p.2]) _ _ (fun y hy => ⟨_, rfl, fun Q E q => q, fun _ Q E q => ?_⟩) ?_
      · simp only [↓DL.gt_0, ↓DL.gt_s, ↓DL.pt_0, ↓DL.pt_s, ↓DL.gv_fz, ↓DL.x_var, ↓DL.go_fz, ↓DL.go_lst, ↓DL.x_own, ↓DL.x_c, ↓DL.x_bin, ↓DL.x_tst, ↓DL.asB_bl, ↓DL.x_chain, ↓DL.x_and, ↓DL.x_or, ↓DL.x_not, ↓DL.x_andV, ↓DL.x_orV, ↓DL.x_notV, ↓DL.x_if, ↓DL.x_nil, ↓DL.x_cons, ↓DL.x_tup, ↓DL.x_cb, ↓DL.x_call, ↓DL.x_noPart, ↓DL.x_part, ↓DL.asI_int, ↓DL.x_sl, ↓DL.x_neg, ↓DL.x_lstV, ↓DL.x_listL, ↓DL.x_it, ↓DL.x_rng1, ↓DL.x_rng2, ↓DL.ints1_int, ↓DL.ints2_int, ↓DL.asL_lst, ↓DL.asL_tup, ↓DL.asL_scr, ↓DL.x_comp, ↓DL.x_yes, ↓DL.wip_nil, ↓DL.wip_cons, ↓DL.x_next, ↓DL.x_seq, ↓DL.x_brk, ↓DL.x_cont, ↓DL.x_expr, ↓DL.x_ret, ↓DL.x_retN, ↓DL.x_sif, ↓DL.x_set, ↓DL.x_setO, ↓DL.tgK_some, ↓DL.x_asg, ↓DL.x_tgN, ↓DL.x_tgTup, ↓DL.x_tgNil, ↓DL.x_tgConsN, ↓DL.map_some, ↓DL.pts_nil, ↓DL.pts_cons, ↓DL.gl_lst, ↓DL.x_app, ↓DL.x_putIx, ↓DL.gf_lst, ↓DL.gf_fz, ↓DL.x_fz, ↓DL.x_for, ↓DL.x_end_nx, ↓DL.x_end_rt, ↓DL.g_eqS, ↓DL.g_eqI, ↓DL.g_neS, ↓DL.g_neI, ↓DL.g_lt, ↓DL.g_le, ↓DL.g_gt, ↓DL.g_ge, ↓DL.g_add, ↓DL.g_addL, ↓DL.g_addT, ↓DL.g_sub, ↓DL.g_mul, ↓DL.g_mulL, ↓DL.g_mod, ↓DL.g_fdiv, ↓DL.g_pow, ↓DL.g_isN, ↓DL.g_notN, ↓DL.g_ixT, ↓DL.g_ixL, ↓DL.g_ixS, ↓DL.ix0, ↓DL.ix1, ↓DL.ix2, ↓DL.ix3, ↓DL.ix4, ↓DL.ix5, ↓DL.ix6, ↓DL.ix7, ↓DL.g_lenT, ↓DL.g_lenL, ↓DL.g_lenS, ↓DL.g_int, ↓DL.g_intB, ↓DL.g_tupT, ↓DL.g_tupL, ↓DL.g_lsT, ↓DL.g_lsL, ↓DL.g_max, ↓DL.g_min, ↓DL.g_slT, ↓DL.g_slL, ↓DL.isQ_some, ↓DL.g_isi, ↓DL.i_int, ↓DL.i_bl, ↓DL.i_tup, ↓DL.i_lst, ↓DL.i_non, ↓DL.i_str, if_true, if_false, Bool.false_eq_true, Bool.not_true, Bool.not_false, reduceCtorEq, decide_eq_true_eq, decide_true, decide_false, Bool.not_eq_true', decide_eq_false_iff_not, gList]
        exact q
      · rw [filter_t]
        exact ⟨by omega, ih _ _⟩
theorem pok_len {s : St} {ps : List Part} (ok : s.Ok) (h : POk s ps) : ps.length ≤ 5 := by
  have h1 := h.len
  have h2 := ok.h5
  have h3 := ok.l5
  split at h1 <;> omega
theorem p_l_form (ds : List D) (Q : D → Prop) (E : DExc → Prop) (hl : ds.length = 3) (h : sp_l_form ds Q E) : b_l_form (dEnd Q E) (en N_l_form.length ds) := by
  obtain ⟨s, b, ps, l, ok, bk, pk, rfl, q⟩ := h
  rw [en_l_form]
  cases l with
  | false =>
    simp only [↓DL.gt_0, ↓DL.gt_s, ↓DL.pt_0, ↓DL.pt_s, ↓DL.gv_fz, ↓DL.x_var, ↓DL.go_fz, ↓DL.go_lst, ↓DL.x_own, ↓DL.x_c, ↓DL.x_bin, ↓DL.x_tst, ↓DL.asB_bl, ↓DL.x_chain, ↓DL.x_and, ↓DL.x_or, ↓DL.x_not, ↓DL.x_andV, ↓DL.x_orV, ↓DL.x_notV, ↓DL.x_if, ↓DL.x_nil, ↓DL.x_cons, ↓DL.x_tup, ↓DL.x_cb, ↓DL.x_call, ↓DL.x_noPart, ↓DL.x_part, ↓DL.asI_int, ↓DL.x_sl, ↓DL.x_neg, ↓DL.x_lstV, ↓DL.x_listL, ↓DL.x_it, ↓DL.x_rng1, ↓DL.x_rng2, ↓DL.ints1_int, ↓DL.ints2_int, ↓DL.asL_lst, ↓DL.asL_tup, ↓DL.asL_scr, ↓DL.x_comp, ↓DL.x_yes, ↓DL.wip_nil, ↓DL.wip_cons, ↓DL.x_next, ↓DL.x_seq, ↓DL.x_brk, ↓DL.x_cont, ↓DL.x_expr, ↓DL.x_ret, ↓DL.x_retN, ↓DL.x_sif, ↓DL.x_set, ↓DL.x_setO, ↓DL.tgK_some, ↓DL.x_asg, ↓DL.x_tgN, ↓DL.x_tgTup, ↓DL.x_tgNil, ↓DL.x_tgConsN, ↓DL.map_some, ↓DL.pts_nil, ↓DL.pts_cons, ↓DL.gl_lst, ↓DL.x_app, ↓DL.x_putIx, ↓DL.gf_lst, ↓DL.gf_fz, ↓DL.x_fz, ↓DL.x_for, ↓DL.x_end_nx, ↓DL.x_end_rt, ↓DL.g_eqS, ↓DL.g_eqI, ↓DL.g_neS, ↓DL.g_neI, ↓DL.g_lt, ↓DL.g_le, ↓DL.g_gt, ↓DL.g_ge, ↓DL.g_add, ↓DL.g_addL, ↓DL.g_addT, ↓DL.g_sub, ↓DL.g_mul, ↓DL.g_mulL, ↓DL.g_mod, ↓DL.g_fdiv, ↓DL.g_pow, ↓DL.g_isN, ↓DL.g_notN, ↓DL.g_ixT, ↓DL.g_ixL, ↓DL.g_ixS, ↓DL.ix0, ↓DL.ix1, ↓DL.ix2, ↓DL.ix3, ↓DL.ix4, ↓DL.ix5, ↓DL.ix6, ↓DL.ix7, ↓DL.g_lenT, ↓DL.g_lenL, ↓DL.g_lenS, ↓DL.g_int, ↓DL.g_intB, ↓DL.g_tupT, ↓DL.g_tupL, ↓DL.g_lsT, ↓DL.g_lsL, ↓DL.g_max, ↓DL.g_min, ↓DL.g_slT, ↓DL.g_slL, ↓DL.isQ_some, ↓DL.g_isi, ↓DL.i_int, ↓DL.i_bl, ↓DL.i_tup, ↓DL.i_lst, ↓DL.i_non, ↓DL.i_str, if_true, if_false, Bool.false_eq_true, Bool.not_true, Bool.not_false, reduceCtorEq, decide_eq_true_eq, decide_true, decide_false, Bool.not_eq_true', decide_eq_false_iff_not, b_l_form]
    exact q
  | true =>
    simp only [↓DL.gt_0, ↓DL.gt_s, ↓DL.pt_0, ↓DL.pt_s, ↓DL.gv_fz, ↓DL.x_var, ↓DL.go_fz, ↓DL.go_lst, ↓DL.x_own, ↓DL.x_c, ↓DL.x_bin, ↓DL.x_tst, ↓DL.asB_bl, ↓DL.x_chain, ↓DL.x_and, ↓DL.x_or, ↓DL.x_not, ↓DL.x_andV, ↓DL.x_orV, ↓DL.x_notV, ↓DL.x_if, ↓DL.x_nil, ↓DL.x_cons, ↓DL.x_tup, ↓DL.x_cb, ↓DL.x_call, ↓DL.x_noPart, ↓DL.x_part, ↓DL.asI_int, ↓DL.x_sl, ↓DL.x_neg, ↓DL.x_lstV, ↓DL.x_listL, ↓DL.x_it, ↓DL.x_rng1, ↓DL.x_rng2, ↓DL.ints1_int, ↓DL.ints2_int, ↓DL.asL_lst, ↓DL.asL_tup, ↓DL.asL_scr, ↓DL.x_comp, ↓DL.x_yes, ↓DL.wip_nil, ↓DL.wip_cons, ↓DL.x_next, ↓DL.x_seq, ↓DL.x_brk, ↓DL.x_cont, ↓DL.x_expr, ↓DL.x_ret, ↓DL.x_retN, ↓DL.x_sif, ↓DL.x_set, ↓DL.x_setO, ↓DL.tgK_some, ↓DL.x_asg, ↓DL.x_tgN, ↓DL.x_tgTup, ↓DL.x_tgNil, ↓DL.x_tgConsN, ↓DL.map_some, ↓DL.pts_nil, ↓DL.pts_cons, ↓DL.gl_lst, ↓DL.x_app, ↓DL.x_putIx, ↓DL.gf_lst, ↓DL.gf_fz, ↓DL.x_fz, ↓DL.x_for, ↓DL.x_end_nx, ↓DL.x_end_rt, ↓DL.g_eqS, ↓DL.g_eqI, ↓DL.g_neS, ↓DL.g_neI, ↓DL.g_lt, ↓DL.g_le, ↓DL.g_gt, ↓DL.g_ge, ↓DL.g_add, ↓DL.g_addL, ↓DL.g_addT, ↓DL.g_sub, ↓DL.g_mul, ↓DL.g_mulL, ↓DL.g_mod, ↓DL.g_fdiv, ↓DL.g_pow, ↓DL.g_isN, ↓DL.g_notN, ↓DL.g_ixT, ↓DL.g_ixL, ↓DL.g_ixS, ↓DL.ix0, ↓DL.ix1, ↓DL.ix2, ↓DL.ix3, ↓DL.ix4, ↓DL.ix5, ↓DL.ix6, ↓DL.ix7, ↓DL.g_lenT, ↓DL.g_lenL, ↓DL.g_lenS, ↓DL.g_int, ↓DL.g_intB, ↓DL.g_tupT, ↓DL.g_tupL, ↓DL.g_lsT, ↓DL.g_lsL, ↓DL.g_max, ↓DL.g_min, ↓DL.g_slT, ↓DL.g_slL, ↓DL.isQ_some, ↓DL.g_isi, ↓DL.i_int, ↓DL.i_bl, ↓DL.i_tup, ↓DL.i_lst, ↓DL.i_non, ↓DL.i_str, if_true, if_false, Bool.false_eq_true, Bool.not_true, Bool.not_false, reduceCtorEq, decide_eq_true_eq, decide_true, decide_false, Bool.not_eq_true', decide_eq_false_iff_not, b_l_form, ↓g_ixSt, ↓asL_sec]
    have hp := pok_len ok pk
    refine p_l_form_1 (s := s) ps [] none none (by simp; omega) pk.all fun o4 o5 => ?_
    simp only [↓DL.gt_0, ↓DL.gt_s, ↓DL.pt_0, ↓DL.pt_s, ↓DL.gv_fz, ↓DL.x_var, ↓DL.go_fz, ↓DL.go_lst, ↓DL.x_own, ↓DL.x_c, ↓DL.x_bin, ↓DL.x_tst, ↓DL.asB_bl, ↓DL.x_chain, ↓DL.x_and, ↓DL.x_or, ↓DL.x_not, ↓DL.x_andV, ↓DL.x_orV, ↓DL.x_notV, ↓DL.x_if, ↓DL.x_nil, ↓DL.x_cons, ↓DL.x_tup, ↓DL.x_cb, ↓DL.x_call, ↓DL.x_noPart, ↓DL.x_part, ↓DL.asI_int, ↓DL.x_sl, ↓DL.x_neg, ↓DL.x_lstV, ↓DL.x_listL, ↓DL.x_it, ↓DL.x_rng1, ↓DL.x_rng2, ↓DL.ints1_int, ↓DL.ints2_int, ↓DL.asL_lst, ↓DL.asL_tup, ↓DL.asL_scr, ↓DL.x_comp, ↓DL.x_yes, ↓DL.wip_nil, ↓DL.wip_cons, ↓DL.x_next, ↓DL.x_seq, ↓DL.x_brk, ↓DL.x_cont, ↓DL.x_expr, ↓DL.x_ret, ↓DL.x_retN, ↓DL.x_sif, ↓DL.x_set, ↓DL.x_setO, ↓DL.tgK_some, ↓DL.x_asg, ↓DL.x_tgN, ↓DL.x_tgTup, ↓DL.x_tgNil, ↓DL.x_tgConsN, ↓DL.map_some, ↓DL.pts_nil, ↓DL.pts_cons, ↓DL.gl_lst, ↓DL.x_app, ↓DL.x_putIx, ↓DL.gf_lst, ↓DL.gf_fz, ↓DL.x_fz, ↓DL.x_for, ↓DL.x_end_nx, ↓DL.x_end_rt, ↓DL.g_eqS, ↓DL.g_eqI, ↓DL.g_neS, ↓DL.g_neI, ↓DL.g_lt, ↓DL.g_le, ↓DL.g_gt, ↓DL.g_ge, ↓DL.g_add, ↓DL.g_addL, ↓DL.g_addT, ↓DL.g_sub, ↓DL.g_mul, ↓DL.g_mulL, ↓DL.g_mod, ↓DL.g_fdiv, ↓DL.g_pow, ↓DL.g_isN, ↓DL.g_notN, ↓DL.g_ixT, ↓DL.g_ixL, ↓DL.g_ixS, ↓DL.ix0, ↓DL.ix1, ↓DL.ix2, ↓DL.ix3, ↓DL.ix4, ↓DL.ix5, ↓DL.ix6, ↓DL.ix7, ↓DL.g_lenT, ↓DL.g_lenL, ↓DL.g_lenS, ↓DL.g_int, ↓DL.g_intB, ↓DL.g_tupT, ↓DL.g_tupL, ↓DL.g_lsT, ↓DL.g_lsL, ↓DL.g_max, ↓DL.g_min, ↓DL.g_slT, ↓DL.g_slL, ↓DL.isQ_some, ↓DL.g_isi, ↓DL.i_int, ↓DL.i_bl, ↓DL.i_tup, ↓DL.i_lst, ↓DL.i_non, ↓DL.i_str, if_true, if_false, Bool.false_eq_true, Bool.not_true, Bool.not_false, reduceCtorEq, decide_eq_true_eq, decide_true, decide_false, Bool.not_eq_true', decide_eq_false_iff_not, ↓g_ixSt, seq_f, gList]
    exact q
end K64

namespace K64
open PySem L2 DL
theorem pd_non {p : Part} {m : Bool} : (p.d m).isNon = (match p with | .non => true | _ => false) := by
  cases p <;> cases m <;> rfl
theorem p_is_smooth (ds : List D) (Q : D → Prop) (E : DExc → Prop) (hl : ds.length = 2) (h : sp_is_smooth ds Q E) : b_is_smooth (dEnd Q E) (en N_is_smooth.length ds) := by
  obtain ⟨l, m, s, b, ps, ok, pk, rfl, q⟩ := h
  rw [en_is_smooth]
  have hp := pok_len ok pk
  simp only [↓DL.gt_0, ↓DL.gt_s, ↓DL.pt_0, ↓DL.pt_s, ↓DL.gv_fz, ↓DL.x_var, ↓DL.go_fz, ↓DL.go_lst, ↓DL.x_own, ↓DL.x_c, ↓DL.x_bin, ↓DL.x_tst, ↓DL.asB_bl, ↓DL.x_chain, ↓DL.x_and, ↓DL.x_or, ↓DL.x_not, ↓DL.x_andV, ↓DL.x_orV, ↓DL.x_notV, ↓DL.x_if, ↓DL.x_nil, ↓DL.x_cons, ↓DL.x_tup, ↓DL.x_cb, ↓DL.x_call, ↓DL.x_noPart, ↓DL.x_part, ↓DL.asI_int, ↓DL.x_sl, ↓DL.x_neg, ↓DL.x_lstV, ↓DL.x_listL, ↓DL.x_it, ↓DL.x_rng1, ↓DL.x_rng2, ↓DL.ints1_int, ↓DL.ints2_int, ↓DL.asL_lst, ↓DL.asL_tup, ↓DL.asL_scr, ↓DL.x_comp, ↓DL.x_yes, ↓DL.wip_nil, ↓DL.wip_cons, ↓DL.x_next, ↓DL.x_seq, ↓DL.x_brk, ↓DL.x_cont, ↓DL.x_expr, ↓DL.x_ret, ↓DL.x_retN, ↓DL.x_sif, ↓DL.x_set, ↓DL.x_setO, ↓DL.tgK_some, ↓DL.x_asg, ↓DL.x_tgN, ↓DL.x_tgTup, ↓DL.x_tgNil, ↓DL.x_tgConsN, ↓DL.map_some, ↓DL.pts_nil, ↓DL.pts_cons, ↓DL.gl_lst, ↓DL.x_app, ↓DL.x_putIx, ↓DL.gf_lst, ↓DL.gf_fz, ↓DL.x_fz, ↓DL.x_for, ↓DL.x_end_nx, ↓DL.x_end_rt, ↓DL.g_eqS, ↓DL.g_eqI, ↓DL.g_neS, ↓DL.g_neI, ↓DL.g_lt, ↓DL.g_le, ↓DL.g_gt, ↓DL.g_ge, ↓DL.g_add, ↓DL.g_addL, ↓DL.g_addT, ↓DL.g_sub, ↓DL.g_mul, ↓DL.g_mulL, ↓DL.g_mod, ↓DL.g_fdiv, ↓DL.g_pow, ↓DL.g_isN, ↓DL.g_notN, ↓DL.g_ixT, ↓DL.g_ixL, ↓DL.g_ixS, ↓DL.ix0, ↓DL.ix1, ↓DL.ix2, ↓DL.ix3, ↓DL.ix4, ↓DL.ix5, ↓DL.ix6, ↓DL.ix7, ↓DL.g_lenT, ↓DL.g_lenL, ↓DL.g_lenS, ↓DL.g_int, ↓DL.g_intB, ↓DL.g_tupT, ↓DL.g_tupL, ↓DL.g_lsT, ↓DL.g_lsL, ↓DL.g_max, ↓DL.g_min, ↓DL.g_slT, ↓DL.g_slL, ↓DL.isQ_some, ↓DL.g_isi, ↓DL.i_int, ↓DL.i_bl, ↓DL.i_tup, ↓DL.i_lst, ↓DL.i_non, ↓DL.i_str, if_true, if_false, Bool.false_eq_true, Bool.not_true, Bool.not_false, reduceCtorEq, decide_eq_true_eq, decide_true, decide_false, Bool.not_eq_true', decide_eq_false_iff_not, b_is_smooth, ↓g_ixQ, ↓xs0, kl, ↓g_ixSt, ↓asL_sec]
  have fin : ∀ p : Part → Bool, (∀ x ∈ ps, p x = !empty x) → Q (.bl (decide (((ps.filter p).map (Part.d m)).length = (0 : Int)))) := by
    intro p hx
    have e : decide ((((ps.filter p).map (Part.d m)).length : Int) = 0) = smooth ps := by
      rw [Bool.eq_iff_iff]
      simp only [List.length_map, decide_eq_true_eq, smooth, List.all_eq_true]
      rw [← List.countP_eq_length_filter]
      have : ((List.countP p ps : Nat) : Int) = 0 ↔ List.countP p ps = 0 := by omega
      rw [this, List.countP_eq_zero]
      constructor
      · intro h x hm
        have := h x hm
        rw [hx x hm] at this
        simpa using this
      · intro h x hm
        rw [hx x hm, h x hm]
        simp
    rw [e]
    exact q
  cases hf : s.fl with
  | false =>
    rw [if_pos rfl]
    refine ⟨by simp; omega, compGo_of (Part.d m) (fun p => !empty p) (Part.d m) _ _ (fun y hy => ⟨_, rfl, fun Q E q => ?_, fun _ Q E q => ?_⟩) ?_⟩
    · have hy' := pk.all y hy
      cases y with
      | non => rw [hy'] at hf; cases hf
      | fall t r => rw [hy'.1] at hf; cases hf
      | row r =>
        simp only [↓DL.gt_0, ↓DL.gt_s, ↓DL.pt_0, ↓DL.pt_s, ↓DL.gv_fz, ↓DL.x_var, ↓DL.go_fz, ↓DL.go_lst, ↓DL.x_own, ↓DL.x_c, ↓DL.x_bin, ↓DL.x_tst, ↓DL.asB_bl, ↓DL.x_chain, ↓DL.x_and, ↓DL.x_or, ↓DL.x_not, ↓DL.x_andV, ↓DL.x_orV, ↓DL.x_notV, ↓DL.x_if, ↓DL.x_nil, ↓DL.x_cons, ↓DL.x_tup, ↓DL.x_cb, ↓DL.x_call, ↓DL.x_noPart, ↓DL.x_part, ↓DL.asI_int, ↓DL.x_sl, ↓DL.x_neg, ↓DL.x_lstV, ↓DL.x_listL, ↓DL.x_it, ↓DL.x_rng1, ↓DL.x_rng2, ↓DL.ints1_int, ↓DL.ints2_int, ↓DL.asL_lst, ↓DL.asL_tup, ↓DL.asL_scr, ↓DL.x_comp, ↓DL.x_yes, ↓DL.wip_nil, ↓DL.wip_cons, ↓DL.x_next, ↓DL.x_seq, ↓DL.x_brk, ↓DL.x_cont, ↓DL.x_expr, ↓DL.x_ret, ↓DL.x_retN, ↓DL.x_sif, ↓DL.x_set, ↓DL.x_setO, ↓DL.tgK_some, ↓DL.x_asg, ↓DL.x_tgN, ↓DL.x_tgTup, ↓DL.x_tgNil, ↓DL.x_tgConsN, ↓DL.map_some, ↓DL.pts_nil, ↓DL.pts_cons, ↓DL.gl_lst, ↓DL.x_app, ↓DL.x_putIx, ↓DL.gf_lst, ↓DL.gf_fz, ↓DL.x_fz, ↓DL.x_for, ↓DL.x_end_nx, ↓DL.x_end_rt, ↓DL.g_eqS, ↓DL.g_eqI, ↓DL.g_neS, ↓DL.g_neI, ↓DL.g_lt, ↓DL.g_le, ↓DL.g_gt, ↓DL.g_ge, ↓DL.g_add, ↓DL.g_addL, ↓DL.g_addT, ↓DL.g_sub, ↓DL.g_mul, ↓DL.g_mulL, ↓DL.g_mod, ↓DL.g_fdiv, ↓DL.g_pow, ↓DL.g_isN, ↓DL.g_notN, ↓DL.g_ixT, ↓DL.g_ixL, ↓DL.g_ixS, ↓DL.ix0, ↓DL.ix1, ↓DL.ix2, ↓DL.ix3, ↓DL.ix4, ↓DL.ix5, ↓DL.ix6, ↓DL.ix7, ↓DL.g_lenT, ↓DL.g_lenL, ↓DL.g_lenS, ↓DL.g_int, ↓DL.g_intB, ↓DL.g_tupT, ↓DL.g_tupL, ↓DL.g_lsT, ↓DL.g_lsL, ↓DL.g_max, ↓DL.g_min, ↓DL.g_slT, ↓DL.g_slL, ↓DL.isQ_some, ↓DL.g_isi, ↓DL.i_int, ↓DL.i_bl, ↓DL.i_tup, ↓DL.i_lst, ↓DL.i_non, ↓DL.i_str, if_true, if_false, Bool.false_eq_true, Bool.not_true, Bool.not_false, reduceCtorEq, decide_eq_true_eq, decide_true, decide_false, Bool.not_eq_true', decide_eq_false_iff_not, Part.d, ↓g_lenQ, List.length_map]
        have e : decide (0 < (r.length : Int)) = !empty (.row r) := by cases r <;> simp [empty] <;> omega
        rw [e]
        exact q
    · simp only [↓DL.gt_0, ↓DL.gt_s, ↓DL.pt_0, ↓DL.pt_s, ↓DL.gv_fz, ↓DL.x_var, ↓DL.go_fz, ↓DL.go_lst, ↓DL.x_own, ↓DL.x_c, ↓DL.x_bin, ↓DL.x_tst, ↓DL.asB_bl, ↓DL.x_chain, ↓DL.x_and, ↓DL.x_or, ↓DL.x_not, ↓DL.x_andV, ↓DL.x_orV, ↓DL.x_notV, ↓DL.x_if, ↓DL.x_nil, ↓DL.x_cons, ↓DL.x_tup, ↓DL.x_cb, ↓DL.x_call, ↓DL.x_noPart, ↓DL.x_part, ↓DL.asI_int, ↓DL.x_sl, ↓DL.x_neg, ↓DL.x_lstV, ↓DL.x_listL, ↓DL.x_it, ↓DL.x_rng1, ↓DL.x_rng2, ↓DL.ints1_int, ↓DL.ints2_int, ↓DL.asL_lst, ↓DL.asL_tup, ↓DL.asL_scr, ↓DL.x_comp, ↓DL.x_yes, ↓DL.wip_nil, ↓DL.wip_cons, ↓DL.x_next, ↓DL.x_seq, ↓DL.x_brk, ↓DL.x_cont, ↓DL.x_expr, ↓DL.x_ret, ↓DL.x_retN, ↓DL.x_sif, ↓DL.x_set, ↓DL.x_setO, ↓DL.tgK_some, ↓DL.x_asg, ↓DL.x_tgN, ↓DL.x_tgTup, ↓DL.x_tgNil, ↓DL.x_tgConsN, ↓DL.map_some, ↓DL.pts_nil, ↓DL.pts_cons, ↓DL.gl_lst, ↓DL.x_app, ↓DL.x_putIx, ↓DL.gf_lst, ↓DL.gf_fz, ↓DL.x_fz, ↓DL.x_for, ↓DL.x_end_nx, ↓DL.x_end_rt, ↓DL.g_eqS, ↓DL.g_eqI, ↓DL.g_neS, ↓DL.g_neI, ↓DL.g_lt, ↓DL.g_le, ↓DL.g_gt, ↓DL.g_ge, ↓DL.g_add, ↓DL.g_addL, ↓DL.g_addT, ↓DL.g_sub, ↓DL.g_mul, ↓DL.g_mulL, ↓DL.g_mod, ↓DL.g_fdiv, ↓DL.g_pow, ↓DL.g_isN, ↓DL.g_notN, ↓DL.g_ixT, ↓DL.g_ixL, ↓DL.g_ixS, ↓DL.ix0, ↓DL.ix1, ↓DL.ix2, ↓DL.ix3, ↓DL.ix4, ↓DL.ix5, ↓DL.ix6, ↓DL.ix7, ↓DL.g_lenT, ↓DL.g_lenL, ↓DL.g_lenS, ↓DL.g_int, ↓DL.g_intB, ↓DL.g_tupT, ↓DL.g_tupL, ↓DL.g_lsT, ↓DL.g_lsL, ↓DL.g_max, ↓DL.g_min, ↓DL.g_slT, ↓DL.g_slL, ↓DL.isQ_some, ↓DL.g_isi, ↓DL.i_int, ↓DL.i_bl, ↓DL.i_tup, ↓DL.i_lst, ↓DL.i_non, ↓DL.i_str, if_true, if_false, Bool.false_eq_true, Bool.not_true, Bool.not_false, reduceCtorEq, decide_eq_true_eq, decide_true, decide_false, Bool.not_eq_true', decide_eq_false_iff_not]
      exact q
    · rw [List.nil_append]
      exact fin _ fun _ _ => rfl
  | true =>
    rw [if_neg (by simp)]
    refine ⟨by simp; omega, compGo_of (Part.d m) (fun p => !empty p) (Part.d m) _ _ (fun y hy => ⟨_, rfl, fun Q E q => ?_, fun _ Q E q => ?_⟩) ?_⟩
    · have hy' := pk.all y hy
      simp only [↓DL.gt_0, ↓DL.gt_s, ↓DL.pt_0, ↓DL.pt_s, ↓DL.gv_fz, ↓DL.x_var, ↓DL.go_fz, ↓DL.go_lst, ↓DL.x_own, ↓DL.x_c, ↓DL.x_bin, ↓DL.x_tst, ↓DL.asB_bl, ↓DL.x_chain, ↓DL.x_and, ↓DL.x_or, ↓DL.x_not, ↓DL.x_andV, ↓DL.x_orV, ↓DL.x_notV, ↓DL.x_if, ↓DL.x_nil, ↓DL.x_cons, ↓DL.x_tup, ↓DL.x_cb, ↓DL.x_call, ↓DL.x_noPart, ↓DL.x_part, ↓DL.asI_int, ↓DL.x_sl, ↓DL.x_neg, ↓DL.x_lstV, ↓DL.x_listL, ↓DL.x_it, ↓DL.x_rng1, ↓DL.x_rng2, ↓DL.ints1_int, ↓DL.ints2_int, ↓DL.asL_lst, ↓DL.asL_tup, ↓DL.asL_scr, ↓DL.x_comp, ↓DL.x_yes, ↓DL.wip_nil, ↓DL.wip_cons, ↓DL.x_next, ↓DL.x_seq, ↓DL.x_brk, ↓DL.x_cont, ↓DL.x_expr, ↓DL.x_ret, ↓DL.x_retN, ↓DL.x_sif, ↓DL.x_set, ↓DL.x_setO, ↓DL.tgK_some, ↓DL.x_asg, ↓DL.x_tgN, ↓DL.x_tgTup, ↓DL.x_tgNil, ↓DL.x_tgConsN, ↓DL.map_some, ↓DL.pts_nil, ↓DL.pts_cons, ↓DL.gl_lst, ↓DL.x_app, ↓DL.x_putIx, ↓DL.gf_lst, ↓DL.gf_fz, ↓DL.x_fz, ↓DL.x_for, ↓DL.x_end_nx, ↓DL.x_end_rt, ↓DL.g_eqS, ↓DL.g_eqI, ↓DL.g_neS, ↓DL.g_neI, ↓DL.g_lt, ↓DL.g_le, ↓DL.g_gt, ↓DL.g_ge, ↓DL.g_add, ↓DL.g_addL, ↓DL.g_addT, ↓DL.g_sub, ↓DL.g_mul, ↓DL.g_mulL, ↓DL.g_mod, ↓DL.g_fdiv, ↓DL.g_pow, ↓DL.g_isN, ↓DL.g_notN, ↓DL.g_ixT, ↓DL.g_ixL, ↓DL.g_ixS, ↓DL.ix0, ↓DL.ix1, ↓DL.ix2, ↓DL.ix3, ↓DL.ix4, ↓DL.ix5, ↓DL.ix6, ↓DL.ix7, ↓DL.g_lenT, ↓DL.g_lenL, ↓DL.g_lenS, ↓DL.g_int, ↓DL.g_intB, ↓DL.g_tupT, ↓DL.g_tupL, ↓DL.g_lsT, ↓DL.g_lsL, ↓DL.g_max, ↓DL.g_min, ↓DL.g_slT, ↓DL.g_slL, ↓DL.isQ_some, ↓DL.g_isi, ↓DL.i_int, ↓DL.i_bl, ↓DL.i_tup, ↓DL.i_lst, ↓DL.i_non, ↓DL.i_str, if_true, if_false, Bool.false_eq_true, Bool.not_true, Bool.not_false, reduceCtorEq, decide_eq_true_eq, decide_true, decide_false, Bool.not_eq_true', decide_eq_false_iff_not, pd_non]
      cases y with
      | non => exact q
      | fall t r => exact q
      | row r => rw [hy'.1] at hf; cases hf
    · simp only [↓DL.gt_0, ↓DL.gt_s, ↓DL.pt_0, ↓DL.pt_s, ↓DL.gv_fz, ↓DL.x_var, ↓DL.go_fz, ↓DL.go_lst, ↓DL.x_own, ↓DL.x_c, ↓DL.x_bin, ↓DL.x_tst, ↓DL.asB_bl, ↓DL.x_chain, ↓DL.x_and, ↓DL.x_or, ↓DL.x_not, ↓DL.x_andV, ↓DL.x_orV, ↓DL.x_notV, ↓DL.x_if, ↓DL.x_nil, ↓DL.x_cons, ↓DL.x_tup, ↓DL.x_cb, ↓DL.x_call, ↓DL.x_noPart, ↓DL.x_part, ↓DL.asI_int, ↓DL.x_sl, ↓DL.x_neg, ↓DL.x_lstV, ↓DL.x_listL, ↓DL.x_it, ↓DL.x_rng1, ↓DL.x_rng2, ↓DL.ints1_int, ↓DL.ints2_int, ↓DL.asL_lst, ↓DL.asL_tup, ↓DL.asL_scr, ↓DL.x_comp, ↓DL.x_yes, ↓DL.wip_nil, ↓DL.wip_cons, ↓DL.x_next, ↓DL.x_seq, ↓DL.x_brk, ↓DL.x_cont, ↓DL.x_expr, ↓DL.x_ret, ↓DL.x_retN, ↓DL.x_sif, ↓DL.x_set, ↓DL.x_setO, ↓DL.tgK_some, ↓DL.x_asg, ↓DL.x_tgN, ↓DL.x_tgTup, ↓DL.x_tgNil, ↓DL.x_tgConsN, ↓DL.map_some, ↓DL.pts_nil, ↓DL.pts_cons, ↓DL.gl_lst, ↓DL.x_app, ↓DL.x_putIx, ↓DL.gf_lst, ↓DL.gf_fz, ↓DL.x_fz, ↓DL.x_for, ↓DL.x_end_nx, ↓DL.x_end_rt, ↓DL.g_eqS, ↓DL.g_eqI, ↓DL.g_neS, ↓DL.g_neI, ↓DL.g_lt, ↓DL.g_le, ↓DL.g_gt, ↓DL.g_ge, ↓DL.g_add, ↓DL.g_addL, ↓DL.g_addT, ↓DL.g_sub, ↓DL.g_mul, ↓DL.g_mulL, ↓DL.g_mod, ↓DL.g_fdiv, ↓DL.g_pow, ↓DL.g_isN, ↓DL.g_notN, ↓DL.g_ixT, ↓DL.g_ixL, ↓DL.g_ixS, ↓DL.ix0, ↓DL.ix1, ↓DL.ix2, ↓DL.ix3, ↓DL.ix4, ↓DL.ix5, ↓DL.ix6, ↓DL.ix7, ↓DL.g_lenT, ↓DL.g_lenL, ↓DL.g_lenS, ↓DL.g_int, ↓DL.g_intB, ↓DL.g_tupT, ↓DL.g_tupL, ↓DL.g_lsT, ↓DL.g_lsL, ↓DL.g_max, ↓DL.g_min, ↓DL.g_slT, ↓DL.g_slL, ↓DL.isQ_some, ↓DL.g_isi, ↓DL.i_int, ↓DL.i_bl, ↓DL.i_tup, ↓DL.i_lst, ↓DL.i_non, ↓DL.i_str, if_true, if_false, Bool.false_eq_true, Bool.not_true, Bool.not_false, reduceCtorEq, decide_eq_true_eq, decide_true, decide_false, Bool.not_eq_true', decide_eq_false_iff_not]
      exact q
    · rw [List.nil_append]
      exact fin _ fun _ _ => rfl
def standN (s : St) (ps : List Part) (h : Nat) (x : Int) : Bool := if s.fl then match ps.getD h .non with | .fall t _ => decide (x < t) | _ => true else true
theorem filter_lt (t : Nat) : ∀ n : Nat, ((List.range n).filter fun x => decide (x < t)).length = min t n
  | 0 => by simp
  | n + 1 => by
    rw [List.range_succ, List.filter_append, List.length_append, filter_lt t n, List.filter_cons]
    by_cases h : n < t
    · simp [h]; omega
    · simp [h]; omega
theorem getD_mem {ps : List Part} {i : Nat} (h : i < ps.length) : ps.getD i .non ∈ ps := by
  rw [List.getD_eq_getElem?_getD, List.getElem?_eq_getElem h]
  exact List.getElem_mem h
theorem stand_len {s : St} {ps : List Part} {h : Nat} (ok : s.Ok) (pk : POk s ps) (hh : h < s.h) :
    (((List.range (s.l + 1)).filter fun x : Nat => standN s ps h x).length : Int) = (if s.fl then (match ps.getD h .non with | .fall t _ => t | _ => (s.l : Int) + 1) else (s.l : Int) + 1 : Int) := by
  unfold standN
  cases hf : s.fl with
  | false => simp [filter_t]
  | true =>
    simp only [if_true]
    have hp : h < ps.length := by rw [pk.len, if_pos hf]; exact hh
    have hk := pk.all _ (getD_mem hp)
    generalize ps.getD h .non = p at *
    cases p with
    | non => simp [filter_t]
    | row r => rw [hk.1] at hf; cases hf
    | fall t r =>
      obtain ⟨_, t1, t2, _⟩ := hk
      obtain ⟨n, rfl⟩ := Int.eq_ofNat_of_zero_le (by omega : 0 ≤ t)
      have e : (fun x : Nat => decide ((x : Int) < (n : Int))) = fun x : Nat => decide (x < n) := by
        funext x
        rw [Bool.eq_iff_iff]
        simp only [decide_eq_true_eq]
        omega
      rw [e, filter_lt]
      show ((min n (s.l + 1) : Nat) : Int) = (n : Int)
      omega
def cnt (s : St) (ps : List Part) (i : Nat) : Int := if s.fl then count s (ps.getD i .non) else s.l + 1
theorem p_counts_in_1 {l m : Bool} {s : St} {b : List Int} {ps : List Part} {Z : DEnd} (ok : s.Ok) (pk : POk s ps) : ∀ (n i : Nat) (acc : List Int) (o3 o4 o5 : Option O), i + n = s.h → acc.length = i →
    (∀ o3 o4 o5, Z.nx [some (.fz (seq l s.xs)), some (.fz (storyD m b ps)), some (.lst (iL (acc ++ (List.range' i n).map (cnt s ps)))), o3, o4, o5]) →
    forGo (tgN 3) lp_counts_in_1 Z (rng i n) [some (.fz (seq l s.xs)), some (.fz (storyD m b ps)), some (.lst (iL acc)), o3, o4, o5]
  | 0, i, acc, o3, o4, o5, hi, ha, q => by show Z.nx _; simpa using q o3 o4 o5
  | n + 1, i, acc, o3, o4, o5, hi, ha, q => by
    have l5 := ok.l5
    have h5 := ok.h5
    have hlen := stand_len (h := i) ok pk (by omega)
    simp only [↓DL.gt_0, ↓DL.gt_s, ↓DL.pt_0, ↓DL.pt_s, ↓DL.gv_fz, ↓DL.x_var, ↓DL.go_fz, ↓DL.go_lst, ↓DL.x_own, ↓DL.x_c, ↓DL.x_bin, ↓DL.x_tst, ↓DL.asB_bl, ↓DL.x_chain, ↓DL.x_and, ↓DL.x_or, ↓DL.x_not, ↓DL.x_andV, ↓DL.x_orV, ↓DL.x_notV, ↓DL.x_if, ↓DL.x_nil, ↓DL.x_cons, ↓DL.x_tup, ↓DL.x_cb, ↓DL.x_call, ↓DL.x_noPart, ↓DL.x_part, ↓DL.asI_int, ↓DL.x_sl, ↓DL.x_neg, ↓DL.x_lstV, ↓DL.x_listL, ↓DL.x_it, ↓DL.x_rng1, ↓DL.x_rng2, ↓DL.ints1_int, ↓DL.ints2_int, ↓DL.asL_lst, ↓DL.asL_tup, ↓DL.asL_scr, ↓DL.x_comp, ↓DL.x_yes, ↓DL.wip_nil, ↓DL.wip_cons, ↓DL.x_next, ↓DL.x_seq, ↓DL.x_brk, ↓DL.x_cont, ↓DL.x_expr, ↓DL.x_ret, ↓DL.x_retN, ↓DL.x_sif, ↓DL.x_set, ↓DL.x_setO, ↓DL.tgK_some, ↓DL.x_asg, ↓DL.x_tgN, ↓DL.x_tgTup, ↓DL.x_tgNil, ↓DL.x_tgConsN, ↓DL.map_some, ↓DL.pts_nil, ↓DL.pts_cons, ↓DL.gl_lst, ↓DL.x_app, ↓DL.x_putIx, ↓DL.gf_lst, ↓DL.gf_fz, ↓DL.x_fz, ↓DL.x_for, ↓DL.x_end_nx, ↓DL.x_end_rt, ↓DL.g_eqS, ↓DL.g_eqI, ↓DL.g_neS, ↓DL.g_neI, ↓DL.g_lt, ↓DL.g_le, ↓DL.g_gt, ↓DL.g_ge, ↓DL.g_add, ↓DL.g_addL, ↓DL.g_addT, ↓DL.g_sub, ↓DL.g_mul, ↓DL.g_mulL, ↓DL.g_mod, ↓DL.g_fdiv, ↓DL.g_pow, ↓DL.g_isN, ↓DL.g_notN, ↓DL.g_ixT, ↓DL.g_ixL, ↓DL.g_ixS, ↓DL.ix0, ↓DL.ix1, ↓DL.ix2, ↓DL.ix3, ↓DL.ix4, ↓DL.ix5, ↓DL.ix6, ↓DL.ix7, ↓DL.g_lenT, ↓DL.g_lenL, ↓DL.g_lenS, ↓DL.g_int, ↓DL.g_intB, ↓DL.g_tupT, ↓DL.g_tupL, ↓DL.g_lsT, ↓DL.g_lsL, ↓DL.g_max, ↓DL.g_min, ↓DL.g_slT, ↓DL.g_slL, ↓DL.isQ_some, ↓DL.g_isi, ↓DL.i_int, ↓DL.i_bl, ↓DL.i_tup, ↓DL.i_lst, ↓DL.i_non, ↓DL.i_str, if_true, if_false, Bool.false_eq_true, Bool.not_true, Bool.not_false, reduceCtorEq, decide_eq_true_eq, decide_true, decide_false, Bool.not_eq_true', decide_eq_false_iff_not, rng, ↓forGo_cons, ↓u_counts_in_1, ↓g_ixQ, ↓xs3, List.length_map]
    refine ⟨by omega, by omega, ?_⟩
    have e1 : ((s.l : Int) + 1).toNat = s.l + 1 := by omega
    rw [e1, rngE]
    refine ⟨by simp; omega, ?_⟩
    rw [show iL ((List.range (s.l + 1)).map fun i : Nat => (i : Int)) = (List.range (s.l + 1)).map fun i : Nat => D.int (i : Int) by simp]
    refine compGo_of (fun i : Nat => D.int (i : Int)) (fun x => standN s ps i x) (fun i : Nat => D.int (i : Int)) _ _ (fun y hy => ⟨_, rfl, fun Q E q => ?_, fun _ Q E q => ?_⟩) ?_
    · simp only [↓DL.gt_0, ↓DL.gt_s, ↓DL.pt_0, ↓DL.pt_s, ↓DL.gv_fz, ↓DL.x_var, ↓DL.go_fz, ↓DL.go_lst, ↓DL.x_own, ↓DL.x_c, ↓DL.x_bin, ↓DL.x_tst, ↓DL.asB_bl, ↓DL.x_chain, ↓DL.x_and, ↓DL.x_or, ↓DL.x_not, ↓DL.x_andV, ↓DL.x_orV, ↓DL.x_notV, ↓DL.x_if, ↓DL.x_nil, ↓DL.x_cons, ↓DL.x_tup, ↓DL.x_cb, ↓DL.x_call, ↓DL.x_noPart, ↓DL.x_part, ↓DL.asI_int, ↓DL.x_sl, ↓DL.x_neg, ↓DL.x_lstV, ↓DL.x_listL, ↓DL.x_it, ↓DL.x_rng1, ↓DL.x_rng2, ↓DL.ints1_int, ↓DL.ints2_int, ↓DL.asL_lst, ↓DL.asL_tup, ↓DL.asL_scr, ↓DL.x_comp, ↓DL.x_yes, ↓DL.wip_nil, ↓DL.wip_cons, ↓DL.x_next, ↓DL.x_seq, ↓DL.x_brk, ↓DL.x_cont, ↓DL.x_expr, ↓DL.x_ret, ↓DL.x_retN, ↓DL.x_sif, ↓DL.x_set, ↓DL.x_setO, ↓DL.tgK_some, ↓DL.x_asg, ↓DL.x_tgN, ↓DL.x_tgTup, ↓DL.x_tgNil, ↓DL.x_tgConsN, ↓DL.map_some, ↓DL.pts_nil, ↓DL.pts_cons, ↓DL.gl_lst, ↓DL.x_app, ↓DL.x_putIx, ↓DL.gf_lst, ↓DL.gf_fz, ↓DL.x_fz, ↓DL.x_for, ↓DL.x_end_nx, ↓DL.x_end_rt, ↓DL.g_eqS, ↓DL.g_eqI, ↓DL.g_neS, ↓DL.g_neI, ↓DL.g_lt, ↓DL.g_le, ↓DL.g_gt, ↓DL.g_ge, ↓DL.g_add, ↓DL.g_addL, ↓DL.g_addT, ↓DL.g_sub, ↓DL.g_mul, ↓DL.g_mulL, ↓DL.g_mod, ↓DL.g_fdiv, ↓DL.g_pow, ↓DL.g_isN, ↓DL.g_notN, ↓DL.g_ixT, ↓DL.g_ixL, ↓DL.g_ixS, ↓DL.ix0, ↓DL.ix1, ↓DL.ix2, ↓DL.ix3, ↓DL.ix4, ↓DL.ix5, ↓DL.ix6, ↓DL.ix7, ↓DL.g_lenT, ↓DL.g_lenL, ↓DL.g_lenS, ↓DL.g_int, ↓DL.g_intB, ↓DL.g_tupT, ↓DL.g_tupL, ↓DL.g_lsT, ↓DL.g_lsL, ↓DL.g_max, ↓DL.g_min, ↓DL.g_slT, ↓DL.g_slL, ↓DL.isQ_some, ↓DL.g_isi, ↓DL.i_int, ↓DL.i_bl, ↓DL.i_tup, ↓DL.i_lst, ↓DL.i_non, ↓DL.i_str, if_true, if_false, Bool.false_eq_true, Bool.not_true, Bool.not_false, reduceCtorEq, decide_eq_true_eq, decide_true, decide_false, Bool.not_eq_true', decide_eq_false_iff_not]
      refine ⟨l, m, s, b, ps, i, y, ok, pk, by omega, rfl, ?_⟩
      exact q
    · simp only [↓DL.gt_0, ↓DL.gt_s, ↓DL.pt_0, ↓DL.pt_s, ↓DL.gv_fz, ↓DL.x_var, ↓DL.go_fz, ↓DL.go_lst, ↓DL.x_own, ↓DL.x_c, ↓DL.x_bin, ↓DL.x_tst, ↓DL.asB_bl, ↓DL.x_chain, ↓DL.x_and, ↓DL.x_or, ↓DL.x_not, ↓DL.x_andV, ↓DL.x_orV, ↓DL.x_notV, ↓DL.x_if, ↓DL.x_nil, ↓DL.x_cons, ↓DL.x_tup, ↓DL.x_cb, ↓DL.x_call, ↓DL.x_noPart, ↓DL.x_part, ↓DL.asI_int, ↓DL.x_sl, ↓DL.x_neg, ↓DL.x_lstV, ↓DL.x_listL, ↓DL.x_it, ↓DL.x_rng1, ↓DL.x_rng2, ↓DL.ints1_int, ↓DL.ints2_int, ↓DL.asL_lst, ↓DL.asL_tup, ↓DL.asL_scr, ↓DL.x_comp, ↓DL.x_yes, ↓DL.wip_nil, ↓DL.wip_cons, ↓DL.x_next, ↓DL.x_seq, ↓DL.x_brk, ↓DL.x_cont, ↓DL.x_expr, ↓DL.x_ret, ↓DL.x_retN, ↓DL.x_sif, ↓DL.x_set, ↓DL.x_setO, ↓DL.tgK_some, ↓DL.x_asg, ↓DL.x_tgN, ↓DL.x_tgTup, ↓DL.x_tgNil, ↓DL.x_tgConsN, ↓DL.map_some, ↓DL.pts_nil, ↓DL.pts_cons, ↓DL.gl_lst, ↓DL.x_app, ↓DL.x_putIx, ↓DL.gf_lst, ↓DL.gf_fz, ↓DL.x_fz, ↓DL.x_for, ↓DL.x_end_nx, ↓DL.x_end_rt, ↓DL.g_eqS, ↓DL.g_eqI, ↓DL.g_neS, ↓DL.g_neI, ↓DL.g_lt, ↓DL.g_le, ↓DL.g_gt, ↓DL.g_ge, ↓DL.g_add, ↓DL.g_addL, ↓DL.g_addT, ↓DL.g_sub, ↓DL.g_mul, ↓DL.g_mulL, ↓DL.g_mod, ↓DL.g_fdiv, ↓DL.g_pow, ↓DL.g_isN, ↓DL.g_notN, ↓DL.g_ixT, ↓DL.g_ixL, ↓DL.g_ixS, ↓DL.ix0, ↓DL.ix1, ↓DL.ix2, ↓DL.ix3, ↓DL.ix4, ↓DL.ix5, ↓DL.ix6, ↓DL.ix7, ↓DL.g_lenT, ↓DL.g_lenL, ↓DL.g_lenS, ↓DL.g_int, ↓DL.g_intB, ↓DL.g_tupT, ↓DL.g_tupL, ↓DL.g_lsT, ↓DL.g_lsL, ↓DL.g_max, ↓DL.g_min, ↓DL.g_slT, ↓DL.g_slL, ↓DL.isQ_some, ↓DL.g_isi, ↓DL.i_int, ↓DL.i_bl, ↓DL.i_tup, ↓DL.i_lst, ↓DL.i_non, ↓DL.i_str, if_true, if_false, Bool.false_eq_true, Bool.not_true, Bool.not_false, reduceCtorEq, decide_eq_true_eq, decide_true, decide_false, Bool.not_eq_true', decide_eq_false_iff_not]
      exact q
    · have ih : ∀ o3 o4 o5, forGo (tgN 3) lp_counts_in_1 Z (rng ((i : Int) + 1) n) [some (.fz (seq l s.xs)), some (.fz (storyD m b ps)), some (.lst (iL acc ++ [.int (cnt s ps i)])), o3, o4, o5] := by
        intro o3 o4 o5
        have e : iL acc ++ [.int (cnt s ps i)] = iL (acc ++ [cnt s ps i]) := by simp
        rw [e]
        refine p_counts_in_1 ok pk n (i + 1) _ o3 o4 o5 (by omega) (by simp; omega) fun o3 o4 o5 => ?_
        rw [List.append_assoc]
        simpa [List.range'_succ] using q o3 o4 o5
      simp only [↓DL.gt_0, ↓DL.gt_s, ↓DL.pt_0, ↓DL.pt_s, ↓DL.gv_fz, ↓DL.x_var, ↓DL.go_fz, ↓DL.go_lst, ↓DL.x_own, ↓DL.x_c, ↓DL.x_bin, ↓DL.x_tst, ↓DL.asB_bl, ↓DL.x_chain, ↓DL.x_and, ↓DL.x_or, ↓DL.x_not, ↓DL.x_andV, ↓DL.x_orV, ↓DL.x_notV, ↓DL.x_if, ↓DL.x_nil, ↓DL.x_cons, ↓DL.x_tup, ↓DL.x_cb, ↓DL.x_call, ↓DL.x_noPart, ↓DL.x_part, ↓DL.asI_int, ↓DL.x_sl, ↓DL.x_neg, ↓DL.x_lstV, ↓DL.x_listL, ↓DL.x_it, ↓DL.x_rng1, ↓DL.x_rng2, ↓DL.ints1_int, ↓DL.ints2_int, ↓DL.asL_lst, ↓DL.asL_tup, ↓DL.asL_scr, ↓DL.x_comp, ↓DL.x_yes, ↓DL.wip_nil, ↓DL.wip_cons, ↓DL.x_next, ↓DL.x_seq, ↓DL.x_brk, ↓DL.x_cont, ↓DL.x_expr, ↓DL.x_ret, ↓DL.x_retN, ↓DL.x_sif, ↓DL.x_set, ↓DL.x_setO, ↓DL.tgK_some, ↓DL.x_asg, ↓DL.x_tgN, ↓DL.x_tgTup, ↓DL.x_tgNil, ↓DL.x_tgConsN, ↓DL.map_some, ↓DL.pts_nil, ↓DL.pts_cons, ↓DL.gl_lst, ↓DL.x_app, ↓DL.x_putIx, ↓DL.gf_lst, ↓DL.gf_fz, ↓DL.x_fz, ↓DL.x_for, ↓DL.x_end_nx, ↓DL.x_end_rt, ↓DL.g_eqS, ↓DL.g_eqI, ↓DL.g_neS, ↓DL.g_neI, ↓DL.g_lt, ↓DL.g_le, ↓DL.g_gt, ↓DL.g_ge, ↓DL.g_add, ↓DL.g_addL, ↓DL.g_addT, ↓DL.g_sub, ↓DL.g_mul, ↓DL.g_mulL, ↓DL.g_mod, ↓DL.g_fdiv, ↓DL.g_pow, ↓DL.g_isN, ↓DL.g_notN, ↓DL.g_ixT, ↓DL.g_ixL, ↓DL.g_ixS, ↓DL.ix0, ↓DL.ix1, ↓DL.ix2, ↓DL.ix3, ↓DL.ix4, ↓DL.ix5, ↓DL.ix6, ↓DL.ix7, ↓DL.g_lenT, ↓DL.g_lenL, ↓DL.g_lenS, ↓DL.g_int, ↓DL.g_intB, ↓DL.g_tupT, ↓DL.g_tupL, ↓DL.g_lsT, ↓DL.g_lsL, ↓DL.g_max, ↓DL.g_min, ↓DL.g_slT, ↓DL.g_slL, ↓DL.isQ_some, ↓DL.g_isi, ↓DL.i_int, ↓DL.i_bl, ↓DL.i_tup, ↓DL.i_lst, ↓DL.i_non, ↓DL.i_str, if_true, if_false, Bool.false_eq_true, Bool.not_true, Bool.not_false, reduceCtorEq, decide_eq_true_eq, decide_true, decide_false, Bool.not_eq_true', decide_eq_false_iff_not, ↓xs6, ks, List.nil_append, List.length_map]
      rw [hlen]
      unfold cnt at ih
      cases hf : s.fl with
      | false =>
        rw [hf] at ih
        rw [if_neg Bool.false_ne_true, if_neg (by omega)]
        exact ⟨by omega, ih _ _ _⟩
      | true =>
        rw [hf, if_pos rfl] at ih
        rw [if_pos rfl]
        have hp : i < ps.length := by rw [pk.len, if_pos hf]; omega
        have hk := pk.all _ (getD_mem hp)
        generalize ps.getD i .non = p at *
        cases p with
        | non =>
          rw [if_neg (by show ¬ ((s.l : Int) + 1 ≤ s.l); omega)]
          exact ⟨by omega, ih _ _ _⟩
        | row r => rw [hk.1] at hf; cases hf
        | fall t r =>
          obtain ⟨_, t1, t2, _⟩ := hk
          rw [if_pos (by show t ≤ s.l; omega)]
          refine (xs6 hf).symm ▸ ?_
          unfold count at ih
          simp only [↓DL.gt_0, ↓DL.gt_s, ↓DL.pt_0, ↓DL.pt_s, ↓DL.gv_fz, ↓DL.x_var, ↓DL.go_fz, ↓DL.go_lst, ↓DL.x_own, ↓DL.x_c, ↓DL.x_bin, ↓DL.x_tst, ↓DL.asB_bl, ↓DL.x_chain, ↓DL.x_and, ↓DL.x_or, ↓DL.x_not, ↓DL.x_andV, ↓DL.x_orV, ↓DL.x_notV, ↓DL.x_if, ↓DL.x_nil, ↓DL.x_cons, ↓DL.x_tup, ↓DL.x_cb, ↓DL.x_call, ↓DL.x_noPart, ↓DL.x_part, ↓DL.asI_int, ↓DL.x_sl, ↓DL.x_neg, ↓DL.x_lstV, ↓DL.x_listL, ↓DL.x_it, ↓DL.x_rng1, ↓DL.x_rng2, ↓DL.ints1_int, ↓DL.ints2_int, ↓DL.asL_lst, ↓DL.asL_tup, ↓DL.asL_scr, ↓DL.x_comp, ↓DL.x_yes, ↓DL.wip_nil, ↓DL.wip_cons, ↓DL.x_next, ↓DL.x_seq, ↓DL.x_brk, ↓DL.x_cont, ↓DL.x_expr, ↓DL.x_ret, ↓DL.x_retN, ↓DL.x_sif, ↓DL.x_set, ↓DL.x_setO, ↓DL.tgK_some, ↓DL.x_asg, ↓DL.x_tgN, ↓DL.x_tgTup, ↓DL.x_tgNil, ↓DL.x_tgConsN, ↓DL.map_some, ↓DL.pts_nil, ↓DL.pts_cons, ↓DL.gl_lst, ↓DL.x_app, ↓DL.x_putIx, ↓DL.gf_lst, ↓DL.gf_fz, ↓DL.x_fz, ↓DL.x_for, ↓DL.x_end_nx, ↓DL.x_end_rt, ↓DL.g_eqS, ↓DL.g_eqI, ↓DL.g_neS, ↓DL.g_neI, ↓DL.g_lt, ↓DL.g_le, ↓DL.g_gt, ↓DL.g_ge, ↓DL.g_add, ↓DL.g_addL, ↓DL.g_addT, ↓DL.g_sub, ↓DL.g_mul, ↓DL.g_mulL, ↓DL.g_mod, ↓DL.g_fdiv, ↓DL.g_pow, ↓DL.g_isN, ↓DL.g_notN, ↓DL.g_ixT, ↓DL.g_ixL, ↓DL.g_ixS, ↓DL.ix0, ↓DL.ix1, ↓DL.ix2, ↓DL.ix3, ↓DL.ix4, ↓DL.ix5, ↓DL.ix6, ↓DL.ix7, ↓DL.g_lenT, ↓DL.g_lenL, ↓DL.g_lenS, ↓DL.g_int, ↓DL.g_intB, ↓DL.g_tupT, ↓DL.g_tupL, ↓DL.g_lsT, ↓DL.g_lsL, ↓DL.g_max, ↓DL.g_min, ↓DL.g_slT, ↓DL.g_slL, ↓DL.isQ_some, ↓DL.g_isi, ↓DL.i_int, ↓DL.i_bl, ↓DL.i_tup, ↓DL.i_lst, ↓DL.i_non, ↓DL.i_str, if_true, if_false, Bool.false_eq_true, Bool.not_true, Bool.not_false, reduceCtorEq, decide_eq_true_eq, decide_true, decide_false, Bool.not_eq_true', decide_eq_false_iff_not, ks]
          cases hl : s.lasting with
          | true =>
            rw [hl] at ih
            exact ⟨by omega, ih _ _ _⟩
          | false =>
            rw [hl] at ih
            exact ⟨by omega, ih _ _ _⟩
end K64

namespace K64
open PySem L2 DL
theorem cnts {s : St} {ps : List Part} : (List.range' 0 s.h).map (cnt s ps) = counts s ps := by
  unfold counts
  rw [List.range_eq_range']
  rfl
theorem p_counts_in (ds : List D) (Q : D → Prop) (E : DExc → Prop) (hl : ds.length = 2) (h : sp_counts_in ds Q E) : b_counts_in (dEnd Q E) (en N_counts_in.length ds) := by
  obtain ⟨l, m, s, b, ps, ok, pk, rfl, q⟩ := h
  have h5 := ok.h5
  rw [en_counts_in]
  simp only [↓DL.gt_0, ↓DL.gt_s, ↓DL.pt_0, ↓DL.pt_s, ↓DL.gv_fz, ↓DL.x_var, ↓DL.go_fz, ↓DL.go_lst, ↓DL.x_own, ↓DL.x_c, ↓DL.x_bin, ↓DL.x_tst, ↓DL.asB_bl, ↓DL.x_chain, ↓DL.x_and, ↓DL.x_or, ↓DL.x_not, ↓DL.x_andV, ↓DL.x_orV, ↓DL.x_notV, ↓DL.x_if, ↓DL.x_nil, ↓DL.x_cons, ↓DL.x_tup, ↓DL.x_cb, ↓DL.x_call, ↓DL.x_noPart, ↓DL.x_part, ↓DL.asI_int, ↓DL.x_sl, ↓DL.x_neg, ↓DL.x_lstV, ↓DL.x_listL, ↓DL.x_it, ↓DL.x_rng1, ↓DL.x_rng2, ↓DL.ints1_int, ↓DL.ints2_int, ↓DL.asL_lst, ↓DL.asL_tup, ↓DL.asL_scr, ↓DL.x_comp, ↓DL.x_yes, ↓DL.wip_nil, ↓DL.wip_cons, ↓DL.x_next, ↓DL.x_seq, ↓DL.x_brk, ↓DL.x_cont, ↓DL.x_expr, ↓DL.x_ret, ↓DL.x_retN, ↓DL.x_sif, ↓DL.x_set, ↓DL.x_setO, ↓DL.tgK_some, ↓DL.x_asg, ↓DL.x_tgN, ↓DL.x_tgTup, ↓DL.x_tgNil, ↓DL.x_tgConsN, ↓DL.map_some, ↓DL.pts_nil, ↓DL.pts_cons, ↓DL.gl_lst, ↓DL.x_app, ↓DL.x_putIx, ↓DL.gf_lst, ↓DL.gf_fz, ↓DL.x_fz, ↓DL.x_for, ↓DL.x_end_nx, ↓DL.x_end_rt, ↓DL.g_eqS, ↓DL.g_eqI, ↓DL.g_neS, ↓DL.g_neI, ↓DL.g_lt, ↓DL.g_le, ↓DL.g_gt, ↓DL.g_ge, ↓DL.g_add, ↓DL.g_addL, ↓DL.g_addT, ↓DL.g_sub, ↓DL.g_mul, ↓DL.g_mulL, ↓DL.g_mod, ↓DL.g_fdiv, ↓DL.g_pow, ↓DL.g_isN, ↓DL.g_notN, ↓DL.g_ixT, ↓DL.g_ixL, ↓DL.g_ixS, ↓DL.ix0, ↓DL.ix1, ↓DL.ix2, ↓DL.ix3, ↓DL.ix4, ↓DL.ix5, ↓DL.ix6, ↓DL.ix7, ↓DL.g_lenT, ↓DL.g_lenL, ↓DL.g_lenS, ↓DL.g_int, ↓DL.g_intB, ↓DL.g_tupT, ↓DL.g_tupL, ↓DL.g_lsT, ↓DL.g_lsL, ↓DL.g_max, ↓DL.g_min, ↓DL.g_slT, ↓DL.g_slL, ↓DL.isQ_some, ↓DL.g_isi, ↓DL.i_int, ↓DL.i_bl, ↓DL.i_tup, ↓DL.i_lst, ↓DL.i_non, ↓DL.i_str, if_true, if_false, Bool.false_eq_true, Bool.not_true, Bool.not_false, reduceCtorEq, decide_eq_true_eq, decide_true, decide_false, Bool.not_eq_true', decide_eq_false_iff_not, b_counts_in, ↓g_ixQ, ↓xs1]
  refine ⟨by omega, by omega, ?_⟩
  rw [Int.toNat_natCast]
  refine p_counts_in_1 ok pk s.h 0 [] _ _ _ (by omega) rfl fun o3 o4 o5 => ?_
  simp only [↓DL.gt_0, ↓DL.gt_s, ↓DL.pt_0, ↓DL.pt_s, ↓DL.gv_fz, ↓DL.x_var, ↓DL.go_fz, ↓DL.go_lst, ↓DL.x_own, ↓DL.x_c, ↓DL.x_bin, ↓DL.x_tst, ↓DL.asB_bl, ↓DL.x_chain, ↓DL.x_and, ↓DL.x_or, ↓DL.x_not, ↓DL.x_andV, ↓DL.x_orV, ↓DL.x_notV, ↓DL.x_if, ↓DL.x_nil, ↓DL.x_cons, ↓DL.x_tup, ↓DL.x_cb, ↓DL.x_call, ↓DL.x_noPart, ↓DL.x_part, ↓DL.asI_int, ↓DL.x_sl, ↓DL.x_neg, ↓DL.x_lstV, ↓DL.x_listL, ↓DL.x_it, ↓DL.x_rng1, ↓DL.x_rng2, ↓DL.ints1_int, ↓DL.ints2_int, ↓DL.asL_lst, ↓DL.asL_tup, ↓DL.asL_scr, ↓DL.x_comp, ↓DL.x_yes, ↓DL.wip_nil, ↓DL.wip_cons, ↓DL.x_next, ↓DL.x_seq, ↓DL.x_brk, ↓DL.x_cont, ↓DL.x_expr, ↓DL.x_ret, ↓DL.x_retN, ↓DL.x_sif, ↓DL.x_set, ↓DL.x_setO, ↓DL.tgK_some, ↓DL.x_asg, ↓DL.x_tgN, ↓DL.x_tgTup, ↓DL.x_tgNil, ↓DL.x_tgConsN, ↓DL.map_some, ↓DL.pts_nil, ↓DL.pts_cons, ↓DL.gl_lst, ↓DL.x_app, ↓DL.x_putIx, ↓DL.gf_lst, ↓DL.gf_fz, ↓DL.x_fz, ↓DL.x_for, ↓DL.x_end_nx, ↓DL.x_end_rt, ↓DL.g_eqS, ↓DL.g_eqI, ↓DL.g_neS, ↓DL.g_neI, ↓DL.g_lt, ↓DL.g_le, ↓DL.g_gt, ↓DL.g_ge, ↓DL.g_add, ↓DL.g_addL, ↓DL.g_addT, ↓DL.g_sub, ↓DL.g_mul, ↓DL.g_mulL, ↓DL.g_mod, ↓DL.g_fdiv, ↓DL.g_pow, ↓DL.g_isN, ↓DL.g_notN, ↓DL.g_ixT, ↓DL.g_ixL, ↓DL.g_ixS, ↓DL.ix0, ↓DL.ix1, ↓DL.ix2, ↓DL.ix3, ↓DL.ix4, ↓DL.ix5, ↓DL.ix6, ↓DL.ix7, ↓DL.g_lenT, ↓DL.g_lenL, ↓DL.g_lenS, ↓DL.g_int, ↓DL.g_intB, ↓DL.g_tupT, ↓DL.g_tupL, ↓DL.g_lsT, ↓DL.g_lsL, ↓DL.g_max, ↓DL.g_min, ↓DL.g_slT, ↓DL.g_slL, ↓DL.isQ_some, ↓DL.g_isi, ↓DL.i_int, ↓DL.i_bl, ↓DL.i_tup, ↓DL.i_lst, ↓DL.i_non, ↓DL.i_str, if_true, if_false, Bool.false_eq_true, Bool.not_true, Bool.not_false, reduceCtorEq, decide_eq_true_eq, decide_true, decide_false, Bool.not_eq_true', decide_eq_false_iff_not]
  rw [List.nil_append, cnts]
  exact q
theorem p_l_counts_1 {s : St} {b : List Int} {ps : List Part} {Z : DEnd} (ok : s.Ok) (pk : POk s ps) : ∀ (n i : Nat) (acc : List Int) (o3 : Option O), i + n = s.h → acc.length = i →
    (∀ o3, Z.nx [some (.fz (.tup s.xs)), some (.fz (storyD false b ps)), some (.lst (iL (acc ++ (List.range' i n).map (cnt s ps)))), o3]) →
    forGo (tgN 3) lp_l_counts_1 Z (rng i n) [some (.fz (.tup s.xs)), some (.fz (storyD false b ps)), some (.lst (iL acc)), o3]
  | 0, i, acc, o3, hi, ha, q => by show Z.nx _; simpa using q o3
  | n + 1, i, acc, o3, hi, ha, q => by
    have l5 := ok.l5
    have h5 := ok.h5
    have ih : ∀ o3, forGo (tgN 3) lp_l_counts_1 Z (rng ((i : Int) + 1) n) [some (.fz (.tup s.xs)), some (.fz (storyD false b ps)), some (.lst (iL acc ++ [.int (cnt s ps i)])), o3] := by
      intro o3
      have e : iL acc ++ [.int (cnt s ps i)] = iL (acc ++ [cnt s ps i]) := by simp
      rw [e]
      refine p_l_counts_1 ok pk n (i + 1) _ o3 (by omega) (by simp; omega) fun o3 => ?_
      rw [List.append_assoc]
      simpa [List.range'_succ] using q o3
    simp only [↓DL.gt_0, ↓DL.gt_s, ↓DL.pt_0, ↓DL.pt_s, ↓DL.gv_fz, ↓DL.x_var, ↓DL.go_fz, ↓DL.go_lst, ↓DL.x_own, ↓DL.x_c, ↓DL.x_bin, ↓DL.x_tst, ↓DL.asB_bl, ↓DL.x_chain, ↓DL.x_and, ↓DL.x_or, ↓DL.x_not, ↓DL.x_andV, ↓DL.x_orV, ↓DL.x_notV, ↓DL.x_if, ↓DL.x_nil, ↓DL.x_cons, ↓DL.x_tup, ↓DL.x_cb, ↓DL.x_call, ↓DL.x_noPart, ↓DL.x_part, ↓DL.asI_int, ↓DL.x_sl, ↓DL.x_neg, ↓DL.x_lstV, ↓DL.x_listL, ↓DL.x_it, ↓DL.x_rng1, ↓DL.x_rng2, ↓DL.ints1_int, ↓DL.ints2_int, ↓DL.asL_lst, ↓DL.asL_tup, ↓DL.asL_scr, ↓DL.x_comp, ↓DL.x_yes, ↓DL.wip_nil, ↓DL.wip_cons, ↓DL.x_next, ↓DL.x_seq, ↓DL.x_brk, ↓DL.x_cont, ↓DL.x_expr, ↓DL.x_ret, ↓DL.x_retN, ↓DL.x_sif, ↓DL.x_set, ↓DL.x_setO, ↓DL.tgK_some, ↓DL.x_asg, ↓DL.x_tgN, ↓DL.x_tgTup, ↓DL.x_tgNil, ↓DL.x_tgConsN, ↓DL.map_some, ↓DL.pts_nil, ↓DL.pts_cons, ↓DL.gl_lst, ↓DL.x_app, ↓DL.x_putIx, ↓DL.gf_lst, ↓DL.gf_fz, ↓DL.x_fz, ↓DL.x_for, ↓DL.x_end_nx, ↓DL.x_end_rt, ↓DL.g_eqS, ↓DL.g_eqI, ↓DL.g_neS, ↓DL.g_neI, ↓DL.g_lt, ↓DL.g_le, ↓DL.g_gt, ↓DL.g_ge, ↓DL.g_add, ↓DL.g_addL, ↓DL.g_addT, ↓DL.g_sub, ↓DL.g_mul, ↓DL.g_mulL, ↓DL.g_mod, ↓DL.g_fdiv, ↓DL.g_pow, ↓DL.g_isN, ↓DL.g_notN, ↓DL.g_ixT, ↓DL.g_ixL, ↓DL.g_ixS, ↓DL.ix0, ↓DL.ix1, ↓DL.ix2, ↓DL.ix3, ↓DL.ix4, ↓DL.ix5, ↓DL.ix6, ↓DL.ix7, ↓DL.g_lenT, ↓DL.g_lenL, ↓DL.g_lenS, ↓DL.g_int, ↓DL.g_intB, ↓DL.g_tupT, ↓DL.g_tupL, ↓DL.g_lsT, ↓DL.g_lsL, ↓DL.g_max, ↓DL.g_min, ↓DL.g_slT, ↓DL.g_slL, ↓DL.isQ_some, ↓DL.g_isi, ↓DL.i_int, ↓DL.i_bl, ↓DL.i_tup, ↓DL.i_lst, ↓DL.i_non, ↓DL.i_str, if_true, if_false, Bool.false_eq_true, Bool.not_true, Bool.not_false, reduceCtorEq, decide_eq_true_eq, decide_true, decide_false, Bool.not_eq_true', decide_eq_false_iff_not, rng, ↓forGo_cons, ↓u_l_counts_1, ↓xs0, ↓xs3, kl, List.length_map, ↓g_ixSt, ↓g_ixSec]
    unfold cnt at ih
    cases hf : s.fl with
    | false =>
      rw [hf] at ih
      rw [if_pos rfl]
      exact ⟨by omega, ih _⟩
    | true =>
      rw [hf, if_pos rfl] at ih
      rw [if_neg (by simp)]
      have hp : i < ps.length := by rw [pk.len, if_pos hf]; omega
      have he : ps[i]? = some ps[i] := List.getElem?_eq_getElem hp
      have hk := pk.all _ (List.getElem_mem hp)
      rw [List.getD_eq_getElem?_getD, he, Option.getD_some] at ih
      refine ixQ_at he ?_
      simp only [↓DL.gt_0, ↓DL.gt_s, ↓DL.pt_0, ↓DL.pt_s, ↓DL.gv_fz, ↓DL.x_var, ↓DL.go_fz, ↓DL.go_lst, ↓DL.x_own, ↓DL.x_c, ↓DL.x_bin, ↓DL.x_tst, ↓DL.asB_bl, ↓DL.x_chain, ↓DL.x_and, ↓DL.x_or, ↓DL.x_not, ↓DL.x_andV, ↓DL.x_orV, ↓DL.x_notV, ↓DL.x_if, ↓DL.x_nil, ↓DL.x_cons, ↓DL.x_tup, ↓DL.x_cb, ↓DL.x_call, ↓DL.x_noPart, ↓DL.x_part, ↓DL.asI_int, ↓DL.x_sl, ↓DL.x_neg, ↓DL.x_lstV, ↓DL.x_listL, ↓DL.x_it, ↓DL.x_rng1, ↓DL.x_rng2, ↓DL.ints1_int, ↓DL.ints2_int, ↓DL.asL_lst, ↓DL.asL_tup, ↓DL.asL_scr, ↓DL.x_comp, ↓DL.x_yes, ↓DL.wip_nil, ↓DL.wip_cons, ↓DL.x_next, ↓DL.x_seq, ↓DL.x_brk, ↓DL.x_cont, ↓DL.x_expr, ↓DL.x_ret, ↓DL.x_retN, ↓DL.x_sif, ↓DL.x_set, ↓DL.x_setO, ↓DL.tgK_some, ↓DL.x_asg, ↓DL.x_tgN, ↓DL.x_tgTup, ↓DL.x_tgNil, ↓DL.x_tgConsN, ↓DL.map_some, ↓DL.pts_nil, ↓DL.pts_cons, ↓DL.gl_lst, ↓DL.x_app, ↓DL.x_putIx, ↓DL.gf_lst, ↓DL.gf_fz, ↓DL.x_fz, ↓DL.x_for, ↓DL.x_end_nx, ↓DL.x_end_rt, ↓DL.g_eqS, ↓DL.g_eqI, ↓DL.g_neS, ↓DL.g_neI, ↓DL.g_lt, ↓DL.g_le, ↓DL.g_gt, ↓DL.g_ge, ↓DL.g_add, ↓DL.g_addL, ↓DL.g_addT, ↓DL.g_sub, ↓DL.g_mul, ↓DL.g_mulL, ↓DL.g_mod, ↓DL.g_fdiv, ↓DL.g_pow, ↓DL.g_isN, ↓DL.g_notN, ↓DL.g_ixT, ↓DL.g_ixL, ↓DL.g_ixS, ↓DL.ix0, ↓DL.ix1, ↓DL.ix2, ↓DL.ix3, ↓DL.ix4, ↓DL.ix5, ↓DL.ix6, ↓DL.ix7, ↓DL.g_lenT, ↓DL.g_lenL, ↓DL.g_lenS, ↓DL.g_int, ↓DL.g_intB, ↓DL.g_tupT, ↓DL.g_tupL, ↓DL.g_lsT, ↓DL.g_lsL, ↓DL.g_max, ↓DL.g_min, ↓DL.g_slT, ↓DL.g_slL, ↓DL.isQ_some, ↓DL.g_isi, ↓DL.i_int, ↓DL.i_bl, ↓DL.i_tup, ↓DL.i_lst, ↓DL.i_non, ↓DL.i_str, if_true, if_false, Bool.false_eq_true, Bool.not_true, Bool.not_false, reduceCtorEq, decide_eq_true_eq, decide_true, decide_false, Bool.not_eq_true', decide_eq_false_iff_not, pd_non]
      generalize ps[i] = p at *
      cases p with
      | non => exact ⟨by omega, ih _⟩
      | row r => rw [hk.1] at hf; cases hf
      | fall t r =>
        show if _ then _ else _
        rw [if_neg (by simp)]
        refine (xs6 hf).symm ▸ ?_
        unfold count at ih
        simp only [↓DL.gt_0, ↓DL.gt_s, ↓DL.pt_0, ↓DL.pt_s, ↓DL.gv_fz, ↓DL.x_var, ↓DL.go_fz, ↓DL.go_lst, ↓DL.x_own, ↓DL.x_c, ↓DL.x_bin, ↓DL.x_tst, ↓DL.asB_bl, ↓DL.x_chain, ↓DL.x_and, ↓DL.x_or, ↓DL.x_not, ↓DL.x_andV, ↓DL.x_orV, ↓DL.x_notV, ↓DL.x_if, ↓DL.x_nil, ↓DL.x_cons, ↓DL.x_tup, ↓DL.x_cb, ↓DL.x_call, ↓DL.x_noPart, ↓DL.x_part, ↓DL.asI_int, ↓DL.x_sl, ↓DL.x_neg, ↓DL.x_lstV, ↓DL.x_listL, ↓DL.x_it, ↓DL.x_rng1, ↓DL.x_rng2, ↓DL.ints1_int, ↓DL.ints2_int, ↓DL.asL_lst, ↓DL.asL_tup, ↓DL.asL_scr, ↓DL.x_comp, ↓DL.x_yes, ↓DL.wip_nil, ↓DL.wip_cons, ↓DL.x_next, ↓DL.x_seq, ↓DL.x_brk, ↓DL.x_cont, ↓DL.x_expr, ↓DL.x_ret, ↓DL.x_retN, ↓DL.x_sif, ↓DL.x_set, ↓DL.x_setO, ↓DL.tgK_some, ↓DL.x_asg, ↓DL.x_tgN, ↓DL.x_tgTup, ↓DL.x_tgNil, ↓DL.x_tgConsN, ↓DL.map_some, ↓DL.pts_nil, ↓DL.pts_cons, ↓DL.gl_lst, ↓DL.x_app, ↓DL.x_putIx, ↓DL.gf_lst, ↓DL.gf_fz, ↓DL.x_fz, ↓DL.x_for, ↓DL.x_end_nx, ↓DL.x_end_rt, ↓DL.g_eqS, ↓DL.g_eqI, ↓DL.g_neS, ↓DL.g_neI, ↓DL.g_lt, ↓DL.g_le, ↓DL.g_gt, ↓DL.g_ge, ↓DL.g_add, ↓DL.g_addL, ↓DL.g_addT, ↓DL.g_sub, ↓DL.g_mul, ↓DL.g_mulL, ↓DL.g_mod, ↓DL.g_fdiv, ↓DL.g_pow, ↓DL.g_isN, ↓DL.g_notN, ↓DL.g_ixT, ↓DL.g_ixL, ↓DL.g_ixS, ↓DL.ix0, ↓DL.ix1, ↓DL.ix2, ↓DL.ix3, ↓DL.ix4, ↓DL.ix5, ↓DL.ix6, ↓DL.ix7, ↓DL.g_lenT, ↓DL.g_lenL, ↓DL.g_lenS, ↓DL.g_int, ↓DL.g_intB, ↓DL.g_tupT, ↓DL.g_tupL, ↓DL.g_lsT, ↓DL.g_lsL, ↓DL.g_max, ↓DL.g_min, ↓DL.g_slT, ↓DL.g_slL, ↓DL.isQ_some, ↓DL.g_isi, ↓DL.i_int, ↓DL.i_bl, ↓DL.i_tup, ↓DL.i_lst, ↓DL.i_non, ↓DL.i_str, if_true, if_false, Bool.false_eq_true, Bool.not_true, Bool.not_false, reduceCtorEq, decide_eq_true_eq, decide_true, decide_false, Bool.not_eq_true', decide_eq_false_iff_not, ks]
        cases hl : s.lasting with
        | true =>
          rw [hl] at ih
          exact ⟨by omega, ih _⟩
        | false =>
          rw [hl] at ih
          rw [if_neg (by simp)]
          refine ixQ_at he ?_
          simp only [↓DL.gt_0, ↓DL.gt_s, ↓DL.pt_0, ↓DL.pt_s, ↓DL.gv_fz, ↓DL.x_var, ↓DL.go_fz, ↓DL.go_lst, ↓DL.x_own, ↓DL.x_c, ↓DL.x_bin, ↓DL.x_tst, ↓DL.asB_bl, ↓DL.x_chain, ↓DL.x_and, ↓DL.x_or, ↓DL.x_not, ↓DL.x_andV, ↓DL.x_orV, ↓DL.x_notV, ↓DL.x_if, ↓DL.x_nil, ↓DL.x_cons, ↓DL.x_tup, ↓DL.x_cb, ↓DL.x_call, ↓DL.x_noPart, ↓DL.x_part, ↓DL.asI_int, ↓DL.x_sl, ↓DL.x_neg, ↓DL.x_lstV, ↓DL.x_listL, ↓DL.x_it, ↓DL.x_rng1, ↓DL.x_rng2, ↓DL.ints1_int, ↓DL.ints2_int, ↓DL.asL_lst, ↓DL.asL_tup, ↓DL.asL_scr, ↓DL.x_comp, ↓DL.x_yes, ↓DL.wip_nil, ↓DL.wip_cons, ↓DL.x_next, ↓DL.x_seq, ↓DL.x_brk, ↓DL.x_cont, ↓DL.x_expr, ↓DL.x_ret, ↓DL.x_retN, ↓DL.x_sif, ↓DL.x_set, ↓DL.x_setO, ↓DL.tgK_some, ↓DL.x_asg, ↓DL.x_tgN, ↓DL.x_tgTup, ↓DL.x_tgNil, ↓DL.x_tgConsN, ↓DL.map_some, ↓DL.pts_nil, ↓DL.pts_cons, ↓DL.gl_lst, ↓DL.x_app, ↓DL.x_putIx, ↓DL.gf_lst, ↓DL.gf_fz, ↓DL.x_fz, ↓DL.x_for, ↓DL.x_end_nx, ↓DL.x_end_rt, ↓DL.g_eqS, ↓DL.g_eqI, ↓DL.g_neS, ↓DL.g_neI, ↓DL.g_lt, ↓DL.g_le, ↓DL.g_gt, ↓DL.g_ge, ↓DL.g_add, ↓DL.g_addL, ↓DL.g_addT, ↓DL.g_sub, ↓DL.g_mul, ↓DL.g_mulL, ↓DL.g_mod, ↓DL.g_fdiv, ↓DL.g_pow, ↓DL.g_isN, ↓DL.g_notN, ↓DL.g_ixT, ↓DL.g_ixL, ↓DL.g_ixS, ↓DL.ix0, ↓DL.ix1, ↓DL.ix2, ↓DL.ix3, ↓DL.ix4, ↓DL.ix5, ↓DL.ix6, ↓DL.ix7, ↓DL.g_lenT, ↓DL.g_lenL, ↓DL.g_lenS, ↓DL.g_int, ↓DL.g_intB, ↓DL.g_tupT, ↓DL.g_tupL, ↓DL.g_lsT, ↓DL.g_lsL, ↓DL.g_max, ↓DL.g_min, ↓DL.g_slT, ↓DL.g_slL, ↓DL.isQ_some, ↓DL.g_isi, ↓DL.i_int, ↓DL.i_bl, ↓DL.i_tup, ↓DL.i_lst, ↓DL.i_non, ↓DL.i_str, if_true, if_false, Bool.false_eq_true, Bool.not_true, Bool.not_false, reduceCtorEq, decide_eq_true_eq, decide_true, decide_false, Bool.not_eq_true', decide_eq_false_iff_not, Part.d, ↓g_ixQ]
          exact ⟨by omega, ih _⟩
theorem p_l_counts (ds : List D) (Q : D → Prop) (E : DExc → Prop) (hl : ds.length = 2) (h : sp_l_counts ds Q E) : b_l_counts (dEnd Q E) (en N_l_counts.length ds) := by
  obtain ⟨s, b, ps, ok, pk, rfl, q⟩ := h
  have h5 := ok.h5
  rw [en_l_counts]
  simp only [↓DL.gt_0, ↓DL.gt_s, ↓DL.pt_0, ↓DL.pt_s, ↓DL.gv_fz, ↓DL.x_var, ↓DL.go_fz, ↓DL.go_lst, ↓DL.x_own, ↓DL.x_c, ↓DL.x_bin, ↓DL.x_tst, ↓DL.asB_bl, ↓DL.x_chain, ↓DL.x_and, ↓DL.x_or, ↓DL.x_not, ↓DL.x_andV, ↓DL.x_orV, ↓DL.x_notV, ↓DL.x_if, ↓DL.x_nil, ↓DL.x_cons, ↓DL.x_tup, ↓DL.x_cb, ↓DL.x_call, ↓DL.x_noPart, ↓DL.x_part, ↓DL.asI_int, ↓DL.x_sl, ↓DL.x_neg, ↓DL.x_lstV, ↓DL.x_listL, ↓DL.x_it, ↓DL.x_rng1, ↓DL.x_rng2, ↓DL.ints1_int, ↓DL.ints2_int, ↓DL.asL_lst, ↓DL.asL_tup, ↓DL.asL_scr, ↓DL.x_comp, ↓DL.x_yes, ↓DL.wip_nil, ↓DL.wip_cons, ↓DL.x_next, ↓DL.x_seq, ↓DL.x_brk, ↓DL.x_cont, ↓DL.x_expr, ↓DL.x_ret, ↓DL.x_retN, ↓DL.x_sif, ↓DL.x_set, ↓DL.x_setO, ↓DL.tgK_some, ↓DL.x_asg, ↓DL.x_tgN, ↓DL.x_tgTup, ↓DL.x_tgNil, ↓DL.x_tgConsN, ↓DL.map_some, ↓DL.pts_nil, ↓DL.pts_cons, ↓DL.gl_lst, ↓DL.x_app, ↓DL.x_putIx, ↓DL.gf_lst, ↓DL.gf_fz, ↓DL.x_fz, ↓DL.x_for, ↓DL.x_end_nx, ↓DL.x_end_rt, ↓DL.g_eqS, ↓DL.g_eqI, ↓DL.g_neS, ↓DL.g_neI, ↓DL.g_lt, ↓DL.g_le, ↓DL.g_gt, ↓DL.g_ge, ↓DL.g_add, ↓DL.g_addL, ↓DL.g_addT, ↓DL.g_sub, ↓DL.g_mul, ↓DL.g_mulL, ↓DL.g_mod, ↓DL.g_fdiv, ↓DL.g_pow, ↓DL.g_isN, ↓DL.g_notN, ↓DL.g_ixT, ↓DL.g_ixL, ↓DL.g_ixS, ↓DL.ix0, ↓DL.ix1, ↓DL.ix2, ↓DL.ix3, ↓DL.ix4, ↓DL.ix5, ↓DL.ix6, ↓DL.ix7, ↓DL.g_lenT, ↓DL.g_lenL, ↓DL.g_lenS, ↓DL.g_int, ↓DL.g_intB, ↓DL.g_tupT, ↓DL.g_tupL, ↓DL.g_lsT, ↓DL.g_lsL, ↓DL.g_max, ↓DL.g_min, ↓DL.g_slT, ↓DL.g_slL, ↓DL.isQ_some, ↓DL.g_isi, ↓DL.i_int, ↓DL.i_bl, ↓DL.i_tup, ↓DL.i_lst, ↓DL.i_non, ↓DL.i_str, if_true, if_false, Bool.false_eq_true, Bool.not_true, Bool.not_false, reduceCtorEq, decide_eq_true_eq, decide_true, decide_false, Bool.not_eq_true', decide_eq_false_iff_not, b_l_counts, ↓xs1]
  refine ⟨by omega, by omega, ?_⟩
  rw [Int.toNat_natCast]
  refine p_l_counts_1 ok pk s.h 0 [] _ (by omega) rfl fun o3 => ?_
  simp only [↓DL.gt_0, ↓DL.gt_s, ↓DL.pt_0, ↓DL.pt_s, ↓DL.gv_fz, ↓DL.x_var, ↓DL.go_fz, ↓DL.go_lst, ↓DL.x_own, ↓DL.x_c, ↓DL.x_bin, ↓DL.x_tst, ↓DL.asB_bl, ↓DL.x_chain, ↓DL.x_and, ↓DL.x_or, ↓DL.x_not, ↓DL.x_andV, ↓DL.x_orV, ↓DL.x_notV, ↓DL.x_if, ↓DL.x_nil, ↓DL.x_cons, ↓DL.x_tup, ↓DL.x_cb, ↓DL.x_call, ↓DL.x_noPart, ↓DL.x_part, ↓DL.asI_int, ↓DL.x_sl, ↓DL.x_neg, ↓DL.x_lstV, ↓DL.x_listL, ↓DL.x_it, ↓DL.x_rng1, ↓DL.x_rng2, ↓DL.ints1_int, ↓DL.ints2_int, ↓DL.asL_lst, ↓DL.asL_tup, ↓DL.asL_scr, ↓DL.x_comp, ↓DL.x_yes, ↓DL.wip_nil, ↓DL.wip_cons, ↓DL.x_next, ↓DL.x_seq, ↓DL.x_brk, ↓DL.x_cont, ↓DL.x_expr, ↓DL.x_ret, ↓DL.x_retN, ↓DL.x_sif, ↓DL.x_set, ↓DL.x_setO, ↓DL.tgK_some, ↓DL.x_asg, ↓DL.x_tgN, ↓DL.x_tgTup, ↓DL.x_tgNil, ↓DL.x_tgConsN, ↓DL.map_some, ↓DL.pts_nil, ↓DL.pts_cons, ↓DL.gl_lst, ↓DL.x_app, ↓DL.x_putIx, ↓DL.gf_lst, ↓DL.gf_fz, ↓DL.x_fz, ↓DL.x_for, ↓DL.x_end_nx, ↓DL.x_end_rt, ↓DL.g_eqS, ↓DL.g_eqI, ↓DL.g_neS, ↓DL.g_neI, ↓DL.g_lt, ↓DL.g_le, ↓DL.g_gt, ↓DL.g_ge, ↓DL.g_add, ↓DL.g_addL, ↓DL.g_addT, ↓DL.g_sub, ↓DL.g_mul, ↓DL.g_mulL, ↓DL.g_mod, ↓DL.g_fdiv, ↓DL.g_pow, ↓DL.g_isN, ↓DL.g_notN, ↓DL.g_ixT, ↓DL.g_ixL, ↓DL.g_ixS, ↓DL.ix0, ↓DL.ix1, ↓DL.ix2, ↓DL.ix3, ↓DL.ix4, ↓DL.ix5, ↓DL.ix6, ↓DL.ix7, ↓DL.g_lenT, ↓DL.g_lenL, ↓DL.g_lenS, ↓DL.g_int, ↓DL.g_intB, ↓DL.g_tupT, ↓DL.g_tupL, ↓DL.g_lsT, ↓DL.g_lsL, ↓DL.g_max, ↓DL.g_min, ↓DL.g_slT, ↓DL.g_slL, ↓DL.isQ_some, ↓DL.g_isi, ↓DL.i_int, ↓DL.i_bl, ↓DL.i_tup, ↓DL.i_lst, ↓DL.i_non, ↓DL.i_str, if_true, if_false, Bool.false_eq_true, Bool.not_true, Bool.not_false, reduceCtorEq, decide_eq_true_eq, decide_true, decide_false, Bool.not_eq_true', decide_eq_false_iff_not]
  rw [List.nil_append, cnts]
  exact q
/-! ### membership in a row of ints -/
theorem hasD_il {ns : List Int} {x : Int} : hasD (iL ns) (.int x) = ns.contains x := by
  unfold hasD
  rw [List.any_map]
  induction ns with
  | nil => rfl
  | cons n ns ih =>
    rw [List.any_cons, List.contains_cons, ih]
    congr 1
    show (n == x) = (x == n)
    rw [Bool.eq_iff_iff]
    simp only [beq_iff_eq]
    exact eq_comm
theorem pyL_il : ∀ ns : List Int, pyL (iL ns) = ns.map .int
  | [] => rfl
  | n :: ns => by
    show (D.int n).py :: pyL (iL ns) = _
    rw [pyL_il ns]
    rfl
theorem lay_il : ∀ ns : List Int, PyData.canLayAll0 (ns.map .int) = true
  | [] => rfl
  | n :: ns => by
    simp only [List.map_cons, PyData.canLayAll0, PyData.canLay0, lay_il ns, Bool.true_and]
theorem dep_il : ∀ ns : List Int, PyData.depthAll (ns.map .int) = 0
  | [] => rfl
  | n :: ns => by
    simp only [List.map_cons, PyData.depthAll, PyData.depth, dep_il ns, Nat.max_self]
theorem ok_int {i : Int} : (D.int i).ok = true := rfl
theorem ok_il {ns : List Int} : (D.tup (iL ns)).ok = true := by
  show (PyData.canLay0 (.tuple (pyL (iL ns))) && decide (PyData.depth (.tuple (pyL (iL ns))) ≤ 64)) = true
  rw [pyL_il]
  simp [PyData.canLay0, PyData.depth, lay_il, dep_il]
theorem ok_ll {ns : List Int} : (D.lst (iL ns)).ok = true := by
  show (PyData.canLay0 (.list (pyL (iL ns))) && decide (PyData.depth (.list (pyL (iL ns))) ≤ 64)) = true
  rw [pyL_il]
  simp [PyData.canLay0, PyData.depth, lay_il, dep_il]
theorem g_inQ {l : Bool} {ns : List Int} {x : Int} {Q : D → Prop} : gIn (.int x) (seq l (iL ns)) Q = Q (.bl (ns.contains x)) := by
  cases l
  · show (_ ∧ _ ∧ Q (.bl (hasD _ _))) = _
    rw [hasD_il]
    exact propext ⟨fun h => h.2.2, fun h => ⟨ok_int, ok_il, h⟩⟩
  · show (_ ∧ _ ∧ Q (.bl (hasD _ _))) = _
    rw [hasD_il]
    exact propext ⟨fun h => h.2.2, fun h => ⟨ok_int, ok_ll, h⟩⟩
theorem g_ninQ {l : Bool} {ns : List Int} {x : Int} {Q : D → Prop} : gNin (.int x) (seq l (iL ns)) Q = Q (.bl (!ns.contains x)) := by
  cases l
  · show (_ ∧ _ ∧ Q (.bl (!hasD _ _))) = _
    rw [hasD_il]
    exact propext ⟨fun h => h.2.2, fun h => ⟨ok_int, ok_il, h⟩⟩
  · show (_ ∧ _ ∧ Q (.bl (!hasD _ _))) = _
    rw [hasD_il]
    exact propext ⟨fun h => h.2.2, fun h => ⟨ok_int, ok_ll, h⟩⟩
theorem p_right_in_2 {l m : Bool} {s : St} {b : List Int} {ps : List Part} {Z : DEnd} (ok : s.Ok) (bk : BOk s b) : ∀ (n i : Nat) (acc : List Int) (o5 o6 : Option O), i + n = s.a → acc.length ≤ i →
    (∀ o5 o6, Z.nx [some (.fz (seq l s.xs)), some (.fz (storyD m b ps)), some (.fz (seq m (iL b))), some (.fz (.bl (smooth ps))), some (.lst (iL (acc ++ ((List.range' i n).map fun i : Nat => (i : Int)).filter (good s b ps)))), o5, o6]) →
    forGo (tgN 5) lp_right_in_2 Z (rng i n) [some (.fz (seq l s.xs)), some (.fz (storyD m b ps)), some (.fz (seq m (iL b))), some (.fz (.bl (smooth ps))), some (.lst (iL acc)), o5, o6]
  | 0, i, acc, o5, o6, hi, ha, q => by show Z.nx _; simpa using q o5 o6
  | n + 1, i, acc, o5, o6, hi, ha, q => by
    have a4 := ok.a4
    simp only [↓DL.gt_0, ↓DL.gt_s, ↓DL.pt_0, ↓DL.pt_s, ↓DL.gv_fz, ↓DL.x_var, ↓DL.go_fz, ↓DL.go_lst, ↓DL.x_own, ↓DL.x_c, ↓DL.x_bin, ↓DL.x_tst, ↓DL.asB_bl, ↓DL.x_chain, ↓DL.x_and, ↓DL.x_or, ↓DL.x_not, ↓DL.x_andV, ↓DL.x_orV, ↓DL.x_notV, ↓DL.x_if, ↓DL.x_nil, ↓DL.x_cons, ↓DL.x_tup, ↓DL.x_cb, ↓DL.x_call, ↓DL.x_noPart, ↓DL.x_part, ↓DL.asI_int, ↓DL.x_sl, ↓DL.x_neg, ↓DL.x_lstV, ↓DL.x_listL, ↓DL.x_it, ↓DL.x_rng1, ↓DL.x_rng2, ↓DL.ints1_int, ↓DL.ints2_int, ↓DL.asL_lst, ↓DL.asL_tup, ↓DL.asL_scr, ↓DL.x_comp, ↓DL.x_yes, ↓DL.wip_nil, ↓DL.wip_cons, ↓DL.x_next, ↓DL.x_seq, ↓DL.x_brk, ↓DL.x_cont, ↓DL.x_expr, ↓DL.x_ret, ↓DL.x_retN, ↓DL.x_sif, ↓DL.x_set, ↓DL.x_setO, ↓DL.tgK_some, ↓DL.x_asg, ↓DL.x_tgN, ↓DL.x_tgTup, ↓DL.x_tgNil, ↓DL.x_tgConsN, ↓DL.map_some, ↓DL.pts_nil, ↓DL.pts_cons, ↓DL.gl_lst, ↓DL.x_app, ↓DL.x_putIx, ↓DL.gf_lst, ↓DL.gf_fz, ↓DL.x_fz, ↓DL.x_for, ↓DL.x_end_nx, ↓DL.x_end_rt, ↓DL.g_eqS, ↓DL.g_eqI, ↓DL.g_neS, ↓DL.g_neI, ↓DL.g_lt, ↓DL.g_le, ↓DL.g_gt, ↓DL.g_ge, ↓DL.g_add, ↓DL.g_addL, ↓DL.g_addT, ↓DL.g_sub, ↓DL.g_mul, ↓DL.g_mulL, ↓DL.g_mod, ↓DL.g_fdiv, ↓DL.g_pow, ↓DL.g_isN, ↓DL.g_notN, ↓DL.g_ixT, ↓DL.g_ixL, ↓DL.g_ixS, ↓DL.ix0, ↓DL.ix1, ↓DL.ix2, ↓DL.ix3, ↓DL.ix4, ↓DL.ix5, ↓DL.ix6, ↓DL.ix7, ↓DL.g_lenT, ↓DL.g_lenL, ↓DL.g_lenS, ↓DL.g_int, ↓DL.g_intB, ↓DL.g_tupT, ↓DL.g_tupL, ↓DL.g_lsT, ↓DL.g_lsL, ↓DL.g_max, ↓DL.g_min, ↓DL.g_slT, ↓DL.g_slL, ↓DL.isQ_some, ↓DL.g_isi, ↓DL.i_int, ↓DL.i_bl, ↓DL.i_tup, ↓DL.i_lst, ↓DL.i_non, ↓DL.i_str, if_true, if_false, Bool.false_eq_true, Bool.not_true, Bool.not_false, reduceCtorEq, decide_eq_true_eq, decide_true, decide_false, Bool.not_eq_true', decide_eq_false_iff_not, rng, ↓forGo_cons, ↓u_right_in_2, ↓g_ixQ, ↓xs5, tf, tb, tv, ↓g_inQ, ↓g_ninQ]
    have key : ∀ o6, o6 = some (.fz (.bl (good s b ps i))) → lp_right_in_1 { Z with nx := forGo (tgN 5) lp_right_in_2 Z (rng ((i : Int) + 1) n), ct := forGo (tgN 5) lp_right_in_2 Z (rng ((i : Int) + 1) n), bk := Z.nx } [some (.fz (seq l s.xs)), some (.fz (storyD m b ps)), some (.fz (seq m (iL b))), some (.fz (.bl (smooth ps))), some (.lst (iL acc)), some (.fz (.int i)), o6] := by
      rintro o6 rfl
      simp only [↓DL.gt_0, ↓DL.gt_s, ↓DL.pt_0, ↓DL.pt_s, ↓DL.gv_fz, ↓DL.x_var, ↓DL.go_fz, ↓DL.go_lst, ↓DL.x_own, ↓DL.x_c, ↓DL.x_bin, ↓DL.x_tst, ↓DL.asB_bl, ↓DL.x_chain, ↓DL.x_and, ↓DL.x_or, ↓DL.x_not, ↓DL.x_andV, ↓DL.x_orV, ↓DL.x_notV, ↓DL.x_if, ↓DL.x_nil, ↓DL.x_cons, ↓DL.x_tup, ↓DL.x_cb, ↓DL.x_call, ↓DL.x_noPart, ↓DL.x_part, ↓DL.asI_int, ↓DL.x_sl, ↓DL.x_neg, ↓DL.x_lstV, ↓DL.x_listL, ↓DL.x_it, ↓DL.x_rng1, ↓DL.x_rng2, ↓DL.ints1_int, ↓DL.ints2_int, ↓DL.asL_lst, ↓DL.asL_tup, ↓DL.asL_scr, ↓DL.x_comp, ↓DL.x_yes, ↓DL.wip_nil, ↓DL.wip_cons, ↓DL.x_next, ↓DL.x_seq, ↓DL.x_brk, ↓DL.x_cont, ↓DL.x_expr, ↓DL.x_ret, ↓DL.x_retN, ↓DL.x_sif, ↓DL.x_set, ↓DL.x_setO, ↓DL.tgK_some, ↓DL.x_asg, ↓DL.x_tgN, ↓DL.x_tgTup, ↓DL.x_tgNil, ↓DL.x_tgConsN, ↓DL.map_some, ↓DL.pts_nil, ↓DL.pts_cons, ↓DL.gl_lst, ↓DL.x_app, ↓DL.x_putIx, ↓DL.gf_lst, ↓DL.gf_fz, ↓DL.x_fz, ↓DL.x_for, ↓DL.x_end_nx, ↓DL.x_end_rt, ↓DL.g_eqS, ↓DL.g_eqI, ↓DL.g_neS, ↓DL.g_neI, ↓DL.g_lt, ↓DL.g_le, ↓DL.g_gt, ↓DL.g_ge, ↓DL.g_add, ↓DL.g_addL, ↓DL.g_addT, ↓DL.g_sub, ↓DL.g_mul, ↓DL.g_mulL, ↓DL.g_mod, ↓DL.g_fdiv, ↓DL.g_pow, ↓DL.g_isN, ↓DL.g_notN, ↓DL.g_ixT, ↓DL.g_ixL, ↓DL.g_ixS, ↓DL.ix0, ↓DL.ix1, ↓DL.ix2, ↓DL.ix3, ↓DL.ix4, ↓DL.ix5, ↓DL.ix6, ↓DL.ix7, ↓DL.g_lenT, ↓DL.g_lenL, ↓DL.g_lenS, ↓DL.g_int, ↓DL.g_intB, ↓DL.g_tupT, ↓DL.g_tupL, ↓DL.g_lsT, ↓DL.g_lsL, ↓DL.g_max, ↓DL.g_min, ↓DL.g_slT, ↓DL.g_slL, ↓DL.isQ_some, ↓DL.g_isi, ↓DL.i_int, ↓DL.i_bl, ↓DL.i_tup, ↓DL.i_lst, ↓DL.i_non, ↓DL.i_str, if_true, if_false, Bool.false_eq_true, Bool.not_true, Bool.not_false, reduceCtorEq, decide_eq_true_eq, decide_true, decide_false, Bool.not_eq_true', decide_eq_false_iff_not, ↓u_right_in_1, List.length_map]
      cases hg : good s b ps (i : Int) with
      | true =>
        rw [if_pos rfl]
        refine ⟨by omega, ?_⟩
        have e : iL acc ++ [.int (i : Int)] = iL (acc ++ [(i : Int)]) := by simp
        rw [e]
        refine p_right_in_2 ok bk n (i + 1) _ _ _ (by omega) (by simp; omega) fun o5 o6 => ?_
        rw [List.append_assoc]
        have := q o5 o6
        rw [List.range'_succ, List.map_cons, List.filter_cons, hg, if_pos rfl] at this
        exact this
      | false =>
        rw [if_neg (by simp)]
        refine p_right_in_2 ok bk n (i + 1) _ _ _ (by omega) (by omega) fun o5 o6 => ?_
        have := q o5 o6
        rw [List.range'_succ, List.map_cons, List.filter_cons, hg, if_neg (by simp)] at this
        exact this
    have hb : b[0]? = some (b.headD 0) := by
      have := bk.len
      have := ok.h2
      cases b with
      | nil => simp at *; omega
      | cons x xs => rfl
    have h0 : ∀ Q : D → Prop, ixQ (iL b) 0 Q = Q (.int (b.headD 0)) := fun Q => by
      have := ixQ_n (Q := Q) (xs := iL b) (i := 0) (a := .int (b.headD 0)) (by rw [List.getElem?_map, hb]; rfl)
      exact this
    simp only [↓DL.gt_0, ↓DL.gt_s, ↓DL.pt_0, ↓DL.pt_s, ↓DL.gv_fz, ↓DL.x_var, ↓DL.go_fz, ↓DL.go_lst, ↓DL.x_own, ↓DL.x_c, ↓DL.x_bin, ↓DL.x_tst, ↓DL.asB_bl, ↓DL.x_chain, ↓DL.x_and, ↓DL.x_or, ↓DL.x_not, ↓DL.x_andV, ↓DL.x_orV, ↓DL.x_notV, ↓DL.x_if, ↓DL.x_nil, ↓DL.x_cons, ↓DL.x_tup, ↓DL.x_cb, ↓DL.x_call, ↓DL.x_noPart, ↓DL.x_part, ↓DL.asI_int, ↓DL.x_sl, ↓DL.x_neg, ↓DL.x_lstV, ↓DL.x_listL, ↓DL.x_it, ↓DL.x_rng1, ↓DL.x_rng2, ↓DL.ints1_int, ↓DL.ints2_int, ↓DL.asL_lst, ↓DL.asL_tup, ↓DL.asL_scr, ↓DL.x_comp, ↓DL.x_yes, ↓DL.wip_nil, ↓DL.wip_cons, ↓DL.x_next, ↓DL.x_seq, ↓DL.x_brk, ↓DL.x_cont, ↓DL.x_expr, ↓DL.x_ret, ↓DL.x_retN, ↓DL.x_sif, ↓DL.x_set, ↓DL.x_setO, ↓DL.tgK_some, ↓DL.x_asg, ↓DL.x_tgN, ↓DL.x_tgTup, ↓DL.x_tgNil, ↓DL.x_tgConsN, ↓DL.map_some, ↓DL.pts_nil, ↓DL.pts_cons, ↓DL.gl_lst, ↓DL.x_app, ↓DL.x_putIx, ↓DL.gf_lst, ↓DL.gf_fz, ↓DL.x_fz, ↓DL.x_for, ↓DL.x_end_nx, ↓DL.x_end_rt, ↓DL.g_eqS, ↓DL.g_eqI, ↓DL.g_neS, ↓DL.g_neI, ↓DL.g_lt, ↓DL.g_le, ↓DL.g_gt, ↓DL.g_ge, ↓DL.g_add, ↓DL.g_addL, ↓DL.g_addT, ↓DL.g_sub, ↓DL.g_mul, ↓DL.g_mulL, ↓DL.g_mod, ↓DL.g_fdiv, ↓DL.g_pow, ↓DL.g_isN, ↓DL.g_notN, ↓DL.g_ixT, ↓DL.g_ixL, ↓DL.g_ixS, ↓DL.ix0, ↓DL.ix1, ↓DL.ix2, ↓DL.ix3, ↓DL.ix4, ↓DL.ix5, ↓DL.ix6, ↓DL.ix7, ↓DL.g_lenT, ↓DL.g_lenL, ↓DL.g_lenS, ↓DL.g_int, ↓DL.g_intB, ↓DL.g_tupT, ↓DL.g_tupL, ↓DL.g_lsT, ↓DL.g_lsL, ↓DL.g_max, ↓DL.g_min, ↓DL.g_slT, ↓DL.g_slL, ↓DL.isQ_some, ↓DL.g_isi, ↓DL.i_int, ↓DL.i_bl, ↓DL.i_tup, ↓DL.i_lst, ↓DL.i_non, ↓DL.i_str, if_true, if_false, Bool.false_eq_true, Bool.not_true, Bool.not_false, reduceCtorEq, decide_eq_true_eq, decide_true, decide_false, Bool.not_eq_true', decide_eq_false_iff_not, h0]
    unfold good at key
    cases ht : s.task with
    | free =>
      rw [ht] at key
      rw [if_pos rfl]
      exact key _ rfl
    | begun =>
      rw [ht] at key
      rw [if_neg (by simp), if_pos rfl]
      exact key _ rfl
    | votes =>
      rw [ht] at key
      rw [if_neg (by simp), if_neg (by simp), if_pos rfl, if_pos rfl]
      by_cases h1 : (i : Int) = 1
      · rw [if_pos h1]
        refine key _ ?_
        show _ = some (O.fz (.bl (if (i : Int) = 1 then _ else _)))
        rw [if_pos h1]
      · rw [if_neg h1]
        have k2 := key (some (.fz (.bl (b.contains 0 || !smooth ps)))) (by show _ = some (O.fz (.bl (if (i : Int) = 1 then _ else _))); rw [if_neg h1])
        cases hc : b.contains 0 with
        | true => rw [hc] at k2; exact k2
        | false => rw [hc] at k2; exact k2
    | leader =>
      rw [ht] at key
      rw [if_neg (by simp), if_neg (by simp), if_neg (by simp), if_neg (by simp)]
      by_cases h1 : (i : Int) = b.headD 0
      · rw [if_pos h1]
        refine key _ ?_
        show _ = some (O.fz (.bl (decide ((i : Int) = b.headD 0) || _)))
        rw [decide_eq_true h1, Bool.true_or]
      · rw [if_neg h1]
        have key' := key (some (.fz (.bl (!smooth ps && b.contains (i : Int))))) (by
          show _ = some (O.fz (.bl (decide ((i : Int) = b.headD 0) || (!smooth ps && b.contains (i : Int)))))
          rw [decide_eq_false h1, Bool.false_or])
        by_cases hs : smooth ps = false
        · rw [if_pos hs]
          rw [hs] at key' ⊢
          exact key'
        · rw [if_neg hs]
          rw [Bool.not_eq_false] at hs
          rw [hs] at key' ⊢
          exact key'
theorem answersE {s : St} : (List.range' 0 s.a).map (fun i : Nat => (i : Int)) = answers s := by
  unfold answers
  rw [List.range_eq_range']
theorem p_right_in (ds : List D) (Q : D → Prop) (E : DExc → Prop) (hl : ds.length = 2) (h : sp_right_in ds Q E) : b_right_in (dEnd Q E) (en N_right_in.length ds) := by
  obtain ⟨l, m, s, b, ps, ok, bk, pk, rfl, q⟩ := h
  have a4 := ok.a4
  rw [en_right_in]
  simp only [↓DL.gt_0, ↓DL.gt_s, ↓DL.pt_0, ↓DL.pt_s, ↓DL.gv_fz, ↓DL.x_var, ↓DL.go_fz, ↓DL.go_lst, ↓DL.x_own, ↓DL.x_c, ↓DL.x_bin, ↓DL.x_tst, ↓DL.asB_bl, ↓DL.x_chain, ↓DL.x_and, ↓DL.x_or, ↓DL.x_not, ↓DL.x_andV, ↓DL.x_orV, ↓DL.x_notV, ↓DL.x_if, ↓DL.x_nil, ↓DL.x_cons, ↓DL.x_tup, ↓DL.x_cb, ↓DL.x_call, ↓DL.x_noPart, ↓DL.x_part, ↓DL.asI_int, ↓DL.x_sl, ↓DL.x_neg, ↓DL.x_lstV, ↓DL.x_listL, ↓DL.x_it, ↓DL.x_rng1, ↓DL.x_rng2, ↓DL.ints1_int, ↓DL.ints2_int, ↓DL.asL_lst, ↓DL.asL_tup, ↓DL.asL_scr, ↓DL.x_comp, ↓DL.x_yes, ↓DL.wip_nil, ↓DL.wip_cons, ↓DL.x_next, ↓DL.x_seq, ↓DL.x_brk, ↓DL.x_cont, ↓DL.x_expr, ↓DL.x_ret, ↓DL.x_retN, ↓DL.x_sif, ↓DL.x_set, ↓DL.x_setO, ↓DL.tgK_some, ↓DL.x_asg, ↓DL.x_tgN, ↓DL.x_tgTup, ↓DL.x_tgNil, ↓DL.x_tgConsN, ↓DL.map_some, ↓DL.pts_nil, ↓DL.pts_cons, ↓DL.gl_lst, ↓DL.x_app, ↓DL.x_putIx, ↓DL.gf_lst, ↓DL.gf_fz, ↓DL.x_fz, ↓DL.x_for, ↓DL.x_end_nx, ↓DL.x_end_rt, ↓DL.g_eqS, ↓DL.g_eqI, ↓DL.g_neS, ↓DL.g_neI, ↓DL.g_lt, ↓DL.g_le, ↓DL.g_gt, ↓DL.g_ge, ↓DL.g_add, ↓DL.g_addL, ↓DL.g_addT, ↓DL.g_sub, ↓DL.g_mul, ↓DL.g_mulL, ↓DL.g_mod, ↓DL.g_fdiv, ↓DL.g_pow, ↓DL.g_isN, ↓DL.g_notN, ↓DL.g_ixT, ↓DL.g_ixL, ↓DL.g_ixS, ↓DL.ix0, ↓DL.ix1, ↓DL.ix2, ↓DL.ix3, ↓DL.ix4, ↓DL.ix5, ↓DL.ix6, ↓DL.ix7, ↓DL.g_lenT, ↓DL.g_lenL, ↓DL.g_lenS, ↓DL.g_int, ↓DL.g_intB, ↓DL.g_tupT, ↓DL.g_tupL, ↓DL.g_lsT, ↓DL.g_lsL, ↓DL.g_max, ↓DL.g_min, ↓DL.g_slT, ↓DL.g_slL, ↓DL.isQ_some, ↓DL.g_isi, ↓DL.i_int, ↓DL.i_bl, ↓DL.i_tup, ↓DL.i_lst, ↓DL.i_non, ↓DL.i_str, if_true, if_false, Bool.false_eq_true, Bool.not_true, Bool.not_false, reduceCtorEq, decide_eq_true_eq, decide_true, decide_false, Bool.not_eq_true', decide_eq_false_iff_not, b_right_in, ↓g_ixSt]
  refine ⟨l, m, s, b, ps, ok, pk, rfl, ?_⟩
  simp only [↓DL.gt_0, ↓DL.gt_s, ↓DL.pt_0, ↓DL.pt_s, ↓DL.gv_fz, ↓DL.x_var, ↓DL.go_fz, ↓DL.go_lst, ↓DL.x_own, ↓DL.x_c, ↓DL.x_bin, ↓DL.x_tst, ↓DL.asB_bl, ↓DL.x_chain, ↓DL.x_and, ↓DL.x_or, ↓DL.x_not, ↓DL.x_andV, ↓DL.x_orV, ↓DL.x_notV, ↓DL.x_if, ↓DL.x_nil, ↓DL.x_cons, ↓DL.x_tup, ↓DL.x_cb, ↓DL.x_call, ↓DL.x_noPart, ↓DL.x_part, ↓DL.asI_int, ↓DL.x_sl, ↓DL.x_neg, ↓DL.x_lstV, ↓DL.x_listL, ↓DL.x_it, ↓DL.x_rng1, ↓DL.x_rng2, ↓DL.ints1_int, ↓DL.ints2_int, ↓DL.asL_lst, ↓DL.asL_tup, ↓DL.asL_scr, ↓DL.x_comp, ↓DL.x_yes, ↓DL.wip_nil, ↓DL.wip_cons, ↓DL.x_next, ↓DL.x_seq, ↓DL.x_brk, ↓DL.x_cont, ↓DL.x_expr, ↓DL.x_ret, ↓DL.x_retN, ↓DL.x_sif, ↓DL.x_set, ↓DL.x_setO, ↓DL.tgK_some, ↓DL.x_asg, ↓DL.x_tgN, ↓DL.x_tgTup, ↓DL.x_tgNil, ↓DL.x_tgConsN, ↓DL.map_some, ↓DL.pts_nil, ↓DL.pts_cons, ↓DL.gl_lst, ↓DL.x_app, ↓DL.x_putIx, ↓DL.gf_lst, ↓DL.gf_fz, ↓DL.x_fz, ↓DL.x_for, ↓DL.x_end_nx, ↓DL.x_end_rt, ↓DL.g_eqS, ↓DL.g_eqI, ↓DL.g_neS, ↓DL.g_neI, ↓DL.g_lt, ↓DL.g_le, ↓DL.g_gt, ↓DL.g_ge, ↓DL.g_add, ↓DL.g_addL, ↓DL.g_addT, ↓DL.g_sub, ↓DL.g_mul, ↓DL.g_mulL, ↓DL.g_mod, ↓DL.g_fdiv, ↓DL.g_pow, ↓DL.g_isN, ↓DL.g_notN, ↓DL.g_ixT, ↓DL.g_ixL, ↓DL.g_ixS, ↓DL.ix0, ↓DL.ix1, ↓DL.ix2, ↓DL.ix3, ↓DL.ix4, ↓DL.ix5, ↓DL.ix6, ↓DL.ix7, ↓DL.g_lenT, ↓DL.g_lenL, ↓DL.g_lenS, ↓DL.g_int, ↓DL.g_intB, ↓DL.g_tupT, ↓DL.g_tupL, ↓DL.g_lsT, ↓DL.g_lsL, ↓DL.g_max, ↓DL.g_min, ↓DL.g_slT, ↓DL.g_slL, ↓DL.isQ_some, ↓DL.g_isi, ↓DL.i_int, ↓DL.i_bl, ↓DL.i_tup, ↓DL.i_lst, ↓DL.i_non, ↓DL.i_str, if_true, if_false, Bool.false_eq_true, Bool.not_true, Bool.not_false, reduceCtorEq, decide_eq_true_eq, decide_true, decide_false, Bool.not_eq_true', decide_eq_false_iff_not, ↓g_ixQ, ↓xs4]
  refine ⟨by omega, by omega, ?_⟩
  rw [Int.toNat_natCast]
  refine p_right_in_2 ok bk s.a 0 [] _ _ (by omega) (Nat.zero_le _) fun o5 o6 => ?_
  simp only [↓DL.gt_0, ↓DL.gt_s, ↓DL.pt_0, ↓DL.pt_s, ↓DL.gv_fz, ↓DL.x_var, ↓DL.go_fz, ↓DL.go_lst, ↓DL.x_own, ↓DL.x_c, ↓DL.x_bin, ↓DL.x_tst, ↓DL.asB_bl, ↓DL.x_chain, ↓DL.x_and, ↓DL.x_or, ↓DL.x_not, ↓DL.x_andV, ↓DL.x_orV, ↓DL.x_notV, ↓DL.x_if, ↓DL.x_nil, ↓DL.x_cons, ↓DL.x_tup, ↓DL.x_cb, ↓DL.x_call, ↓DL.x_noPart, ↓DL.x_part, ↓DL.asI_int, ↓DL.x_sl, ↓DL.x_neg, ↓DL.x_lstV, ↓DL.x_listL, ↓DL.x_it, ↓DL.x_rng1, ↓DL.x_rng2, ↓DL.ints1_int, ↓DL.ints2_int, ↓DL.asL_lst, ↓DL.asL_tup, ↓DL.asL_scr, ↓DL.x_comp, ↓DL.x_yes, ↓DL.wip_nil, ↓DL.wip_cons, ↓DL.x_next, ↓DL.x_seq, ↓DL.x_brk, ↓DL.x_cont, ↓DL.x_expr, ↓DL.x_ret, ↓DL.x_retN, ↓DL.x_sif, ↓DL.x_set, ↓DL.x_setO, ↓DL.tgK_some, ↓DL.x_asg, ↓DL.x_tgN, ↓DL.x_tgTup, ↓DL.x_tgNil, ↓DL.x_tgConsN, ↓DL.map_some, ↓DL.pts_nil, ↓DL.pts_cons, ↓DL.gl_lst, ↓DL.x_app, ↓DL.x_putIx, ↓DL.gf_lst, ↓DL.gf_fz, ↓DL.x_fz, ↓DL.x_for, ↓DL.x_end_nx, ↓DL.x_end_rt, ↓DL.g_eqS, ↓DL.g_eqI, ↓DL.g_neS, ↓DL.g_neI, ↓DL.g_lt, ↓DL.g_le, ↓DL.g_gt, ↓DL.g_ge, ↓DL.g_add, ↓DL.g_addL, ↓DL.g_addT, ↓DL.g_sub, ↓DL.g_mul, ↓DL.g_mulL, ↓DL.g_mod, ↓DL.g_fdiv, ↓DL.g_pow, ↓DL.g_isN, ↓DL.g_notN, ↓DL.g_ixT, ↓DL.g_ixL, ↓DL.g_ixS, ↓DL.ix0, ↓DL.ix1, ↓DL.ix2, ↓DL.ix3, ↓DL.ix4, ↓DL.ix5, ↓DL.ix6, ↓DL.ix7, ↓DL.g_lenT, ↓DL.g_lenL, ↓DL.g_lenS, ↓DL.g_int, ↓DL.g_intB, ↓DL.g_tupT, ↓DL.g_tupL, ↓DL.g_lsT, ↓DL.g_lsL, ↓DL.g_max, ↓DL.g_min, ↓DL.g_slT, ↓DL.g_slL, ↓DL.isQ_some, ↓DL.g_isi, ↓DL.i_int, ↓DL.i_bl, ↓DL.i_tup, ↓DL.i_lst, ↓DL.i_non, ↓DL.i_str, if_true, if_false, Bool.false_eq_true, Bool.not_true, Bool.not_false, reduceCtorEq, decide_eq_true_eq, decide_true, decide_false, Bool.not_eq_true', decide_eq_false_iff_not]
  rw [List.nil_append, answersE]
  exact q
/-! ### the law's own right answers -/
theorem right_begun {s : St} {b : List Int} {ps : List Part} (h : s.task = .begun) : right s b ps = (answers s).filter fun x => b.contains x := by
  unfold right good
  rw [h]
theorem right_free {s : St} {b : List Int} {ps : List Part} (h : s.task = .free) : right s b ps = answers s := by
  unfold right good
  rw [h]
  exact filter_t
theorem head_mem {s : St} {b : List Int} (ok : s.Ok) (bk : BOk s b) : b.headD 0 ∈ b := by
  have := bk.len
  have := ok.h2
  cases b with
  | nil => simp at *; omega
  | cons x xs => exact List.mem_cons_self
theorem right_leader {s : St} {b : List Int} {ps : List Part} (ok : s.Ok) (bk : BOk s b) (h : s.task = .leader) (hs : smooth ps = false) : right s b ps = (answers s).filter fun x => b.contains x := by
  unfold right good
  rw [h, hs]
  refine List.filter_congr fun x _ => ?_
  show (decide (x = b.headD 0) || b.contains x) = b.contains x
  by_cases hx : x = b.headD 0
  · subst hx
    rw [decide_eq_true rfl, List.contains_iff_mem.mpr (head_mem ok bk)]
    rfl
  · rw [decide_eq_false hx, Bool.false_or]
theorem right_leader1 {s : St} {b : List Int} {ps : List Part} (ok : s.Ok) (bk : BOk s b) (h : s.task = .leader) (hs : smooth ps = true) : right s b ps = [b.headD 0] := by
  unfold right good
  rw [h, hs]
  obtain ⟨h0, h1⟩ := bk.all _ (head_mem ok bk)
  have a1 := ok.a1
  have a4 := ok.a4
  generalize b.headD 0 = c at *
  obtain ⟨n, rfl⟩ := Int.eq_ofNat_of_zero_le h0
  unfold answers
  generalize s.a = a at *
  rcases (by omega : a = 1 ∨ a = 2 ∨ a = 3 ∨ a = 4) with rfl | rfl | rfl | rfl
  · rcases (by omega : n = 0) with rfl; simp
  · rcases (by omega : n = 0 ∨ n = 1) with rfl | rfl <;> simp [List.range, List.range.loop]
  · rcases (by omega : n = 0 ∨ n = 1 ∨ n = 2) with rfl | rfl | rfl <;> simp [List.range, List.range.loop]
  · rcases (by omega : n = 0 ∨ n = 1 ∨ n = 2 ∨ n = 3) with rfl | rfl | rfl | rfl <;> simp [List.range, List.range.loop]
def ones (b : List Int) : Nat := (b.filter fun x => decide (x = 1)).length
theorem ones_le (b : List Int) : ones b ≤ b.length := List.length_filter_le _ _
theorem ones_all : ∀ {b : List Int}, (∀ x ∈ b, 0 ≤ x ∧ x < 2) → (ones b = b.length ↔ b.contains 0 = false)
  | [], _ => by simp [ones]
  | x :: b, h => by
    have hx := h x List.mem_cons_self
    have ih := ones_all (b := b) fun y hy => h y (List.mem_cons_of_mem _ hy)
    have hle := ones_le b
    unfold ones at *
    rw [List.filter_cons, List.contains_cons, List.length_cons]
    rcases (by omega : x = 0 ∨ x = 1) with rfl | rfl
    · simp only [Int.zero_ne_one, decide_false, Bool.false_eq_true, if_false, beq_self_eq_true, Bool.true_or, Bool.true_eq_false, iff_false]
      omega
    · simp only [decide_true, if_true, List.length_cons, Nat.add_right_cancel_iff]
      rw [ih]
      simp
theorem right_votes {s : St} {b : List Int} {ps : List Part} (ok : s.Ok) (bk : BOk s b) (h : s.task = .votes) : right s b ps = (if ones b < s.h ∨ smooth ps = false then [0] else []) ++ if ones b = s.h then [1] else [] := by
  have a2 := ok.v2 h
  have hb : ∀ x ∈ b, 0 ≤ x ∧ x < 2 := fun x hx => by have := bk.all x hx; omega
  have h1 := ones_all hb
  have h2 := ones_le b
  rw [bk.len] at h1 h2
  unfold right answers good
  rw [a2, h]
  cases hc : b.contains 0 with
  | true =>
    have n1 : ¬ ones b = s.h := fun z => by rw [h1.mp z] at hc; cases hc
    have n2 : ones b < s.h := by omega
    rw [if_neg n1, if_pos (.inl n2)]
    simp [List.range, List.range.loop]
  | false =>
    have e1 := h1.mpr hc
    rw [if_pos e1]
    cases hs : smooth ps with
    | true =>
      rw [if_neg (by simp; omega)]
      simp [List.range, List.range.loop]
    | false =>
      rw [if_pos (.inr rfl)]
      simp [List.range, List.range.loop]
end K64

namespace K64
open PySem L2 DL
theorem smoothE {ps : List Part} {m : Bool} {p : Part → Bool} (hx : ∀ x ∈ ps, p x = !empty x) : decide ((((ps.filter p).map (Part.d m)).length : Int) = 0) = smooth ps := by
  rw [Bool.eq_iff_iff]
  simp only [List.length_map, decide_eq_true_eq, smooth, List.all_eq_true]
  rw [← List.countP_eq_length_filter]
  have : ((List.countP p ps : Nat) : Int) = 0 ↔ List.countP p ps = 0 := by omega
  rw [this, List.countP_eq_zero]
  constructor
  · intro h x hm
    have := h x hm
    rw [hx x hm] at this
    simpa using this
  · intro h x hm
    rw [hx x hm, h x hm]
    simp
theorem p_l_right (ds : List D) (Q : D → Prop) (E : DExc → Prop) (hl : ds.length = 2) (h : sp_l_right ds Q E) : b_l_right (dEnd Q E) (en N_l_right.length ds) := by
  obtain ⟨s, b, ps, ok, bk, pk, rfl, q⟩ := h
  have a4 := ok.a4
  have h5 := ok.h5
  have hp := pok_len ok pk
  rw [en_l_right]
  simp -implicitDefEqProofs only [↓DL.gt_0, ↓DL.gt_s, ↓DL.pt_0, ↓DL.pt_s, ↓DL.gv_fz, ↓DL.x_var, ↓DL.go_fz, ↓DL.go_lst, ↓DL.x_own, ↓DL.x_c, ↓DL.x_bin, ↓DL.x_tst, ↓DL.asB_bl, ↓DL.x_chain, ↓DL.x_and, ↓DL.x_or, ↓DL.x_not, ↓DL.x_andV, ↓DL.x_orV, ↓DL.x_notV, ↓DL.x_if, ↓DL.x_nil, ↓DL.x_cons, ↓DL.x_tup, ↓DL.x_cb, ↓DL.x_call, ↓DL.x_noPart, ↓DL.x_part, ↓DL.asI_int, ↓DL.x_sl, ↓DL.x_neg, ↓DL.x_lstV, ↓DL.x_listL, ↓DL.x_it, ↓DL.x_rng1, ↓DL.x_rng2, ↓DL.ints1_int, ↓DL.ints2_int, ↓DL.asL_lst, ↓DL.asL_tup, ↓DL.asL_scr, ↓DL.x_comp, ↓DL.x_yes, ↓DL.wip_nil, ↓DL.wip_cons, ↓DL.x_next, ↓DL.x_seq, ↓DL.x_brk, ↓DL.x_cont, ↓DL.x_expr, ↓DL.x_ret, ↓DL.x_retN, ↓DL.x_sif, ↓DL.x_set, ↓DL.x_setO, ↓DL.tgK_some, ↓DL.x_asg, ↓DL.x_tgN, ↓DL.x_tgTup, ↓DL.x_tgNil, ↓DL.x_tgConsN, ↓DL.map_some, ↓DL.pts_nil, ↓DL.pts_cons, ↓DL.gl_lst, ↓DL.x_app, ↓DL.x_putIx, ↓DL.gf_lst, ↓DL.gf_fz, ↓DL.x_fz, ↓DL.x_for, ↓DL.x_end_nx, ↓DL.x_end_rt, ↓DL.g_eqS, ↓DL.g_eqI, ↓DL.g_neS, ↓DL.g_neI, ↓DL.g_lt, ↓DL.g_le, ↓DL.g_gt, ↓DL.g_ge, ↓DL.g_add, ↓DL.g_addL, ↓DL.g_addT, ↓DL.g_sub, ↓DL.g_mul, ↓DL.g_mulL, ↓DL.g_mod, ↓DL.g_fdiv, ↓DL.g_pow, ↓DL.g_isN, ↓DL.g_notN, ↓DL.g_ixT, ↓DL.g_ixL, ↓DL.g_ixS, ↓DL.ix0, ↓DL.ix1, ↓DL.ix2, ↓DL.ix3, ↓DL.ix4, ↓DL.ix5, ↓DL.ix6, ↓DL.ix7, ↓DL.g_lenT, ↓DL.g_lenL, ↓DL.g_lenS, ↓DL.g_int, ↓DL.g_intB, ↓DL.g_tupT, ↓DL.g_tupL, ↓DL.g_lsT, ↓DL.g_lsL, ↓DL.g_max, ↓DL.g_min, ↓DL.g_slT, ↓DL.g_slL, ↓DL.isQ_some, ↓DL.g_isi, ↓DL.i_int, ↓DL.i_bl, ↓DL.i_tup, ↓DL.i_lst, ↓DL.i_non, ↓DL.i_str, if_true, if_false, Bool.false_eq_true, Bool.not_true, Bool.not_false, reduceCtorEq, decide_eq_true_eq, decide_true, decide_false, Bool.not_eq_true', decide_eq_false_iff_not, b_l_right, ↓xs1, ↓g_ixSt, ↓asL_sec]
  refine ⟨by simp; omega, compGo_of (Part.d false) (fun p => !empty p) (Part.d false) _ _ (fun y hy => ⟨_, rfl, fun Q E q => ?_, fun _ Q E q => ?_⟩) ?_⟩
  · simp -implicitDefEqProofs only [↓DL.gt_0, ↓DL.gt_s, ↓DL.pt_0, ↓DL.pt_s, ↓DL.gv_fz, ↓DL.x_var, ↓DL.go_fz, ↓DL.go_lst, ↓DL.x_own, ↓DL.x_c, ↓DL.x_bin, ↓DL.x_tst, ↓DL.asB_bl, ↓DL.x_chain, ↓DL.x_and, ↓DL.x_or, ↓DL.x_not, ↓DL.x_andV, ↓DL.x_orV, ↓DL.x_notV, ↓DL.x_if, ↓DL.x_nil, ↓DL.x_cons, ↓DL.x_tup, ↓DL.x_cb, ↓DL.x_call, ↓DL.x_noPart, ↓DL.x_part, ↓DL.asI_int, ↓DL.x_sl, ↓DL.x_neg, ↓DL.x_lstV, ↓DL.x_listL, ↓DL.x_it, ↓DL.x_rng1, ↓DL.x_rng2, ↓DL.ints1_int, ↓DL.ints2_int, ↓DL.asL_lst, ↓DL.asL_tup, ↓DL.asL_scr, ↓DL.x_comp, ↓DL.x_yes, ↓DL.wip_nil, ↓DL.wip_cons, ↓DL.x_next, ↓DL.x_seq, ↓DL.x_brk, ↓DL.x_cont, ↓DL.x_expr, ↓DL.x_ret, ↓DL.x_retN, ↓DL.x_sif, ↓DL.x_set, ↓DL.x_setO, ↓DL.tgK_some, ↓DL.x_asg, ↓DL.x_tgN, ↓DL.x_tgTup, ↓DL.x_tgNil, ↓DL.x_tgConsN, ↓DL.map_some, ↓DL.pts_nil, ↓DL.pts_cons, ↓DL.gl_lst, ↓DL.x_app, ↓DL.x_putIx, ↓DL.gf_lst, ↓DL.gf_fz, ↓DL.x_fz, ↓DL.x_for, ↓DL.x_end_nx, ↓DL.x_end_rt, ↓DL.g_eqS, ↓DL.g_eqI, ↓DL.g_neS, ↓DL.g_neI, ↓DL.g_lt, ↓DL.g_le, ↓DL.g_gt, ↓DL.g_ge, ↓DL.g_add, ↓DL.g_addL, ↓DL.g_addT, ↓DL.g_sub, ↓DL.g_mul, ↓DL.g_mulL, ↓DL.g_mod, ↓DL.g_fdiv, ↓DL.g_pow, ↓DL.g_isN, ↓DL.g_notN, ↓DL.g_ixT, ↓DL.g_ixL, ↓DL.g_ixS, ↓DL.ix0, ↓DL.ix1, ↓DL.ix2, ↓DL.ix3, ↓DL.ix4, ↓DL.ix5, ↓DL.ix6, ↓DL.ix7, ↓DL.g_lenT, ↓DL.g_lenL, ↓DL.g_lenS, ↓DL.g_int, ↓DL.g_intB, ↓DL.g_tupT, ↓DL.g_tupL, ↓DL.g_lsT, ↓DL.g_lsL, ↓DL.g_max, ↓DL.g_min, ↓DL.g_slT, ↓DL.g_slL, ↓DL.isQ_some, ↓DL.g_isi, ↓DL.i_int, ↓DL.i_bl, ↓DL.i_tup, ↓DL.i_lst, ↓DL.i_non, ↓DL.i_str, if_true, if_false, Bool.false_eq_true, Bool.not_true, Bool.not_false, reduceCtorEq, decide_eq_true_eq, decide_true, decide_false, Bool.not_eq_true', decide_eq_false_iff_not, pd_non]
    cases y with
    | non => exact q
    | fall t r =>
      simp -implicitDefEqProofs only [↓DL.gt_0, ↓DL.gt_s, ↓DL.pt_0, ↓DL.pt_s, ↓DL.gv_fz, ↓DL.x_var, ↓DL.go_fz, ↓DL.go_lst, ↓DL.x_own, ↓DL.x_c, ↓DL.x_bin, ↓DL.x_tst, ↓DL.asB_bl, ↓DL.x_chain, ↓DL.x_and, ↓DL.x_or, ↓DL.x_not, ↓DL.x_andV, ↓DL.x_orV, ↓DL.x_notV, ↓DL.x_if, ↓DL.x_nil, ↓DL.x_cons, ↓DL.x_tup, ↓DL.x_cb, ↓DL.x_call, ↓DL.x_noPart, ↓DL.x_part, ↓DL.asI_int, ↓DL.x_sl, ↓DL.x_neg, ↓DL.x_lstV, ↓DL.x_listL, ↓DL.x_it, ↓DL.x_rng1, ↓DL.x_rng2, ↓DL.ints1_int, ↓DL.ints2_int, ↓DL.asL_lst, ↓DL.asL_tup, ↓DL.asL_scr, ↓DL.x_comp, ↓DL.x_yes, ↓DL.wip_nil, ↓DL.wip_cons, ↓DL.x_next, ↓DL.x_seq, ↓DL.x_brk, ↓DL.x_cont, ↓DL.x_expr, ↓DL.x_ret, ↓DL.x_retN, ↓DL.x_sif, ↓DL.x_set, ↓DL.x_setO, ↓DL.tgK_some, ↓DL.x_asg, ↓DL.x_tgN, ↓DL.x_tgTup, ↓DL.x_tgNil, ↓DL.x_tgConsN, ↓DL.map_some, ↓DL.pts_nil, ↓DL.pts_cons, ↓DL.gl_lst, ↓DL.x_app, ↓DL.x_putIx, ↓DL.gf_lst, ↓DL.gf_fz, ↓DL.x_fz, ↓DL.x_for, ↓DL.x_end_nx, ↓DL.x_end_rt, ↓DL.g_eqS, ↓DL.g_eqI, ↓DL.g_neS, ↓DL.g_neI, ↓DL.g_lt, ↓DL.g_le, ↓DL.g_gt, ↓DL.g_ge, ↓DL.g_add, ↓DL.g_addL, ↓DL.g_addT, ↓DL.g_sub, ↓DL.g_mul, ↓DL.g_mulL, ↓DL.g_mod, ↓DL.g_fdiv, ↓DL.g_pow, ↓DL.g_isN, ↓DL.g_notN, ↓DL.g_ixT, ↓DL.g_ixL, ↓DL.g_ixS, ↓DL.ix0, ↓DL.ix1, ↓DL.ix2, ↓DL.ix3, ↓DL.ix4, ↓DL.ix5, ↓DL.ix6, ↓DL.ix7, ↓DL.g_lenT, ↓DL.g_lenL, ↓DL.g_lenS, ↓DL.g_int, ↓DL.g_intB, ↓DL.g_tupT, ↓DL.g_tupL, ↓DL.g_lsT, ↓DL.g_lsL, ↓DL.g_max, ↓DL.g_min, ↓DL.g_slT, ↓DL.g_slL, ↓DL.isQ_some, ↓DL.g_isi, ↓DL.i_int, ↓DL.i_bl, ↓DL.i_tup, ↓DL.i_lst, ↓DL.i_non, ↓DL.i_str, if_true, if_false, Bool.false_eq_true, Bool.not_true, Bool.not_false, reduceCtorEq, decide_eq_true_eq, decide_true, decide_false, Bool.not_eq_true', decide_eq_false_iff_not, Part.d, ↓g_lenQ]
      exact q
    | row r =>
      simp -implicitDefEqProofs only [↓DL.gt_0, ↓DL.gt_s, ↓DL.pt_0, ↓DL.pt_s, ↓DL.gv_fz, ↓DL.x_var, ↓DL.go_fz, ↓DL.go_lst, ↓DL.x_own, ↓DL.x_c, ↓DL.x_bin, ↓DL.x_tst, ↓DL.asB_bl, ↓DL.x_chain, ↓DL.x_and, ↓DL.x_or, ↓DL.x_not, ↓DL.x_andV, ↓DL.x_orV, ↓DL.x_notV, ↓DL.x_if, ↓DL.x_nil, ↓DL.x_cons, ↓DL.x_tup, ↓DL.x_cb, ↓DL.x_call, ↓DL.x_noPart, ↓DL.x_part, ↓DL.asI_int, ↓DL.x_sl, ↓DL.x_neg, ↓DL.x_lstV, ↓DL.x_listL, ↓DL.x_it, ↓DL.x_rng1, ↓DL.x_rng2, ↓DL.ints1_int, ↓DL.ints2_int, ↓DL.asL_lst, ↓DL.asL_tup, ↓DL.asL_scr, ↓DL.x_comp, ↓DL.x_yes, ↓DL.wip_nil, ↓DL.wip_cons, ↓DL.x_next, ↓DL.x_seq, ↓DL.x_brk, ↓DL.x_cont, ↓DL.x_expr, ↓DL.x_ret, ↓DL.x_retN, ↓DL.x_sif, ↓DL.x_set, ↓DL.x_setO, ↓DL.tgK_some, ↓DL.x_asg, ↓DL.x_tgN, ↓DL.x_tgTup, ↓DL.x_tgNil, ↓DL.x_tgConsN, ↓DL.map_some, ↓DL.pts_nil, ↓DL.pts_cons, ↓DL.gl_lst, ↓DL.x_app, ↓DL.x_putIx, ↓DL.gf_lst, ↓DL.gf_fz, ↓DL.x_fz, ↓DL.x_for, ↓DL.x_end_nx, ↓DL.x_end_rt, ↓DL.g_eqS, ↓DL.g_eqI, ↓DL.g_neS, ↓DL.g_neI, ↓DL.g_lt, ↓DL.g_le, ↓DL.g_gt, ↓DL.g_ge, ↓DL.g_add, ↓DL.g_addL, ↓DL.g_addT, ↓DL.g_sub, ↓DL.g_mul, ↓DL.g_mulL, ↓DL.g_mod, ↓DL.g_fdiv, ↓DL.g_pow, ↓DL.g_isN, ↓DL.g_notN, ↓DL.g_ixT, ↓DL.g_ixL, ↓DL.g_ixS, ↓DL.ix0, ↓DL.ix1, ↓DL.ix2, ↓DL.ix3, ↓DL.ix4, ↓DL.ix5, ↓DL.ix6, ↓DL.ix7, ↓DL.g_lenT, ↓DL.g_lenL, ↓DL.g_lenS, ↓DL.g_int, ↓DL.g_intB, ↓DL.g_tupT, ↓DL.g_tupL, ↓DL.g_lsT, ↓DL.g_lsL, ↓DL.g_max, ↓DL.g_min, ↓DL.g_slT, ↓DL.g_slL, ↓DL.isQ_some, ↓DL.g_isi, ↓DL.i_int, ↓DL.i_bl, ↓DL.i_tup, ↓DL.i_lst, ↓DL.i_non, ↓DL.i_str, if_true, if_false, Bool.false_eq_true, Bool.not_true, Bool.not_false, reduceCtorEq, decide_eq_true_eq, decide_true, decide_false, Bool.not_eq_true', decide_eq_false_iff_not, Part.d, ↓g_lenQ, List.length_map]
      have e : decide (0 < (r.length : Int)) = !empty (.row r) := by cases r <;> simp [empty] <;> omega
      rw [e]
      exact q
  · simp -implicitDefEqProofs only [↓DL.gt_0, ↓DL.gt_s, ↓DL.pt_0, ↓DL.pt_s, ↓DL.gv_fz, ↓DL.x_var, ↓DL.go_fz, ↓DL.go_lst, ↓DL.x_own, ↓DL.x_c, ↓DL.x_bin, ↓DL.x_tst, ↓DL.asB_bl, ↓DL.x_chain, ↓DL.x_and, ↓DL.x_or, ↓DL.x_not, ↓DL.x_andV, ↓DL.x_orV, ↓DL.x_notV, ↓DL.x_if, ↓DL.x_nil, ↓DL.x_cons, ↓DL.x_tup, ↓DL.x_cb, ↓DL.x_call, ↓DL.x_noPart, ↓DL.x_part, ↓DL.asI_int, ↓DL.x_sl, ↓DL.x_neg, ↓DL.x_lstV, ↓DL.x_listL, ↓DL.x_it, ↓DL.x_rng1, ↓DL.x_rng2, ↓DL.ints1_int, ↓DL.ints2_int, ↓DL.asL_lst, ↓DL.asL_tup, ↓DL.asL_scr, ↓DL.x_comp, ↓DL.x_yes, ↓DL.wip_nil, ↓DL.wip_cons, ↓DL.x_next, ↓DL.x_seq, ↓DL.x_brk, ↓DL.x_cont, ↓DL.x_expr, ↓DL.x_ret, ↓DL.x_retN, ↓DL.x_sif, ↓DL.x_set, ↓DL.x_setO, ↓DL.tgK_some, ↓DL.x_asg, ↓DL.x_tgN, ↓DL.x_tgTup, ↓DL.x_tgNil, ↓DL.x_tgConsN, ↓DL.map_some, ↓DL.pts_nil, ↓DL.pts_cons, ↓DL.gl_lst, ↓DL.x_app, ↓DL.x_putIx, ↓DL.gf_lst, ↓DL.gf_fz, ↓DL.x_fz, ↓DL.x_for, ↓DL.x_end_nx, ↓DL.x_end_rt, ↓DL.g_eqS, ↓DL.g_eqI, ↓DL.g_neS, ↓DL.g_neI, ↓DL.g_lt, ↓DL.g_le, ↓DL.g_gt, ↓DL.g_ge, ↓DL.g_add, ↓DL.g_addL, ↓DL.g_addT, ↓DL.g_sub, ↓DL.g_mul, ↓DL.g_mulL, ↓DL.g_mod, ↓DL.g_fdiv, ↓DL.g_pow, ↓DL.g_isN, ↓DL.g_notN, ↓DL.g_ixT, ↓DL.g_ixL, ↓DL.g_ixS, ↓DL.ix0, ↓DL.ix1, ↓DL.ix2, ↓DL.ix3, ↓DL.ix4, ↓DL.ix5, ↓DL.ix6, ↓DL.ix7, ↓DL.g_lenT, ↓DL.g_lenL, ↓DL.g_lenS, ↓DL.g_int, ↓DL.g_intB, ↓DL.g_tupT, ↓DL.g_tupL, ↓DL.g_lsT, ↓DL.g_lsL, ↓DL.g_max, ↓DL.g_min, ↓DL.g_slT, ↓DL.g_slL, ↓DL.isQ_some, ↓DL.g_isi, ↓DL.i_int, ↓DL.i_bl, ↓DL.i_tup, ↓DL.i_lst, ↓DL.i_non, ↓DL.i_str, if_true, if_false, Bool.false_eq_true, Bool.not_true, Bool.not_false, reduceCtorEq, decide_eq_true_eq, decide_true, decide_false, Bool.not_eq_true', decide_eq_false_iff_not]
    exact q
  simp -implicitDefEqProofs only [↓DL.gt_0, ↓DL.gt_s, ↓DL.pt_0, ↓DL.pt_s, ↓DL.gv_fz, ↓DL.x_var, ↓DL.go_fz, ↓DL.go_lst, ↓DL.x_own, ↓DL.x_c, ↓DL.x_bin, ↓DL.x_tst, ↓DL.asB_bl, ↓DL.x_chain, ↓DL.x_and, ↓DL.x_or, ↓DL.x_not, ↓DL.x_andV, ↓DL.x_orV, ↓DL.x_notV, ↓DL.x_if, ↓DL.x_nil, ↓DL.x_cons, ↓DL.x_tup, ↓DL.x_cb, ↓DL.x_call, ↓DL.x_noPart, ↓DL.x_part, ↓DL.asI_int, ↓DL.x_sl, ↓DL.x_neg, ↓DL.x_lstV, ↓DL.x_listL, ↓DL.x_it, ↓DL.x_rng1, ↓DL.x_rng2, ↓DL.ints1_int, ↓DL.ints2_int, ↓DL.asL_lst, ↓DL.asL_tup, ↓DL.asL_scr, ↓DL.x_comp, ↓DL.x_yes, ↓DL.wip_nil, ↓DL.wip_cons, ↓DL.x_next, ↓DL.x_seq, ↓DL.x_brk, ↓DL.x_cont, ↓DL.x_expr, ↓DL.x_ret, ↓DL.x_retN, ↓DL.x_sif, ↓DL.x_set, ↓DL.x_setO, ↓DL.tgK_some, ↓DL.x_asg, ↓DL.x_tgN, ↓DL.x_tgTup, ↓DL.x_tgNil, ↓DL.x_tgConsN, ↓DL.map_some, ↓DL.pts_nil, ↓DL.pts_cons, ↓DL.gl_lst, ↓DL.x_app, ↓DL.x_putIx, ↓DL.gf_lst, ↓DL.gf_fz, ↓DL.x_fz, ↓DL.x_for, ↓DL.x_end_nx, ↓DL.x_end_rt, ↓DL.g_eqS, ↓DL.g_eqI, ↓DL.g_neS, ↓DL.g_neI, ↓DL.g_lt, ↓DL.g_le, ↓DL.g_gt, ↓DL.g_ge, ↓DL.g_add, ↓DL.g_addL, ↓DL.g_addT, ↓DL.g_sub, ↓DL.g_mul, ↓DL.g_mulL, ↓DL.g_mod, ↓DL.g_fdiv, ↓DL.g_pow, ↓DL.g_isN, ↓DL.g_notN, ↓DL.g_ixT, ↓DL.g_ixL, ↓DL.g_ixS, ↓DL.ix0, ↓DL.ix1, ↓DL.ix2, ↓DL.ix3, ↓DL.ix4, ↓DL.ix5, ↓DL.ix6, ↓DL.ix7, ↓DL.g_lenT, ↓DL.g_lenL, ↓DL.g_lenS, ↓DL.g_int, ↓DL.g_intB, ↓DL.g_tupT, ↓DL.g_tupL, ↓DL.g_lsT, ↓DL.g_lsL, ↓DL.g_max, ↓DL.g_min, ↓DL.g_slT, ↓DL.g_slL, ↓DL.isQ_some, ↓DL.g_isi, ↓DL.i_int, ↓DL.i_bl, ↓DL.i_tup, ↓DL.i_lst, ↓DL.i_non, ↓DL.i_str, if_true, if_false, Bool.false_eq_true, Bool.not_true, Bool.not_false, reduceCtorEq, decide_eq_true_eq, decide_true, decide_false, Bool.not_eq_true', decide_eq_false_iff_not, List.nil_append, ↓xs4]
  have eS : ((((ps.filter fun p => !empty p).map (Part.d false)).length : Int) = 0) = (smooth ps = true) := by
    have := smoothE (ps := ps) (m := false) (p := fun p => !empty p) fun x _ => rfl
    rw [← this, decide_eq_true_eq]
  rw [smoothE fun x _ => rfl]
  simp only [eS, Bool.not_eq_true]
  refine ⟨by omega, by omega, ?_⟩
  rw [Int.toNat_natCast, rngE]
  refine ⟨by simp; omega, compGo_of .int (fun x => b.contains x) .int _ _ (fun y hy => ⟨_, rfl, fun Q E q => ?_, fun _ Q E q => ?_⟩) ?_⟩
  · simp -implicitDefEqProofs only [↓DL.gt_0, ↓DL.gt_s, ↓DL.pt_0, ↓DL.pt_s, ↓DL.gv_fz, ↓DL.x_var, ↓DL.go_fz, ↓DL.go_lst, ↓DL.x_own, ↓DL.x_c, ↓DL.x_bin, ↓DL.x_tst, ↓DL.asB_bl, ↓DL.x_chain, ↓DL.x_and, ↓DL.x_or, ↓DL.x_not, ↓DL.x_andV, ↓DL.x_orV, ↓DL.x_notV, ↓DL.x_if, ↓DL.x_nil, ↓DL.x_cons, ↓DL.x_tup, ↓DL.x_cb, ↓DL.x_call, ↓DL.x_noPart, ↓DL.x_part, ↓DL.asI_int, ↓DL.x_sl, ↓DL.x_neg, ↓DL.x_lstV, ↓DL.x_listL, ↓DL.x_it, ↓DL.x_rng1, ↓DL.x_rng2, ↓DL.ints1_int, ↓DL.ints2_int, ↓DL.asL_lst, ↓DL.asL_tup, ↓DL.asL_scr, ↓DL.x_comp, ↓DL.x_yes, ↓DL.wip_nil, ↓DL.wip_cons, ↓DL.x_next, ↓DL.x_seq, ↓DL.x_brk, ↓DL.x_cont, ↓DL.x_expr, ↓DL.x_ret, ↓DL.x_retN, ↓DL.x_sif, ↓DL.x_set, ↓DL.x_setO, ↓DL.tgK_some, ↓DL.x_asg, ↓DL.x_tgN, ↓DL.x_tgTup, ↓DL.x_tgNil, ↓DL.x_tgConsN, ↓DL.map_some, ↓DL.pts_nil, ↓DL.pts_cons, ↓DL.gl_lst, ↓DL.x_app, ↓DL.x_putIx, ↓DL.gf_lst, ↓DL.gf_fz, ↓DL.x_fz, ↓DL.x_for, ↓DL.x_end_nx, ↓DL.x_end_rt, ↓DL.g_eqS, ↓DL.g_eqI, ↓DL.g_neS, ↓DL.g_neI, ↓DL.g_lt, ↓DL.g_le, ↓DL.g_gt, ↓DL.g_ge, ↓DL.g_add, ↓DL.g_addL, ↓DL.g_addT, ↓DL.g_sub, ↓DL.g_mul, ↓DL.g_mulL, ↓DL.g_mod, ↓DL.g_fdiv, ↓DL.g_pow, ↓DL.g_isN, ↓DL.g_notN, ↓DL.g_ixT, ↓DL.g_ixL, ↓DL.g_ixS, ↓DL.ix0, ↓DL.ix1, ↓DL.ix2, ↓DL.ix3, ↓DL.ix4, ↓DL.ix5, ↓DL.ix6, ↓DL.ix7, ↓DL.g_lenT, ↓DL.g_lenL, ↓DL.g_lenS, ↓DL.g_int, ↓DL.g_intB, ↓DL.g_tupT, ↓DL.g_tupL, ↓DL.g_lsT, ↓DL.g_lsL, ↓DL.g_max, ↓DL.g_min, ↓DL.g_slT, ↓DL.g_slL, ↓DL.isQ_some, ↓DL.g_isi, ↓DL.i_int, ↓DL.i_bl, ↓DL.i_tup, ↓DL.i_lst, ↓DL.i_non, ↓DL.i_str, if_true, if_false, Bool.false_eq_true, Bool.not_true, Bool.not_false, reduceCtorEq, decide_eq_true_eq, decide_true, decide_false, Bool.not_eq_true', decide_eq_false_iff_not, ↓g_ixSt, ↓g_inQ]
    exact q
  · simp -implicitDefEqProofs only [↓DL.gt_0, ↓DL.gt_s, ↓DL.pt_0, ↓DL.pt_s, ↓DL.gv_fz, ↓DL.x_var, ↓DL.go_fz, ↓DL.go_lst, ↓DL.x_own, ↓DL.x_c, ↓DL.x_bin, ↓DL.x_tst, ↓DL.asB_bl, ↓DL.x_chain, ↓DL.x_and, ↓DL.x_or, ↓DL.x_not, ↓DL.x_andV, ↓DL.x_orV, ↓DL.x_notV, ↓DL.x_if, ↓DL.x_nil, ↓DL.x_cons, ↓DL.x_tup, ↓DL.x_cb, ↓DL.x_call, ↓DL.x_noPart, ↓DL.x_part, ↓DL.asI_int, ↓DL.x_sl, ↓DL.x_neg, ↓DL.x_lstV, ↓DL.x_listL, ↓DL.x_it, ↓DL.x_rng1, ↓DL.x_rng2, ↓DL.ints1_int, ↓DL.ints2_int, ↓DL.asL_lst, ↓DL.asL_tup, ↓DL.asL_scr, ↓DL.x_comp, ↓DL.x_yes, ↓DL.wip_nil, ↓DL.wip_cons, ↓DL.x_next, ↓DL.x_seq, ↓DL.x_brk, ↓DL.x_cont, ↓DL.x_expr, ↓DL.x_ret, ↓DL.x_retN, ↓DL.x_sif, ↓DL.x_set, ↓DL.x_setO, ↓DL.tgK_some, ↓DL.x_asg, ↓DL.x_tgN, ↓DL.x_tgTup, ↓DL.x_tgNil, ↓DL.x_tgConsN, ↓DL.map_some, ↓DL.pts_nil, ↓DL.pts_cons, ↓DL.gl_lst, ↓DL.x_app, ↓DL.x_putIx, ↓DL.gf_lst, ↓DL.gf_fz, ↓DL.x_fz, ↓DL.x_for, ↓DL.x_end_nx, ↓DL.x_end_rt, ↓DL.g_eqS, ↓DL.g_eqI, ↓DL.g_neS, ↓DL.g_neI, ↓DL.g_lt, ↓DL.g_le, ↓DL.g_gt, ↓DL.g_ge, ↓DL.g_add, ↓DL.g_addL, ↓DL.g_addT, ↓DL.g_sub, ↓DL.g_mul, ↓DL.g_mulL, ↓DL.g_mod, ↓DL.g_fdiv, ↓DL.g_pow, ↓DL.g_isN, ↓DL.g_notN, ↓DL.g_ixT, ↓DL.g_ixL, ↓DL.g_ixS, ↓DL.ix0, ↓DL.ix1, ↓DL.ix2, ↓DL.ix3, ↓DL.ix4, ↓DL.ix5, ↓DL.ix6, ↓DL.ix7, ↓DL.g_lenT, ↓DL.g_lenL, ↓DL.g_lenS, ↓DL.g_int, ↓DL.g_intB, ↓DL.g_tupT, ↓DL.g_tupL, ↓DL.g_lsT, ↓DL.g_lsL, ↓DL.g_max, ↓DL.g_min, ↓DL.g_slT, ↓DL.g_slL, ↓DL.isQ_some, ↓DL.g_isi, ↓DL.i_int, ↓DL.i_bl, ↓DL.i_tup, ↓DL.i_lst, ↓DL.i_non, ↓DL.i_str, if_true, if_false, Bool.false_eq_true, Bool.not_true, Bool.not_false, reduceCtorEq, decide_eq_true_eq, decide_true, decide_false, Bool.not_eq_true', decide_eq_false_iff_not]
    exact q
  simp -implicitDefEqProofs only [↓DL.gt_0, ↓DL.gt_s, ↓DL.pt_0, ↓DL.pt_s, ↓DL.gv_fz, ↓DL.x_var, ↓DL.go_fz, ↓DL.go_lst, ↓DL.x_own, ↓DL.x_c, ↓DL.x_bin, ↓DL.x_tst, ↓DL.asB_bl, ↓DL.x_chain, ↓DL.x_and, ↓DL.x_or, ↓DL.x_not, ↓DL.x_andV, ↓DL.x_orV, ↓DL.x_notV, ↓DL.x_if, ↓DL.x_nil, ↓DL.x_cons, ↓DL.x_tup, ↓DL.x_cb, ↓DL.x_call, ↓DL.x_noPart, ↓DL.x_part, ↓DL.asI_int, ↓DL.x_sl, ↓DL.x_neg, ↓DL.x_lstV, ↓DL.x_listL, ↓DL.x_it, ↓DL.x_rng1, ↓DL.x_rng2, ↓DL.ints1_int, ↓DL.ints2_int, ↓DL.asL_lst, ↓DL.asL_tup, ↓DL.asL_scr, ↓DL.x_comp, ↓DL.x_yes, ↓DL.wip_nil, ↓DL.wip_cons, ↓DL.x_next, ↓DL.x_seq, ↓DL.x_brk, ↓DL.x_cont, ↓DL.x_expr, ↓DL.x_ret, ↓DL.x_retN, ↓DL.x_sif, ↓DL.x_set, ↓DL.x_setO, ↓DL.tgK_some, ↓DL.x_asg, ↓DL.x_tgN, ↓DL.x_tgTup, ↓DL.x_tgNil, ↓DL.x_tgConsN, ↓DL.map_some, ↓DL.pts_nil, ↓DL.pts_cons, ↓DL.gl_lst, ↓DL.x_app, ↓DL.x_putIx, ↓DL.gf_lst, ↓DL.gf_fz, ↓DL.x_fz, ↓DL.x_for, ↓DL.x_end_nx, ↓DL.x_end_rt, ↓DL.g_eqS, ↓DL.g_eqI, ↓DL.g_neS, ↓DL.g_neI, ↓DL.g_lt, ↓DL.g_le, ↓DL.g_gt, ↓DL.g_ge, ↓DL.g_add, ↓DL.g_addL, ↓DL.g_addT, ↓DL.g_sub, ↓DL.g_mul, ↓DL.g_mulL, ↓DL.g_mod, ↓DL.g_fdiv, ↓DL.g_pow, ↓DL.g_isN, ↓DL.g_notN, ↓DL.g_ixT, ↓DL.g_ixL, ↓DL.g_ixS, ↓DL.ix0, ↓DL.ix1, ↓DL.ix2, ↓DL.ix3, ↓DL.ix4, ↓DL.ix5, ↓DL.ix6, ↓DL.ix7, ↓DL.g_lenT, ↓DL.g_lenL, ↓DL.g_lenS, ↓DL.g_int, ↓DL.g_intB, ↓DL.g_tupT, ↓DL.g_tupL, ↓DL.g_lsT, ↓DL.g_lsL, ↓DL.g_max, ↓DL.g_min, ↓DL.g_slT, ↓DL.g_slL, ↓DL.isQ_some, ↓DL.g_isi, ↓DL.i_int, ↓DL.i_bl, ↓DL.i_tup, ↓DL.i_lst, ↓DL.i_non, ↓DL.i_str, if_true, if_false, Bool.false_eq_true, Bool.not_true, Bool.not_false, reduceCtorEq, decide_eq_true_eq, decide_true, decide_false, Bool.not_eq_true', decide_eq_false_iff_not, List.nil_append, ↓xs5, tb, tf, tl]
  have eA : ((List.range s.a).map fun i : Nat => (i : Int)) = answers s := rfl
  rw [eA]
  have hb0 : b[0]? = some (b.headD 0) := by
    have := bk.len
    have := ok.h2
    cases b with
    | nil => simp at *; omega
    | cons x xs => rfl
  have h0 : ∀ Q : D → Prop, ixQ (iL b) 0 Q = Q (.int (b.headD 0)) := fun Q => ixQ_n (Q := Q) (xs := iL b) (i := 0) (a := .int (b.headD 0)) (by rw [List.getElem?_map, hb0]; rfl)
  cases ht : s.task with
  | begun =>
    rw [right_begun ht] at q
    exact q
  | free =>
    rw [right_free ht] at q
    rw [if_neg (by simp), if_pos rfl]
    refine ⟨by omega, by omega, by simp [answers]; omega, compGo_of .int (fun _ => true) .int _ _ (fun y hy => ⟨_, rfl, fun Q E q => q, fun _ Q E q => ?_⟩) ?_⟩
    · simp -implicitDefEqProofs only [↓DL.gt_0, ↓DL.gt_s, ↓DL.pt_0, ↓DL.pt_s, ↓DL.gv_fz, ↓DL.x_var, ↓DL.go_fz, ↓DL.go_lst, ↓DL.x_own, ↓DL.x_c, ↓DL.x_bin, ↓DL.x_tst, ↓DL.asB_bl, ↓DL.x_chain, ↓DL.x_and, ↓DL.x_or, ↓DL.x_not, ↓DL.x_andV, ↓DL.x_orV, ↓DL.x_notV, ↓DL.x_if, ↓DL.x_nil, ↓DL.x_cons, ↓DL.x_tup, ↓DL.x_cb, ↓DL.x_call, ↓DL.x_noPart, ↓DL.x_part, ↓DL.asI_int, ↓DL.x_sl, ↓DL.x_neg, ↓DL.x_lstV, ↓DL.x_listL, ↓DL.x_it, ↓DL.x_rng1, ↓DL.x_rng2, ↓DL.ints1_int, ↓DL.ints2_int, ↓DL.asL_lst, ↓DL.asL_tup, ↓DL.asL_scr, ↓DL.x_comp, ↓DL.x_yes, ↓DL.wip_nil, ↓DL.wip_cons, ↓DL.x_next, ↓DL.x_seq, ↓DL.x_brk, ↓DL.x_cont, ↓DL.x_expr, ↓DL.x_ret, ↓DL.x_retN, ↓DL.x_sif, ↓DL.x_set, ↓DL.x_setO, ↓DL.tgK_some, ↓DL.x_asg, ↓DL.x_tgN, ↓DL.x_tgTup, ↓DL.x_tgNil, ↓DL.x_tgConsN, ↓DL.map_some, ↓DL.pts_nil, ↓DL.pts_cons, ↓DL.gl_lst, ↓DL.x_app, ↓DL.x_putIx, ↓DL.gf_lst, ↓DL.gf_fz, ↓DL.x_fz, ↓DL.x_for, ↓DL.x_end_nx, ↓DL.x_end_rt, ↓DL.g_eqS, ↓DL.g_eqI, ↓DL.g_neS, ↓DL.g_neI, ↓DL.g_lt, ↓DL.g_le, ↓DL.g_gt, ↓DL.g_ge, ↓DL.g_add, ↓DL.g_addL, ↓DL.g_addT, ↓DL.g_sub, ↓DL.g_mul, ↓DL.g_mulL, ↓DL.g_mod, ↓DL.g_fdiv, ↓DL.g_pow, ↓DL.g_isN, ↓DL.g_notN, ↓DL.g_ixT, ↓DL.g_ixL, ↓DL.g_ixS, ↓DL.ix0, ↓DL.ix1, ↓DL.ix2, ↓DL.ix3, ↓DL.ix4, ↓DL.ix5, ↓DL.ix6, ↓DL.ix7, ↓DL.g_lenT, ↓DL.g_lenL, ↓DL.g_lenS, ↓DL.g_int, ↓DL.g_intB, ↓DL.g_tupT, ↓DL.g_tupL, ↓DL.g_lsT, ↓DL.g_lsL, ↓DL.g_max, ↓DL.g_min, ↓DL.g_slT, ↓DL.g_slL, ↓DL.isQ_some, ↓DL.g_isi, ↓DL.i_int, ↓DL.i_bl, ↓DL.i_tup, ↓DL.i_lst, ↓DL.i_non, ↓DL.i_str, if_true, if_false, Bool.false_eq_true, Bool.not_true, Bool.not_false, reduceCtorEq, decide_eq_true_eq, decide_true, decide_false, Bool.not_eq_true', decide_eq_false_iff_not]
      exact q
    · rw [filter_t]
      exact q
  | leader =>
    rw [if_neg (by simp), if_neg (by simp), if_pos rfl]
    by_cases hs : smooth ps = true
    · rw [right_leader1 ok bk ht hs] at q
      rw [if_pos hs]
      simp -implicitDefEqProofs only [↓DL.gt_0, ↓DL.gt_s, ↓DL.pt_0, ↓DL.pt_s, ↓DL.gv_fz, ↓DL.x_var, ↓DL.go_fz, ↓DL.go_lst, ↓DL.x_own, ↓DL.x_c, ↓DL.x_bin, ↓DL.x_tst, ↓DL.asB_bl, ↓DL.x_chain, ↓DL.x_and, ↓DL.x_or, ↓DL.x_not, ↓DL.x_andV, ↓DL.x_orV, ↓DL.x_notV, ↓DL.x_if, ↓DL.x_nil, ↓DL.x_cons, ↓DL.x_tup, ↓DL.x_cb, ↓DL.x_call, ↓DL.x_noPart, ↓DL.x_part, ↓DL.asI_int, ↓DL.x_sl, ↓DL.x_neg, ↓DL.x_lstV, ↓DL.x_listL, ↓DL.x_it, ↓DL.x_rng1, ↓DL.x_rng2, ↓DL.ints1_int, ↓DL.ints2_int, ↓DL.asL_lst, ↓DL.asL_tup, ↓DL.asL_scr, ↓DL.x_comp, ↓DL.x_yes, ↓DL.wip_nil, ↓DL.wip_cons, ↓DL.x_next, ↓DL.x_seq, ↓DL.x_brk, ↓DL.x_cont, ↓DL.x_expr, ↓DL.x_ret, ↓DL.x_retN, ↓DL.x_sif, ↓DL.x_set, ↓DL.x_setO, ↓DL.tgK_some, ↓DL.x_asg, ↓DL.x_tgN, ↓DL.x_tgTup, ↓DL.x_tgNil, ↓DL.x_tgConsN, ↓DL.map_some, ↓DL.pts_nil, ↓DL.pts_cons, ↓DL.gl_lst, ↓DL.x_app, ↓DL.x_putIx, ↓DL.gf_lst, ↓DL.gf_fz, ↓DL.x_fz, ↓DL.x_for, ↓DL.x_end_nx, ↓DL.x_end_rt, ↓DL.g_eqS, ↓DL.g_eqI, ↓DL.g_neS, ↓DL.g_neI, ↓DL.g_lt, ↓DL.g_le, ↓DL.g_gt, ↓DL.g_ge, ↓DL.g_add, ↓DL.g_addL, ↓DL.g_addT, ↓DL.g_sub, ↓DL.g_mul, ↓DL.g_mulL, ↓DL.g_mod, ↓DL.g_fdiv, ↓DL.g_pow, ↓DL.g_isN, ↓DL.g_notN, ↓DL.g_ixT, ↓DL.g_ixL, ↓DL.g_ixS, ↓DL.ix0, ↓DL.ix1, ↓DL.ix2, ↓DL.ix3, ↓DL.ix4, ↓DL.ix5, ↓DL.ix6, ↓DL.ix7, ↓DL.g_lenT, ↓DL.g_lenL, ↓DL.g_lenS, ↓DL.g_int, ↓DL.g_intB, ↓DL.g_tupT, ↓DL.g_tupL, ↓DL.g_lsT, ↓DL.g_lsL, ↓DL.g_max, ↓DL.g_min, ↓DL.g_slT, ↓DL.g_slL, ↓DL.isQ_some, ↓DL.g_isi, ↓DL.i_int, ↓DL.i_bl, ↓DL.i_tup, ↓DL.i_lst, ↓DL.i_non, ↓DL.i_str, if_true, if_false, Bool.false_eq_true, Bool.not_true, Bool.not_false, reduceCtorEq, decide_eq_true_eq, decide_true, decide_false, Bool.not_eq_true', decide_eq_false_iff_not, ↓g_ixSt, ↓g_ixQ, h0]
      exact q
    · rw [right_leader ok bk ht (by simpa using hs)] at q
      rw [if_neg hs]
      exact q
  | votes =>
    rw [right_votes ok bk ht] at q
    rw [if_neg (by simp), if_neg (by simp), if_neg (by simp)]
    simp -implicitDefEqProofs only [↓g_ixSt, ↓DL.ix0, ↓asL_seq]
    refine ⟨by simp [bk.len]; omega, compGo_of .int (fun x => decide (x = 1)) .int _ _ (fun y hy => ⟨_, rfl, fun Q E q => ?_, fun _ Q E q => ?_⟩) ?_⟩
    · simp -implicitDefEqProofs only [↓DL.gt_0, ↓DL.gt_s, ↓DL.pt_0, ↓DL.pt_s, ↓DL.gv_fz, ↓DL.x_var, ↓DL.go_fz, ↓DL.go_lst, ↓DL.x_own, ↓DL.x_c, ↓DL.x_bin, ↓DL.x_tst, ↓DL.asB_bl, ↓DL.x_chain, ↓DL.x_and, ↓DL.x_or, ↓DL.x_not, ↓DL.x_andV, ↓DL.x_orV, ↓DL.x_notV, ↓DL.x_if, ↓DL.x_nil, ↓DL.x_cons, ↓DL.x_tup, ↓DL.x_cb, ↓DL.x_call, ↓DL.x_noPart, ↓DL.x_part, ↓DL.asI_int, ↓DL.x_sl, ↓DL.x_neg, ↓DL.x_lstV, ↓DL.x_listL, ↓DL.x_it, ↓DL.x_rng1, ↓DL.x_rng2, ↓DL.ints1_int, ↓DL.ints2_int, ↓DL.asL_lst, ↓DL.asL_tup, ↓DL.asL_scr, ↓DL.x_comp, ↓DL.x_yes, ↓DL.wip_nil, ↓DL.wip_cons, ↓DL.x_next, ↓DL.x_seq, ↓DL.x_brk, ↓DL.x_cont, ↓DL.x_expr, ↓DL.x_ret, ↓DL.x_retN, ↓DL.x_sif, ↓DL.x_set, ↓DL.x_setO, ↓DL.tgK_some, ↓DL.x_asg, ↓DL.x_tgN, ↓DL.x_tgTup, ↓DL.x_tgNil, ↓DL.x_tgConsN, ↓DL.map_some, ↓DL.pts_nil, ↓DL.pts_cons, ↓DL.gl_lst, ↓DL.x_app, ↓DL.x_putIx, ↓DL.gf_lst, ↓DL.gf_fz, ↓DL.x_fz, ↓DL.x_for, ↓DL.x_end_nx, ↓DL.x_end_rt, ↓DL.g_eqS, ↓DL.g_eqI, ↓DL.g_neS, ↓DL.g_neI, ↓DL.g_lt, ↓DL.g_le, ↓DL.g_gt, ↓DL.g_ge, ↓DL.g_add, ↓DL.g_addL, ↓DL.g_addT, ↓DL.g_sub, ↓DL.g_mul, ↓DL.g_mulL, ↓DL.g_mod, ↓DL.g_fdiv, ↓DL.g_pow, ↓DL.g_isN, ↓DL.g_notN, ↓DL.g_ixT, ↓DL.g_ixL, ↓DL.g_ixS, ↓DL.ix0, ↓DL.ix1, ↓DL.ix2, ↓DL.ix3, ↓DL.ix4, ↓DL.ix5, ↓DL.ix6, ↓DL.ix7, ↓DL.g_lenT, ↓DL.g_lenL, ↓DL.g_lenS, ↓DL.g_int, ↓DL.g_intB, ↓DL.g_tupT, ↓DL.g_tupL, ↓DL.g_lsT, ↓DL.g_lsL, ↓DL.g_max, ↓DL.g_min, ↓DL.g_slT, ↓DL.g_slL, ↓DL.isQ_some, ↓DL.g_isi, ↓DL.i_int, ↓DL.i_bl, ↓DL.i_tup, ↓DL.i_lst, ↓DL.i_non, ↓DL.i_str, if_true, if_false, Bool.false_eq_true, Bool.not_true, Bool.not_false, reduceCtorEq, decide_eq_true_eq, decide_true, decide_false, Bool.not_eq_true', decide_eq_false_iff_not]
      exact q
    · simp -implicitDefEqProofs only [↓DL.gt_0, ↓DL.gt_s, ↓DL.pt_0, ↓DL.pt_s, ↓DL.gv_fz, ↓DL.x_var, ↓DL.go_fz, ↓DL.go_lst, ↓DL.x_own, ↓DL.x_c, ↓DL.x_bin, ↓DL.x_tst, ↓DL.asB_bl, ↓DL.x_chain, ↓DL.x_and, ↓DL.x_or, ↓DL.x_not, ↓DL.x_andV, ↓DL.x_orV, ↓DL.x_notV, ↓DL.x_if, ↓DL.x_nil, ↓DL.x_cons, ↓DL.x_tup, ↓DL.x_cb, ↓DL.x_call, ↓DL.x_noPart, ↓DL.x_part, ↓DL.asI_int, ↓DL.x_sl, ↓DL.x_neg, ↓DL.x_lstV, ↓DL.x_listL, ↓DL.x_it, ↓DL.x_rng1, ↓DL.x_rng2, ↓DL.ints1_int, ↓DL.ints2_int, ↓DL.asL_lst, ↓DL.asL_tup, ↓DL.asL_scr, ↓DL.x_comp, ↓DL.x_yes, ↓DL.wip_nil, ↓DL.wip_cons, ↓DL.x_next, ↓DL.x_seq, ↓DL.x_brk, ↓DL.x_cont, ↓DL.x_expr, ↓DL.x_ret, ↓DL.x_retN, ↓DL.x_sif, ↓DL.x_set, ↓DL.x_setO, ↓DL.tgK_some, ↓DL.x_asg, ↓DL.x_tgN, ↓DL.x_tgTup, ↓DL.x_tgNil, ↓DL.x_tgConsN, ↓DL.map_some, ↓DL.pts_nil, ↓DL.pts_cons, ↓DL.gl_lst, ↓DL.x_app, ↓DL.x_putIx, ↓DL.gf_lst, ↓DL.gf_fz, ↓DL.x_fz, ↓DL.x_for, ↓DL.x_end_nx, ↓DL.x_end_rt, ↓DL.g_eqS, ↓DL.g_eqI, ↓DL.g_neS, ↓DL.g_neI, ↓DL.g_lt, ↓DL.g_le, ↓DL.g_gt, ↓DL.g_ge, ↓DL.g_add, ↓DL.g_addL, ↓DL.g_addT, ↓DL.g_sub, ↓DL.g_mul, ↓DL.g_mulL, ↓DL.g_mod, ↓DL.g_fdiv, ↓DL.g_pow, ↓DL.g_isN, ↓DL.g_notN, ↓DL.g_ixT, ↓DL.g_ixL, ↓DL.g_ixS, ↓DL.ix0, ↓DL.ix1, ↓DL.ix2, ↓DL.ix3, ↓DL.ix4, ↓DL.ix5, ↓DL.ix6, ↓DL.ix7, ↓DL.g_lenT, ↓DL.g_lenL, ↓DL.g_lenS, ↓DL.g_int, ↓DL.g_intB, ↓DL.g_tupT, ↓DL.g_tupL, ↓DL.g_lsT, ↓DL.g_lsL, ↓DL.g_max, ↓DL.g_min, ↓DL.g_slT, ↓DL.g_slL, ↓DL.isQ_some, ↓DL.g_isi, ↓DL.i_int, ↓DL.i_bl, ↓DL.i_tup, ↓DL.i_lst, ↓DL.i_non, ↓DL.i_str, if_true, if_false, Bool.false_eq_true, Bool.not_true, Bool.not_false, reduceCtorEq, decide_eq_true_eq, decide_true, decide_false, Bool.not_eq_true', decide_eq_false_iff_not]
      exact q
    simp -implicitDefEqProofs only [↓DL.gt_0, ↓DL.gt_s, ↓DL.pt_0, ↓DL.pt_s, ↓DL.gv_fz, ↓DL.x_var, ↓DL.go_fz, ↓DL.go_lst, ↓DL.x_own, ↓DL.x_c, ↓DL.x_bin, ↓DL.x_tst, ↓DL.asB_bl, ↓DL.x_chain, ↓DL.x_and, ↓DL.x_or, ↓DL.x_not, ↓DL.x_andV, ↓DL.x_orV, ↓DL.x_notV, ↓DL.x_if, ↓DL.x_nil, ↓DL.x_cons, ↓DL.x_tup, ↓DL.x_cb, ↓DL.x_call, ↓DL.x_noPart, ↓DL.x_part, ↓DL.asI_int, ↓DL.x_sl, ↓DL.x_neg, ↓DL.x_lstV, ↓DL.x_listL, ↓DL.x_it, ↓DL.x_rng1, ↓DL.x_rng2, ↓DL.ints1_int, ↓DL.ints2_int, ↓DL.asL_lst, ↓DL.asL_tup, ↓DL.asL_scr, ↓DL.x_comp, ↓DL.x_yes, ↓DL.wip_nil, ↓DL.wip_cons, ↓DL.x_next, ↓DL.x_seq, ↓DL.x_brk, ↓DL.x_cont, ↓DL.x_expr, ↓DL.x_ret, ↓DL.x_retN, ↓DL.x_sif, ↓DL.x_set, ↓DL.x_setO, ↓DL.tgK_some, ↓DL.x_asg, ↓DL.x_tgN, ↓DL.x_tgTup, ↓DL.x_tgNil, ↓DL.x_tgConsN, ↓DL.map_some, ↓DL.pts_nil, ↓DL.pts_cons, ↓DL.gl_lst, ↓DL.x_app, ↓DL.x_putIx, ↓DL.gf_lst, ↓DL.gf_fz, ↓DL.x_fz, ↓DL.x_for, ↓DL.x_end_nx, ↓DL.x_end_rt, ↓DL.g_eqS, ↓DL.g_eqI, ↓DL.g_neS, ↓DL.g_neI, ↓DL.g_lt, ↓DL.g_le, ↓DL.g_gt, ↓DL.g_ge, ↓DL.g_add, ↓DL.g_addL, ↓DL.g_addT, ↓DL.g_sub, ↓DL.g_mul, ↓DL.g_mulL, ↓DL.g_mod, ↓DL.g_fdiv, ↓DL.g_pow, ↓DL.g_isN, ↓DL.g_notN, ↓DL.g_ixT, ↓DL.g_ixL, ↓DL.g_ixS, ↓DL.ix0, ↓DL.ix1, ↓DL.ix2, ↓DL.ix3, ↓DL.ix4, ↓DL.ix5, ↓DL.ix6, ↓DL.ix7, ↓DL.g_lenT, ↓DL.g_lenL, ↓DL.g_lenS, ↓DL.g_int, ↓DL.g_intB, ↓DL.g_tupT, ↓DL.g_tupL, ↓DL.g_lsT, ↓DL.g_lsL, ↓DL.g_max, ↓DL.g_min, ↓DL.g_slT, ↓DL.g_slL, ↓DL.isQ_some, ↓DL.g_isi, ↓DL.i_int, ↓DL.i_bl, ↓DL.i_tup, ↓DL.i_lst, ↓DL.i_non, ↓DL.i_str, if_true, if_false, Bool.false_eq_true, Bool.not_true, Bool.not_false, reduceCtorEq, decide_eq_true_eq, decide_true, decide_false, Bool.not_eq_true', decide_eq_false_iff_not, List.nil_append, List.length_map]
    rw [show (b.filter fun x => decide (x = 1)).length = ones b from rfl]
    have fin : ∀ xs : List Int, xs.length ≤ 10 → Q (.tup (iL (xs ++ if ones b = s.h then [1] else []))) → ∀ o0 o1 o3 o4, lp_l_right_2 (dEnd Q E) [o0, o1, some (.fz (.int s.h)), o3, o4, some (.fz (.int (ones b))), some (.lst (iL xs)), none, none, none] := by
      intro xs hx q o0 o1 o3 o4
      simp -implicitDefEqProofs only [↓DL.gt_0, ↓DL.gt_s, ↓DL.pt_0, ↓DL.pt_s, ↓DL.gv_fz, ↓DL.x_var, ↓DL.go_fz, ↓DL.go_lst, ↓DL.x_own, ↓DL.x_c, ↓DL.x_bin, ↓DL.x_tst, ↓DL.asB_bl, ↓DL.x_chain, ↓DL.x_and, ↓DL.x_or, ↓DL.x_not, ↓DL.x_andV, ↓DL.x_orV, ↓DL.x_notV, ↓DL.x_if, ↓DL.x_nil, ↓DL.x_cons, ↓DL.x_tup, ↓DL.x_cb, ↓DL.x_call, ↓DL.x_noPart, ↓DL.x_part, ↓DL.asI_int, ↓DL.x_sl, ↓DL.x_neg, ↓DL.x_lstV, ↓DL.x_listL, ↓DL.x_it, ↓DL.x_rng1, ↓DL.x_rng2, ↓DL.ints1_int, ↓DL.ints2_int, ↓DL.asL_lst, ↓DL.asL_tup, ↓DL.asL_scr, ↓DL.x_comp, ↓DL.x_yes, ↓DL.wip_nil, ↓DL.wip_cons, ↓DL.x_next, ↓DL.x_seq, ↓DL.x_brk, ↓DL.x_cont, ↓DL.x_expr, ↓DL.x_ret, ↓DL.x_retN, ↓DL.x_sif, ↓DL.x_set, ↓DL.x_setO, ↓DL.tgK_some, ↓DL.x_asg, ↓DL.x_tgN, ↓DL.x_tgTup, ↓DL.x_tgNil, ↓DL.x_tgConsN, ↓DL.map_some, ↓DL.pts_nil, ↓DL.pts_cons, ↓DL.gl_lst, ↓DL.x_app, ↓DL.x_putIx, ↓DL.gf_lst, ↓DL.gf_fz, ↓DL.x_fz, ↓DL.x_for, ↓DL.x_end_nx, ↓DL.x_end_rt, ↓DL.g_eqS, ↓DL.g_eqI, ↓DL.g_neS, ↓DL.g_neI, ↓DL.g_lt, ↓DL.g_le, ↓DL.g_gt, ↓DL.g_ge, ↓DL.g_add, ↓DL.g_addL, ↓DL.g_addT, ↓DL.g_sub, ↓DL.g_mul, ↓DL.g_mulL, ↓DL.g_mod, ↓DL.g_fdiv, ↓DL.g_pow, ↓DL.g_isN, ↓DL.g_notN, ↓DL.g_ixT, ↓DL.g_ixL, ↓DL.g_ixS, ↓DL.ix0, ↓DL.ix1, ↓DL.ix2, ↓DL.ix3, ↓DL.ix4, ↓DL.ix5, ↓DL.ix6, ↓DL.ix7, ↓DL.g_lenT, ↓DL.g_lenL, ↓DL.g_lenS, ↓DL.g_int, ↓DL.g_intB, ↓DL.g_tupT, ↓DL.g_tupL, ↓DL.g_lsT, ↓DL.g_lsL, ↓DL.g_max, ↓DL.g_min, ↓DL.g_slT, ↓DL.g_slL, ↓DL.isQ_some, ↓DL.g_isi, ↓DL.i_int, ↓DL.i_bl, ↓DL.i_tup, ↓DL.i_lst, ↓DL.i_non, ↓DL.i_str, if_true, if_false, Bool.false_eq_true, Bool.not_true, Bool.not_false, reduceCtorEq, decide_eq_true_eq, decide_true, decide_false, Bool.not_eq_true', decide_eq_false_iff_not, ↓u_l_right_2, List.length_map]
      by_cases h1 : ones b = s.h
      · rw [if_pos h1] at q
        rw [if_pos (by omega)]
        refine ⟨by omega, ?_⟩
        simp -implicitDefEqProofs only [↓DL.gt_0, ↓DL.gt_s, ↓DL.pt_0, ↓DL.pt_s, ↓DL.gv_fz, ↓DL.x_var, ↓DL.go_fz, ↓DL.go_lst, ↓DL.x_own, ↓DL.x_c, ↓DL.x_bin, ↓DL.x_tst, ↓DL.asB_bl, ↓DL.x_chain, ↓DL.x_and, ↓DL.x_or, ↓DL.x_not, ↓DL.x_andV, ↓DL.x_orV, ↓DL.x_notV, ↓DL.x_if, ↓DL.x_nil, ↓DL.x_cons, ↓DL.x_tup, ↓DL.x_cb, ↓DL.x_call, ↓DL.x_noPart, ↓DL.x_part, ↓DL.asI_int, ↓DL.x_sl, ↓DL.x_neg, ↓DL.x_lstV, ↓DL.x_listL, ↓DL.x_it, ↓DL.x_rng1, ↓DL.x_rng2, ↓DL.ints1_int, ↓DL.ints2_int, ↓DL.asL_lst, ↓DL.asL_tup, ↓DL.asL_scr, ↓DL.x_comp, ↓DL.x_yes, ↓DL.wip_nil, ↓DL.wip_cons, ↓DL.x_next, ↓DL.x_seq, ↓DL.x_brk, ↓DL.x_cont, ↓DL.x_expr, ↓DL.x_ret, ↓DL.x_retN, ↓DL.x_sif, ↓DL.x_set, ↓DL.x_setO, ↓DL.tgK_some, ↓DL.x_asg, ↓DL.x_tgN, ↓DL.x_tgTup, ↓DL.x_tgNil, ↓DL.x_tgConsN, ↓DL.map_some, ↓DL.pts_nil, ↓DL.pts_cons, ↓DL.gl_lst, ↓DL.x_app, ↓DL.x_putIx, ↓DL.gf_lst, ↓DL.gf_fz, ↓DL.x_fz, ↓DL.x_for, ↓DL.x_end_nx, ↓DL.x_end_rt, ↓DL.g_eqS, ↓DL.g_eqI, ↓DL.g_neS, ↓DL.g_neI, ↓DL.g_lt, ↓DL.g_le, ↓DL.g_gt, ↓DL.g_ge, ↓DL.g_add, ↓DL.g_addL, ↓DL.g_addT, ↓DL.g_sub, ↓DL.g_mul, ↓DL.g_mulL, ↓DL.g_mod, ↓DL.g_fdiv, ↓DL.g_pow, ↓DL.g_isN, ↓DL.g_notN, ↓DL.g_ixT, ↓DL.g_ixL, ↓DL.g_ixS, ↓DL.ix0, ↓DL.ix1, ↓DL.ix2, ↓DL.ix3, ↓DL.ix4, ↓DL.ix5, ↓DL.ix6, ↓DL.ix7, ↓DL.g_lenT, ↓DL.g_lenL, ↓DL.g_lenS, ↓DL.g_int, ↓DL.g_intB, ↓DL.g_tupT, ↓DL.g_tupL, ↓DL.g_lsT, ↓DL.g_lsL, ↓DL.g_max, ↓DL.g_min, ↓DL.g_slT, ↓DL.g_slL, ↓DL.isQ_some, ↓DL.g_isi, ↓DL.i_int, ↓DL.i_bl, ↓DL.i_tup, ↓DL.i_lst, ↓DL.i_non, ↓DL.i_str, if_true, if_false, Bool.false_eq_true, Bool.not_true, Bool.not_false, reduceCtorEq, decide_eq_true_eq, decide_true, decide_false, Bool.not_eq_true', decide_eq_false_iff_not, ↓u_l_right_1]
        simpa using q
      · rw [if_neg h1] at q
        rw [if_neg (by omega)]
        simp -implicitDefEqProofs only [↓DL.gt_0, ↓DL.gt_s, ↓DL.pt_0, ↓DL.pt_s, ↓DL.gv_fz, ↓DL.x_var, ↓DL.go_fz, ↓DL.go_lst, ↓DL.x_own, ↓DL.x_c, ↓DL.x_bin, ↓DL.x_tst, ↓DL.asB_bl, ↓DL.x_chain, ↓DL.x_and, ↓DL.x_or, ↓DL.x_not, ↓DL.x_andV, ↓DL.x_orV, ↓DL.x_notV, ↓DL.x_if, ↓DL.x_nil, ↓DL.x_cons, ↓DL.x_tup, ↓DL.x_cb, ↓DL.x_call, ↓DL.x_noPart, ↓DL.x_part, ↓DL.asI_int, ↓DL.x_sl, ↓DL.x_neg, ↓DL.x_lstV, ↓DL.x_listL, ↓DL.x_it, ↓DL.x_rng1, ↓DL.x_rng2, ↓DL.ints1_int, ↓DL.ints2_int, ↓DL.asL_lst, ↓DL.asL_tup, ↓DL.asL_scr, ↓DL.x_comp, ↓DL.x_yes, ↓DL.wip_nil, ↓DL.wip_cons, ↓DL.x_next, ↓DL.x_seq, ↓DL.x_brk, ↓DL.x_cont, ↓DL.x_expr, ↓DL.x_ret, ↓DL.x_retN, ↓DL.x_sif, ↓DL.x_set, ↓DL.x_setO, ↓DL.tgK_some, ↓DL.x_asg, ↓DL.x_tgN, ↓DL.x_tgTup, ↓DL.x_tgNil, ↓DL.x_tgConsN, ↓DL.map_some, ↓DL.pts_nil, ↓DL.pts_cons, ↓DL.gl_lst, ↓DL.x_app, ↓DL.x_putIx, ↓DL.gf_lst, ↓DL.gf_fz, ↓DL.x_fz, ↓DL.x_for, ↓DL.x_end_nx, ↓DL.x_end_rt, ↓DL.g_eqS, ↓DL.g_eqI, ↓DL.g_neS, ↓DL.g_neI, ↓DL.g_lt, ↓DL.g_le, ↓DL.g_gt, ↓DL.g_ge, ↓DL.g_add, ↓DL.g_addL, ↓DL.g_addT, ↓DL.g_sub, ↓DL.g_mul, ↓DL.g_mulL, ↓DL.g_mod, ↓DL.g_fdiv, ↓DL.g_pow, ↓DL.g_isN, ↓DL.g_notN, ↓DL.g_ixT, ↓DL.g_ixL, ↓DL.g_ixS, ↓DL.ix0, ↓DL.ix1, ↓DL.ix2, ↓DL.ix3, ↓DL.ix4, ↓DL.ix5, ↓DL.ix6, ↓DL.ix7, ↓DL.g_lenT, ↓DL.g_lenL, ↓DL.g_lenS, ↓DL.g_int, ↓DL.g_intB, ↓DL.g_tupT, ↓DL.g_tupL, ↓DL.g_lsT, ↓DL.g_lsL, ↓DL.g_max, ↓DL.g_min, ↓DL.g_slT, ↓DL.g_slL, ↓DL.isQ_some, ↓DL.g_isi, ↓DL.i_int, ↓DL.i_bl, ↓DL.i_tup, ↓DL.i_lst, ↓DL.i_non, ↓DL.i_str, if_true, if_false, Bool.false_eq_true, Bool.not_true, Bool.not_false, reduceCtorEq, decide_eq_true_eq, decide_true, decide_false, Bool.not_eq_true', decide_eq_false_iff_not, ↓u_l_right_1]
        simpa using q
    by_cases h2 : ones b < s.h ∨ smooth ps = false
    · rw [if_pos h2] at q
      have f1 := fin [0] (by simp) q
      by_cases h3 : (ones b : Int) < s.h
      · rw [if_pos h3]
        exact ⟨by simp, f1 _ _ _ _⟩
      · rw [if_neg h3, if_pos (h2.resolve_left (by omega))]
        exact ⟨by simp, f1 _ _ _ _⟩
    · rw [if_neg h2] at q
      rw [if_neg (by omega), if_neg (fun z => h2 (.inr z))]
      exact fin [] (by simp) q _ _ _ _
end K64

namespace K64
open PySem L2 DL
theorem cut_hi {xs : List D} {i : Nat} : cutD xs none (some (i : Int)) = xs.take i := by
  unfold cutD
  rw [HT.sIx_nat, HT.sIx_none]
  simp
theorem cut_lo {xs : List D} {i : Nat} : cutD xs (some (i : Int)) none = xs.drop i := by
  unfold cutD
  rw [HT.sIx_nat, HT.sIx_none]
  rw [List.take_of_length_le (by simp)]
  by_cases h : i ≤ xs.length
  · rw [Nat.min_eq_left h]
  · rw [Nat.min_eq_right (by omega), List.drop_eq_nil_of_le (Nat.le_refl _), List.drop_eq_nil_of_le (by omega)]
theorem cut_xs {s : St} : cutD s.xs none (some 5) = [.str s.kind, .int s.h, .int s.f, .int s.l, .int s.a] := by
  rw [show (some 5 : Option Int) = some ((5 : Nat) : Int) from rfl, cut_hi]
  unfold St.xs St.kind
  cases s.fl <;> rfl
def St.with (s : St) (t : Task) (l : Bool) : St := { s with task := t, lasting := l }
theorem with_l {s : St} {t : Task} {l : Bool} (h : s.fl = false) : (s.with t l).xs = [.str s.kind, .int s.h, .int s.f, .int s.l, .int s.a, .str t.s] := by
  unfold St.xs St.with St.kind
  simp only [h, Bool.false_eq_true, if_false]
theorem with_f {s : St} {t : Task} {l : Bool} (h : s.fl = true) : (s.with t l).xs = [.str s.kind, .int s.h, .int s.f, .int s.l, .int s.a, .str t.s, .str (if l then "lasting" else "standing")] := by
  unfold St.xs St.with St.kind
  simp only [h, if_true]
theorem with_sim {s : St} {t : Task} {l : Bool} (b : s.Big) (h : t = .votes → s.a = 2) : Sim s (s.with t l) := ⟨rfl, rfl, rfl, rfl, rfl, ⟨b.ok.h2, b.ok.h5, b.ok.l1, b.ok.l5, b.ok.a1, b.ok.a4, h⟩⟩
theorem p_l_variants_1 {s : St} {Z : DEnd} (big : s.Big) : ∀ (ts : List Task) (acc : List St) (o2 : Option O), (∀ t ∈ ts, t = .votes → s.a = 2) → acc.length + 2 * ts.length ≤ 100 → (∀ v ∈ acc, Sim s v) →
    (∀ (vs : List St) (o2 : Option O), (∀ v ∈ vs, Sim s v) → Z.nx [some (.fz (.tup s.xs)), some (.lst (vs.map fun v => .tup v.xs)), o2]) →
    forGo (tgN 2) lp_l_variants_1 Z (ts.map fun t => .str t.s) [some (.fz (.tup s.xs)), some (.lst (acc.map fun v => .tup v.xs)), o2]
  | [], acc, o2, ht, hl, ha, q => q acc o2 ha
  | t :: ts, acc, o2, ht, hl, ha, q => by
    rw [List.length_cons] at hl
    have htv := ht t List.mem_cons_self
    have ih : ∀ (vs : List St) o2, vs.length ≤ 2 → (∀ v ∈ vs, Sim s v) → forGo (tgN 2) lp_l_variants_1 Z (ts.map fun t => .str t.s) [some (.fz (.tup s.xs)), some (.lst ((acc.map fun v => .tup v.xs) ++ vs.map fun v => .tup v.xs)), o2] := by
      intro vs o2 h2 hv
      rw [← List.map_append]
      refine p_l_variants_1 big ts _ o2 (fun t h => ht t (List.mem_cons_of_mem _ h)) (by simp; omega) (fun v h => ?_) q
      rcases List.mem_append.mp h with h | h
      · exact ha v h
      · exact hv v h
    simp -implicitDefEqProofs only [↓DL.gt_0, ↓DL.gt_s, ↓DL.pt_0, ↓DL.pt_s, ↓DL.gv_fz, ↓DL.x_var, ↓DL.go_fz, ↓DL.go_lst, ↓DL.x_own, ↓DL.x_c, ↓DL.x_bin, ↓DL.x_tst, ↓DL.asB_bl, ↓DL.x_chain, ↓DL.x_and, ↓DL.x_or, ↓DL.x_not, ↓DL.x_andV, ↓DL.x_orV, ↓DL.x_notV, ↓DL.x_if, ↓DL.x_nil, ↓DL.x_cons, ↓DL.x_tup, ↓DL.x_cb, ↓DL.x_call, ↓DL.x_noPart, ↓DL.x_part, ↓DL.asI_int, ↓DL.x_sl, ↓DL.x_neg, ↓DL.x_lstV, ↓DL.x_listL, ↓DL.x_it, ↓DL.x_rng1, ↓DL.x_rng2, ↓DL.ints1_int, ↓DL.ints2_int, ↓DL.asL_lst, ↓DL.asL_tup, ↓DL.asL_scr, ↓DL.x_comp, ↓DL.x_yes, ↓DL.wip_nil, ↓DL.wip_cons, ↓DL.x_next, ↓DL.x_seq, ↓DL.x_brk, ↓DL.x_cont, ↓DL.x_expr, ↓DL.x_ret, ↓DL.x_retN, ↓DL.x_sif, ↓DL.x_set, ↓DL.x_setO, ↓DL.tgK_some, ↓DL.x_asg, ↓DL.x_tgN, ↓DL.x_tgTup, ↓DL.x_tgNil, ↓DL.x_tgConsN, ↓DL.map_some, ↓DL.pts_nil, ↓DL.pts_cons, ↓DL.gl_lst, ↓DL.x_app, ↓DL.x_putIx, ↓DL.gf_lst, ↓DL.gf_fz, ↓DL.x_fz, ↓DL.x_for, ↓DL.x_end_nx, ↓DL.x_end_rt, ↓DL.g_eqS, ↓DL.g_eqI, ↓DL.g_neS, ↓DL.g_neI, ↓DL.g_lt, ↓DL.g_le, ↓DL.g_gt, ↓DL.g_ge, ↓DL.g_add, ↓DL.g_addL, ↓DL.g_addT, ↓DL.g_sub, ↓DL.g_mul, ↓DL.g_mulL, ↓DL.g_mod, ↓DL.g_fdiv, ↓DL.g_pow, ↓DL.g_isN, ↓DL.g_notN, ↓DL.g_ixT, ↓DL.g_ixL, ↓DL.g_ixS, ↓DL.ix0, ↓DL.ix1, ↓DL.ix2, ↓DL.ix3, ↓DL.ix4, ↓DL.ix5, ↓DL.ix6, ↓DL.ix7, ↓DL.g_lenT, ↓DL.g_lenL, ↓DL.g_lenS, ↓DL.g_int, ↓DL.g_intB, ↓DL.g_tupT, ↓DL.g_tupL, ↓DL.g_lsT, ↓DL.g_lsL, ↓DL.g_max, ↓DL.g_min, ↓DL.g_slT, ↓DL.g_slL, ↓DL.isQ_some, ↓DL.g_isi, ↓DL.i_int, ↓DL.i_bl, ↓DL.i_tup, ↓DL.i_lst, ↓DL.i_non, ↓DL.i_str, if_true, if_false, Bool.false_eq_true, Bool.not_true, Bool.not_false, reduceCtorEq, decide_eq_true_eq, decide_true, decide_false, Bool.not_eq_true', decide_eq_false_iff_not, List.map_cons, ↓forGo_cons, ↓u_l_variants_1, ↓xs0, kl, cut_xs, List.length_map, List.length_cons, List.length_nil, List.cons_append, List.nil_append, List.append_assoc, List.length_append]
    cases hf : s.fl with
    | false =>
      rw [if_pos rfl]
      refine ⟨by decide, by omega, ?_⟩
      have := ih [s.with t true] (some (.fz (.str t.s))) (by simp) (fun v hv => by rw [List.mem_singleton.mp hv]; exact with_sim big htv)
      rw [List.map_cons, List.map_nil, with_l hf] at this
      exact this
    | true =>
      rw [if_neg (by simp)]
      refine ⟨by decide, by omega, by decide, by omega, ?_⟩
      have := ih [s.with t true, s.with t false] (some (.fz (.str t.s))) (by simp) (fun v hv => by
        simp only [List.mem_cons, List.not_mem_nil, or_false] at hv
        rcases hv with rfl | rfl
        · exact with_sim big htv
        · exact with_sim big htv)
      simp only [List.map_cons, List.map_nil, with_f hf, if_true, Bool.false_eq_true, if_false] at this
      exact this
theorem p_l_variants (ds : List D) (Q : D → Prop) (E : DExc → Prop) (hl : ds.length = 1) (h : sp_l_variants ds Q E) : b_l_variants (dEnd Q E) (en N_l_variants.length ds) := by
  obtain ⟨s, big, rfl, q⟩ := h
  rw [en_l_variants]
  simp -implicitDefEqProofs only [↓DL.gt_0, ↓DL.gt_s, ↓DL.pt_0, ↓DL.pt_s, ↓DL.gv_fz, ↓DL.x_var, ↓DL.go_fz, ↓DL.go_lst, ↓DL.x_own, ↓DL.x_c, ↓DL.x_bin, ↓DL.x_tst, ↓DL.asB_bl, ↓DL.x_chain, ↓DL.x_and, ↓DL.x_or, ↓DL.x_not, ↓DL.x_andV, ↓DL.x_orV, ↓DL.x_notV, ↓DL.x_if, ↓DL.x_nil, ↓DL.x_cons, ↓DL.x_tup, ↓DL.x_cb, ↓DL.x_call, ↓DL.x_noPart, ↓DL.x_part, ↓DL.asI_int, ↓DL.x_sl, ↓DL.x_neg, ↓DL.x_lstV, ↓DL.x_listL, ↓DL.x_it, ↓DL.x_rng1, ↓DL.x_rng2, ↓DL.ints1_int, ↓DL.ints2_int, ↓DL.asL_lst, ↓DL.asL_tup, ↓DL.asL_scr, ↓DL.x_comp, ↓DL.x_yes, ↓DL.wip_nil, ↓DL.wip_cons, ↓DL.x_next, ↓DL.x_seq, ↓DL.x_brk, ↓DL.x_cont, ↓DL.x_expr, ↓DL.x_ret, ↓DL.x_retN, ↓DL.x_sif, ↓DL.x_set, ↓DL.x_setO, ↓DL.tgK_some, ↓DL.x_asg, ↓DL.x_tgN, ↓DL.x_tgTup, ↓DL.x_tgNil, ↓DL.x_tgConsN, ↓DL.map_some, ↓DL.pts_nil, ↓DL.pts_cons, ↓DL.gl_lst, ↓DL.x_app, ↓DL.x_putIx, ↓DL.gf_lst, ↓DL.gf_fz, ↓DL.x_fz, ↓DL.x_for, ↓DL.x_end_nx, ↓DL.x_end_rt, ↓DL.g_eqS, ↓DL.g_eqI, ↓DL.g_neS, ↓DL.g_neI, ↓DL.g_lt, ↓DL.g_le, ↓DL.g_gt, ↓DL.g_ge, ↓DL.g_add, ↓DL.g_addL, ↓DL.g_addT, ↓DL.g_sub, ↓DL.g_mul, ↓DL.g_mulL, ↓DL.g_mod, ↓DL.g_fdiv, ↓DL.g_pow, ↓DL.g_isN, ↓DL.g_notN, ↓DL.g_ixT, ↓DL.g_ixL, ↓DL.g_ixS, ↓DL.ix0, ↓DL.ix1, ↓DL.ix2, ↓DL.ix3, ↓DL.ix4, ↓DL.ix5, ↓DL.ix6, ↓DL.ix7, ↓DL.g_lenT, ↓DL.g_lenL, ↓DL.g_lenS, ↓DL.g_int, ↓DL.g_intB, ↓DL.g_tupT, ↓DL.g_tupL, ↓DL.g_lsT, ↓DL.g_lsL, ↓DL.g_max, ↓DL.g_min, ↓DL.g_slT, ↓DL.g_slL, ↓DL.isQ_some, ↓DL.g_isi, ↓DL.i_int, ↓DL.i_bl, ↓DL.i_tup, ↓DL.i_lst, ↓DL.i_non, ↓DL.i_str, if_true, if_false, Bool.false_eq_true, Bool.not_true, Bool.not_false, reduceCtorEq, decide_eq_true_eq, decide_true, decide_false, Bool.not_eq_true', decide_eq_false_iff_not, b_l_variants, ↓xs4]
  have fin : ∀ ts : List Task, (∀ t ∈ ts, t = .votes → s.a = 2) → ts.length ≤ 4 → forGo (tgN 2) lp_l_variants_1 { dEnd Q E with nx := fun env => (sFz 1 (sRet (dVar 1))) (dEnd Q E) env } (ts.map fun t => .str t.s) [some (.fz (.tup s.xs)), some (.lst []), none] := by
    intro ts ht hl
    refine p_l_variants_1 big ts [] none ht (by simp; omega) (fun v h => nomatch h) fun vs o2 hv => ?_
    simp -implicitDefEqProofs only [↓DL.gt_0, ↓DL.gt_s, ↓DL.pt_0, ↓DL.pt_s, ↓DL.gv_fz, ↓DL.x_var, ↓DL.go_fz, ↓DL.go_lst, ↓DL.x_own, ↓DL.x_c, ↓DL.x_bin, ↓DL.x_tst, ↓DL.asB_bl, ↓DL.x_chain, ↓DL.x_and, ↓DL.x_or, ↓DL.x_not, ↓DL.x_andV, ↓DL.x_orV, ↓DL.x_notV, ↓DL.x_if, ↓DL.x_nil, ↓DL.x_cons, ↓DL.x_tup, ↓DL.x_cb, ↓DL.x_call, ↓DL.x_noPart, ↓DL.x_part, ↓DL.asI_int, ↓DL.x_sl, ↓DL.x_neg, ↓DL.x_lstV, ↓DL.x_listL, ↓DL.x_it, ↓DL.x_rng1, ↓DL.x_rng2, ↓DL.ints1_int, ↓DL.ints2_int, ↓DL.asL_lst, ↓DL.asL_tup, ↓DL.asL_scr, ↓DL.x_comp, ↓DL.x_yes, ↓DL.wip_nil, ↓DL.wip_cons, ↓DL.x_next, ↓DL.x_seq, ↓DL.x_brk, ↓DL.x_cont, ↓DL.x_expr, ↓DL.x_ret, ↓DL.x_retN, ↓DL.x_sif, ↓DL.x_set, ↓DL.x_setO, ↓DL.tgK_some, ↓DL.x_asg, ↓DL.x_tgN, ↓DL.x_tgTup, ↓DL.x_tgNil, ↓DL.x_tgConsN, ↓DL.map_some, ↓DL.pts_nil, ↓DL.pts_cons, ↓DL.gl_lst, ↓DL.x_app, ↓DL.x_putIx, ↓DL.gf_lst, ↓DL.gf_fz, ↓DL.x_fz, ↓DL.x_for, ↓DL.x_end_nx, ↓DL.x_end_rt, ↓DL.g_eqS, ↓DL.g_eqI, ↓DL.g_neS, ↓DL.g_neI, ↓DL.g_lt, ↓DL.g_le, ↓DL.g_gt, ↓DL.g_ge, ↓DL.g_add, ↓DL.g_addL, ↓DL.g_addT, ↓DL.g_sub, ↓DL.g_mul, ↓DL.g_mulL, ↓DL.g_mod, ↓DL.g_fdiv, ↓DL.g_pow, ↓DL.g_isN, ↓DL.g_notN, ↓DL.g_ixT, ↓DL.g_ixL, ↓DL.g_ixS, ↓DL.ix0, ↓DL.ix1, ↓DL.ix2, ↓DL.ix3, ↓DL.ix4, ↓DL.ix5, ↓DL.ix6, ↓DL.ix7, ↓DL.g_lenT, ↓DL.g_lenL, ↓DL.g_lenS, ↓DL.g_int, ↓DL.g_intB, ↓DL.g_tupT, ↓DL.g_tupL, ↓DL.g_lsT, ↓DL.g_lsL, ↓DL.g_max, ↓DL.g_min, ↓DL.g_slT, ↓DL.g_slL, ↓DL.isQ_some, ↓DL.g_isi, ↓DL.i_int, ↓DL.i_bl, ↓DL.i_tup, ↓DL.i_lst, ↓DL.i_non, ↓DL.i_str, if_true, if_false, Bool.false_eq_true, Bool.not_true, Bool.not_false, reduceCtorEq, decide_eq_true_eq, decide_true, decide_false, Bool.not_eq_true', decide_eq_false_iff_not]
    exact q vs hv
  by_cases ha : (s.a : Int) = 2
  · simp only [ha, if_true]
    exact fin [.begun, .leader, .free, .votes] (fun t _ _ => by omega) (by simp)
  · simp only [ha, if_false]
    exact fin [.begun, .leader, .free] (fun t h e => by subst e; simp at h) (by simp)
theorem oth_mem {h x : Nat} (hh : h ≤ 5) {y : Int} (m : y ∈ others h x) : 0 ≤ y ∧ y < 5 := by
  unfold others at m
  obtain ⟨n, hn, rfl⟩ := List.mem_map.mp m
  have := List.mem_range.mp (List.mem_filter.mp hn).1
  omega
theorem let_mem {h : Nat} (hh : h ≤ 5) {p : Int × Int} (m : p ∈ letters h) : 0 ≤ p.1 ∧ p.1 < 5 ∧ 0 ≤ p.2 ∧ p.2 < 5 := by
  unfold letters at m
  obtain ⟨n, hn, m⟩ := List.mem_flatMap.mp m
  obtain ⟨y, hy, rfl⟩ := List.mem_map.mp m
  have h1 := List.mem_range.mp hn
  have h2 := oth_mem hh hy
  show 0 ≤ (n : Int) ∧ (n : Int) < 5 ∧ _
  omega
theorem let_len : ∀ h : Nat, 2 ≤ h → h ≤ 5 → 0 < (letters h).length ∧ (letters h).length ≤ 20 ∧ (h ≤ 4 → (letters h).length ≤ 12) := by
  intro h h2 h5
  rcases (by omega : h = 2 ∨ h = 3 ∨ h = 4 ∨ h = 5) with rfl | rfl | rfl | rfl <;> decide
theorem map_cst {α β γ : Type} {f : α → β} {c : γ} {xs : List α} : (xs.map f).map (fun _ => c) = List.replicate xs.length c := by
  rw [List.map_map]
  induction xs with
  | nil => rfl
  | cons x xs ih => rw [List.map_cons, ih]; rfl
theorem p_l_seconds_2 {Q : D → Prop} {E : DExc → Prop} {o0 o1 o2 o3 o4 o6 : Option O} (sm : List Part) (ns : List (List Part)) (hl : sm.length ≤ 5) (hn : ns.length ≤ 5) (hns : ∀ ps ∈ ns, ps.length ≤ 5)
    (q : Q (.lst ((sm :: ns).map (secD false)))) : lp_l_seconds_2 (dEnd Q E) [o0, o1, o2, o3, o4, some (.fz (.lst (sm.map (Part.d false)))), o6, some (.lst (ns.map fun ps => .lst (ps.map (Part.d false)))), none, none] := by
  simp -implicitDefEqProofs only [↓DL.gt_0, ↓DL.gt_s, ↓DL.pt_0, ↓DL.pt_s, ↓DL.gv_fz, ↓DL.x_var, ↓DL.go_fz, ↓DL.go_lst, ↓DL.x_own, ↓DL.x_c, ↓DL.x_bin, ↓DL.x_tst, ↓DL.asB_bl, ↓DL.x_chain, ↓DL.x_and, ↓DL.x_or, ↓DL.x_not, ↓DL.x_andV, ↓DL.x_orV, ↓DL.x_notV, ↓DL.x_if, ↓DL.x_nil, ↓DL.x_cons, ↓DL.x_tup, ↓DL.x_cb, ↓DL.x_call, ↓DL.x_noPart, ↓DL.x_part, ↓DL.asI_int, ↓DL.x_sl, ↓DL.x_neg, ↓DL.x_lstV, ↓DL.x_listL, ↓DL.x_it, ↓DL.x_rng1, ↓DL.x_rng2, ↓DL.ints1_int, ↓DL.ints2_int, ↓DL.asL_lst, ↓DL.asL_tup, ↓DL.asL_scr, ↓DL.x_comp, ↓DL.x_yes, ↓DL.wip_nil, ↓DL.wip_cons, ↓DL.x_next, ↓DL.x_seq, ↓DL.x_brk, ↓DL.x_cont, ↓DL.x_expr, ↓DL.x_ret, ↓DL.x_retN, ↓DL.x_sif, ↓DL.x_set, ↓DL.x_setO, ↓DL.tgK_some, ↓DL.x_asg, ↓DL.x_tgN, ↓DL.x_tgTup, ↓DL.x_tgNil, ↓DL.x_tgConsN, ↓DL.map_some, ↓DL.pts_nil, ↓DL.pts_cons, ↓DL.gl_lst, ↓DL.x_app, ↓DL.x_putIx, ↓DL.gf_lst, ↓DL.gf_fz, ↓DL.x_fz, ↓DL.x_for, ↓DL.x_end_nx, ↓DL.x_end_rt, ↓DL.g_eqS, ↓DL.g_eqI, ↓DL.g_neS, ↓DL.g_neI, ↓DL.g_lt, ↓DL.g_le, ↓DL.g_gt, ↓DL.g_ge, ↓DL.g_add, ↓DL.g_addL, ↓DL.g_addT, ↓DL.g_sub, ↓DL.g_mul, ↓DL.g_mulL, ↓DL.g_mod, ↓DL.g_fdiv, ↓DL.g_pow, ↓DL.g_isN, ↓DL.g_notN, ↓DL.g_ixT, ↓DL.g_ixL, ↓DL.g_ixS, ↓DL.ix0, ↓DL.ix1, ↓DL.ix2, ↓DL.ix3, ↓DL.ix4, ↓DL.ix5, ↓DL.ix6, ↓DL.ix7, ↓DL.g_lenT, ↓DL.g_lenL, ↓DL.g_lenS, ↓DL.g_int, ↓DL.g_intB, ↓DL.g_tupT, ↓DL.g_tupL, ↓DL.g_lsT, ↓DL.g_lsL, ↓DL.g_max, ↓DL.g_min, ↓DL.g_slT, ↓DL.g_slL, ↓DL.isQ_some, ↓DL.g_isi, ↓DL.i_int, ↓DL.i_bl, ↓DL.i_tup, ↓DL.i_lst, ↓DL.i_non, ↓DL.i_str, if_true, if_false, Bool.false_eq_true, Bool.not_true, Bool.not_false, reduceCtorEq, decide_eq_true_eq, decide_true, decide_false, Bool.not_eq_true', decide_eq_false_iff_not, ↓u_l_seconds_2, List.length_cons, List.length_nil, List.length_map]
  refine ⟨by omega, by simp; omega, ?_⟩
  have e : [D.lst (sm.map (Part.d false))] ++ (ns.map fun ps => D.lst (ps.map (Part.d false))) = (sm :: ns).map fun ps => D.lst (ps.map (Part.d false)) := rfl
  rw [e]
  refine compGo_of (fun ps : List Part => D.lst (ps.map (Part.d false))) (fun _ => true) (secD false) _ _ (fun y hy => ⟨_, rfl, fun Q E q => q, fun _ Q E q => ?_⟩) ?_
  · simp -implicitDefEqProofs only [↓DL.gt_0, ↓DL.gt_s, ↓DL.pt_0, ↓DL.pt_s, ↓DL.gv_fz, ↓DL.x_var, ↓DL.go_fz, ↓DL.go_lst, ↓DL.x_own, ↓DL.x_c, ↓DL.x_bin, ↓DL.x_tst, ↓DL.asB_bl, ↓DL.x_chain, ↓DL.x_and, ↓DL.x_or, ↓DL.x_not, ↓DL.x_andV, ↓DL.x_orV, ↓DL.x_notV, ↓DL.x_if, ↓DL.x_nil, ↓DL.x_cons, ↓DL.x_tup, ↓DL.x_cb, ↓DL.x_call, ↓DL.x_noPart, ↓DL.x_part, ↓DL.asI_int, ↓DL.x_sl, ↓DL.x_neg, ↓DL.x_lstV, ↓DL.x_listL, ↓DL.x_it, ↓DL.x_rng1, ↓DL.x_rng2, ↓DL.ints1_int, ↓DL.ints2_int, ↓DL.asL_lst, ↓DL.asL_tup, ↓DL.asL_scr, ↓DL.x_comp, ↓DL.x_yes, ↓DL.wip_nil, ↓DL.wip_cons, ↓DL.x_next, ↓DL.x_seq, ↓DL.x_brk, ↓DL.x_cont, ↓DL.x_expr, ↓DL.x_ret, ↓DL.x_retN, ↓DL.x_sif, ↓DL.x_set, ↓DL.x_setO, ↓DL.tgK_some, ↓DL.x_asg, ↓DL.x_tgN, ↓DL.x_tgTup, ↓DL.x_tgNil, ↓DL.x_tgConsN, ↓DL.map_some, ↓DL.pts_nil, ↓DL.pts_cons, ↓DL.gl_lst, ↓DL.x_app, ↓DL.x_putIx, ↓DL.gf_lst, ↓DL.gf_fz, ↓DL.x_fz, ↓DL.x_for, ↓DL.x_end_nx, ↓DL.x_end_rt, ↓DL.g_eqS, ↓DL.g_eqI, ↓DL.g_neS, ↓DL.g_neI, ↓DL.g_lt, ↓DL.g_le, ↓DL.g_gt, ↓DL.g_ge, ↓DL.g_add, ↓DL.g_addL, ↓DL.g_addT, ↓DL.g_sub, ↓DL.g_mul, ↓DL.g_mulL, ↓DL.g_mod, ↓DL.g_fdiv, ↓DL.g_pow, ↓DL.g_isN, ↓DL.g_notN, ↓DL.g_ixT, ↓DL.g_ixL, ↓DL.g_ixS, ↓DL.ix0, ↓DL.ix1, ↓DL.ix2, ↓DL.ix3, ↓DL.ix4, ↓DL.ix5, ↓DL.ix6, ↓DL.ix7, ↓DL.g_lenT, ↓DL.g_lenL, ↓DL.g_lenS, ↓DL.g_int, ↓DL.g_intB, ↓DL.g_tupT, ↓DL.g_tupL, ↓DL.g_lsT, ↓DL.g_lsL, ↓DL.g_max, ↓DL.g_min, ↓DL.g_slT, ↓DL.g_slL, ↓DL.isQ_some, ↓DL.g_isi, ↓DL.i_int, ↓DL.i_bl, ↓DL.i_tup, ↓DL.i_lst, ↓DL.i_non, ↓DL.i_str, if_true, if_false, Bool.false_eq_true, Bool.not_true, Bool.not_false, reduceCtorEq, decide_eq_true_eq, decide_true, decide_false, Bool.not_eq_true', decide_eq_false_iff_not]
    exact q
  · rw [filter_t]
    exact q
theorem p_l_seconds_3 {Q : D → Prop} {E : DExc → Prop} {s : St} {o1 o2 o3 o4 o6 : Option O} (sm : List Part) (ns : List (List Part)) (big : s.Big) (hs : POk s sm) (hn : ns.length ≤ 5) (hns : ∀ ps ∈ ns, POk s ps)
    (q : ∀ pss : List (List Part), pss.length ≤ 10 → (∀ ps ∈ pss, POk s ps) → Q (.lst (pss.map (secD false)))) : lp_l_seconds_3 (dEnd Q E) [some (.fz (.tup s.xs)), o1, o2, o3, o4, some (.fz (.lst (sm.map (Part.d false)))), o6, some (.lst (ns.map fun ps => .lst (ps.map (Part.d false)))), none, none] := by
  have h1 := pok_len big.ok hs
  simp -implicitDefEqProofs only [↓DL.gt_0, ↓DL.gt_s, ↓DL.pt_0, ↓DL.pt_s, ↓DL.gv_fz, ↓DL.x_var, ↓DL.go_fz, ↓DL.go_lst, ↓DL.x_own, ↓DL.x_c, ↓DL.x_bin, ↓DL.x_tst, ↓DL.asB_bl, ↓DL.x_chain, ↓DL.x_and, ↓DL.x_or, ↓DL.x_not, ↓DL.x_andV, ↓DL.x_orV, ↓DL.x_notV, ↓DL.x_if, ↓DL.x_nil, ↓DL.x_cons, ↓DL.x_tup, ↓DL.x_cb, ↓DL.x_call, ↓DL.x_noPart, ↓DL.x_part, ↓DL.asI_int, ↓DL.x_sl, ↓DL.x_neg, ↓DL.x_lstV, ↓DL.x_listL, ↓DL.x_it, ↓DL.x_rng1, ↓DL.x_rng2, ↓DL.ints1_int, ↓DL.ints2_int, ↓DL.asL_lst, ↓DL.asL_tup, ↓DL.asL_scr, ↓DL.x_comp, ↓DL.x_yes, ↓DL.wip_nil, ↓DL.wip_cons, ↓DL.x_next, ↓DL.x_seq, ↓DL.x_brk, ↓DL.x_cont, ↓DL.x_expr, ↓DL.x_ret, ↓DL.x_retN, ↓DL.x_sif, ↓DL.x_set, ↓DL.x_setO, ↓DL.tgK_some, ↓DL.x_asg, ↓DL.x_tgN, ↓DL.x_tgTup, ↓DL.x_tgNil, ↓DL.x_tgConsN, ↓DL.map_some, ↓DL.pts_nil, ↓DL.pts_cons, ↓DL.gl_lst, ↓DL.x_app, ↓DL.x_putIx, ↓DL.gf_lst, ↓DL.gf_fz, ↓DL.x_fz, ↓DL.x_for, ↓DL.x_end_nx, ↓DL.x_end_rt, ↓DL.g_eqS, ↓DL.g_eqI, ↓DL.g_neS, ↓DL.g_neI, ↓DL.g_lt, ↓DL.g_le, ↓DL.g_gt, ↓DL.g_ge, ↓DL.g_add, ↓DL.g_addL, ↓DL.g_addT, ↓DL.g_sub, ↓DL.g_mul, ↓DL.g_mulL, ↓DL.g_mod, ↓DL.g_fdiv, ↓DL.g_pow, ↓DL.g_isN, ↓DL.g_notN, ↓DL.g_ixT, ↓DL.g_ixL, ↓DL.g_ixS, ↓DL.ix0, ↓DL.ix1, ↓DL.ix2, ↓DL.ix3, ↓DL.ix4, ↓DL.ix5, ↓DL.ix6, ↓DL.ix7, ↓DL.g_lenT, ↓DL.g_lenL, ↓DL.g_lenS, ↓DL.g_int, ↓DL.g_intB, ↓DL.g_tupT, ↓DL.g_tupL, ↓DL.g_lsT, ↓DL.g_lsL, ↓DL.g_max, ↓DL.g_min, ↓DL.g_slT, ↓DL.g_slL, ↓DL.isQ_some, ↓DL.g_isi, ↓DL.i_int, ↓DL.i_bl, ↓DL.i_tup, ↓DL.i_lst, ↓DL.i_non, ↓DL.i_str, if_true, if_false, Bool.false_eq_true, Bool.not_true, Bool.not_false, reduceCtorEq, decide_eq_true_eq, decide_true, decide_false, Bool.not_eq_true', decide_eq_false_iff_not, ↓u_l_seconds_3, ↓xs2]
  split
  · exact p_l_seconds_2 sm [] h1 (by simp) (fun ps h => nomatch h) (q [sm] (by simp) fun ps h => by rw [List.mem_singleton.mp h]; exact hs)
  · exact p_l_seconds_2 sm ns h1 hn (fun ps h => pok_len big.ok (hns ps h)) (q (sm :: ns) (by simp; omega) fun ps h => by
      rcases List.mem_cons.mp h with rfl | h
      · exact hs
      · exact hns ps h)
theorem pok_rep {s : St} {n : Nat} {p : Part} (hn : n = if s.fl then s.h else s.l) (hp : p.ok s) : POk s (List.replicate n p) := ⟨by rw [List.length_replicate, hn], fun x hx => by rw [(List.mem_replicate.mp hx).2]; exact hp⟩
theorem pok_put {s : St} {sm : List Part} {i : Nat} {p : Part} (h : POk s sm) (hi : i < sm.length) (hp : p.ok s) : POk s (sm.take i ++ [p] ++ sm.drop (i + 1)) := by
  refine ⟨?_, fun x hx => ?_⟩
  · rw [← h.len]
    simp
    omega
  · simp only [List.mem_append, List.mem_singleton] at hx
    rcases hx with (hx | rfl) | hx
    · exact h.all x (List.mem_of_mem_take hx)
    · exact hp
    · exact h.all x (List.mem_of_mem_drop hx)
theorem cut_m1 {xs : List D} : cutD xs none (some (-1)) = xs.take (xs.length - 1) := by
  unfold cutD
  rw [HT.sIx_none]
  simp only [HT.sIx]
  rw [if_pos (by decide)]
  simp
  congr 1
  omega
theorem p_l_seconds (ds : List D) (Q : D → Prop) (E : DExc → Prop) (hl : ds.length = 2) (h : sp_l_seconds ds Q E) : b_l_seconds (dEnd Q E) (en N_l_seconds.length ds) := by
  obtain ⟨s, h, big, hh, rfl, q⟩ := h
  have h2 := big.ok.h2
  have h5 := big.ok.h5
  have l5 := big.ok.l5
  obtain ⟨n1, n2, n3⟩ := let_len s.h h2 h5
  rw [en_l_seconds]
  simp -implicitDefEqProofs only [↓DL.gt_0, ↓DL.gt_s, ↓DL.pt_0, ↓DL.pt_s, ↓DL.gv_fz, ↓DL.x_var, ↓DL.go_fz, ↓DL.go_lst, ↓DL.x_own, ↓DL.x_c, ↓DL.x_bin, ↓DL.x_tst, ↓DL.asB_bl, ↓DL.x_chain, ↓DL.x_and, ↓DL.x_or, ↓DL.x_not, ↓DL.x_andV, ↓DL.x_orV, ↓DL.x_notV, ↓DL.x_if, ↓DL.x_nil, ↓DL.x_cons, ↓DL.x_tup, ↓DL.x_cb, ↓DL.x_call, ↓DL.x_noPart, ↓DL.x_part, ↓DL.asI_int, ↓DL.x_sl, ↓DL.x_neg, ↓DL.x_lstV, ↓DL.x_listL, ↓DL.x_it, ↓DL.x_rng1, ↓DL.x_rng2, ↓DL.ints1_int, ↓DL.ints2_int, ↓DL.asL_lst, ↓DL.asL_tup, ↓DL.asL_scr, ↓DL.x_comp, ↓DL.x_yes, ↓DL.wip_nil, ↓DL.wip_cons, ↓DL.x_next, ↓DL.x_seq, ↓DL.x_brk, ↓DL.x_cont, ↓DL.x_expr, ↓DL.x_ret, ↓DL.x_retN, ↓DL.x_sif, ↓DL.x_set, ↓DL.x_setO, ↓DL.tgK_some, ↓DL.x_asg, ↓DL.x_tgN, ↓DL.x_tgTup, ↓DL.x_tgNil, ↓DL.x_tgConsN, ↓DL.map_some, ↓DL.pts_nil, ↓DL.pts_cons, ↓DL.gl_lst, ↓DL.x_app, ↓DL.x_putIx, ↓DL.gf_lst, ↓DL.gf_fz, ↓DL.x_fz, ↓DL.x_for, ↓DL.x_end_nx, ↓DL.x_end_rt, ↓DL.g_eqS, ↓DL.g_eqI, ↓DL.g_neS, ↓DL.g_neI, ↓DL.g_lt, ↓DL.g_le, ↓DL.g_gt, ↓DL.g_ge, ↓DL.g_add, ↓DL.g_addL, ↓DL.g_addT, ↓DL.g_sub, ↓DL.g_mul, ↓DL.g_mulL, ↓DL.g_mod, ↓DL.g_fdiv, ↓DL.g_pow, ↓DL.g_isN, ↓DL.g_notN, ↓DL.g_ixT, ↓DL.g_ixL, ↓DL.g_ixS, ↓DL.ix0, ↓DL.ix1, ↓DL.ix2, ↓DL.ix3, ↓DL.ix4, ↓DL.ix5, ↓DL.ix6, ↓DL.ix7, ↓DL.g_lenT, ↓DL.g_lenL, ↓DL.g_lenS, ↓DL.g_int, ↓DL.g_intB, ↓DL.g_tupT, ↓DL.g_tupL, ↓DL.g_lsT, ↓DL.g_lsL, ↓DL.g_max, ↓DL.g_min, ↓DL.g_slT, ↓DL.g_slL, ↓DL.isQ_some, ↓DL.g_isi, ↓DL.i_int, ↓DL.i_bl, ↓DL.i_tup, ↓DL.i_lst, ↓DL.i_non, ↓DL.i_str, if_true, if_false, Bool.false_eq_true, Bool.not_true, Bool.not_false, reduceCtorEq, decide_eq_true_eq, decide_true, decide_false, Bool.not_eq_true', decide_eq_false_iff_not, b_l_seconds, ↓xs1]
  refine ⟨s.h, h5, rfl, ?_⟩
  simp -implicitDefEqProofs only [↓DL.gt_0, ↓DL.gt_s, ↓DL.pt_0, ↓DL.pt_s, ↓DL.gv_fz, ↓DL.x_var, ↓DL.go_fz, ↓DL.go_lst, ↓DL.x_own, ↓DL.x_c, ↓DL.x_bin, ↓DL.x_tst, ↓DL.asB_bl, ↓DL.x_chain, ↓DL.x_and, ↓DL.x_or, ↓DL.x_not, ↓DL.x_andV, ↓DL.x_orV, ↓DL.x_notV, ↓DL.x_if, ↓DL.x_nil, ↓DL.x_cons, ↓DL.x_tup, ↓DL.x_cb, ↓DL.x_call, ↓DL.x_noPart, ↓DL.x_part, ↓DL.asI_int, ↓DL.x_sl, ↓DL.x_neg, ↓DL.x_lstV, ↓DL.x_listL, ↓DL.x_it, ↓DL.x_rng1, ↓DL.x_rng2, ↓DL.ints1_int, ↓DL.ints2_int, ↓DL.asL_lst, ↓DL.asL_tup, ↓DL.asL_scr, ↓DL.x_comp, ↓DL.x_yes, ↓DL.wip_nil, ↓DL.wip_cons, ↓DL.x_next, ↓DL.x_seq, ↓DL.x_brk, ↓DL.x_cont, ↓DL.x_expr, ↓DL.x_ret, ↓DL.x_retN, ↓DL.x_sif, ↓DL.x_set, ↓DL.x_setO, ↓DL.tgK_some, ↓DL.x_asg, ↓DL.x_tgN, ↓DL.x_tgTup, ↓DL.x_tgNil, ↓DL.x_tgConsN, ↓DL.map_some, ↓DL.pts_nil, ↓DL.pts_cons, ↓DL.gl_lst, ↓DL.x_app, ↓DL.x_putIx, ↓DL.gf_lst, ↓DL.gf_fz, ↓DL.x_fz, ↓DL.x_for, ↓DL.x_end_nx, ↓DL.x_end_rt, ↓DL.g_eqS, ↓DL.g_eqI, ↓DL.g_neS, ↓DL.g_neI, ↓DL.g_lt, ↓DL.g_le, ↓DL.g_gt, ↓DL.g_ge, ↓DL.g_add, ↓DL.g_addL, ↓DL.g_addT, ↓DL.g_sub, ↓DL.g_mul, ↓DL.g_mulL, ↓DL.g_mod, ↓DL.g_fdiv, ↓DL.g_pow, ↓DL.g_isN, ↓DL.g_notN, ↓DL.g_ixT, ↓DL.g_ixL, ↓DL.g_ixS, ↓DL.ix0, ↓DL.ix1, ↓DL.ix2, ↓DL.ix3, ↓DL.ix4, ↓DL.ix5, ↓DL.ix6, ↓DL.ix7, ↓DL.g_lenT, ↓DL.g_lenL, ↓DL.g_lenS, ↓DL.g_int, ↓DL.g_intB, ↓DL.g_tupT, ↓DL.g_tupL, ↓DL.g_lsT, ↓DL.g_lsL, ↓DL.g_max, ↓DL.g_min, ↓DL.g_slT, ↓DL.g_slL, ↓DL.isQ_some, ↓DL.g_isi, ↓DL.i_int, ↓DL.i_bl, ↓DL.i_tup, ↓DL.i_lst, ↓DL.i_non, ↓DL.i_str, if_true, if_false, Bool.false_eq_true, Bool.not_true, Bool.not_false, reduceCtorEq, decide_eq_true_eq, decide_true, decide_false, Bool.not_eq_true', decide_eq_false_iff_not, ↓xs0, kl, ↓xs3, List.length_map]
  cases hf : s.fl with
  | false =>
    rw [if_pos rfl]
    refine ⟨by omega, by omega, ?_⟩
    rw [Int.toNat_natCast, rngE]
    refine ⟨by simp; omega, compGo_of .int (fun _ => true) (fun _ => D.tup []) _ _ (fun y hy => ⟨_, rfl, fun Q E q => q, fun _ Q E q => ?_⟩) ?_⟩
    · simp -implicitDefEqProofs only [↓DL.gt_0, ↓DL.gt_s, ↓DL.pt_0, ↓DL.pt_s, ↓DL.gv_fz, ↓DL.x_var, ↓DL.go_fz, ↓DL.go_lst, ↓DL.x_own, ↓DL.x_c, ↓DL.x_bin, ↓DL.x_tst, ↓DL.asB_bl, ↓DL.x_chain, ↓DL.x_and, ↓DL.x_or, ↓DL.x_not, ↓DL.x_andV, ↓DL.x_orV, ↓DL.x_notV, ↓DL.x_if, ↓DL.x_nil, ↓DL.x_cons, ↓DL.x_tup, ↓DL.x_cb, ↓DL.x_call, ↓DL.x_noPart, ↓DL.x_part, ↓DL.asI_int, ↓DL.x_sl, ↓DL.x_neg, ↓DL.x_lstV, ↓DL.x_listL, ↓DL.x_it, ↓DL.x_rng1, ↓DL.x_rng2, ↓DL.ints1_int, ↓DL.ints2_int, ↓DL.asL_lst, ↓DL.asL_tup, ↓DL.asL_scr, ↓DL.x_comp, ↓DL.x_yes, ↓DL.wip_nil, ↓DL.wip_cons, ↓DL.x_next, ↓DL.x_seq, ↓DL.x_brk, ↓DL.x_cont, ↓DL.x_expr, ↓DL.x_ret, ↓DL.x_retN, ↓DL.x_sif, ↓DL.x_set, ↓DL.x_setO, ↓DL.tgK_some, ↓DL.x_asg, ↓DL.x_tgN, ↓DL.x_tgTup, ↓DL.x_tgNil, ↓DL.x_tgConsN, ↓DL.map_some, ↓DL.pts_nil, ↓DL.pts_cons, ↓DL.gl_lst, ↓DL.x_app, ↓DL.x_putIx, ↓DL.gf_lst, ↓DL.gf_fz, ↓DL.x_fz, ↓DL.x_for, ↓DL.x_end_nx, ↓DL.x_end_rt, ↓DL.g_eqS, ↓DL.g_eqI, ↓DL.g_neS, ↓DL.g_neI, ↓DL.g_lt, ↓DL.g_le, ↓DL.g_gt, ↓DL.g_ge, ↓DL.g_add, ↓DL.g_addL, ↓DL.g_addT, ↓DL.g_sub, ↓DL.g_mul, ↓DL.g_mulL, ↓DL.g_mod, ↓DL.g_fdiv, ↓DL.g_pow, ↓DL.g_isN, ↓DL.g_notN, ↓DL.g_ixT, ↓DL.g_ixL, ↓DL.g_ixS, ↓DL.ix0, ↓DL.ix1, ↓DL.ix2, ↓DL.ix3, ↓DL.ix4, ↓DL.ix5, ↓DL.ix6, ↓DL.ix7, ↓DL.g_lenT, ↓DL.g_lenL, ↓DL.g_lenS, ↓DL.g_int, ↓DL.g_intB, ↓DL.g_tupT, ↓DL.g_tupL, ↓DL.g_lsT, ↓DL.g_lsL, ↓DL.g_max, ↓DL.g_min, ↓DL.g_slT, ↓DL.g_slL, ↓DL.isQ_some, ↓DL.g_isi, ↓DL.i_int, ↓DL.i_bl, ↓DL.i_tup, ↓DL.i_lst, ↓DL.i_non, ↓DL.i_str, if_true, if_false, Bool.false_eq_true, Bool.not_true, Bool.not_false, reduceCtorEq, decide_eq_true_eq, decide_true, decide_false, Bool.not_eq_true', decide_eq_false_iff_not]
      exact q
    rw [filter_t, map_cst, List.length_range, List.nil_append]
    have e0 : List.replicate s.l (D.tup []) = (List.replicate s.l (Part.row [])).map (Part.d false) := by
      rw [List.map_replicate]
      rfl
    rw [e0]
    have pk : POk s (List.replicate s.l (Part.row [])) := pok_rep (by rw [hf]; rfl) ⟨hf, by simp, fun p hp => nomatch hp⟩
    refine ⟨mulR (by decide) (by decide), by omega, ?_⟩
    obtain ⟨m0, m1⟩ := emod_b (a := (h : Int) * 5) (b := ((letters s.h).length : Int)) (by omega)
    refine ixQ_mem m0 (by simpa using m1) fun x hx => ?_
    rw [List.getElem?_map] at hx
    obtain ⟨p, hp, rfl⟩ := Option.map_eq_some_iff.mp hx
    have hpm := let_mem h5 (List.mem_of_getElem? hp)
    have hrow : (Part.row [p]).ok s := ⟨hf, by simp, fun x hx => by rw [List.mem_singleton.mp hx]; exact hpm⟩
    have len : (List.replicate s.l (Part.row [])).length = s.l := List.length_replicate
    have l1 := big.ok.l1
    generalize hsm : List.replicate s.l (Part.row []) = sm at *
    rw [cut_m1, show (some 1 : Option Int) = some ((1 : Nat) : Int) from rfl, cut_lo]
    refine ⟨by simp; omega, by simp; omega, ?_⟩
    have k1 : POk s (sm.take (sm.length - 1) ++ [Part.row [p]]) := ⟨by simp [hf]; omega, fun x hx => by
      rcases List.mem_append.mp hx with hx | hx
      · exact pk.all x (List.mem_of_mem_take hx)
      · rw [List.mem_singleton.mp hx]; exact hrow⟩
    have k2 : POk s ([Part.row [p]] ++ sm.drop 1) := ⟨by simp [hf]; omega, fun x hx => by
      rcases List.mem_append.mp hx with hx | hx
      · rw [List.mem_singleton.mp hx]; exact hrow
      · exact pk.all x (List.mem_of_mem_drop hx)⟩
    have := p_l_seconds_3 (Q := Q) (E := E) (o1 := some (.fz (.int h))) (o2 := some (.fz (.int s.h))) (o3 := some (.fz (.lst ((letters s.h).map prD2)))) (o4 := none) (o6 := some (.fz (.tup [prD2 p]))) sm [sm.take (sm.length - 1) ++ [Part.row [p]], [Part.row [p]] ++ sm.drop 1] big pk (by simp) (fun ps hps => by
      simp only [List.mem_cons, List.not_mem_nil, or_false] at hps
      rcases hps with rfl | rfl
      · exact k1
      · exact k2) q
    have e1 : (sm.take (sm.length - 1) ++ [Part.row [p]]).map (Part.d false) = (sm.map (Part.d false)).take (sm.length - 1) ++ [D.tup [prD2 p]] := by
      rw [List.map_append, List.map_take]
      rfl
    have e2 : ([Part.row [p]] ++ sm.drop 1).map (Part.d false) = [D.tup [prD2 p]] ++ (sm.map (Part.d false)).drop 1 := by
      rw [List.map_append, List.map_drop]
      rfl
    simp only [List.map_cons, List.map_nil] at this
    rw [e1, e2] at this
    rw [List.length_map]
    exact this
  | true =>
    rw [if_neg (by simp)]
    refine ⟨by omega, by omega, ?_⟩
    rw [Int.toNat_natCast, rngE]
    refine ⟨by simp; omega, compGo_of .int (fun _ => true) (fun _ => D.non) _ _ (fun y hy => ⟨_, rfl, fun Q E q => q, fun _ Q E q => ?_⟩) ?_⟩
    · simp -implicitDefEqProofs only [↓DL.gt_0, ↓DL.gt_s, ↓DL.pt_0, ↓DL.pt_s, ↓DL.gv_fz, ↓DL.x_var, ↓DL.go_fz, ↓DL.go_lst, ↓DL.x_own, ↓DL.x_c, ↓DL.x_bin, ↓DL.x_tst, ↓DL.asB_bl, ↓DL.x_chain, ↓DL.x_and, ↓DL.x_or, ↓DL.x_not, ↓DL.x_andV, ↓DL.x_orV, ↓DL.x_notV, ↓DL.x_if, ↓DL.x_nil, ↓DL.x_cons, ↓DL.x_tup, ↓DL.x_cb, ↓DL.x_call, ↓DL.x_noPart, ↓DL.x_part, ↓DL.asI_int, ↓DL.x_sl, ↓DL.x_neg, ↓DL.x_lstV, ↓DL.x_listL, ↓DL.x_it, ↓DL.x_rng1, ↓DL.x_rng2, ↓DL.ints1_int, ↓DL.ints2_int, ↓DL.asL_lst, ↓DL.asL_tup, ↓DL.asL_scr, ↓DL.x_comp, ↓DL.x_yes, ↓DL.wip_nil, ↓DL.wip_cons, ↓DL.x_next, ↓DL.x_seq, ↓DL.x_brk, ↓DL.x_cont, ↓DL.x_expr, ↓DL.x_ret, ↓DL.x_retN, ↓DL.x_sif, ↓DL.x_set, ↓DL.x_setO, ↓DL.tgK_some, ↓DL.x_asg, ↓DL.x_tgN, ↓DL.x_tgTup, ↓DL.x_tgNil, ↓DL.x_tgConsN, ↓DL.map_some, ↓DL.pts_nil, ↓DL.pts_cons, ↓DL.gl_lst, ↓DL.x_app, ↓DL.x_putIx, ↓DL.gf_lst, ↓DL.gf_fz, ↓DL.x_fz, ↓DL.x_for, ↓DL.x_end_nx, ↓DL.x_end_rt, ↓DL.g_eqS, ↓DL.g_eqI, ↓DL.g_neS, ↓DL.g_neI, ↓DL.g_lt, ↓DL.g_le, ↓DL.g_gt, ↓DL.g_ge, ↓DL.g_add, ↓DL.g_addL, ↓DL.g_addT, ↓DL.g_sub, ↓DL.g_mul, ↓DL.g_mulL, ↓DL.g_mod, ↓DL.g_fdiv, ↓DL.g_pow, ↓DL.g_isN, ↓DL.g_notN, ↓DL.g_ixT, ↓DL.g_ixL, ↓DL.g_ixS, ↓DL.ix0, ↓DL.ix1, ↓DL.ix2, ↓DL.ix3, ↓DL.ix4, ↓DL.ix5, ↓DL.ix6, ↓DL.ix7, ↓DL.g_lenT, ↓DL.g_lenL, ↓DL.g_lenS, ↓DL.g_int, ↓DL.g_intB, ↓DL.g_tupT, ↓DL.g_tupL, ↓DL.g_lsT, ↓DL.g_lsL, ↓DL.g_max, ↓DL.g_min, ↓DL.g_slT, ↓DL.g_slL, ↓DL.isQ_some, ↓DL.g_isi, ↓DL.i_int, ↓DL.i_bl, ↓DL.i_tup, ↓DL.i_lst, ↓DL.i_non, ↓DL.i_str, if_true, if_false, Bool.false_eq_true, Bool.not_true, Bool.not_false, reduceCtorEq, decide_eq_true_eq, decide_true, decide_false, Bool.not_eq_true', decide_eq_false_iff_not]
      exact q
    rw [filter_t, map_cst, List.length_range, List.nil_append]
    have e0 : List.replicate s.h D.non = (List.replicate s.h Part.non).map (Part.d false) := by
      rw [List.map_replicate]
      rfl
    rw [e0]
    have pk : POk s (List.replicate s.h Part.non) := pok_rep (by rw [hf]; rfl) hf
    have len : (List.replicate s.h Part.non).length = s.h := List.length_replicate
    generalize hsm : List.replicate s.h Part.non = sm at *
    have step : ∀ (Z : DEnd) (t : Int) (acc : List (List Part)) (o4 : Option O) (r : List D), 1 ≤ t → t ≤ s.l → acc.length ≤ 5 →
        forGo (tgN 4) lp_l_seconds_1 Z r [some (.fz (.tup s.xs)), some (.fz (.int h)), some (.fz (.int s.h)), some (.fz (.lst ((letters s.h).map prD2))), some (.fz (.int t)), some (.fz (.lst (sm.map (Part.d false)))), none,
          some (.lst ((acc ++ [sm.take h ++ [Part.fall t (others s.h h)] ++ sm.drop (h + 1)]).map fun ps => .lst (ps.map (Part.d false)))), none, none] →
        forGo (tgN 4) lp_l_seconds_1 Z (.int t :: r) [some (.fz (.tup s.xs)), some (.fz (.int h)), some (.fz (.int s.h)), some (.fz (.lst ((letters s.h).map prD2))), o4, some (.fz (.lst (sm.map (Part.d false)))), none,
          some (.lst (acc.map fun ps => .lst (ps.map (Part.d false)))), none, none] := by
      intro Z t acc o4 r t1 t2 ha hr
      simp -implicitDefEqProofs only [↓DL.gt_0, ↓DL.gt_s, ↓DL.pt_0, ↓DL.pt_s, ↓DL.gv_fz, ↓DL.x_var, ↓DL.go_fz, ↓DL.go_lst, ↓DL.x_own, ↓DL.x_c, ↓DL.x_bin, ↓DL.x_tst, ↓DL.asB_bl, ↓DL.x_chain, ↓DL.x_and, ↓DL.x_or, ↓DL.x_not, ↓DL.x_andV, ↓DL.x_orV, ↓DL.x_notV, ↓DL.x_if, ↓DL.x_nil, ↓DL.x_cons, ↓DL.x_tup, ↓DL.x_cb, ↓DL.x_call, ↓DL.x_noPart, ↓DL.x_part, ↓DL.asI_int, ↓DL.x_sl, ↓DL.x_neg, ↓DL.x_lstV, ↓DL.x_listL, ↓DL.x_it, ↓DL.x_rng1, ↓DL.x_rng2, ↓DL.ints1_int, ↓DL.ints2_int, ↓DL.asL_lst, ↓DL.asL_tup, ↓DL.asL_scr, ↓DL.x_comp, ↓DL.x_yes, ↓DL.wip_nil, ↓DL.wip_cons, ↓DL.x_next, ↓DL.x_seq, ↓DL.x_brk, ↓DL.x_cont, ↓DL.x_expr, ↓DL.x_ret, ↓DL.x_retN, ↓DL.x_sif, ↓DL.x_set, ↓DL.x_setO, ↓DL.tgK_some, ↓DL.x_asg, ↓DL.x_tgN, ↓DL.x_tgTup, ↓DL.x_tgNil, ↓DL.x_tgConsN, ↓DL.map_some, ↓DL.pts_nil, ↓DL.pts_cons, ↓DL.gl_lst, ↓DL.x_app, ↓DL.x_putIx, ↓DL.gf_lst, ↓DL.gf_fz, ↓DL.x_fz, ↓DL.x_for, ↓DL.x_end_nx, ↓DL.x_end_rt, ↓DL.g_eqS, ↓DL.g_eqI, ↓DL.g_neS, ↓DL.g_neI, ↓DL.g_lt, ↓DL.g_le, ↓DL.g_gt, ↓DL.g_ge, ↓DL.g_add, ↓DL.g_addL, ↓DL.g_addT, ↓DL.g_sub, ↓DL.g_mul, ↓DL.g_mulL, ↓DL.g_mod, ↓DL.g_fdiv, ↓DL.g_pow, ↓DL.g_isN, ↓DL.g_notN, ↓DL.g_ixT, ↓DL.g_ixL, ↓DL.g_ixS, ↓DL.ix0, ↓DL.ix1, ↓DL.ix2, ↓DL.ix3, ↓DL.ix4, ↓DL.ix5, ↓DL.ix6, ↓DL.ix7, ↓DL.g_lenT, ↓DL.g_lenL, ↓DL.g_lenS, ↓DL.g_int, ↓DL.g_intB, ↓DL.g_tupT, ↓DL.g_tupL, ↓DL.g_lsT, ↓DL.g_lsL, ↓DL.g_max, ↓DL.g_min, ↓DL.g_slT, ↓DL.g_slL, ↓DL.isQ_some, ↓DL.g_isi, ↓DL.i_int, ↓DL.i_bl, ↓DL.i_tup, ↓DL.i_lst, ↓DL.i_non, ↓DL.i_str, if_true, if_false, Bool.false_eq_true, Bool.not_true, Bool.not_false, reduceCtorEq, decide_eq_true_eq, decide_true, decide_false, Bool.not_eq_true', decide_eq_false_iff_not, ↓forGo_cons, ↓u_l_seconds_1, ↓cut_hi]
      refine ⟨s.h, h, h5, rfl, ?_⟩
      simp -implicitDefEqProofs only [↓DL.gt_0, ↓DL.gt_s, ↓DL.pt_0, ↓DL.pt_s, ↓DL.gv_fz, ↓DL.x_var, ↓DL.go_fz, ↓DL.go_lst, ↓DL.x_own, ↓DL.x_c, ↓DL.x_bin, ↓DL.x_tst, ↓DL.asB_bl, ↓DL.x_chain, ↓DL.x_and, ↓DL.x_or, ↓DL.x_not, ↓DL.x_andV, ↓DL.x_orV, ↓DL.x_notV, ↓DL.x_if, ↓DL.x_nil, ↓DL.x_cons, ↓DL.x_tup, ↓DL.x_cb, ↓DL.x_call, ↓DL.x_noPart, ↓DL.x_part, ↓DL.asI_int, ↓DL.x_sl, ↓DL.x_neg, ↓DL.x_lstV, ↓DL.x_listL, ↓DL.x_it, ↓DL.x_rng1, ↓DL.x_rng2, ↓DL.ints1_int, ↓DL.ints2_int, ↓DL.asL_lst, ↓DL.asL_tup, ↓DL.asL_scr, ↓DL.x_comp, ↓DL.x_yes, ↓DL.wip_nil, ↓DL.wip_cons, ↓DL.x_next, ↓DL.x_seq, ↓DL.x_brk, ↓DL.x_cont, ↓DL.x_expr, ↓DL.x_ret, ↓DL.x_retN, ↓DL.x_sif, ↓DL.x_set, ↓DL.x_setO, ↓DL.tgK_some, ↓DL.x_asg, ↓DL.x_tgN, ↓DL.x_tgTup, ↓DL.x_tgNil, ↓DL.x_tgConsN, ↓DL.map_some, ↓DL.pts_nil, ↓DL.pts_cons, ↓DL.gl_lst, ↓DL.x_app, ↓DL.x_putIx, ↓DL.gf_lst, ↓DL.gf_fz, ↓DL.x_fz, ↓DL.x_for, ↓DL.x_end_nx, ↓DL.x_end_rt, ↓DL.g_eqS, ↓DL.g_eqI, ↓DL.g_neS, ↓DL.g_neI, ↓DL.g_lt, ↓DL.g_le, ↓DL.g_gt, ↓DL.g_ge, ↓DL.g_add, ↓DL.g_addL, ↓DL.g_addT, ↓DL.g_sub, ↓DL.g_mul, ↓DL.g_mulL, ↓DL.g_mod, ↓DL.g_fdiv, ↓DL.g_pow, ↓DL.g_isN, ↓DL.g_notN, ↓DL.g_ixT, ↓DL.g_ixL, ↓DL.g_ixS, ↓DL.ix0, ↓DL.ix1, ↓DL.ix2, ↓DL.ix3, ↓DL.ix4, ↓DL.ix5, ↓DL.ix6, ↓DL.ix7, ↓DL.g_lenT, ↓DL.g_lenL, ↓DL.g_lenS, ↓DL.g_int, ↓DL.g_intB, ↓DL.g_tupT, ↓DL.g_tupL, ↓DL.g_lsT, ↓DL.g_lsL, ↓DL.g_max, ↓DL.g_min, ↓DL.g_slT, ↓DL.g_slL, ↓DL.isQ_some, ↓DL.g_isi, ↓DL.i_int, ↓DL.i_bl, ↓DL.i_tup, ↓DL.i_lst, ↓DL.i_non, ↓DL.i_str, if_true, if_false, Bool.false_eq_true, Bool.not_true, Bool.not_false, reduceCtorEq, decide_eq_true_eq, decide_true, decide_false, Bool.not_eq_true', decide_eq_false_iff_not]
      rw [show (some ((h : Int) + 1) : Option Int) = some ((h + 1 : Nat) : Int) from rfl, cut_lo]
      refine ⟨by simp; omega, by simp; omega, by simp; omega, ?_⟩
      have e : (sm.map (Part.d false)).take h ++ [D.tup [.int t, .tup (iL (others s.h h))]] ++ (sm.map (Part.d false)).drop (h + 1) = (sm.take h ++ [Part.fall t (others s.h h)] ++ sm.drop (h + 1)).map (Part.d false) := by
        simp [List.map_take, List.map_drop, Part.d, seq]
      rw [e]
      rw [List.map_append] at hr
      exact hr
    have kf : ∀ t : Int, 1 ≤ t → t ≤ s.l → POk s (sm.take h ++ [Part.fall t (others s.h h)] ++ sm.drop (h + 1)) := fun t t1 t2 => pok_put pk (by omega) ⟨hf, t1, t2, oth_len h5, fun x hx => oth_mem h5 hx⟩
    have l1 := big.ok.l1
    refine step _ s.l [] none _ (by omega) (by omega) (by simp) ?_
    refine step _ 1 [_] _ _ (by omega) (by omega) (by simp) ?_
    rw [forGo_nil]
    refine p_l_seconds_3 sm _ big pk (by simp) (fun ps hps => ?_) q
    simp only [List.cons_append, List.nil_append, List.mem_cons, List.not_mem_nil, or_false] at hps
    rcases hps with rfl | rfl
    · have := kf s.l (by omega) (by omega)
      simpa using this
    · have := kf 1 (by omega) (by omega)
      simpa using this
theorem bok_const {s : St} {c : Int} (h0 : 0 ≤ c) (h1 : c < s.a) : BOk s (List.replicate s.h c) := ⟨List.length_replicate, fun x hx => by rw [(List.mem_replicate.mp hx).2]; exact ⟨h0, h1⟩⟩
theorem p_l_beginnings (ds : List D) (Q : D → Prop) (E : DExc → Prop) (hl : ds.length = 4) (h : sp_l_beginnings ds Q E) : b_l_beginnings (dEnd Q E) (en N_l_beginnings.length ds) := by
  obtain ⟨s, b, h, x, big, bk, hh, x0, x1, rfl, q⟩ := h
  have h5 := big.ok.h5
  have a1 := big.ok.a1
  have a4 := big.ok.a4
  rw [en_l_beginnings]
  simp -implicitDefEqProofs only [↓DL.gt_0, ↓DL.gt_s, ↓DL.pt_0, ↓DL.pt_s, ↓DL.gv_fz, ↓DL.x_var, ↓DL.go_fz, ↓DL.go_lst, ↓DL.x_own, ↓DL.x_c, ↓DL.x_bin, ↓DL.x_tst, ↓DL.asB_bl, ↓DL.x_chain, ↓DL.x_and, ↓DL.x_or, ↓DL.x_not, ↓DL.x_andV, ↓DL.x_orV, ↓DL.x_notV, ↓DL.x_if, ↓DL.x_nil, ↓DL.x_cons, ↓DL.x_tup, ↓DL.x_cb, ↓DL.x_call, ↓DL.x_noPart, ↓DL.x_part, ↓DL.asI_int, ↓DL.x_sl, ↓DL.x_neg, ↓DL.x_lstV, ↓DL.x_listL, ↓DL.x_it, ↓DL.x_rng1, ↓DL.x_rng2, ↓DL.ints1_int, ↓DL.ints2_int, ↓DL.asL_lst, ↓DL.asL_tup, ↓DL.asL_scr, ↓DL.x_comp, ↓DL.x_yes, ↓DL.wip_nil, ↓DL.wip_cons, ↓DL.x_next, ↓DL.x_seq, ↓DL.x_brk, ↓DL.x_cont, ↓DL.x_expr, ↓DL.x_ret, ↓DL.x_retN, ↓DL.x_sif, ↓DL.x_set, ↓DL.x_setO, ↓DL.tgK_some, ↓DL.x_asg, ↓DL.x_tgN, ↓DL.x_tgTup, ↓DL.x_tgNil, ↓DL.x_tgConsN, ↓DL.map_some, ↓DL.pts_nil, ↓DL.pts_cons, ↓DL.gl_lst, ↓DL.x_app, ↓DL.x_putIx, ↓DL.gf_lst, ↓DL.gf_fz, ↓DL.x_fz, ↓DL.x_for, ↓DL.x_end_nx, ↓DL.x_end_rt, ↓DL.g_eqS, ↓DL.g_eqI, ↓DL.g_neS, ↓DL.g_neI, ↓DL.g_lt, ↓DL.g_le, ↓DL.g_gt, ↓DL.g_ge, ↓DL.g_add, ↓DL.g_addL, ↓DL.g_addT, ↓DL.g_sub, ↓DL.g_mul, ↓DL.g_mulL, ↓DL.g_mod, ↓DL.g_fdiv, ↓DL.g_pow, ↓DL.g_isN, ↓DL.g_notN, ↓DL.g_ixT, ↓DL.g_ixL, ↓DL.g_ixS, ↓DL.ix0, ↓DL.ix1, ↓DL.ix2, ↓DL.ix3, ↓DL.ix4, ↓DL.ix5, ↓DL.ix6, ↓DL.ix7, ↓DL.g_lenT, ↓DL.g_lenL, ↓DL.g_lenS, ↓DL.g_int, ↓DL.g_intB, ↓DL.g_tupT, ↓DL.g_tupL, ↓DL.g_lsT, ↓DL.g_lsL, ↓DL.g_max, ↓DL.g_min, ↓DL.g_slT, ↓DL.g_slL, ↓DL.isQ_some, ↓DL.g_isi, ↓DL.i_int, ↓DL.i_bl, ↓DL.i_tup, ↓DL.i_lst, ↓DL.i_non, ↓DL.i_str, if_true, if_false, Bool.false_eq_true, Bool.not_true, Bool.not_false, reduceCtorEq, decide_eq_true_eq, decide_true, decide_false, Bool.not_eq_true', decide_eq_false_iff_not, b_l_beginnings, ↓xs1]
  refine ⟨by omega, by omega, ?_⟩
  rw [Int.toNat_natCast, rngE]
  refine ⟨by simp; omega, compGo_of .int (fun _ => true) (fun _ => D.int x) _ _ (fun y hy => ⟨_, rfl, fun Q E q => q, fun _ Q E q => ?_⟩) ?_⟩
  · simp -implicitDefEqProofs only [↓DL.gt_0, ↓DL.gt_s, ↓DL.pt_0, ↓DL.pt_s, ↓DL.gv_fz, ↓DL.x_var, ↓DL.go_fz, ↓DL.go_lst, ↓DL.x_own, ↓DL.x_c, ↓DL.x_bin, ↓DL.x_tst, ↓DL.asB_bl, ↓DL.x_chain, ↓DL.x_and, ↓DL.x_or, ↓DL.x_not, ↓DL.x_andV, ↓DL.x_orV, ↓DL.x_notV, ↓DL.x_if, ↓DL.x_nil, ↓DL.x_cons, ↓DL.x_tup, ↓DL.x_cb, ↓DL.x_call, ↓DL.x_noPart, ↓DL.x_part, ↓DL.asI_int, ↓DL.x_sl, ↓DL.x_neg, ↓DL.x_lstV, ↓DL.x_listL, ↓DL.x_it, ↓DL.x_rng1, ↓DL.x_rng2, ↓DL.ints1_int, ↓DL.ints2_int, ↓DL.asL_lst, ↓DL.asL_tup, ↓DL.asL_scr, ↓DL.x_comp, ↓DL.x_yes, ↓DL.wip_nil, ↓DL.wip_cons, ↓DL.x_next, ↓DL.x_seq, ↓DL.x_brk, ↓DL.x_cont, ↓DL.x_expr, ↓DL.x_ret, ↓DL.x_retN, ↓DL.x_sif, ↓DL.x_set, ↓DL.x_setO, ↓DL.tgK_some, ↓DL.x_asg, ↓DL.x_tgN, ↓DL.x_tgTup, ↓DL.x_tgNil, ↓DL.x_tgConsN, ↓DL.map_some, ↓DL.pts_nil, ↓DL.pts_cons, ↓DL.gl_lst, ↓DL.x_app, ↓DL.x_putIx, ↓DL.gf_lst, ↓DL.gf_fz, ↓DL.x_fz, ↓DL.x_for, ↓DL.x_end_nx, ↓DL.x_end_rt, ↓DL.g_eqS, ↓DL.g_eqI, ↓DL.g_neS, ↓DL.g_neI, ↓DL.g_lt, ↓DL.g_le, ↓DL.g_gt, ↓DL.g_ge, ↓DL.g_add, ↓DL.g_addL, ↓DL.g_addT, ↓DL.g_sub, ↓DL.g_mul, ↓DL.g_mulL, ↓DL.g_mod, ↓DL.g_fdiv, ↓DL.g_pow, ↓DL.g_isN, ↓DL.g_notN, ↓DL.g_ixT, ↓DL.g_ixL, ↓DL.g_ixS, ↓DL.ix0, ↓DL.ix1, ↓DL.ix2, ↓DL.ix3, ↓DL.ix4, ↓DL.ix5, ↓DL.ix6, ↓DL.ix7, ↓DL.g_lenT, ↓DL.g_lenL, ↓DL.g_lenS, ↓DL.g_int, ↓DL.g_intB, ↓DL.g_tupT, ↓DL.g_tupL, ↓DL.g_lsT, ↓DL.g_lsL, ↓DL.g_max, ↓DL.g_min, ↓DL.g_slT, ↓DL.g_slL, ↓DL.isQ_some, ↓DL.g_isi, ↓DL.i_int, ↓DL.i_bl, ↓DL.i_tup, ↓DL.i_lst, ↓DL.i_non, ↓DL.i_str, if_true, if_false, Bool.false_eq_true, Bool.not_true, Bool.not_false, reduceCtorEq, decide_eq_true_eq, decide_true, decide_false, Bool.not_eq_true', decide_eq_false_iff_not]
    exact q
  rw [filter_t, map_cst, List.length_range, List.nil_append]
  simp -implicitDefEqProofs only [↓DL.gt_0, ↓DL.gt_s, ↓DL.pt_0, ↓DL.pt_s, ↓DL.gv_fz, ↓DL.x_var, ↓DL.go_fz, ↓DL.go_lst, ↓DL.x_own, ↓DL.x_c, ↓DL.x_bin, ↓DL.x_tst, ↓DL.asB_bl, ↓DL.x_chain, ↓DL.x_and, ↓DL.x_or, ↓DL.x_not, ↓DL.x_andV, ↓DL.x_orV, ↓DL.x_notV, ↓DL.x_if, ↓DL.x_nil, ↓DL.x_cons, ↓DL.x_tup, ↓DL.x_cb, ↓DL.x_call, ↓DL.x_noPart, ↓DL.x_part, ↓DL.asI_int, ↓DL.x_sl, ↓DL.x_neg, ↓DL.x_lstV, ↓DL.x_listL, ↓DL.x_it, ↓DL.x_rng1, ↓DL.x_rng2, ↓DL.ints1_int, ↓DL.ints2_int, ↓DL.asL_lst, ↓DL.asL_tup, ↓DL.asL_scr, ↓DL.x_comp, ↓DL.x_yes, ↓DL.wip_nil, ↓DL.wip_cons, ↓DL.x_next, ↓DL.x_seq, ↓DL.x_brk, ↓DL.x_cont, ↓DL.x_expr, ↓DL.x_ret, ↓DL.x_retN, ↓DL.x_sif, ↓DL.x_set, ↓DL.x_setO, ↓DL.tgK_some, ↓DL.x_asg, ↓DL.x_tgN, ↓DL.x_tgTup, ↓DL.x_tgNil, ↓DL.x_tgConsN, ↓DL.map_some, ↓DL.pts_nil, ↓DL.pts_cons, ↓DL.gl_lst, ↓DL.x_app, ↓DL.x_putIx, ↓DL.gf_lst, ↓DL.gf_fz, ↓DL.x_fz, ↓DL.x_for, ↓DL.x_end_nx, ↓DL.x_end_rt, ↓DL.g_eqS, ↓DL.g_eqI, ↓DL.g_neS, ↓DL.g_neI, ↓DL.g_lt, ↓DL.g_le, ↓DL.g_gt, ↓DL.g_ge, ↓DL.g_add, ↓DL.g_addL, ↓DL.g_addT, ↓DL.g_sub, ↓DL.g_mul, ↓DL.g_mulL, ↓DL.g_mod, ↓DL.g_fdiv, ↓DL.g_pow, ↓DL.g_isN, ↓DL.g_notN, ↓DL.g_ixT, ↓DL.g_ixL, ↓DL.g_ixS, ↓DL.ix0, ↓DL.ix1, ↓DL.ix2, ↓DL.ix3, ↓DL.ix4, ↓DL.ix5, ↓DL.ix6, ↓DL.ix7, ↓DL.g_lenT, ↓DL.g_lenL, ↓DL.g_lenS, ↓DL.g_int, ↓DL.g_intB, ↓DL.g_tupT, ↓DL.g_tupL, ↓DL.g_lsT, ↓DL.g_lsL, ↓DL.g_max, ↓DL.g_min, ↓DL.g_slT, ↓DL.g_slL, ↓DL.isQ_some, ↓DL.g_isi, ↓DL.i_int, ↓DL.i_bl, ↓DL.i_tup, ↓DL.i_lst, ↓DL.i_non, ↓DL.i_str, if_true, if_false, Bool.false_eq_true, Bool.not_true, Bool.not_false, reduceCtorEq, decide_eq_true_eq, decide_true, decide_false, Bool.not_eq_true', decide_eq_false_iff_not, ↓xs4]
  rw [show (some ((h : Int) + 1) : Option Int) = some ((h + 1 : Nat) : Int) from rfl, cut_lo, cut_hi]
  refine ⟨by omega, by simp; omega, by simp; omega, by omega, by omega, ?_⟩
  refine ⟨by simp; omega, compGo_of .int (fun _ => true) (fun _ => D.int 0) _ _ (fun y hy => ⟨_, rfl, fun Q E q => q, fun _ Q E q => ?_⟩) ?_⟩
  · simp -implicitDefEqProofs only [↓DL.gt_0, ↓DL.gt_s, ↓DL.pt_0, ↓DL.pt_s, ↓DL.gv_fz, ↓DL.x_var, ↓DL.go_fz, ↓DL.go_lst, ↓DL.x_own, ↓DL.x_c, ↓DL.x_bin, ↓DL.x_tst, ↓DL.asB_bl, ↓DL.x_chain, ↓DL.x_and, ↓DL.x_or, ↓DL.x_not, ↓DL.x_andV, ↓DL.x_orV, ↓DL.x_notV, ↓DL.x_if, ↓DL.x_nil, ↓DL.x_cons, ↓DL.x_tup, ↓DL.x_cb, ↓DL.x_call, ↓DL.x_noPart, ↓DL.x_part, ↓DL.asI_int, ↓DL.x_sl, ↓DL.x_neg, ↓DL.x_lstV, ↓DL.x_listL, ↓DL.x_it, ↓DL.x_rng1, ↓DL.x_rng2, ↓DL.ints1_int, ↓DL.ints2_int, ↓DL.asL_lst, ↓DL.asL_tup, ↓DL.asL_scr, ↓DL.x_comp, ↓DL.x_yes, ↓DL.wip_nil, ↓DL.wip_cons, ↓DL.x_next, ↓DL.x_seq, ↓DL.x_brk, ↓DL.x_cont, ↓DL.x_expr, ↓DL.x_ret, ↓DL.x_retN, ↓DL.x_sif, ↓DL.x_set, ↓DL.x_setO, ↓DL.tgK_some, ↓DL.x_asg, ↓DL.x_tgN, ↓DL.x_tgTup, ↓DL.x_tgNil, ↓DL.x_tgConsN, ↓DL.map_some, ↓DL.pts_nil, ↓DL.pts_cons, ↓DL.gl_lst, ↓DL.x_app, ↓DL.x_putIx, ↓DL.gf_lst, ↓DL.gf_fz, ↓DL.x_fz, ↓DL.x_for, ↓DL.x_end_nx, ↓DL.x_end_rt, ↓DL.g_eqS, ↓DL.g_eqI, ↓DL.g_neS, ↓DL.g_neI, ↓DL.g_lt, ↓DL.g_le, ↓DL.g_gt, ↓DL.g_ge, ↓DL.g_add, ↓DL.g_addL, ↓DL.g_addT, ↓DL.g_sub, ↓DL.g_mul, ↓DL.g_mulL, ↓DL.g_mod, ↓DL.g_fdiv, ↓DL.g_pow, ↓DL.g_isN, ↓DL.g_notN, ↓DL.g_ixT, ↓DL.g_ixL, ↓DL.g_ixS, ↓DL.ix0, ↓DL.ix1, ↓DL.ix2, ↓DL.ix3, ↓DL.ix4, ↓DL.ix5, ↓DL.ix6, ↓DL.ix7, ↓DL.g_lenT, ↓DL.g_lenL, ↓DL.g_lenS, ↓DL.g_int, ↓DL.g_intB, ↓DL.g_tupT, ↓DL.g_tupL, ↓DL.g_lsT, ↓DL.g_lsL, ↓DL.g_max, ↓DL.g_min, ↓DL.g_slT, ↓DL.g_slL, ↓DL.isQ_some, ↓DL.g_isi, ↓DL.i_int, ↓DL.i_bl, ↓DL.i_tup, ↓DL.i_lst, ↓DL.i_non, ↓DL.i_str, if_true, if_false, Bool.false_eq_true, Bool.not_true, Bool.not_false, reduceCtorEq, decide_eq_true_eq, decide_true, decide_false, Bool.not_eq_true', decide_eq_false_iff_not]
    exact q
  rw [filter_t, map_cst, List.length_range, List.nil_append]
  refine ⟨by omega, by omega, ?_⟩
  refine ⟨by simp; omega, compGo_of .int (fun _ => true) (fun _ => D.int ((s.a : Int) - 1)) _ _ (fun y hy => ⟨_, rfl, fun Q E q => q, fun _ Q E q => ?_⟩) ?_⟩
  · simp -implicitDefEqProofs only [↓DL.gt_0, ↓DL.gt_s, ↓DL.pt_0, ↓DL.pt_s, ↓DL.gv_fz, ↓DL.x_var, ↓DL.go_fz, ↓DL.go_lst, ↓DL.x_own, ↓DL.x_c, ↓DL.x_bin, ↓DL.x_tst, ↓DL.asB_bl, ↓DL.x_chain, ↓DL.x_and, ↓DL.x_or, ↓DL.x_not, ↓DL.x_andV, ↓DL.x_orV, ↓DL.x_notV, ↓DL.x_if, ↓DL.x_nil, ↓DL.x_cons, ↓DL.x_tup, ↓DL.x_cb, ↓DL.x_call, ↓DL.x_noPart, ↓DL.x_part, ↓DL.asI_int, ↓DL.x_sl, ↓DL.x_neg, ↓DL.x_lstV, ↓DL.x_listL, ↓DL.x_it, ↓DL.x_rng1, ↓DL.x_rng2, ↓DL.ints1_int, ↓DL.ints2_int, ↓DL.asL_lst, ↓DL.asL_tup, ↓DL.asL_scr, ↓DL.x_comp, ↓DL.x_yes, ↓DL.wip_nil, ↓DL.wip_cons, ↓DL.x_next, ↓DL.x_seq, ↓DL.x_brk, ↓DL.x_cont, ↓DL.x_expr, ↓DL.x_ret, ↓DL.x_retN, ↓DL.x_sif, ↓DL.x_set, ↓DL.x_setO, ↓DL.tgK_some, ↓DL.x_asg, ↓DL.x_tgN, ↓DL.x_tgTup, ↓DL.x_tgNil, ↓DL.x_tgConsN, ↓DL.map_some, ↓DL.pts_nil, ↓DL.pts_cons, ↓DL.gl_lst, ↓DL.x_app, ↓DL.x_putIx, ↓DL.gf_lst, ↓DL.gf_fz, ↓DL.x_fz, ↓DL.x_for, ↓DL.x_end_nx, ↓DL.x_end_rt, ↓DL.g_eqS, ↓DL.g_eqI, ↓DL.g_neS, ↓DL.g_neI, ↓DL.g_lt, ↓DL.g_le, ↓DL.g_gt, ↓DL.g_ge, ↓DL.g_add, ↓DL.g_addL, ↓DL.g_addT, ↓DL.g_sub, ↓DL.g_mul, ↓DL.g_mulL, ↓DL.g_mod, ↓DL.g_fdiv, ↓DL.g_pow, ↓DL.g_isN, ↓DL.g_notN, ↓DL.g_ixT, ↓DL.g_ixL, ↓DL.g_ixS, ↓DL.ix0, ↓DL.ix1, ↓DL.ix2, ↓DL.ix3, ↓DL.ix4, ↓DL.ix5, ↓DL.ix6, ↓DL.ix7, ↓DL.g_lenT, ↓DL.g_lenL, ↓DL.g_lenS, ↓DL.g_int, ↓DL.g_intB, ↓DL.g_tupT, ↓DL.g_tupL, ↓DL.g_lsT, ↓DL.g_lsL, ↓DL.g_max, ↓DL.g_min, ↓DL.g_slT, ↓DL.g_slL, ↓DL.isQ_some, ↓DL.g_isi, ↓DL.i_int, ↓DL.i_bl, ↓DL.i_tup, ↓DL.i_lst, ↓DL.i_non, ↓DL.i_str, if_true, if_false, Bool.false_eq_true, Bool.not_true, Bool.not_false, reduceCtorEq, decide_eq_true_eq, decide_true, decide_false, Bool.not_eq_true', decide_eq_false_iff_not, ↓xs4]
    exact q
  rw [filter_t, map_cst, List.length_range, List.nil_append]
  obtain ⟨m0, m1⟩ := emod_b (a := x + 1) (b := (s.a : Int)) (by omega)
  generalize (x + 1) % (s.a : Int) = y at *
  have k1 : BOk s ((List.replicate s.h x).take h ++ [y] ++ (List.replicate s.h x).drop (h + 1)) := ⟨by simp; omega, fun z hz => by
    simp only [List.mem_append, List.mem_singleton] at hz
    rcases hz with (hz | rfl) | hz
    · rw [(List.mem_replicate.mp (List.mem_of_mem_take hz)).2]; exact ⟨x0, x1⟩
    · exact ⟨m0, m1⟩
    · rw [(List.mem_replicate.mp (List.mem_of_mem_drop hz)).2]; exact ⟨x0, x1⟩⟩
  have := q [b, List.replicate s.h x, (List.replicate s.h x).take h ++ [y] ++ (List.replicate s.h x).drop (h + 1), List.replicate s.h 0, List.replicate s.h ((s.a : Int) - 1)] (fun b' hb' => by
    simp only [List.mem_cons, List.not_mem_nil, or_false] at hb'
    rcases hb' with rfl | rfl | rfl | rfl | rfl
    · exact bk
    · exact bok_const x0 x1
    · exact k1
    · exact bok_const (by omega) (by omega)
    · exact bok_const (by omega) (by omega))
  simpa [iL, List.map_take, List.map_drop] using this
end K64

namespace K64
open PySem L2 DL
theorem compGo_any {α β : Type} {f : Tgt} {elt : ES} {env : Sl} {QL : List D → Prop} (enc : α → D) (enc2 : β → D) (P : β → Prop) : ∀ (items : List α) (acc : List D),
    (∀ x ∈ items, ∃ as, f (enc x) = some as ∧ ∀ (Q : D → Prop) (E : DExc → Prop), (∀ y, P y → Q (enc2 y)) → elt (pts env as) Q E) →
    (∀ ys : List β, ys.length = items.length → (∀ y ∈ ys, P y) → QL (acc ++ ys.map enc2)) → compGo f dYes elt env (items.map enc) acc QL
  | [], acc, _, q => by simpa [compGo] using q [] rfl (fun y h => nomatch h)
  | x :: xs, acc, h, q => by
    obtain ⟨as, h1, h3⟩ := h x List.mem_cons_self
    rw [List.map_cons, compGo_cons, h1, tgK_some]
    rw [x_yes, if_pos rfl]
    refine h3 _ _ fun y hy => compGo_any enc enc2 P xs _ (fun z hz => h z (List.mem_cons_of_mem _ hz)) fun ys hl hp => ?_
    rw [List.append_assoc]
    refine q (y :: ys) (by simp [hl]) fun z hz => ?_
    rcases List.mem_cons.mp hz with rfl | hz
    · exact hy
    · exact hp z hz
theorem compGo_free {α β : Type} {f : Tgt} {cond : BS} {elt : ES} {env : Sl} {QL : List D → Prop} (enc : α → D) (enc2 : β → D) (P : β → Prop) : ∀ (items : List α) (acc : List D),
    (∀ x ∈ items, ∃ as, f (enc x) = some as ∧ (∀ (Q : Bool → Prop) (E : DExc → Prop), (∀ b, Q b) → cond (pts env as) Q E) ∧ ∀ (Q : D → Prop) (E : DExc → Prop), (∀ y, P y → Q (enc2 y)) → elt (pts env as) Q E) →
    (∀ ys : List β, ys.length ≤ items.length → (∀ y ∈ ys, P y) → QL (acc ++ ys.map enc2)) → compGo f cond elt env (items.map enc) acc QL
  | [], acc, _, q => by simpa [compGo] using q [] (Nat.le_refl _) (fun y h => nomatch h)
  | x :: xs, acc, h, q => by
    obtain ⟨as, h1, h2, h3⟩ := h x List.mem_cons_self
    have hr : ∀ y ∈ xs, _ := fun y hy => h y (List.mem_cons_of_mem _ hy)
    rw [List.map_cons, compGo_cons, h1, tgK_some]
    refine h2 _ _ fun b => ?_
    cases b with
    | false =>
      rw [if_neg Bool.false_ne_true]
      exact compGo_free enc enc2 P xs _ hr fun ys hl hp => q ys (by simp; omega) hp
    | true =>
      rw [if_pos rfl]
      refine h3 _ _ fun y hy => compGo_free enc enc2 P xs _ hr fun ys hl hp => ?_
      rw [List.append_assoc]
      refine q (y :: ys) (by simp; omega) fun z hz => ?_
      rcases List.mem_cons.mp hz with rfl | hz
      · exact hy
      · exact hp z hz
theorem il_flat {n : Nat} {xs : List Int} : (List.replicate n (iL xs)).flatten = iL (List.replicate n xs).flatten := by
  simp only [iL, List.map_flatten, List.map_replicate]
theorem il_app {xs ys : List Int} : iL xs ++ iL ys = iL (xs ++ ys) := by simp only [iL, List.map_append]
theorem flat_mem {n : Nat} {xs : List Int} {x : Int} (h : x ∈ (List.replicate n xs).flatten) : x ∈ xs := by
  obtain ⟨l, hl, hx⟩ := List.mem_flatten.mp h
  rw [(List.mem_replicate.mp hl).2] at hx
  exact hx
theorem flat_len {n : Nat} {xs : List Int} : (List.replicate n xs).flatten.length = n * xs.length := by
  rw [List.length_flatten, List.map_replicate]
  simp
theorem mulB {a : Int} {b : Prop} [Decidable b] : CMul a (if b then 1 else 0) ∨ CMulW a (if b then 1 else 0) := by
  split
  · exact mulR (by decide) (by decide)
  · exact mulR (by decide) (by decide)
theorem bndB {a : Int} {b : Prop} [Decidable b] (h : 0 ≤ a) : 0 ≤ a * (if b then 1 else 0) ∧ a * (if b then 1 else 0) ≤ a := by
  split
  · omega
  · omega
abbrev Lsl (s : St) (c m : Int) (lt : List (Int × Int)) (row drawn b : List Int) (k t : Option O) (mode : Option O) (rows : List Part) (ch : Option O) (at' : Option O) : Sl :=
  [some (.fz (.tup s.xs)), some (.fz (.int c)), some (.fz (.int m)), some (.fz (.int s.h)), some (.fz (.lst (lt.map prD2))), some (.fz (.lst (iL row))), some (.fz (.lst (iL drawn))), k, some (.fz (.lst (iL b))), some (.lst (rows.map (Part.d false))), t, mode, ch, at']
theorem p_l_lossy_1 {s : St} {c m md : Int} {lt : List (Int × Int)} {row drawn b : List Int} {rows : List Part} {t : Nat} {Z : DEnd} (hr : row.length = s.h + 2 + 2 * s.l) (hd : drawn.length = lt.length * s.l) (ht : t < s.l) (h5 : s.h ≤ 5) (l5 : s.l ≤ 5) (hL : lt.length ≤ 20) :
    ∀ (n i : Nat) (ch : List (Int × Int)) (k at' : Option O), i + n = lt.length → ch.length ≤ i → (∀ p ∈ ch, p ∈ lt) →
    (∀ (ch : List (Int × Int)) (k at' : Option O), ch.length ≤ lt.length → (∀ p ∈ ch, p ∈ lt) → Z.nx (Lsl s c m lt row drawn b k (some (.fz (.int t))) (some (.fz (.int md))) rows (some (.lst (ch.map prD2))) at')) →
    forGo (tgN 7) lp_l_lossy_1 Z (rng i n) (Lsl s c m lt row drawn b k (some (.fz (.int t))) (some (.fz (.int md))) rows (some (.lst (ch.map prD2))) at')
  | 0, i, ch, k, at', hi, hc, hm, q => q ch k at' (by omega) hm
  | n + 1, i, ch, k, at', hi, hc, hm, q => by
    have hL0 : 0 < lt.length := by omega
    have ih : ∀ (ch : List (Int × Int)) (k at' : Option O), ch.length ≤ i + 1 → (∀ p ∈ ch, p ∈ lt) → forGo (tgN 7) lp_l_lossy_1 Z (rng ((i : Int) + 1) n) (Lsl s c m lt row drawn b k (some (.fz (.int t))) (some (.fz (.int md))) rows (some (.lst (ch.map prD2))) at') :=
      fun ch k at' hc hm => p_l_lossy_1 hr hd ht h5 l5 hL n (i + 1) ch k at' (by omega) hc hm q
    simp -implicitDefEqProofs only [↓DL.gt_0, ↓DL.gt_s, ↓DL.pt_0, ↓DL.pt_s, ↓DL.gv_fz, ↓DL.x_var, ↓DL.go_fz, ↓DL.go_lst, ↓DL.x_own, ↓DL.x_c, ↓DL.x_bin, ↓DL.x_tst, ↓DL.asB_bl, ↓DL.x_chain, ↓DL.x_and, ↓DL.x_or, ↓DL.x_not, ↓DL.x_andV, ↓DL.x_orV, ↓DL.x_notV, ↓DL.x_if, ↓DL.x_nil, ↓DL.x_cons, ↓DL.x_tup, ↓DL.x_cb, ↓DL.x_call, ↓DL.x_noPart, ↓DL.x_part, ↓DL.asI_int, ↓DL.x_sl, ↓DL.x_neg, ↓DL.x_lstV, ↓DL.x_listL, ↓DL.x_it, ↓DL.x_rng1, ↓DL.x_rng2, ↓DL.ints1_int, ↓DL.ints2_int, ↓DL.asL_lst, ↓DL.asL_tup, ↓DL.asL_scr, ↓DL.x_comp, ↓DL.x_yes, ↓DL.wip_nil, ↓DL.wip_cons, ↓DL.x_next, ↓DL.x_seq, ↓DL.x_brk, ↓DL.x_cont, ↓DL.x_expr, ↓DL.x_ret, ↓DL.x_retN, ↓DL.x_sif, ↓DL.x_set, ↓DL.x_setO, ↓DL.tgK_some, ↓DL.x_asg, ↓DL.x_tgN, ↓DL.x_tgTup, ↓DL.x_tgNil, ↓DL.x_tgConsN, ↓DL.map_some, ↓DL.pts_nil, ↓DL.pts_cons, ↓DL.gl_lst, ↓DL.x_app, ↓DL.x_putIx, ↓DL.gf_lst, ↓DL.gf_fz, ↓DL.x_fz, ↓DL.x_for, ↓DL.x_end_nx, ↓DL.x_end_rt, ↓DL.g_eqS, ↓DL.g_eqI, ↓DL.g_neS, ↓DL.g_neI, ↓DL.g_lt, ↓DL.g_le, ↓DL.g_gt, ↓DL.g_ge, ↓DL.g_add, ↓DL.g_addL, ↓DL.g_addT, ↓DL.g_sub, ↓DL.g_mul, ↓DL.g_mulL, ↓DL.g_mod, ↓DL.g_fdiv, ↓DL.g_pow, ↓DL.g_isN, ↓DL.g_notN, ↓DL.g_ixT, ↓DL.g_ixL, ↓DL.g_ixS, ↓DL.ix0, ↓DL.ix1, ↓DL.ix2, ↓DL.ix3, ↓DL.ix4, ↓DL.ix5, ↓DL.ix6, ↓DL.ix7, ↓DL.g_lenT, ↓DL.g_lenL, ↓DL.g_lenS, ↓DL.g_int, ↓DL.g_intB, ↓DL.g_tupT, ↓DL.g_tupL, ↓DL.g_lsT, ↓DL.g_lsL, ↓DL.g_max, ↓DL.g_min, ↓DL.g_slT, ↓DL.g_slL, ↓DL.isQ_some, ↓DL.g_isi, ↓DL.i_int, ↓DL.i_bl, ↓DL.i_tup, ↓DL.i_lst, ↓DL.i_non, ↓DL.i_str, if_true, if_false, Bool.false_eq_true, Bool.not_true, Bool.not_false, reduceCtorEq, decide_eq_true_eq, decide_true, decide_false, Bool.not_eq_true', decide_eq_false_iff_not, rng, ↓forGo_cons, ↓u_l_lossy_1, List.length_map]
    refine ⟨mulR (by omega) (by omega), ixQ_il (by omega) (by omega) fun x _ => ?_⟩
    simp -implicitDefEqProofs only [↓DL.gt_0, ↓DL.gt_s, ↓DL.pt_0, ↓DL.pt_s, ↓DL.gv_fz, ↓DL.x_var, ↓DL.go_fz, ↓DL.go_lst, ↓DL.x_own, ↓DL.x_c, ↓DL.x_bin, ↓DL.x_tst, ↓DL.asB_bl, ↓DL.x_chain, ↓DL.x_and, ↓DL.x_or, ↓DL.x_not, ↓DL.x_andV, ↓DL.x_orV, ↓DL.x_notV, ↓DL.x_if, ↓DL.x_nil, ↓DL.x_cons, ↓DL.x_tup, ↓DL.x_cb, ↓DL.x_call, ↓DL.x_noPart, ↓DL.x_part, ↓DL.asI_int, ↓DL.x_sl, ↓DL.x_neg, ↓DL.x_lstV, ↓DL.x_listL, ↓DL.x_it, ↓DL.x_rng1, ↓DL.x_rng2, ↓DL.ints1_int, ↓DL.ints2_int, ↓DL.asL_lst, ↓DL.asL_tup, ↓DL.asL_scr, ↓DL.x_comp, ↓DL.x_yes, ↓DL.wip_nil, ↓DL.wip_cons, ↓DL.x_next, ↓DL.x_seq, ↓DL.x_brk, ↓DL.x_cont, ↓DL.x_expr, ↓DL.x_ret, ↓DL.x_retN, ↓DL.x_sif, ↓DL.x_set, ↓DL.x_setO, ↓DL.tgK_some, ↓DL.x_asg, ↓DL.x_tgN, ↓DL.x_tgTup, ↓DL.x_tgNil, ↓DL.x_tgConsN, ↓DL.map_some, ↓DL.pts_nil, ↓DL.pts_cons, ↓DL.gl_lst, ↓DL.x_app, ↓DL.x_putIx, ↓DL.gf_lst, ↓DL.gf_fz, ↓DL.x_fz, ↓DL.x_for, ↓DL.x_end_nx, ↓DL.x_end_rt, ↓DL.g_eqS, ↓DL.g_eqI, ↓DL.g_neS, ↓DL.g_neI, ↓DL.g_lt, ↓DL.g_le, ↓DL.g_gt, ↓DL.g_ge, ↓DL.g_add, ↓DL.g_addL, ↓DL.g_addT, ↓DL.g_sub, ↓DL.g_mul, ↓DL.g_mulL, ↓DL.g_mod, ↓DL.g_fdiv, ↓DL.g_pow, ↓DL.g_isN, ↓DL.g_notN, ↓DL.g_ixT, ↓DL.g_ixL, ↓DL.g_ixS, ↓DL.ix0, ↓DL.ix1, ↓DL.ix2, ↓DL.ix3, ↓DL.ix4, ↓DL.ix5, ↓DL.ix6, ↓DL.ix7, ↓DL.g_lenT, ↓DL.g_lenL, ↓DL.g_lenS, ↓DL.g_int, ↓DL.g_intB, ↓DL.g_tupT, ↓DL.g_tupL, ↓DL.g_lsT, ↓DL.g_lsL, ↓DL.g_max, ↓DL.g_min, ↓DL.g_slT, ↓DL.g_slL, ↓DL.isQ_some, ↓DL.g_isi, ↓DL.i_int, ↓DL.i_bl, ↓DL.i_tup, ↓DL.i_lst, ↓DL.i_non, ↓DL.i_str, if_true, if_false, Bool.false_eq_true, Bool.not_true, Bool.not_false, reduceCtorEq, decide_eq_true_eq, decide_true, decide_false, Bool.not_eq_true', decide_eq_false_iff_not, ↓xs2, List.length_map]
    refine ⟨by omega, ?_⟩
    obtain ⟨m0, m1⟩ := emod_b (a := x + (i : Int)) (b := (lt.length : Int)) (by omega)
    generalize (x + (i : Int)) % (lt.length : Int) = a at *
    have no : forGo (tgN 7) lp_l_lossy_1 Z (rng ((i : Int) + 1) n) (Lsl s c m lt row drawn b (some (.fz (.int i))) (some (.fz (.int t))) (some (.fz (.int md))) rows (some (.lst (ch.map prD2))) (some (.fz (.int a)))) := ih ch _ _ (by omega) hm
    have yes : ixQ (lt.map prD2) a fun y => ch.length < 16000000 ∧ forGo (tgN 7) lp_l_lossy_1 Z (rng ((i : Int) + 1) n) (Lsl s c m lt row drawn b (some (.fz (.int i))) (some (.fz (.int t))) (some (.fz (.int md))) rows (some (.lst (ch.map prD2 ++ [y]))) (some (.fz (.int a)))) := by
      refine ixQ_mem m0 (by simpa using m1) fun y hy => ⟨by omega, ?_⟩
      rw [List.getElem?_map] at hy
      obtain ⟨p, hp, rfl⟩ := Option.map_eq_some_iff.mp hy
      have := ih (ch ++ [p]) (some (.fz (.int i))) (some (.fz (.int a))) (by simp; omega) (fun z hz => by
        rcases List.mem_append.mp hz with hz | hz
        · exact hm z hz
        · rw [List.mem_singleton.mp hz]; exact List.mem_of_getElem? hp)
      rw [List.map_append] at this
      exact this
    split
    · split
      · exact yes
      · split
        · refine ⟨mulR (by omega) (by omega), ?_⟩
          have h1 : (t + 1) * lt.length ≤ s.l * lt.length := Nat.mul_le_mul_right _ ht
          have h2 : ((t + 1) * lt.length : Nat) = (t : Int) * lt.length + lt.length := by push_cast; rw [Int.add_mul, Int.one_mul]
          have h3 : ((drawn.length : Nat) : Int) = ((s.l * lt.length : Nat) : Int) := by rw [hd, Nat.mul_comm]
          have h4 : 0 ≤ (t : Int) * lt.length := Int.mul_nonneg (by omega) (by omega)
          refine ixQ_il (by omega) (by omega) fun x _ => ?_
          simp -implicitDefEqProofs only [↓DL.gt_0, ↓DL.gt_s, ↓DL.pt_0, ↓DL.pt_s, ↓DL.gv_fz, ↓DL.x_var, ↓DL.go_fz, ↓DL.go_lst, ↓DL.x_own, ↓DL.x_c, ↓DL.x_bin, ↓DL.x_tst, ↓DL.asB_bl, ↓DL.x_chain, ↓DL.x_and, ↓DL.x_or, ↓DL.x_not, ↓DL.x_andV, ↓DL.x_orV, ↓DL.x_notV, ↓DL.x_if, ↓DL.x_nil, ↓DL.x_cons, ↓DL.x_tup, ↓DL.x_cb, ↓DL.x_call, ↓DL.x_noPart, ↓DL.x_part, ↓DL.asI_int, ↓DL.x_sl, ↓DL.x_neg, ↓DL.x_lstV, ↓DL.x_listL, ↓DL.x_it, ↓DL.x_rng1, ↓DL.x_rng2, ↓DL.ints1_int, ↓DL.ints2_int, ↓DL.asL_lst, ↓DL.asL_tup, ↓DL.asL_scr, ↓DL.x_comp, ↓DL.x_yes, ↓DL.wip_nil, ↓DL.wip_cons, ↓DL.x_next, ↓DL.x_seq, ↓DL.x_brk, ↓DL.x_cont, ↓DL.x_expr, ↓DL.x_ret, ↓DL.x_retN, ↓DL.x_sif, ↓DL.x_set, ↓DL.x_setO, ↓DL.tgK_some, ↓DL.x_asg, ↓DL.x_tgN, ↓DL.x_tgTup, ↓DL.x_tgNil, ↓DL.x_tgConsN, ↓DL.map_some, ↓DL.pts_nil, ↓DL.pts_cons, ↓DL.gl_lst, ↓DL.x_app, ↓DL.x_putIx, ↓DL.gf_lst, ↓DL.gf_fz, ↓DL.x_fz, ↓DL.x_for, ↓DL.x_end_nx, ↓DL.x_end_rt, ↓DL.g_eqS, ↓DL.g_eqI, ↓DL.g_neS, ↓DL.g_neI, ↓DL.g_lt, ↓DL.g_le, ↓DL.g_gt, ↓DL.g_ge, ↓DL.g_add, ↓DL.g_addL, ↓DL.g_addT, ↓DL.g_sub, ↓DL.g_mul, ↓DL.g_mulL, ↓DL.g_mod, ↓DL.g_fdiv, ↓DL.g_pow, ↓DL.g_isN, ↓DL.g_notN, ↓DL.g_ixT, ↓DL.g_ixL, ↓DL.g_ixS, ↓DL.ix0, ↓DL.ix1, ↓DL.ix2, ↓DL.ix3, ↓DL.ix4, ↓DL.ix5, ↓DL.ix6, ↓DL.ix7, ↓DL.g_lenT, ↓DL.g_lenL, ↓DL.g_lenS, ↓DL.g_int, ↓DL.g_intB, ↓DL.g_tupT, ↓DL.g_tupL, ↓DL.g_lsT, ↓DL.g_lsL, ↓DL.g_max, ↓DL.g_min, ↓DL.g_slT, ↓DL.g_slL, ↓DL.isQ_some, ↓DL.g_isi, ↓DL.i_int, ↓DL.i_bl, ↓DL.i_tup, ↓DL.i_lst, ↓DL.i_non, ↓DL.i_str, if_true, if_false, Bool.false_eq_true, Bool.not_true, Bool.not_false, reduceCtorEq, decide_eq_true_eq, decide_true, decide_false, Bool.not_eq_true', decide_eq_false_iff_not]
          split
          · exact yes
          · exact no
        · exact no
    · exact no
theorem p_l_lossy_2 {s : St} {c m : Int} {row drawn b : List Int} {Z : DEnd} (big : s.Big) (hf : s.fl = false) (hr : row.length = s.h + 2 + 2 * s.l) (hd : drawn.length = (letters s.h).length * s.l) :
    ∀ (n i : Nat) (rows : List Part) (k t mode ch at' : Option O), i + n = s.l → rows.length = i → (∀ p ∈ rows, p.ok s) →
    (∀ (rows : List Part) (k t mode ch at' : Option O), rows.length = s.l → (∀ p ∈ rows, p.ok s) → Z.nx (Lsl s c m (letters s.h) row drawn b k t mode rows ch at')) →
    forGo (tgN 10) lp_l_lossy_2 Z (rng i n) (Lsl s c m (letters s.h) row drawn b k t mode rows ch at')
  | 0, i, rows, k, t, mode, ch, at', hi, hc, hm, q => q rows k t mode ch at' (by omega) hm
  | n + 1, i, rows, k, t, mode, ch, at', hi, hc, hm, q => by
    have h2 := big.ok.h2
    have h5 := big.ok.h5
    have l5 := big.ok.l5
    obtain ⟨n1, n2, n3⟩ := let_len s.h h2 h5
    have n4 := n3 (big.hl hf).1
    simp -implicitDefEqProofs only [↓DL.gt_0, ↓DL.gt_s, ↓DL.pt_0, ↓DL.pt_s, ↓DL.gv_fz, ↓DL.x_var, ↓DL.go_fz, ↓DL.go_lst, ↓DL.x_own, ↓DL.x_c, ↓DL.x_bin, ↓DL.x_tst, ↓DL.asB_bl, ↓DL.x_chain, ↓DL.x_and, ↓DL.x_or, ↓DL.x_not, ↓DL.x_andV, ↓DL.x_orV, ↓DL.x_notV, ↓DL.x_if, ↓DL.x_nil, ↓DL.x_cons, ↓DL.x_tup, ↓DL.x_cb, ↓DL.x_call, ↓DL.x_noPart, ↓DL.x_part, ↓DL.asI_int, ↓DL.x_sl, ↓DL.x_neg, ↓DL.x_lstV, ↓DL.x_listL, ↓DL.x_it, ↓DL.x_rng1, ↓DL.x_rng2, ↓DL.ints1_int, ↓DL.ints2_int, ↓DL.asL_lst, ↓DL.asL_tup, ↓DL.asL_scr, ↓DL.x_comp, ↓DL.x_yes, ↓DL.wip_nil, ↓DL.wip_cons, ↓DL.x_next, ↓DL.x_seq, ↓DL.x_brk, ↓DL.x_cont, ↓DL.x_expr, ↓DL.x_ret, ↓DL.x_retN, ↓DL.x_sif, ↓DL.x_set, ↓DL.x_setO, ↓DL.tgK_some, ↓DL.x_asg, ↓DL.x_tgN, ↓DL.x_tgTup, ↓DL.x_tgNil, ↓DL.x_tgConsN, ↓DL.map_some, ↓DL.pts_nil, ↓DL.pts_cons, ↓DL.gl_lst, ↓DL.x_app, ↓DL.x_putIx, ↓DL.gf_lst, ↓DL.gf_fz, ↓DL.x_fz, ↓DL.x_for, ↓DL.x_end_nx, ↓DL.x_end_rt, ↓DL.g_eqS, ↓DL.g_eqI, ↓DL.g_neS, ↓DL.g_neI, ↓DL.g_lt, ↓DL.g_le, ↓DL.g_gt, ↓DL.g_ge, ↓DL.g_add, ↓DL.g_addL, ↓DL.g_addT, ↓DL.g_sub, ↓DL.g_mul, ↓DL.g_mulL, ↓DL.g_mod, ↓DL.g_fdiv, ↓DL.g_pow, ↓DL.g_isN, ↓DL.g_notN, ↓DL.g_ixT, ↓DL.g_ixL, ↓DL.g_ixS, ↓DL.ix0, ↓DL.ix1, ↓DL.ix2, ↓DL.ix3, ↓DL.ix4, ↓DL.ix5, ↓DL.ix6, ↓DL.ix7, ↓DL.g_lenT, ↓DL.g_lenL, ↓DL.g_lenS, ↓DL.g_int, ↓DL.g_intB, ↓DL.g_tupT, ↓DL.g_tupL, ↓DL.g_lsT, ↓DL.g_lsL, ↓DL.g_max, ↓DL.g_min, ↓DL.g_slT, ↓DL.g_slL, ↓DL.isQ_some, ↓DL.g_isi, ↓DL.i_int, ↓DL.i_bl, ↓DL.i_tup, ↓DL.i_lst, ↓DL.i_non, ↓DL.i_str, if_true, if_false, Bool.false_eq_true, Bool.not_true, Bool.not_false, reduceCtorEq, decide_eq_true_eq, decide_true, decide_false, Bool.not_eq_true', decide_eq_false_iff_not, rng, ↓forGo_cons, ↓u_l_lossy_2, List.length_map]
    refine ⟨mulR (by omega) (by omega), ixQ_il (by omega) (by omega) fun x _ => ?_⟩
    refine ixQ_il (by omega) (by omega) fun y _ => ?_
    simp -implicitDefEqProofs only [↓DL.gt_0, ↓DL.gt_s, ↓DL.pt_0, ↓DL.pt_s, ↓DL.gv_fz, ↓DL.x_var, ↓DL.go_fz, ↓DL.go_lst, ↓DL.x_own, ↓DL.x_c, ↓DL.x_bin, ↓DL.x_tst, ↓DL.asB_bl, ↓DL.x_chain, ↓DL.x_and, ↓DL.x_or, ↓DL.x_not, ↓DL.x_andV, ↓DL.x_orV, ↓DL.x_notV, ↓DL.x_if, ↓DL.x_nil, ↓DL.x_cons, ↓DL.x_tup, ↓DL.x_cb, ↓DL.x_call, ↓DL.x_noPart, ↓DL.x_part, ↓DL.asI_int, ↓DL.x_sl, ↓DL.x_neg, ↓DL.x_lstV, ↓DL.x_listL, ↓DL.x_it, ↓DL.x_rng1, ↓DL.x_rng2, ↓DL.ints1_int, ↓DL.ints2_int, ↓DL.asL_lst, ↓DL.asL_tup, ↓DL.asL_scr, ↓DL.x_comp, ↓DL.x_yes, ↓DL.wip_nil, ↓DL.wip_cons, ↓DL.x_next, ↓DL.x_seq, ↓DL.x_brk, ↓DL.x_cont, ↓DL.x_expr, ↓DL.x_ret, ↓DL.x_retN, ↓DL.x_sif, ↓DL.x_set, ↓DL.x_setO, ↓DL.tgK_some, ↓DL.x_asg, ↓DL.x_tgN, ↓DL.x_tgTup, ↓DL.x_tgNil, ↓DL.x_tgConsN, ↓DL.map_some, ↓DL.pts_nil, ↓DL.pts_cons, ↓DL.gl_lst, ↓DL.x_app, ↓DL.x_putIx, ↓DL.gf_lst, ↓DL.gf_fz, ↓DL.x_fz, ↓DL.x_for, ↓DL.x_end_nx, ↓DL.x_end_rt, ↓DL.g_eqS, ↓DL.g_eqI, ↓DL.g_neS, ↓DL.g_neI, ↓DL.g_lt, ↓DL.g_le, ↓DL.g_gt, ↓DL.g_ge, ↓DL.g_add, ↓DL.g_addL, ↓DL.g_addT, ↓DL.g_sub, ↓DL.g_mul, ↓DL.g_mulL, ↓DL.g_mod, ↓DL.g_fdiv, ↓DL.g_pow, ↓DL.g_isN, ↓DL.g_notN, ↓DL.g_ixT, ↓DL.g_ixL, ↓DL.g_ixS, ↓DL.ix0, ↓DL.ix1, ↓DL.ix2, ↓DL.ix3, ↓DL.ix4, ↓DL.ix5, ↓DL.ix6, ↓DL.ix7, ↓DL.g_lenT, ↓DL.g_lenL, ↓DL.g_lenS, ↓DL.g_int, ↓DL.g_intB, ↓DL.g_tupT, ↓DL.g_tupL, ↓DL.g_lsT, ↓DL.g_lsL, ↓DL.g_max, ↓DL.g_min, ↓DL.g_slT, ↓DL.g_slL, ↓DL.isQ_some, ↓DL.g_isi, ↓DL.i_int, ↓DL.i_bl, ↓DL.i_tup, ↓DL.i_lst, ↓DL.i_non, ↓DL.i_str, if_true, if_false, Bool.false_eq_true, Bool.not_true, Bool.not_false, reduceCtorEq, decide_eq_true_eq, decide_true, decide_false, Bool.not_eq_true', decide_eq_false_iff_not, List.length_map]
    refine ⟨mulB, by omega, by omega, ?_⟩
    rw [Int.toNat_natCast]
    refine p_l_lossy_1 hr hd (by omega) h5 l5 n2 (letters s.h).length 0 [] _ _ (by omega) (Nat.zero_le _) (fun p h => nomatch h) fun ch k at' hc hm' => ?_
    simp -implicitDefEqProofs only [↓DL.gt_0, ↓DL.gt_s, ↓DL.pt_0, ↓DL.pt_s, ↓DL.gv_fz, ↓DL.x_var, ↓DL.go_fz, ↓DL.go_lst, ↓DL.x_own, ↓DL.x_c, ↓DL.x_bin, ↓DL.x_tst, ↓DL.asB_bl, ↓DL.x_chain, ↓DL.x_and, ↓DL.x_or, ↓DL.x_not, ↓DL.x_andV, ↓DL.x_orV, ↓DL.x_notV, ↓DL.x_if, ↓DL.x_nil, ↓DL.x_cons, ↓DL.x_tup, ↓DL.x_cb, ↓DL.x_call, ↓DL.x_noPart, ↓DL.x_part, ↓DL.asI_int, ↓DL.x_sl, ↓DL.x_neg, ↓DL.x_lstV, ↓DL.x_listL, ↓DL.x_it, ↓DL.x_rng1, ↓DL.x_rng2, ↓DL.ints1_int, ↓DL.ints2_int, ↓DL.asL_lst, ↓DL.asL_tup, ↓DL.asL_scr, ↓DL.x_comp, ↓DL.x_yes, ↓DL.wip_nil, ↓DL.wip_cons, ↓DL.x_next, ↓DL.x_seq, ↓DL.x_brk, ↓DL.x_cont, ↓DL.x_expr, ↓DL.x_ret, ↓DL.x_retN, ↓DL.x_sif, ↓DL.x_set, ↓DL.x_setO, ↓DL.tgK_some, ↓DL.x_asg, ↓DL.x_tgN, ↓DL.x_tgTup, ↓DL.x_tgNil, ↓DL.x_tgConsN, ↓DL.map_some, ↓DL.pts_nil, ↓DL.pts_cons, ↓DL.gl_lst, ↓DL.x_app, ↓DL.x_putIx, ↓DL.gf_lst, ↓DL.gf_fz, ↓DL.x_fz, ↓DL.x_for, ↓DL.x_end_nx, ↓DL.x_end_rt, ↓DL.g_eqS, ↓DL.g_eqI, ↓DL.g_neS, ↓DL.g_neI, ↓DL.g_lt, ↓DL.g_le, ↓DL.g_gt, ↓DL.g_ge, ↓DL.g_add, ↓DL.g_addL, ↓DL.g_addT, ↓DL.g_sub, ↓DL.g_mul, ↓DL.g_mulL, ↓DL.g_mod, ↓DL.g_fdiv, ↓DL.g_pow, ↓DL.g_isN, ↓DL.g_notN, ↓DL.g_ixT, ↓DL.g_ixL, ↓DL.g_ixS, ↓DL.ix0, ↓DL.ix1, ↓DL.ix2, ↓DL.ix3, ↓DL.ix4, ↓DL.ix5, ↓DL.ix6, ↓DL.ix7, ↓DL.g_lenT, ↓DL.g_lenL, ↓DL.g_lenS, ↓DL.g_int, ↓DL.g_intB, ↓DL.g_tupT, ↓DL.g_tupL, ↓DL.g_lsT, ↓DL.g_lsL, ↓DL.g_max, ↓DL.g_min, ↓DL.g_slT, ↓DL.g_slL, ↓DL.isQ_some, ↓DL.g_isi, ↓DL.i_int, ↓DL.i_bl, ↓DL.i_tup, ↓DL.i_lst, ↓DL.i_non, ↓DL.i_str, if_true, if_false, Bool.false_eq_true, Bool.not_true, Bool.not_false, reduceCtorEq, decide_eq_true_eq, decide_true, decide_false, Bool.not_eq_true', decide_eq_false_iff_not, List.length_map]
    refine .inr ⟨ch, rfl, fun qs pm _ => ?_⟩
    simp -implicitDefEqProofs only [↓DL.gt_0, ↓DL.gt_s, ↓DL.pt_0, ↓DL.pt_s, ↓DL.gv_fz, ↓DL.x_var, ↓DL.go_fz, ↓DL.go_lst, ↓DL.x_own, ↓DL.x_c, ↓DL.x_bin, ↓DL.x_tst, ↓DL.asB_bl, ↓DL.x_chain, ↓DL.x_and, ↓DL.x_or, ↓DL.x_not, ↓DL.x_andV, ↓DL.x_orV, ↓DL.x_notV, ↓DL.x_if, ↓DL.x_nil, ↓DL.x_cons, ↓DL.x_tup, ↓DL.x_cb, ↓DL.x_call, ↓DL.x_noPart, ↓DL.x_part, ↓DL.asI_int, ↓DL.x_sl, ↓DL.x_neg, ↓DL.x_lstV, ↓DL.x_listL, ↓DL.x_it, ↓DL.x_rng1, ↓DL.x_rng2, ↓DL.ints1_int, ↓DL.ints2_int, ↓DL.asL_lst, ↓DL.asL_tup, ↓DL.asL_scr, ↓DL.x_comp, ↓DL.x_yes, ↓DL.wip_nil, ↓DL.wip_cons, ↓DL.x_next, ↓DL.x_seq, ↓DL.x_brk, ↓DL.x_cont, ↓DL.x_expr, ↓DL.x_ret, ↓DL.x_retN, ↓DL.x_sif, ↓DL.x_set, ↓DL.x_setO, ↓DL.tgK_some, ↓DL.x_asg, ↓DL.x_tgN, ↓DL.x_tgTup, ↓DL.x_tgNil, ↓DL.x_tgConsN, ↓DL.map_some, ↓DL.pts_nil, ↓DL.pts_cons, ↓DL.gl_lst, ↓DL.x_app, ↓DL.x_putIx, ↓DL.gf_lst, ↓DL.gf_fz, ↓DL.x_fz, ↓DL.x_for, ↓DL.x_end_nx, ↓DL.x_end_rt, ↓DL.g_eqS, ↓DL.g_eqI, ↓DL.g_neS, ↓DL.g_neI, ↓DL.g_lt, ↓DL.g_le, ↓DL.g_gt, ↓DL.g_ge, ↓DL.g_add, ↓DL.g_addL, ↓DL.g_addT, ↓DL.g_sub, ↓DL.g_mul, ↓DL.g_mulL, ↓DL.g_mod, ↓DL.g_fdiv, ↓DL.g_pow, ↓DL.g_isN, ↓DL.g_notN, ↓DL.g_ixT, ↓DL.g_ixL, ↓DL.g_ixS, ↓DL.ix0, ↓DL.ix1, ↓DL.ix2, ↓DL.ix3, ↓DL.ix4, ↓DL.ix5, ↓DL.ix6, ↓DL.ix7, ↓DL.g_lenT, ↓DL.g_lenL, ↓DL.g_lenS, ↓DL.g_int, ↓DL.g_intB, ↓DL.g_tupT, ↓DL.g_tupL, ↓DL.g_lsT, ↓DL.g_lsL, ↓DL.g_max, ↓DL.g_min, ↓DL.g_slT, ↓DL.g_slL, ↓DL.isQ_some, ↓DL.g_isi, ↓DL.i_int, ↓DL.i_bl, ↓DL.i_tup, ↓DL.i_lst, ↓DL.i_non, ↓DL.i_str, if_true, if_false, Bool.false_eq_true, Bool.not_true, Bool.not_false, reduceCtorEq, decide_eq_true_eq, decide_true, decide_false, Bool.not_eq_true', decide_eq_false_iff_not, List.length_map]
    refine ⟨by omega, ?_⟩
    have e : rows.map (Part.d false) ++ [D.tup (qs.map prD2)] = (rows ++ [Part.row qs]).map (Part.d false) := by
      rw [List.map_append]
      rfl
    rw [e]
    refine p_l_lossy_2 big hf hr hd n (i + 1) _ _ _ _ _ _ (by omega) (by simp; omega) (fun p hp => ?_) q
    rcases List.mem_append.mp hp with hp | hp
    · exact hm p hp
    · rw [List.mem_singleton.mp hp]
      refine ⟨hf, by rw [pm.length_eq]; omega, fun z hz => let_mem h5 (hm' z (pm.mem_iff.mp hz))⟩
theorem p_l_lossy (ds : List D) (Q : D → Prop) (E : DExc → Prop) (hl : ds.length = 3) (h : sp_l_lossy ds Q E) : b_l_lossy (dEnd Q E) (en N_l_lossy.length ds) := by
  obtain ⟨s, c, m, big, hf, rfl, q⟩ := h
  have h2 := big.ok.h2
  have h5 := big.ok.h5
  have l5 := big.ok.l5
  have a1 := big.ok.a1
  obtain ⟨n1, n2, n3⟩ := let_len s.h h2 h5
  rw [en_l_lossy]
  simp -implicitDefEqProofs only [↓DL.gt_0, ↓DL.gt_s, ↓DL.pt_0, ↓DL.pt_s, ↓DL.gv_fz, ↓DL.x_var, ↓DL.go_fz, ↓DL.go_lst, ↓DL.x_own, ↓DL.x_c, ↓DL.x_bin, ↓DL.x_tst, ↓DL.asB_bl, ↓DL.x_chain, ↓DL.x_and, ↓DL.x_or, ↓DL.x_not, ↓DL.x_andV, ↓DL.x_orV, ↓DL.x_notV, ↓DL.x_if, ↓DL.x_nil, ↓DL.x_cons, ↓DL.x_tup, ↓DL.x_cb, ↓DL.x_call, ↓DL.x_noPart, ↓DL.x_part, ↓DL.asI_int, ↓DL.x_sl, ↓DL.x_neg, ↓DL.x_lstV, ↓DL.x_listL, ↓DL.x_it, ↓DL.x_rng1, ↓DL.x_rng2, ↓DL.ints1_int, ↓DL.ints2_int, ↓DL.asL_lst, ↓DL.asL_tup, ↓DL.asL_scr, ↓DL.x_comp, ↓DL.x_yes, ↓DL.wip_nil, ↓DL.wip_cons, ↓DL.x_next, ↓DL.x_seq, ↓DL.x_brk, ↓DL.x_cont, ↓DL.x_expr, ↓DL.x_ret, ↓DL.x_retN, ↓DL.x_sif, ↓DL.x_set, ↓DL.x_setO, ↓DL.tgK_some, ↓DL.x_asg, ↓DL.x_tgN, ↓DL.x_tgTup, ↓DL.x_tgNil, ↓DL.x_tgConsN, ↓DL.map_some, ↓DL.pts_nil, ↓DL.pts_cons, ↓DL.gl_lst, ↓DL.x_app, ↓DL.x_putIx, ↓DL.gf_lst, ↓DL.gf_fz, ↓DL.x_fz, ↓DL.x_for, ↓DL.x_end_nx, ↓DL.x_end_rt, ↓DL.g_eqS, ↓DL.g_eqI, ↓DL.g_neS, ↓DL.g_neI, ↓DL.g_lt, ↓DL.g_le, ↓DL.g_gt, ↓DL.g_ge, ↓DL.g_add, ↓DL.g_addL, ↓DL.g_addT, ↓DL.g_sub, ↓DL.g_mul, ↓DL.g_mulL, ↓DL.g_mod, ↓DL.g_fdiv, ↓DL.g_pow, ↓DL.g_isN, ↓DL.g_notN, ↓DL.g_ixT, ↓DL.g_ixL, ↓DL.g_ixS, ↓DL.ix0, ↓DL.ix1, ↓DL.ix2, ↓DL.ix3, ↓DL.ix4, ↓DL.ix5, ↓DL.ix6, ↓DL.ix7, ↓DL.g_lenT, ↓DL.g_lenL, ↓DL.g_lenS, ↓DL.g_int, ↓DL.g_intB, ↓DL.g_tupT, ↓DL.g_tupL, ↓DL.g_lsT, ↓DL.g_lsL, ↓DL.g_max, ↓DL.g_min, ↓DL.g_slT, ↓DL.g_slL, ↓DL.isQ_some, ↓DL.g_isi, ↓DL.i_int, ↓DL.i_bl, ↓DL.i_tup, ↓DL.i_lst, ↓DL.i_non, ↓DL.i_str, if_true, if_false, Bool.false_eq_true, Bool.not_true, Bool.not_false, reduceCtorEq, decide_eq_true_eq, decide_true, decide_false, Bool.not_eq_true', decide_eq_false_iff_not, b_l_lossy, ↓xs1]
  refine ⟨s.h, h5, rfl, ?_⟩
  simp -implicitDefEqProofs only [↓DL.gt_0, ↓DL.gt_s, ↓DL.pt_0, ↓DL.pt_s, ↓DL.gv_fz, ↓DL.x_var, ↓DL.go_fz, ↓DL.go_lst, ↓DL.x_own, ↓DL.x_c, ↓DL.x_bin, ↓DL.x_tst, ↓DL.asB_bl, ↓DL.x_chain, ↓DL.x_and, ↓DL.x_or, ↓DL.x_not, ↓DL.x_andV, ↓DL.x_orV, ↓DL.x_notV, ↓DL.x_if, ↓DL.x_nil, ↓DL.x_cons, ↓DL.x_tup, ↓DL.x_cb, ↓DL.x_call, ↓DL.x_noPart, ↓DL.x_part, ↓DL.asI_int, ↓DL.x_sl, ↓DL.x_neg, ↓DL.x_lstV, ↓DL.x_listL, ↓DL.x_it, ↓DL.x_rng1, ↓DL.x_rng2, ↓DL.ints1_int, ↓DL.ints2_int, ↓DL.asL_lst, ↓DL.asL_tup, ↓DL.asL_scr, ↓DL.x_comp, ↓DL.x_yes, ↓DL.wip_nil, ↓DL.wip_cons, ↓DL.x_next, ↓DL.x_seq, ↓DL.x_brk, ↓DL.x_cont, ↓DL.x_expr, ↓DL.x_ret, ↓DL.x_retN, ↓DL.x_sif, ↓DL.x_set, ↓DL.x_setO, ↓DL.tgK_some, ↓DL.x_asg, ↓DL.x_tgN, ↓DL.x_tgTup, ↓DL.x_tgNil, ↓DL.x_tgConsN, ↓DL.map_some, ↓DL.pts_nil, ↓DL.pts_cons, ↓DL.gl_lst, ↓DL.x_app, ↓DL.x_putIx, ↓DL.gf_lst, ↓DL.gf_fz, ↓DL.x_fz, ↓DL.x_for, ↓DL.x_end_nx, ↓DL.x_end_rt, ↓DL.g_eqS, ↓DL.g_eqI, ↓DL.g_neS, ↓DL.g_neI, ↓DL.g_lt, ↓DL.g_le, ↓DL.g_gt, ↓DL.g_ge, ↓DL.g_add, ↓DL.g_addL, ↓DL.g_addT, ↓DL.g_sub, ↓DL.g_mul, ↓DL.g_mulL, ↓DL.g_mod, ↓DL.g_fdiv, ↓DL.g_pow, ↓DL.g_isN, ↓DL.g_notN, ↓DL.g_ixT, ↓DL.g_ixL, ↓DL.g_ixS, ↓DL.ix0, ↓DL.ix1, ↓DL.ix2, ↓DL.ix3, ↓DL.ix4, ↓DL.ix5, ↓DL.ix6, ↓DL.ix7, ↓DL.g_lenT, ↓DL.g_lenL, ↓DL.g_lenS, ↓DL.g_int, ↓DL.g_intB, ↓DL.g_tupT, ↓DL.g_tupL, ↓DL.g_lsT, ↓DL.g_lsL, ↓DL.g_max, ↓DL.g_min, ↓DL.g_slT, ↓DL.g_slL, ↓DL.isQ_some, ↓DL.g_isi, ↓DL.i_int, ↓DL.i_bl, ↓DL.i_tup, ↓DL.i_lst, ↓DL.i_non, ↓DL.i_str, if_true, if_false, Bool.false_eq_true, Bool.not_true, Bool.not_false, reduceCtorEq, decide_eq_true_eq, decide_true, decide_false, Bool.not_eq_true', decide_eq_false_iff_not, ↓xs3, List.length_map, List.length_cons, List.length_nil]
  refine ⟨by omega, by omega, by omega, ?_⟩
  have ef : ∀ (xs : List Int) (n : Nat), (List.replicate ((n : Int)).toNat (iL xs)).flatten = iL (List.replicate n xs).flatten := fun xs n => by rw [Int.toNat_natCast, il_flat]
  have e1 := ef [12] s.h
  have e2 := ef [4, 12] s.l
  simp only [iL, List.map_cons, List.map_nil] at e1 e2
  rw [e1, e2]
  have e3 : ∀ xs : List Int, iL xs ++ [D.int 4, D.int 4] = iL (xs ++ [4, 4]) := fun xs => by simp only [iL, List.map_append]; rfl
  rw [e3, il_app]
  refine ⟨by simp; omega, by omega, by omega, by omega, ?_⟩
  refine ⟨by simp; omega, ?_⟩
  refine ⟨c, _, rfl, by simp; omega, fun x hx => ?_, fun row hr => ?_⟩
  · simp only [List.mem_append] at hx
    rcases hx with (hx | hx) | hx
    · have := flat_mem hx; simp at this; omega
    · simp at hx; omega
    · have := flat_mem hx; simp at this; omega
  have hrl : row.length = s.h + 2 + 2 * s.l := by rw [hr.1]; simp; omega
  simp -implicitDefEqProofs only [↓DL.gt_0, ↓DL.gt_s, ↓DL.pt_0, ↓DL.pt_s, ↓DL.gv_fz, ↓DL.x_var, ↓DL.go_fz, ↓DL.go_lst, ↓DL.x_own, ↓DL.x_c, ↓DL.x_bin, ↓DL.x_tst, ↓DL.asB_bl, ↓DL.x_chain, ↓DL.x_and, ↓DL.x_or, ↓DL.x_not, ↓DL.x_andV, ↓DL.x_orV, ↓DL.x_notV, ↓DL.x_if, ↓DL.x_nil, ↓DL.x_cons, ↓DL.x_tup, ↓DL.x_cb, ↓DL.x_call, ↓DL.x_noPart, ↓DL.x_part, ↓DL.asI_int, ↓DL.x_sl, ↓DL.x_neg, ↓DL.x_lstV, ↓DL.x_listL, ↓DL.x_it, ↓DL.x_rng1, ↓DL.x_rng2, ↓DL.ints1_int, ↓DL.ints2_int, ↓DL.asL_lst, ↓DL.asL_tup, ↓DL.asL_scr, ↓DL.x_comp, ↓DL.x_yes, ↓DL.wip_nil, ↓DL.wip_cons, ↓DL.x_next, ↓DL.x_seq, ↓DL.x_brk, ↓DL.x_cont, ↓DL.x_expr, ↓DL.x_ret, ↓DL.x_retN, ↓DL.x_sif, ↓DL.x_set, ↓DL.x_setO, ↓DL.tgK_some, ↓DL.x_asg, ↓DL.x_tgN, ↓DL.x_tgTup, ↓DL.x_tgNil, ↓DL.x_tgConsN, ↓DL.map_some, ↓DL.pts_nil, ↓DL.pts_cons, ↓DL.gl_lst, ↓DL.x_app, ↓DL.x_putIx, ↓DL.gf_lst, ↓DL.gf_fz, ↓DL.x_fz, ↓DL.x_for, ↓DL.x_end_nx, ↓DL.x_end_rt, ↓DL.g_eqS, ↓DL.g_eqI, ↓DL.g_neS, ↓DL.g_neI, ↓DL.g_lt, ↓DL.g_le, ↓DL.g_gt, ↓DL.g_ge, ↓DL.g_add, ↓DL.g_addL, ↓DL.g_addT, ↓DL.g_sub, ↓DL.g_mul, ↓DL.g_mulL, ↓DL.g_mod, ↓DL.g_fdiv, ↓DL.g_pow, ↓DL.g_isN, ↓DL.g_notN, ↓DL.g_ixT, ↓DL.g_ixL, ↓DL.g_ixS, ↓DL.ix0, ↓DL.ix1, ↓DL.ix2, ↓DL.ix3, ↓DL.ix4, ↓DL.ix5, ↓DL.ix6, ↓DL.ix7, ↓DL.g_lenT, ↓DL.g_lenL, ↓DL.g_lenS, ↓DL.g_int, ↓DL.g_intB, ↓DL.g_tupT, ↓DL.g_tupL, ↓DL.g_lsT, ↓DL.g_lsL, ↓DL.g_max, ↓DL.g_min, ↓DL.g_slT, ↓DL.g_slL, ↓DL.isQ_some, ↓DL.g_isi, ↓DL.i_int, ↓DL.i_bl, ↓DL.i_tup, ↓DL.i_lst, ↓DL.i_non, ↓DL.i_str, if_true, if_false, Bool.false_eq_true, Bool.not_true, Bool.not_false, reduceCtorEq, decide_eq_true_eq, decide_true, decide_false, Bool.not_eq_true', decide_eq_false_iff_not, ↓xs3, List.length_map, List.length_cons, List.length_nil]
  have hLl : (letters s.h).length * s.l ≤ 100 := by
    have := Nat.mul_le_mul n2 l5
    omega
  have hLi : ((letters s.h).length : Int) * (s.l : Int) = (((letters s.h).length * s.l : Nat) : Int) := by push_cast; rfl
  rw [hLi]
  refine ⟨mulR (by omega) (by omega), by omega, by omega, by rw [Int.toNat_natCast]; omega, ?_⟩
  have e4 := ef [3] ((letters s.h).length * s.l)
  simp only [iL, List.map_cons, List.map_nil] at e4
  rw [e4]
  refine ⟨m, _, rfl, by simp; omega, fun x hx => ?_, fun drawn hd => ?_⟩
  · have := flat_mem hx; simp at this; omega
  have hdl : drawn.length = (letters s.h).length * s.l := by rw [hd.1]; simp
  simp -implicitDefEqProofs only [↓DL.gt_0, ↓DL.gt_s, ↓DL.pt_0, ↓DL.pt_s, ↓DL.gv_fz, ↓DL.x_var, ↓DL.go_fz, ↓DL.go_lst, ↓DL.x_own, ↓DL.x_c, ↓DL.x_bin, ↓DL.x_tst, ↓DL.asB_bl, ↓DL.x_chain, ↓DL.x_and, ↓DL.x_or, ↓DL.x_not, ↓DL.x_andV, ↓DL.x_orV, ↓DL.x_notV, ↓DL.x_if, ↓DL.x_nil, ↓DL.x_cons, ↓DL.x_tup, ↓DL.x_cb, ↓DL.x_call, ↓DL.x_noPart, ↓DL.x_part, ↓DL.asI_int, ↓DL.x_sl, ↓DL.x_neg, ↓DL.x_lstV, ↓DL.x_listL, ↓DL.x_it, ↓DL.x_rng1, ↓DL.x_rng2, ↓DL.ints1_int, ↓DL.ints2_int, ↓DL.asL_lst, ↓DL.asL_tup, ↓DL.asL_scr, ↓DL.x_comp, ↓DL.x_yes, ↓DL.wip_nil, ↓DL.wip_cons, ↓DL.x_next, ↓DL.x_seq, ↓DL.x_brk, ↓DL.x_cont, ↓DL.x_expr, ↓DL.x_ret, ↓DL.x_retN, ↓DL.x_sif, ↓DL.x_set, ↓DL.x_setO, ↓DL.tgK_some, ↓DL.x_asg, ↓DL.x_tgN, ↓DL.x_tgTup, ↓DL.x_tgNil, ↓DL.x_tgConsN, ↓DL.map_some, ↓DL.pts_nil, ↓DL.pts_cons, ↓DL.gl_lst, ↓DL.x_app, ↓DL.x_putIx, ↓DL.gf_lst, ↓DL.gf_fz, ↓DL.x_fz, ↓DL.x_for, ↓DL.x_end_nx, ↓DL.x_end_rt, ↓DL.g_eqS, ↓DL.g_eqI, ↓DL.g_neS, ↓DL.g_neI, ↓DL.g_lt, ↓DL.g_le, ↓DL.g_gt, ↓DL.g_ge, ↓DL.g_add, ↓DL.g_addL, ↓DL.g_addT, ↓DL.g_sub, ↓DL.g_mul, ↓DL.g_mulL, ↓DL.g_mod, ↓DL.g_fdiv, ↓DL.g_pow, ↓DL.g_isN, ↓DL.g_notN, ↓DL.g_ixT, ↓DL.g_ixL, ↓DL.g_ixS, ↓DL.ix0, ↓DL.ix1, ↓DL.ix2, ↓DL.ix3, ↓DL.ix4, ↓DL.ix5, ↓DL.ix6, ↓DL.ix7, ↓DL.g_lenT, ↓DL.g_lenL, ↓DL.g_lenS, ↓DL.g_int, ↓DL.g_intB, ↓DL.g_tupT, ↓DL.g_tupL, ↓DL.g_lsT, ↓DL.g_lsL, ↓DL.g_max, ↓DL.g_min, ↓DL.g_slT, ↓DL.g_slL, ↓DL.isQ_some, ↓DL.g_isi, ↓DL.i_int, ↓DL.i_bl, ↓DL.i_tup, ↓DL.i_lst, ↓DL.i_non, ↓DL.i_str, if_true, if_false, Bool.false_eq_true, Bool.not_true, Bool.not_false, reduceCtorEq, decide_eq_true_eq, decide_true, decide_false, Bool.not_eq_true', decide_eq_false_iff_not]
  refine ⟨by omega, by omega, ?_⟩
  rw [Int.toNat_natCast, rngE]
  refine ⟨by simp; omega, compGo_any .int .int (fun y => 0 ≤ y ∧ y < s.a) _ _ (fun y hy => ⟨_, rfl, fun Q E q => ?_⟩) fun b hb hB => ?_⟩
  · obtain ⟨n, hn, rfl⟩ := List.mem_map.mp hy
    have hn := List.mem_range.mp hn
    simp -implicitDefEqProofs only [↓DL.gt_0, ↓DL.gt_s, ↓DL.pt_0, ↓DL.pt_s, ↓DL.gv_fz, ↓DL.x_var, ↓DL.go_fz, ↓DL.go_lst, ↓DL.x_own, ↓DL.x_c, ↓DL.x_bin, ↓DL.x_tst, ↓DL.asB_bl, ↓DL.x_chain, ↓DL.x_and, ↓DL.x_or, ↓DL.x_not, ↓DL.x_andV, ↓DL.x_orV, ↓DL.x_notV, ↓DL.x_if, ↓DL.x_nil, ↓DL.x_cons, ↓DL.x_tup, ↓DL.x_cb, ↓DL.x_call, ↓DL.x_noPart, ↓DL.x_part, ↓DL.asI_int, ↓DL.x_sl, ↓DL.x_neg, ↓DL.x_lstV, ↓DL.x_listL, ↓DL.x_it, ↓DL.x_rng1, ↓DL.x_rng2, ↓DL.ints1_int, ↓DL.ints2_int, ↓DL.asL_lst, ↓DL.asL_tup, ↓DL.asL_scr, ↓DL.x_comp, ↓DL.x_yes, ↓DL.wip_nil, ↓DL.wip_cons, ↓DL.x_next, ↓DL.x_seq, ↓DL.x_brk, ↓DL.x_cont, ↓DL.x_expr, ↓DL.x_ret, ↓DL.x_retN, ↓DL.x_sif, ↓DL.x_set, ↓DL.x_setO, ↓DL.tgK_some, ↓DL.x_asg, ↓DL.x_tgN, ↓DL.x_tgTup, ↓DL.x_tgNil, ↓DL.x_tgConsN, ↓DL.map_some, ↓DL.pts_nil, ↓DL.pts_cons, ↓DL.gl_lst, ↓DL.x_app, ↓DL.x_putIx, ↓DL.gf_lst, ↓DL.gf_fz, ↓DL.x_fz, ↓DL.x_for, ↓DL.x_end_nx, ↓DL.x_end_rt, ↓DL.g_eqS, ↓DL.g_eqI, ↓DL.g_neS, ↓DL.g_neI, ↓DL.g_lt, ↓DL.g_le, ↓DL.g_gt, ↓DL.g_ge, ↓DL.g_add, ↓DL.g_addL, ↓DL.g_addT, ↓DL.g_sub, ↓DL.g_mul, ↓DL.g_mulL, ↓DL.g_mod, ↓DL.g_fdiv, ↓DL.g_pow, ↓DL.g_isN, ↓DL.g_notN, ↓DL.g_ixT, ↓DL.g_ixL, ↓DL.g_ixS, ↓DL.ix0, ↓DL.ix1, ↓DL.ix2, ↓DL.ix3, ↓DL.ix4, ↓DL.ix5, ↓DL.ix6, ↓DL.ix7, ↓DL.g_lenT, ↓DL.g_lenL, ↓DL.g_lenS, ↓DL.g_int, ↓DL.g_intB, ↓DL.g_tupT, ↓DL.g_tupL, ↓DL.g_lsT, ↓DL.g_lsL, ↓DL.g_max, ↓DL.g_min, ↓DL.g_slT, ↓DL.g_slL, ↓DL.isQ_some, ↓DL.g_isi, ↓DL.i_int, ↓DL.i_bl, ↓DL.i_tup, ↓DL.i_lst, ↓DL.i_non, ↓DL.i_str, if_true, if_false, Bool.false_eq_true, Bool.not_true, Bool.not_false, reduceCtorEq, decide_eq_true_eq, decide_true, decide_false, Bool.not_eq_true', decide_eq_false_iff_not]
    refine ixQ_il (by omega) (by omega) fun x _ => ?_
    simp -implicitDefEqProofs only [↓DL.gt_0, ↓DL.gt_s, ↓DL.pt_0, ↓DL.pt_s, ↓DL.gv_fz, ↓DL.x_var, ↓DL.go_fz, ↓DL.go_lst, ↓DL.x_own, ↓DL.x_c, ↓DL.x_bin, ↓DL.x_tst, ↓DL.asB_bl, ↓DL.x_chain, ↓DL.x_and, ↓DL.x_or, ↓DL.x_not, ↓DL.x_andV, ↓DL.x_orV, ↓DL.x_notV, ↓DL.x_if, ↓DL.x_nil, ↓DL.x_cons, ↓DL.x_tup, ↓DL.x_cb, ↓DL.x_call, ↓DL.x_noPart, ↓DL.x_part, ↓DL.asI_int, ↓DL.x_sl, ↓DL.x_neg, ↓DL.x_lstV, ↓DL.x_listL, ↓DL.x_it, ↓DL.x_rng1, ↓DL.x_rng2, ↓DL.ints1_int, ↓DL.ints2_int, ↓DL.asL_lst, ↓DL.asL_tup, ↓DL.asL_scr, ↓DL.x_comp, ↓DL.x_yes, ↓DL.wip_nil, ↓DL.wip_cons, ↓DL.x_next, ↓DL.x_seq, ↓DL.x_brk, ↓DL.x_cont, ↓DL.x_expr, ↓DL.x_ret, ↓DL.x_retN, ↓DL.x_sif, ↓DL.x_set, ↓DL.x_setO, ↓DL.tgK_some, ↓DL.x_asg, ↓DL.x_tgN, ↓DL.x_tgTup, ↓DL.x_tgNil, ↓DL.x_tgConsN, ↓DL.map_some, ↓DL.pts_nil, ↓DL.pts_cons, ↓DL.gl_lst, ↓DL.x_app, ↓DL.x_putIx, ↓DL.gf_lst, ↓DL.gf_fz, ↓DL.x_fz, ↓DL.x_for, ↓DL.x_end_nx, ↓DL.x_end_rt, ↓DL.g_eqS, ↓DL.g_eqI, ↓DL.g_neS, ↓DL.g_neI, ↓DL.g_lt, ↓DL.g_le, ↓DL.g_gt, ↓DL.g_ge, ↓DL.g_add, ↓DL.g_addL, ↓DL.g_addT, ↓DL.g_sub, ↓DL.g_mul, ↓DL.g_mulL, ↓DL.g_mod, ↓DL.g_fdiv, ↓DL.g_pow, ↓DL.g_isN, ↓DL.g_notN, ↓DL.g_ixT, ↓DL.g_ixL, ↓DL.g_ixS, ↓DL.ix0, ↓DL.ix1, ↓DL.ix2, ↓DL.ix3, ↓DL.ix4, ↓DL.ix5, ↓DL.ix6, ↓DL.ix7, ↓DL.g_lenT, ↓DL.g_lenL, ↓DL.g_lenS, ↓DL.g_int, ↓DL.g_intB, ↓DL.g_tupT, ↓DL.g_tupL, ↓DL.g_lsT, ↓DL.g_lsL, ↓DL.g_max, ↓DL.g_min, ↓DL.g_slT, ↓DL.g_slL, ↓DL.isQ_some, ↓DL.g_isi, ↓DL.i_int, ↓DL.i_bl, ↓DL.i_tup, ↓DL.i_lst, ↓DL.i_non, ↓DL.i_str, if_true, if_false, Bool.false_eq_true, Bool.not_true, Bool.not_false, reduceCtorEq, decide_eq_true_eq, decide_true, decide_false, Bool.not_eq_true', decide_eq_false_iff_not]
    have hb := bndB (a := (n : Int)) (b := 0 < x) (by omega)
    refine ⟨mulB, ixQ_il (by omega) (by omega) fun z _ => ?_⟩
    simp -implicitDefEqProofs only [↓DL.gt_0, ↓DL.gt_s, ↓DL.pt_0, ↓DL.pt_s, ↓DL.gv_fz, ↓DL.x_var, ↓DL.go_fz, ↓DL.go_lst, ↓DL.x_own, ↓DL.x_c, ↓DL.x_bin, ↓DL.x_tst, ↓DL.asB_bl, ↓DL.x_chain, ↓DL.x_and, ↓DL.x_or, ↓DL.x_not, ↓DL.x_andV, ↓DL.x_orV, ↓DL.x_notV, ↓DL.x_if, ↓DL.x_nil, ↓DL.x_cons, ↓DL.x_tup, ↓DL.x_cb, ↓DL.x_call, ↓DL.x_noPart, ↓DL.x_part, ↓DL.asI_int, ↓DL.x_sl, ↓DL.x_neg, ↓DL.x_lstV, ↓DL.x_listL, ↓DL.x_it, ↓DL.x_rng1, ↓DL.x_rng2, ↓DL.ints1_int, ↓DL.ints2_int, ↓DL.asL_lst, ↓DL.asL_tup, ↓DL.asL_scr, ↓DL.x_comp, ↓DL.x_yes, ↓DL.wip_nil, ↓DL.wip_cons, ↓DL.x_next, ↓DL.x_seq, ↓DL.x_brk, ↓DL.x_cont, ↓DL.x_expr, ↓DL.x_ret, ↓DL.x_retN, ↓DL.x_sif, ↓DL.x_set, ↓DL.x_setO, ↓DL.tgK_some, ↓DL.x_asg, ↓DL.x_tgN, ↓DL.x_tgTup, ↓DL.x_tgNil, ↓DL.x_tgConsN, ↓DL.map_some, ↓DL.pts_nil, ↓DL.pts_cons, ↓DL.gl_lst, ↓DL.x_app, ↓DL.x_putIx, ↓DL.gf_lst, ↓DL.gf_fz, ↓DL.x_fz, ↓DL.x_for, ↓DL.x_end_nx, ↓DL.x_end_rt, ↓DL.g_eqS, ↓DL.g_eqI, ↓DL.g_neS, ↓DL.g_neI, ↓DL.g_lt, ↓DL.g_le, ↓DL.g_gt, ↓DL.g_ge, ↓DL.g_add, ↓DL.g_addL, ↓DL.g_addT, ↓DL.g_sub, ↓DL.g_mul, ↓DL.g_mulL, ↓DL.g_mod, ↓DL.g_fdiv, ↓DL.g_pow, ↓DL.g_isN, ↓DL.g_notN, ↓DL.g_ixT, ↓DL.g_ixL, ↓DL.g_ixS, ↓DL.ix0, ↓DL.ix1, ↓DL.ix2, ↓DL.ix3, ↓DL.ix4, ↓DL.ix5, ↓DL.ix6, ↓DL.ix7, ↓DL.g_lenT, ↓DL.g_lenL, ↓DL.g_lenS, ↓DL.g_int, ↓DL.g_intB, ↓DL.g_tupT, ↓DL.g_tupL, ↓DL.g_lsT, ↓DL.g_lsL, ↓DL.g_max, ↓DL.g_min, ↓DL.g_slT, ↓DL.g_slL, ↓DL.isQ_some, ↓DL.g_isi, ↓DL.i_int, ↓DL.i_bl, ↓DL.i_tup, ↓DL.i_lst, ↓DL.i_non, ↓DL.i_str, if_true, if_false, Bool.false_eq_true, Bool.not_true, Bool.not_false, reduceCtorEq, decide_eq_true_eq, decide_true, decide_false, Bool.not_eq_true', decide_eq_false_iff_not, ↓xs4]
    refine ⟨by omega, q _ (emod_b (by omega))⟩
  have bk : BOk s b := ⟨by rw [hb]; simp, hB⟩
  refine ⟨by omega, by omega, ?_⟩
  rw [Int.toNat_natCast, List.nil_append]
  refine p_l_lossy_2 big hf hrl hdl s.l 0 [] _ _ _ _ _ (by omega) rfl (fun p h => nomatch h) fun rows k t mode ch at' hlen hok => ?_
  simp -implicitDefEqProofs only [↓DL.gt_0, ↓DL.gt_s, ↓DL.pt_0, ↓DL.pt_s, ↓DL.gv_fz, ↓DL.x_var, ↓DL.go_fz, ↓DL.go_lst, ↓DL.x_own, ↓DL.x_c, ↓DL.x_bin, ↓DL.x_tst, ↓DL.asB_bl, ↓DL.x_chain, ↓DL.x_and, ↓DL.x_or, ↓DL.x_not, ↓DL.x_andV, ↓DL.x_orV, ↓DL.x_notV, ↓DL.x_if, ↓DL.x_nil, ↓DL.x_cons, ↓DL.x_tup, ↓DL.x_cb, ↓DL.x_call, ↓DL.x_noPart, ↓DL.x_part, ↓DL.asI_int, ↓DL.x_sl, ↓DL.x_neg, ↓DL.x_lstV, ↓DL.x_listL, ↓DL.x_it, ↓DL.x_rng1, ↓DL.x_rng2, ↓DL.ints1_int, ↓DL.ints2_int, ↓DL.asL_lst, ↓DL.asL_tup, ↓DL.asL_scr, ↓DL.x_comp, ↓DL.x_yes, ↓DL.wip_nil, ↓DL.wip_cons, ↓DL.x_next, ↓DL.x_seq, ↓DL.x_brk, ↓DL.x_cont, ↓DL.x_expr, ↓DL.x_ret, ↓DL.x_retN, ↓DL.x_sif, ↓DL.x_set, ↓DL.x_setO, ↓DL.tgK_some, ↓DL.x_asg, ↓DL.x_tgN, ↓DL.x_tgTup, ↓DL.x_tgNil, ↓DL.x_tgConsN, ↓DL.map_some, ↓DL.pts_nil, ↓DL.pts_cons, ↓DL.gl_lst, ↓DL.x_app, ↓DL.x_putIx, ↓DL.gf_lst, ↓DL.gf_fz, ↓DL.x_fz, ↓DL.x_for, ↓DL.x_end_nx, ↓DL.x_end_rt, ↓DL.g_eqS, ↓DL.g_eqI, ↓DL.g_neS, ↓DL.g_neI, ↓DL.g_lt, ↓DL.g_le, ↓DL.g_gt, ↓DL.g_ge, ↓DL.g_add, ↓DL.g_addL, ↓DL.g_addT, ↓DL.g_sub, ↓DL.g_mul, ↓DL.g_mulL, ↓DL.g_mod, ↓DL.g_fdiv, ↓DL.g_pow, ↓DL.g_isN, ↓DL.g_notN, ↓DL.g_ixT, ↓DL.g_ixL, ↓DL.g_ixS, ↓DL.ix0, ↓DL.ix1, ↓DL.ix2, ↓DL.ix3, ↓DL.ix4, ↓DL.ix5, ↓DL.ix6, ↓DL.ix7, ↓DL.g_lenT, ↓DL.g_lenL, ↓DL.g_lenS, ↓DL.g_int, ↓DL.g_intB, ↓DL.g_tupT, ↓DL.g_tupL, ↓DL.g_lsT, ↓DL.g_lsL, ↓DL.g_max, ↓DL.g_min, ↓DL.g_slT, ↓DL.g_slL, ↓DL.isQ_some, ↓DL.g_isi, ↓DL.i_int, ↓DL.i_bl, ↓DL.i_tup, ↓DL.i_lst, ↓DL.i_non, ↓DL.i_str, if_true, if_false, Bool.false_eq_true, Bool.not_true, Bool.not_false, reduceCtorEq, decide_eq_true_eq, decide_true, decide_false, Bool.not_eq_true', decide_eq_false_iff_not]
  exact q b rows bk ⟨by rw [hlen, if_neg (by simp [hf])], hok⟩
end K64

namespace K64
open PySem L2 DL
theorem cut2 {xs : List D} {a b : Nat} (h : a ≤ b) (hb : b ≤ xs.length) : cutD xs (some (a : Int)) (some (b : Int)) = (xs.drop a).take (b - a) := by
  unfold cutD
  rw [HT.sIx_nat, HT.sIx_nat, Nat.min_eq_left hb, Nat.min_eq_left (by omega)]
theorem ixN_in {n : Nat} {i : Int} (h0 : 0 ≤ i) (h1 : i < n) : ixN n i = some i.toNat := by
  unfold ixN
  rw [if_pos h0, if_pos h1]
abbrev Fsl (s : St) (c m : Int) (row b : List Int) (k house : Option O) (ps : List Part) (left : Int) (o10 o11 o12 o13 : Option O) : Sl :=
  [some (.fz (.tup s.xs)), some (.fz (.int c)), some (.fz (.int m)), some (.fz (.int s.h)), some (.fz (.lst (iL row))), k, some (.fz (.lst (iL b))), house, some (.lst (ps.map (Part.d false))), some (.fz (.int left)), o10, o11, o12, o13, none]
theorem p_l_story_2 {s : St} {c m : Int} {row b : List Int} {Z : DEnd} (big : s.Big) (hf : s.fl = true) (hr : row.length = s.h + 3 + 7 * s.h) :
    ∀ (n i : Nat) (ps : List Part) (left : Int) (k house o10 o11 o12 o13 : Option O), i + n = s.h → POk s ps →
    (∀ (ps : List Part) (left : Int) (k house o10 o11 o12 o13 : Option O), POk s ps → Z.nx (Fsl s c m row b k house ps left o10 o11 o12 o13)) →
    forGo (tgN 5) lp_l_story_2 Z (rng i n) (Fsl s c m row b k house ps left o10 o11 o12 o13)
  | 0, i, ps, left, k, house, o10, o11, o12, o13, hi, pk, q => q ps left k house o10 o11 o12 o13 pk
  | n + 1, i, ps, left, k, house, o10, o11, o12, o13, hi, pk, q => by
    have h2 := big.ok.h2
    have h5 := big.ok.h5
    have l1 := big.ok.l1
    have ih : ∀ (ps : List Part) (left : Int) (k house o10 o11 o12 o13 : Option O), POk s ps → forGo (tgN 5) lp_l_story_2 Z (rng ((i : Int) + 1) n) (Fsl s c m row b k house ps left o10 o11 o12 o13) :=
      fun ps left k house o10 o11 o12 o13 pk => p_l_story_2 big hf hr n (i + 1) ps left k house o10 o11 o12 o13 (by omega) pk q
    simp -implicitDefEqProofs only [↓DL.gt_0, ↓DL.gt_s, ↓DL.pt_0, ↓DL.pt_s, ↓DL.gv_fz, ↓DL.x_var, ↓DL.go_fz, ↓DL.go_lst, ↓DL.x_own, ↓DL.x_c, ↓DL.x_bin, ↓DL.x_tst, ↓DL.asB_bl, ↓DL.x_chain, ↓DL.x_and, ↓DL.x_or, ↓DL.x_not, ↓DL.x_andV, ↓DL.x_orV, ↓DL.x_notV, ↓DL.x_if, ↓DL.x_nil, ↓DL.x_cons, ↓DL.x_tup, ↓DL.x_cb, ↓DL.x_call, ↓DL.x_noPart, ↓DL.x_part, ↓DL.asI_int, ↓DL.x_sl, ↓DL.x_neg, ↓DL.x_lstV, ↓DL.x_listL, ↓DL.x_it, ↓DL.x_rng1, ↓DL.x_rng2, ↓DL.ints1_int, ↓DL.ints2_int, ↓DL.asL_lst, ↓DL.asL_tup, ↓DL.asL_scr, ↓DL.x_comp, ↓DL.x_yes, ↓DL.wip_nil, ↓DL.wip_cons, ↓DL.x_next, ↓DL.x_seq, ↓DL.x_brk, ↓DL.x_cont, ↓DL.x_expr, ↓DL.x_ret, ↓DL.x_retN, ↓DL.x_sif, ↓DL.x_set, ↓DL.x_setO, ↓DL.tgK_some, ↓DL.x_asg, ↓DL.x_tgN, ↓DL.x_tgTup, ↓DL.x_tgNil, ↓DL.x_tgConsN, ↓DL.map_some, ↓DL.pts_nil, ↓DL.pts_cons, ↓DL.gl_lst, ↓DL.x_app, ↓DL.x_putIx, ↓DL.gf_lst, ↓DL.gf_fz, ↓DL.x_fz, ↓DL.x_for, ↓DL.x_end_nx, ↓DL.x_end_rt, ↓DL.g_eqS, ↓DL.g_eqI, ↓DL.g_neS, ↓DL.g_neI, ↓DL.g_lt, ↓DL.g_le, ↓DL.g_gt, ↓DL.g_ge, ↓DL.g_add, ↓DL.g_addL, ↓DL.g_addT, ↓DL.g_sub, ↓DL.g_mul, ↓DL.g_mulL, ↓DL.g_mod, ↓DL.g_fdiv, ↓DL.g_pow, ↓DL.g_isN, ↓DL.g_notN, ↓DL.g_ixT, ↓DL.g_ixL, ↓DL.g_ixS, ↓DL.ix0, ↓DL.ix1, ↓DL.ix2, ↓DL.ix3, ↓DL.ix4, ↓DL.ix5, ↓DL.ix6, ↓DL.ix7, ↓DL.g_lenT, ↓DL.g_lenL, ↓DL.g_lenS, ↓DL.g_int, ↓DL.g_intB, ↓DL.g_tupT, ↓DL.g_tupL, ↓DL.g_lsT, ↓DL.g_lsL, ↓DL.g_max, ↓DL.g_min, ↓DL.g_slT, ↓DL.g_slL, ↓DL.isQ_some, ↓DL.g_isi, ↓DL.i_int, ↓DL.i_bl, ↓DL.i_tup, ↓DL.i_lst, ↓DL.i_non, ↓DL.i_str, if_true, if_false, Bool.false_eq_true, Bool.not_true, Bool.not_false, reduceCtorEq, decide_eq_true_eq, decide_true, decide_false, Bool.not_eq_true', decide_eq_false_iff_not, rng, ↓forGo_cons, ↓u_l_story_2, List.length_map]
    refine ixQ_il (by omega) (by omega) fun x _ => ?_
    simp -implicitDefEqProofs only [↓DL.gt_0, ↓DL.gt_s, ↓DL.pt_0, ↓DL.pt_s, ↓DL.gv_fz, ↓DL.x_var, ↓DL.go_fz, ↓DL.go_lst, ↓DL.x_own, ↓DL.x_c, ↓DL.x_bin, ↓DL.x_tst, ↓DL.asB_bl, ↓DL.x_chain, ↓DL.x_and, ↓DL.x_or, ↓DL.x_not, ↓DL.x_andV, ↓DL.x_orV, ↓DL.x_notV, ↓DL.x_if, ↓DL.x_nil, ↓DL.x_cons, ↓DL.x_tup, ↓DL.x_cb, ↓DL.x_call, ↓DL.x_noPart, ↓DL.x_part, ↓DL.asI_int, ↓DL.x_sl, ↓DL.x_neg, ↓DL.x_lstV, ↓DL.x_listL, ↓DL.x_it, ↓DL.x_rng1, ↓DL.x_rng2, ↓DL.ints1_int, ↓DL.ints2_int, ↓DL.asL_lst, ↓DL.asL_tup, ↓DL.asL_scr, ↓DL.x_comp, ↓DL.x_yes, ↓DL.wip_nil, ↓DL.wip_cons, ↓DL.x_next, ↓DL.x_seq, ↓DL.x_brk, ↓DL.x_cont, ↓DL.x_expr, ↓DL.x_ret, ↓DL.x_retN, ↓DL.x_sif, ↓DL.x_set, ↓DL.x_setO, ↓DL.tgK_some, ↓DL.x_asg, ↓DL.x_tgN, ↓DL.x_tgTup, ↓DL.x_tgNil, ↓DL.x_tgConsN, ↓DL.map_some, ↓DL.pts_nil, ↓DL.pts_cons, ↓DL.gl_lst, ↓DL.x_app, ↓DL.x_putIx, ↓DL.gf_lst, ↓DL.gf_fz, ↓DL.x_fz, ↓DL.x_for, ↓DL.x_end_nx, ↓DL.x_end_rt, ↓DL.g_eqS, ↓DL.g_eqI, ↓DL.g_neS, ↓DL.g_neI, ↓DL.g_lt, ↓DL.g_le, ↓DL.g_gt, ↓DL.g_ge, ↓DL.g_add, ↓DL.g_addL, ↓DL.g_addT, ↓DL.g_sub, ↓DL.g_mul, ↓DL.g_mulL, ↓DL.g_mod, ↓DL.g_fdiv, ↓DL.g_pow, ↓DL.g_isN, ↓DL.g_notN, ↓DL.g_ixT, ↓DL.g_ixL, ↓DL.g_ixS, ↓DL.ix0, ↓DL.ix1, ↓DL.ix2, ↓DL.ix3, ↓DL.ix4, ↓DL.ix5, ↓DL.ix6, ↓DL.ix7, ↓DL.g_lenT, ↓DL.g_lenL, ↓DL.g_lenS, ↓DL.g_int, ↓DL.g_intB, ↓DL.g_tupT, ↓DL.g_tupL, ↓DL.g_lsT, ↓DL.g_lsL, ↓DL.g_max, ↓DL.g_min, ↓DL.g_slT, ↓DL.g_slL, ↓DL.isQ_some, ↓DL.g_isi, ↓DL.i_int, ↓DL.i_bl, ↓DL.i_tup, ↓DL.i_lst, ↓DL.i_non, ↓DL.i_str, if_true, if_false, Bool.false_eq_true, Bool.not_true, Bool.not_false, reduceCtorEq, decide_eq_true_eq, decide_true, decide_false, Bool.not_eq_true', decide_eq_false_iff_not, List.length_map]
    refine ⟨by omega, mulR (by omega) (by omega), mulR (by omega) (by omega), ?_⟩
    obtain ⟨h0, h1⟩ := emod_b (a := (i : Int) + x) (b := (s.h : Int)) (by omega)
    obtain ⟨y, hy⟩ := Int.eq_ofNat_of_zero_le h0
    rw [hy] at h0 h1 ⊢
    rw [show (s.h : Int) + 3 + 7 * (i : Int) = ((s.h + 3 + 7 * i : Nat) : Int) by omega, show (s.h : Int) + 10 + 7 * (i : Int) = ((s.h + 10 + 7 * i : Nat) : Int) by omega, cut2 (by omega) (by rw [List.length_map]; omega)]
    rw [show s.h + 10 + 7 * i - (s.h + 3 + 7 * i) = 7 by omega, ← List.map_drop, ← List.map_take]
    have hp : ((row.drop (s.h + 3 + 7 * i)).take 7).length = 7 := by simp; omega
    generalize (row.drop (s.h + 3 + 7 * i)).take 7 = part at *
    match part, hp with
    | [p0, p1, p2, p3, p4, p5, p6], _ =>
      simp -implicitDefEqProofs only [↓DL.gt_0, ↓DL.gt_s, ↓DL.pt_0, ↓DL.pt_s, ↓DL.gv_fz, ↓DL.x_var, ↓DL.go_fz, ↓DL.go_lst, ↓DL.x_own, ↓DL.x_c, ↓DL.x_bin, ↓DL.x_tst, ↓DL.asB_bl, ↓DL.x_chain, ↓DL.x_and, ↓DL.x_or, ↓DL.x_not, ↓DL.x_andV, ↓DL.x_orV, ↓DL.x_notV, ↓DL.x_if, ↓DL.x_nil, ↓DL.x_cons, ↓DL.x_tup, ↓DL.x_cb, ↓DL.x_call, ↓DL.x_noPart, ↓DL.x_part, ↓DL.asI_int, ↓DL.x_sl, ↓DL.x_neg, ↓DL.x_lstV, ↓DL.x_listL, ↓DL.x_it, ↓DL.x_rng1, ↓DL.x_rng2, ↓DL.ints1_int, ↓DL.ints2_int, ↓DL.asL_lst, ↓DL.asL_tup, ↓DL.asL_scr, ↓DL.x_comp, ↓DL.x_yes, ↓DL.wip_nil, ↓DL.wip_cons, ↓DL.x_next, ↓DL.x_seq, ↓DL.x_brk, ↓DL.x_cont, ↓DL.x_expr, ↓DL.x_ret, ↓DL.x_retN, ↓DL.x_sif, ↓DL.x_set, ↓DL.x_setO, ↓DL.tgK_some, ↓DL.x_asg, ↓DL.x_tgN, ↓DL.x_tgTup, ↓DL.x_tgNil, ↓DL.x_tgConsN, ↓DL.map_some, ↓DL.pts_nil, ↓DL.pts_cons, ↓DL.gl_lst, ↓DL.x_app, ↓DL.x_putIx, ↓DL.gf_lst, ↓DL.gf_fz, ↓DL.x_fz, ↓DL.x_for, ↓DL.x_end_nx, ↓DL.x_end_rt, ↓DL.g_eqS, ↓DL.g_eqI, ↓DL.g_neS, ↓DL.g_neI, ↓DL.g_lt, ↓DL.g_le, ↓DL.g_gt, ↓DL.g_ge, ↓DL.g_add, ↓DL.g_addL, ↓DL.g_addT, ↓DL.g_sub, ↓DL.g_mul, ↓DL.g_mulL, ↓DL.g_mod, ↓DL.g_fdiv, ↓DL.g_pow, ↓DL.g_isN, ↓DL.g_notN, ↓DL.g_ixT, ↓DL.g_ixL, ↓DL.g_ixS, ↓DL.ix0, ↓DL.ix1, ↓DL.ix2, ↓DL.ix3, ↓DL.ix4, ↓DL.ix5, ↓DL.ix6, ↓DL.ix7, ↓DL.g_lenT, ↓DL.g_lenL, ↓DL.g_lenS, ↓DL.g_int, ↓DL.g_intB, ↓DL.g_tupT, ↓DL.g_tupL, ↓DL.g_lsT, ↓DL.g_lsL, ↓DL.g_max, ↓DL.g_min, ↓DL.g_slT, ↓DL.g_slL, ↓DL.isQ_some, ↓DL.g_isi, ↓DL.i_int, ↓DL.i_bl, ↓DL.i_tup, ↓DL.i_lst, ↓DL.i_non, ↓DL.i_str, if_true, if_false, Bool.false_eq_true, Bool.not_true, Bool.not_false, reduceCtorEq, decide_eq_true_eq, decide_true, decide_false, Bool.not_eq_true', decide_eq_false_iff_not, List.map_cons, List.map_nil]
      have no : ∀ left o10 o11 o12 o13, forGo (tgN 5) lp_l_story_2 Z (rng ((i : Int) + 1) n) (Fsl s c m row b (some (.fz (.int i))) (some (.fz (.int y))) ps left o10 o11 o12 o13) := fun left o10 o11 o12 o13 => ih ps left _ _ _ _ _ _ pk
      have pl : ps.length = s.h := by rw [pk.len, if_pos hf]
      have put : ∀ (t : Int) (r : List Int) left o10 o11 o12 o13, 1 ≤ t → t ≤ s.l → r.length ≤ 5 → (∀ x ∈ r, 0 ≤ x ∧ x < 5) → forGo (tgN 5) lp_l_story_2 Z (rng ((i : Int) + 1) n) (Fsl s c m row b (some (.fz (.int i))) (some (.fz (.int y))) (ps.set y (.fall t r)) left o10 o11 o12 o13) := by
        intro t r left o10 o11 o12 o13 t1 t2 r1 r2
        refine ih _ _ _ _ _ _ _ _ ⟨by rw [List.length_set]; exact pk.len, fun z hz => ?_⟩
        rcases List.mem_or_eq_of_mem_set hz with hz | rfl
        · exact pk.all z hz
        · exact ⟨hf, t1, t2, r1, r2⟩
      have yes : lp_l_story_1 { Z with nx := forGo (tgN 5) lp_l_story_2 Z (rng ((i : Int) + 1) n), ct := forGo (tgN 5) lp_l_story_2 Z (rng ((i : Int) + 1) n), bk := Z.nx } (Fsl s c m row b (some (.fz (.int i))) (some (.fz (.int y))) ps left (some (.fz (.lst [.int p0, .int p1, .int p2, .int p3, .int p4, .int p5, .int p6]))) o11 o12 o13) := by
        simp -implicitDefEqProofs only [↓DL.gt_0, ↓DL.gt_s, ↓DL.pt_0, ↓DL.pt_s, ↓DL.gv_fz, ↓DL.x_var, ↓DL.go_fz, ↓DL.go_lst, ↓DL.x_own, ↓DL.x_c, ↓DL.x_bin, ↓DL.x_tst, ↓DL.asB_bl, ↓DL.x_chain, ↓DL.x_and, ↓DL.x_or, ↓DL.x_not, ↓DL.x_andV, ↓DL.x_orV, ↓DL.x_notV, ↓DL.x_if, ↓DL.x_nil, ↓DL.x_cons, ↓DL.x_tup, ↓DL.x_cb, ↓DL.x_call, ↓DL.x_noPart, ↓DL.x_part, ↓DL.asI_int, ↓DL.x_sl, ↓DL.x_neg, ↓DL.x_lstV, ↓DL.x_listL, ↓DL.x_it, ↓DL.x_rng1, ↓DL.x_rng2, ↓DL.ints1_int, ↓DL.ints2_int, ↓DL.asL_lst, ↓DL.asL_tup, ↓DL.asL_scr, ↓DL.x_comp, ↓DL.x_yes, ↓DL.wip_nil, ↓DL.wip_cons, ↓DL.x_next, ↓DL.x_seq, ↓DL.x_brk, ↓DL.x_cont, ↓DL.x_expr, ↓DL.x_ret, ↓DL.x_retN, ↓DL.x_sif, ↓DL.x_set, ↓DL.x_setO, ↓DL.tgK_some, ↓DL.x_asg, ↓DL.x_tgN, ↓DL.x_tgTup, ↓DL.x_tgNil, ↓DL.x_tgConsN, ↓DL.map_some, ↓DL.pts_nil, ↓DL.pts_cons, ↓DL.gl_lst, ↓DL.x_app, ↓DL.x_putIx, ↓DL.gf_lst, ↓DL.gf_fz, ↓DL.x_fz, ↓DL.x_for, ↓DL.x_end_nx, ↓DL.x_end_rt, ↓DL.g_eqS, ↓DL.g_eqI, ↓DL.g_neS, ↓DL.g_neI, ↓DL.g_lt, ↓DL.g_le, ↓DL.g_gt, ↓DL.g_ge, ↓DL.g_add, ↓DL.g_addL, ↓DL.g_addT, ↓DL.g_sub, ↓DL.g_mul, ↓DL.g_mulL, ↓DL.g_mod, ↓DL.g_fdiv, ↓DL.g_pow, ↓DL.g_isN, ↓DL.g_notN, ↓DL.g_ixT, ↓DL.g_ixL, ↓DL.g_ixS, ↓DL.ix0, ↓DL.ix1, ↓DL.ix2, ↓DL.ix3, ↓DL.ix4, ↓DL.ix5, ↓DL.ix6, ↓DL.ix7, ↓DL.g_lenT, ↓DL.g_lenL, ↓DL.g_lenS, ↓DL.g_int, ↓DL.g_intB, ↓DL.g_tupT, ↓DL.g_tupL, ↓DL.g_lsT, ↓DL.g_lsL, ↓DL.g_max, ↓DL.g_min, ↓DL.g_slT, ↓DL.g_slL, ↓DL.isQ_some, ↓DL.g_isi, ↓DL.i_int, ↓DL.i_bl, ↓DL.i_tup, ↓DL.i_lst, ↓DL.i_non, ↓DL.i_str, if_true, if_false, Bool.false_eq_true, Bool.not_true, Bool.not_false, reduceCtorEq, decide_eq_true_eq, decide_true, decide_false, Bool.not_eq_true', decide_eq_false_iff_not, ↓u_l_story_1, ↓xs3]
        refine ⟨by decide, ?_⟩
        have hm : 0 ≤ p0 % 3 ∧ p0 % 3 < 3 := by omega
        have hint : ∀ Q : D → Prop, (∀ z : Int, Q (.int z)) → ixQ [.int p1, .int i, .int p1] (p0 % 3) Q := by
          intro Q hQ
          rcases (by omega : p0 % 3 = 0 ∨ p0 % 3 = 1 ∨ p0 % 3 = 2) with e | e | e <;> rw [e] <;> simp -implicitDefEqProofs only [↓DL.gt_0, ↓DL.gt_s, ↓DL.pt_0, ↓DL.pt_s, ↓DL.gv_fz, ↓DL.x_var, ↓DL.go_fz, ↓DL.go_lst, ↓DL.x_own, ↓DL.x_c, ↓DL.x_bin, ↓DL.x_tst, ↓DL.asB_bl, ↓DL.x_chain, ↓DL.x_and, ↓DL.x_or, ↓DL.x_not, ↓DL.x_andV, ↓DL.x_orV, ↓DL.x_notV, ↓DL.x_if, ↓DL.x_nil, ↓DL.x_cons, ↓DL.x_tup, ↓DL.x_cb, ↓DL.x_call, ↓DL.x_noPart, ↓DL.x_part, ↓DL.asI_int, ↓DL.x_sl, ↓DL.x_neg, ↓DL.x_lstV, ↓DL.x_listL, ↓DL.x_it, ↓DL.x_rng1, ↓DL.x_rng2, ↓DL.ints1_int, ↓DL.ints2_int, ↓DL.asL_lst, ↓DL.asL_tup, ↓DL.asL_scr, ↓DL.x_comp, ↓DL.x_yes, ↓DL.wip_nil, ↓DL.wip_cons, ↓DL.x_next, ↓DL.x_seq, ↓DL.x_brk, ↓DL.x_cont, ↓DL.x_expr, ↓DL.x_ret, ↓DL.x_retN, ↓DL.x_sif, ↓DL.x_set, ↓DL.x_setO, ↓DL.tgK_some, ↓DL.x_asg, ↓DL.x_tgN, ↓DL.x_tgTup, ↓DL.x_tgNil, ↓DL.x_tgConsN, ↓DL.map_some, ↓DL.pts_nil, ↓DL.pts_cons, ↓DL.gl_lst, ↓DL.x_app, ↓DL.x_putIx, ↓DL.gf_lst, ↓DL.gf_fz, ↓DL.x_fz, ↓DL.x_for, ↓DL.x_end_nx, ↓DL.x_end_rt, ↓DL.g_eqS, ↓DL.g_eqI, ↓DL.g_neS, ↓DL.g_neI, ↓DL.g_lt, ↓DL.g_le, ↓DL.g_gt, ↓DL.g_ge, ↓DL.g_add, ↓DL.g_addL, ↓DL.g_addT, ↓DL.g_sub, ↓DL.g_mul, ↓DL.g_mulL, ↓DL.g_mod, ↓DL.g_fdiv, ↓DL.g_pow, ↓DL.g_isN, ↓DL.g_notN, ↓DL.g_ixT, ↓DL.g_ixL, ↓DL.g_ixS, ↓DL.ix0, ↓DL.ix1, ↓DL.ix2, ↓DL.ix3, ↓DL.ix4, ↓DL.ix5, ↓DL.ix6, ↓DL.ix7, ↓DL.g_lenT, ↓DL.g_lenL, ↓DL.g_lenS, ↓DL.g_int, ↓DL.g_intB, ↓DL.g_tupT, ↓DL.g_tupL, ↓DL.g_lsT, ↓DL.g_lsL, ↓DL.g_max, ↓DL.g_min, ↓DL.g_slT, ↓DL.g_slL, ↓DL.isQ_some, ↓DL.g_isi, ↓DL.i_int, ↓DL.i_bl, ↓DL.i_tup, ↓DL.i_lst, ↓DL.i_non, ↓DL.i_str, if_true, if_false, Bool.false_eq_true, Bool.not_true, Bool.not_false, reduceCtorEq, decide_eq_true_eq, decide_true, decide_false, Bool.not_eq_true', decide_eq_false_iff_not] <;> exact hQ _
        refine hint _ fun z => ?_
        simp -implicitDefEqProofs only [↓DL.gt_0, ↓DL.gt_s, ↓DL.pt_0, ↓DL.pt_s, ↓DL.gv_fz, ↓DL.x_var, ↓DL.go_fz, ↓DL.go_lst, ↓DL.x_own, ↓DL.x_c, ↓DL.x_bin, ↓DL.x_tst, ↓DL.asB_bl, ↓DL.x_chain, ↓DL.x_and, ↓DL.x_or, ↓DL.x_not, ↓DL.x_andV, ↓DL.x_orV, ↓DL.x_notV, ↓DL.x_if, ↓DL.x_nil, ↓DL.x_cons, ↓DL.x_tup, ↓DL.x_cb, ↓DL.x_call, ↓DL.x_noPart, ↓DL.x_part, ↓DL.asI_int, ↓DL.x_sl, ↓DL.x_neg, ↓DL.x_lstV, ↓DL.x_listL, ↓DL.x_it, ↓DL.x_rng1, ↓DL.x_rng2, ↓DL.ints1_int, ↓DL.ints2_int, ↓DL.asL_lst, ↓DL.asL_tup, ↓DL.asL_scr, ↓DL.x_comp, ↓DL.x_yes, ↓DL.wip_nil, ↓DL.wip_cons, ↓DL.x_next, ↓DL.x_seq, ↓DL.x_brk, ↓DL.x_cont, ↓DL.x_expr, ↓DL.x_ret, ↓DL.x_retN, ↓DL.x_sif, ↓DL.x_set, ↓DL.x_setO, ↓DL.tgK_some, ↓DL.x_asg, ↓DL.x_tgN, ↓DL.x_tgTup, ↓DL.x_tgNil, ↓DL.x_tgConsN, ↓DL.map_some, ↓DL.pts_nil, ↓DL.pts_cons, ↓DL.gl_lst, ↓DL.x_app, ↓DL.x_putIx, ↓DL.gf_lst, ↓DL.gf_fz, ↓DL.x_fz, ↓DL.x_for, ↓DL.x_end_nx, ↓DL.x_end_rt, ↓DL.g_eqS, ↓DL.g_eqI, ↓DL.g_neS, ↓DL.g_neI, ↓DL.g_lt, ↓DL.g_le, ↓DL.g_gt, ↓DL.g_ge, ↓DL.g_add, ↓DL.g_addL, ↓DL.g_addT, ↓DL.g_sub, ↓DL.g_mul, ↓DL.g_mulL, ↓DL.g_mod, ↓DL.g_fdiv, ↓DL.g_pow, ↓DL.g_isN, ↓DL.g_notN, ↓DL.g_ixT, ↓DL.g_ixL, ↓DL.g_ixS, ↓DL.ix0, ↓DL.ix1, ↓DL.ix2, ↓DL.ix3, ↓DL.ix4, ↓DL.ix5, ↓DL.ix6, ↓DL.ix7, ↓DL.g_lenT, ↓DL.g_lenL, ↓DL.g_lenS, ↓DL.g_int, ↓DL.g_intB, ↓DL.g_tupT, ↓DL.g_tupL, ↓DL.g_lsT, ↓DL.g_lsL, ↓DL.g_max, ↓DL.g_min, ↓DL.g_slT, ↓DL.g_slL, ↓DL.isQ_some, ↓DL.g_isi, ↓DL.i_int, ↓DL.i_bl, ↓DL.i_tup, ↓DL.i_lst, ↓DL.i_non, ↓DL.i_str, if_true, if_false, Bool.false_eq_true, Bool.not_true, Bool.not_false, reduceCtorEq, decide_eq_true_eq, decide_true, decide_false, Bool.not_eq_true', decide_eq_false_iff_not]
        obtain ⟨t0, t1⟩ := emod_b (a := z) (b := (s.l : Int)) (by omega)
        refine ⟨by omega, s.h, y, h5, rfl, ?_⟩
        have hol := oth_len (x := y) h5
        simp -implicitDefEqProofs only [↓DL.gt_0, ↓DL.gt_s, ↓DL.pt_0, ↓DL.pt_s, ↓DL.gv_fz, ↓DL.x_var, ↓DL.go_fz, ↓DL.go_lst, ↓DL.x_own, ↓DL.x_c, ↓DL.x_bin, ↓DL.x_tst, ↓DL.asB_bl, ↓DL.x_chain, ↓DL.x_and, ↓DL.x_or, ↓DL.x_not, ↓DL.x_andV, ↓DL.x_orV, ↓DL.x_notV, ↓DL.x_if, ↓DL.x_nil, ↓DL.x_cons, ↓DL.x_tup, ↓DL.x_cb, ↓DL.x_call, ↓DL.x_noPart, ↓DL.x_part, ↓DL.asI_int, ↓DL.x_sl, ↓DL.x_neg, ↓DL.x_lstV, ↓DL.x_listL, ↓DL.x_it, ↓DL.x_rng1, ↓DL.x_rng2, ↓DL.ints1_int, ↓DL.ints2_int, ↓DL.asL_lst, ↓DL.asL_tup, ↓DL.asL_scr, ↓DL.x_comp, ↓DL.x_yes, ↓DL.wip_nil, ↓DL.wip_cons, ↓DL.x_next, ↓DL.x_seq, ↓DL.x_brk, ↓DL.x_cont, ↓DL.x_expr, ↓DL.x_ret, ↓DL.x_retN, ↓DL.x_sif, ↓DL.x_set, ↓DL.x_setO, ↓DL.tgK_some, ↓DL.x_asg, ↓DL.x_tgN, ↓DL.x_tgTup, ↓DL.x_tgNil, ↓DL.x_tgConsN, ↓DL.map_some, ↓DL.pts_nil, ↓DL.pts_cons, ↓DL.gl_lst, ↓DL.x_app, ↓DL.x_putIx, ↓DL.gf_lst, ↓DL.gf_fz, ↓DL.x_fz, ↓DL.x_for, ↓DL.x_end_nx, ↓DL.x_end_rt, ↓DL.g_eqS, ↓DL.g_eqI, ↓DL.g_neS, ↓DL.g_neI, ↓DL.g_lt, ↓DL.g_le, ↓DL.g_gt, ↓DL.g_ge, ↓DL.g_add, ↓DL.g_addL, ↓DL.g_addT, ↓DL.g_sub, ↓DL.g_mul, ↓DL.g_mulL, ↓DL.g_mod, ↓DL.g_fdiv, ↓DL.g_pow, ↓DL.g_isN, ↓DL.g_notN, ↓DL.g_ixT, ↓DL.g_ixL, ↓DL.g_ixS, ↓DL.ix0, ↓DL.ix1, ↓DL.ix2, ↓DL.ix3, ↓DL.ix4, ↓DL.ix5, ↓DL.ix6, ↓DL.ix7, ↓DL.g_lenT, ↓DL.g_lenL, ↓DL.g_lenS, ↓DL.g_int, ↓DL.g_intB, ↓DL.g_tupT, ↓DL.g_tupL, ↓DL.g_lsT, ↓DL.g_lsL, ↓DL.g_max, ↓DL.g_min, ↓DL.g_slT, ↓DL.g_slL, ↓DL.isQ_some, ↓DL.g_isi, ↓DL.i_int, ↓DL.i_bl, ↓DL.i_tup, ↓DL.i_lst, ↓DL.i_non, ↓DL.i_str, if_true, if_false, Bool.false_eq_true, Bool.not_true, Bool.not_false, reduceCtorEq, decide_eq_true_eq, decide_true, decide_false, Bool.not_eq_true', decide_eq_false_iff_not, List.length_map]
        refine ⟨by omega, by omega, ?_⟩
        rw [Int.toNat_natCast, rngE]
        refine ⟨by simp; omega, compGo_free .int .int (fun w => 0 ≤ w ∧ w < 5) _ _ (fun w hw => ?_) fun r hr1 hr2 => ?_⟩
        · obtain ⟨j, hj, rfl⟩ := List.mem_map.mp hw
          have hj := List.mem_range.mp hj
          refine ⟨_, rfl, fun Q E q => ?_, fun Q E q => ?_⟩
          · simp -implicitDefEqProofs only [↓DL.gt_0, ↓DL.gt_s, ↓DL.pt_0, ↓DL.pt_s, ↓DL.gv_fz, ↓DL.x_var, ↓DL.go_fz, ↓DL.go_lst, ↓DL.x_own, ↓DL.x_c, ↓DL.x_bin, ↓DL.x_tst, ↓DL.asB_bl, ↓DL.x_chain, ↓DL.x_and, ↓DL.x_or, ↓DL.x_not, ↓DL.x_andV, ↓DL.x_orV, ↓DL.x_notV, ↓DL.x_if, ↓DL.x_nil, ↓DL.x_cons, ↓DL.x_tup, ↓DL.x_cb, ↓DL.x_call, ↓DL.x_noPart, ↓DL.x_part, ↓DL.asI_int, ↓DL.x_sl, ↓DL.x_neg, ↓DL.x_lstV, ↓DL.x_listL, ↓DL.x_it, ↓DL.x_rng1, ↓DL.x_rng2, ↓DL.ints1_int, ↓DL.ints2_int, ↓DL.asL_lst, ↓DL.asL_tup, ↓DL.asL_scr, ↓DL.x_comp, ↓DL.x_yes, ↓DL.wip_nil, ↓DL.wip_cons, ↓DL.x_next, ↓DL.x_seq, ↓DL.x_brk, ↓DL.x_cont, ↓DL.x_expr, ↓DL.x_ret, ↓DL.x_retN, ↓DL.x_sif, ↓DL.x_set, ↓DL.x_setO, ↓DL.tgK_some, ↓DL.x_asg, ↓DL.x_tgN, ↓DL.x_tgTup, ↓DL.x_tgNil, ↓DL.x_tgConsN, ↓DL.map_some, ↓DL.pts_nil, ↓DL.pts_cons, ↓DL.gl_lst, ↓DL.x_app, ↓DL.x_putIx, ↓DL.gf_lst, ↓DL.gf_fz, ↓DL.x_fz, ↓DL.x_for, ↓DL.x_end_nx, ↓DL.x_end_rt, ↓DL.g_eqS, ↓DL.g_eqI, ↓DL.g_neS, ↓DL.g_neI, ↓DL.g_lt, ↓DL.g_le, ↓DL.g_gt, ↓DL.g_ge, ↓DL.g_add, ↓DL.g_addL, ↓DL.g_addT, ↓DL.g_sub, ↓DL.g_mul, ↓DL.g_mulL, ↓DL.g_mod, ↓DL.g_fdiv, ↓DL.g_pow, ↓DL.g_isN, ↓DL.g_notN, ↓DL.g_ixT, ↓DL.g_ixL, ↓DL.g_ixS, ↓DL.ix0, ↓DL.ix1, ↓DL.ix2, ↓DL.ix3, ↓DL.ix4, ↓DL.ix5, ↓DL.ix6, ↓DL.ix7, ↓DL.g_lenT, ↓DL.g_lenL, ↓DL.g_lenS, ↓DL.g_int, ↓DL.g_intB, ↓DL.g_tupT, ↓DL.g_tupL, ↓DL.g_lsT, ↓DL.g_lsL, ↓DL.g_max, ↓DL.g_min, ↓DL.g_slT, ↓DL.g_slL, ↓DL.isQ_some, ↓DL.g_isi, ↓DL.i_int, ↓DL.i_bl, ↓DL.i_tup, ↓DL.i_lst, ↓DL.i_non, ↓DL.i_str, if_true, if_false, Bool.false_eq_true, Bool.not_true, Bool.not_false, reduceCtorEq, decide_eq_true_eq, decide_true, decide_false, Bool.not_eq_true', decide_eq_false_iff_not]
            have hx : ∀ Q : D → Prop, (∀ z : Int, Q (.int z)) → ixQ [.int p0, .int p1, .int p2, .int p3, .int p4, .int p5, .int p6] (2 + (j : Int)) Q := by
              intro Q hQ
              rcases (by omega : j = 0 ∨ j = 1 ∨ j = 2 ∨ j = 3 ∨ j = 4) with rfl | rfl | rfl | rfl | rfl
              · exact ix2 ▸ hQ _
              · exact ix3 ▸ hQ _
              · exact ix4 ▸ hQ _
              · exact ix5 ▸ hQ _
              · exact ix6 ▸ hQ _
            refine hx _ fun z => ?_
            simp -implicitDefEqProofs only [↓DL.gt_0, ↓DL.gt_s, ↓DL.pt_0, ↓DL.pt_s, ↓DL.gv_fz, ↓DL.x_var, ↓DL.go_fz, ↓DL.go_lst, ↓DL.x_own, ↓DL.x_c, ↓DL.x_bin, ↓DL.x_tst, ↓DL.asB_bl, ↓DL.x_chain, ↓DL.x_and, ↓DL.x_or, ↓DL.x_not, ↓DL.x_andV, ↓DL.x_orV, ↓DL.x_notV, ↓DL.x_if, ↓DL.x_nil, ↓DL.x_cons, ↓DL.x_tup, ↓DL.x_cb, ↓DL.x_call, ↓DL.x_noPart, ↓DL.x_part, ↓DL.asI_int, ↓DL.x_sl, ↓DL.x_neg, ↓DL.x_lstV, ↓DL.x_listL, ↓DL.x_it, ↓DL.x_rng1, ↓DL.x_rng2, ↓DL.ints1_int, ↓DL.ints2_int, ↓DL.asL_lst, ↓DL.asL_tup, ↓DL.asL_scr, ↓DL.x_comp, ↓DL.x_yes, ↓DL.wip_nil, ↓DL.wip_cons, ↓DL.x_next, ↓DL.x_seq, ↓DL.x_brk, ↓DL.x_cont, ↓DL.x_expr, ↓DL.x_ret, ↓DL.x_retN, ↓DL.x_sif, ↓DL.x_set, ↓DL.x_setO, ↓DL.tgK_some, ↓DL.x_asg, ↓DL.x_tgN, ↓DL.x_tgTup, ↓DL.x_tgNil, ↓DL.x_tgConsN, ↓DL.map_some, ↓DL.pts_nil, ↓DL.pts_cons, ↓DL.gl_lst, ↓DL.x_app, ↓DL.x_putIx, ↓DL.gf_lst, ↓DL.gf_fz, ↓DL.x_fz, ↓DL.x_for, ↓DL.x_end_nx, ↓DL.x_end_rt, ↓DL.g_eqS, ↓DL.g_eqI, ↓DL.g_neS, ↓DL.g_neI, ↓DL.g_lt, ↓DL.g_le, ↓DL.g_gt, ↓DL.g_ge, ↓DL.g_add, ↓DL.g_addL, ↓DL.g_addT, ↓DL.g_sub, ↓DL.g_mul, ↓DL.g_mulL, ↓DL.g_mod, ↓DL.g_fdiv, ↓DL.g_pow, ↓DL.g_isN, ↓DL.g_notN, ↓DL.g_ixT, ↓DL.g_ixL, ↓DL.g_ixS, ↓DL.ix0, ↓DL.ix1, ↓DL.ix2, ↓DL.ix3, ↓DL.ix4, ↓DL.ix5, ↓DL.ix6, ↓DL.ix7, ↓DL.g_lenT, ↓DL.g_lenL, ↓DL.g_lenS, ↓DL.g_int, ↓DL.g_intB, ↓DL.g_tupT, ↓DL.g_tupL, ↓DL.g_lsT, ↓DL.g_lsL, ↓DL.g_max, ↓DL.g_min, ↓DL.g_slT, ↓DL.g_slL, ↓DL.isQ_some, ↓DL.g_isi, ↓DL.i_int, ↓DL.i_bl, ↓DL.i_tup, ↓DL.i_lst, ↓DL.i_non, ↓DL.i_str, if_true, if_false, Bool.false_eq_true, Bool.not_true, Bool.not_false, reduceCtorEq, decide_eq_true_eq, decide_true, decide_false, Bool.not_eq_true', decide_eq_false_iff_not]
            (repeat' split) <;> exact q _
          · simp -implicitDefEqProofs only [↓DL.gt_0, ↓DL.gt_s, ↓DL.pt_0, ↓DL.pt_s, ↓DL.gv_fz, ↓DL.x_var, ↓DL.go_fz, ↓DL.go_lst, ↓DL.x_own, ↓DL.x_c, ↓DL.x_bin, ↓DL.x_tst, ↓DL.asB_bl, ↓DL.x_chain, ↓DL.x_and, ↓DL.x_or, ↓DL.x_not, ↓DL.x_andV, ↓DL.x_orV, ↓DL.x_notV, ↓DL.x_if, ↓DL.x_nil, ↓DL.x_cons, ↓DL.x_tup, ↓DL.x_cb, ↓DL.x_call, ↓DL.x_noPart, ↓DL.x_part, ↓DL.asI_int, ↓DL.x_sl, ↓DL.x_neg, ↓DL.x_lstV, ↓DL.x_listL, ↓DL.x_it, ↓DL.x_rng1, ↓DL.x_rng2, ↓DL.ints1_int, ↓DL.ints2_int, ↓DL.asL_lst, ↓DL.asL_tup, ↓DL.asL_scr, ↓DL.x_comp, ↓DL.x_yes, ↓DL.wip_nil, ↓DL.wip_cons, ↓DL.x_next, ↓DL.x_seq, ↓DL.x_brk, ↓DL.x_cont, ↓DL.x_expr, ↓DL.x_ret, ↓DL.x_retN, ↓DL.x_sif, ↓DL.x_set, ↓DL.x_setO, ↓DL.tgK_some, ↓DL.x_asg, ↓DL.x_tgN, ↓DL.x_tgTup, ↓DL.x_tgNil, ↓DL.x_tgConsN, ↓DL.map_some, ↓DL.pts_nil, ↓DL.pts_cons, ↓DL.gl_lst, ↓DL.x_app, ↓DL.x_putIx, ↓DL.gf_lst, ↓DL.gf_fz, ↓DL.x_fz, ↓DL.x_for, ↓DL.x_end_nx, ↓DL.x_end_rt, ↓DL.g_eqS, ↓DL.g_eqI, ↓DL.g_neS, ↓DL.g_neI, ↓DL.g_lt, ↓DL.g_le, ↓DL.g_gt, ↓DL.g_ge, ↓DL.g_add, ↓DL.g_addL, ↓DL.g_addT, ↓DL.g_sub, ↓DL.g_mul, ↓DL.g_mulL, ↓DL.g_mod, ↓DL.g_fdiv, ↓DL.g_pow, ↓DL.g_isN, ↓DL.g_notN, ↓DL.g_ixT, ↓DL.g_ixL, ↓DL.g_ixS, ↓DL.ix0, ↓DL.ix1, ↓DL.ix2, ↓DL.ix3, ↓DL.ix4, ↓DL.ix5, ↓DL.ix6, ↓DL.ix7, ↓DL.g_lenT, ↓DL.g_lenL, ↓DL.g_lenS, ↓DL.g_int, ↓DL.g_intB, ↓DL.g_tupT, ↓DL.g_tupL, ↓DL.g_lsT, ↓DL.g_lsL, ↓DL.g_max, ↓DL.g_min, ↓DL.g_slT, ↓DL.g_slL, ↓DL.isQ_some, ↓DL.g_isi, ↓DL.i_int, ↓DL.i_bl, ↓DL.i_tup, ↓DL.i_lst, ↓DL.i_non, ↓DL.i_str, if_true, if_false, Bool.false_eq_true, Bool.not_true, Bool.not_false, reduceCtorEq, decide_eq_true_eq, decide_true, decide_false, Bool.not_eq_true', decide_eq_false_iff_not]
            refine ixQ_il (by omega) (by omega) fun w hw => q w ?_
            exact oth_mem h5 (List.mem_of_getElem? hw)
        · rw [List.nil_append]
          simp only [List.length_map, List.length_range] at hr1
          rw [ixN_in (by omega) (by omega), Int.toNat_natCast]
          have := put (1 + z % (s.l : Int)) r (left - 1) (some (.fz (.lst [.int p0, .int p1, .int p2, .int p3, .int p4, .int p5, .int p6]))) (some (.fz (.int (1 + z % (s.l : Int))))) (some (.fz (.lst (iL (others s.h y))))) (some (.fz (.lst (iL r)))) (by omega) (by omega) (by omega) hr2
          unfold Fsl at this
          rw [List.map_set] at this
          exact this
      split
      · split
        · exact yes
        · refine ixQ_il (by omega) (by omega) fun w _ => ?_
          simp -implicitDefEqProofs only [↓DL.gt_0, ↓DL.gt_s, ↓DL.pt_0, ↓DL.pt_s, ↓DL.gv_fz, ↓DL.x_var, ↓DL.go_fz, ↓DL.go_lst, ↓DL.x_own, ↓DL.x_c, ↓DL.x_bin, ↓DL.x_tst, ↓DL.asB_bl, ↓DL.x_chain, ↓DL.x_and, ↓DL.x_or, ↓DL.x_not, ↓DL.x_andV, ↓DL.x_orV, ↓DL.x_notV, ↓DL.x_if, ↓DL.x_nil, ↓DL.x_cons, ↓DL.x_tup, ↓DL.x_cb, ↓DL.x_call, ↓DL.x_noPart, ↓DL.x_part, ↓DL.asI_int, ↓DL.x_sl, ↓DL.x_neg, ↓DL.x_lstV, ↓DL.x_listL, ↓DL.x_it, ↓DL.x_rng1, ↓DL.x_rng2, ↓DL.ints1_int, ↓DL.ints2_int, ↓DL.asL_lst, ↓DL.asL_tup, ↓DL.asL_scr, ↓DL.x_comp, ↓DL.x_yes, ↓DL.wip_nil, ↓DL.wip_cons, ↓DL.x_next, ↓DL.x_seq, ↓DL.x_brk, ↓DL.x_cont, ↓DL.x_expr, ↓DL.x_ret, ↓DL.x_retN, ↓DL.x_sif, ↓DL.x_set, ↓DL.x_setO, ↓DL.tgK_some, ↓DL.x_asg, ↓DL.x_tgN, ↓DL.x_tgTup, ↓DL.x_tgNil, ↓DL.x_tgConsN, ↓DL.map_some, ↓DL.pts_nil, ↓DL.pts_cons, ↓DL.gl_lst, ↓DL.x_app, ↓DL.x_putIx, ↓DL.gf_lst, ↓DL.gf_fz, ↓DL.x_fz, ↓DL.x_for, ↓DL.x_end_nx, ↓DL.x_end_rt, ↓DL.g_eqS, ↓DL.g_eqI, ↓DL.g_neS, ↓DL.g_neI, ↓DL.g_lt, ↓DL.g_le, ↓DL.g_gt, ↓DL.g_ge, ↓DL.g_add, ↓DL.g_addL, ↓DL.g_addT, ↓DL.g_sub, ↓DL.g_mul, ↓DL.g_mulL, ↓DL.g_mod, ↓DL.g_fdiv, ↓DL.g_pow, ↓DL.g_isN, ↓DL.g_notN, ↓DL.g_ixT, ↓DL.g_ixL, ↓DL.g_ixS, ↓DL.ix0, ↓DL.ix1, ↓DL.ix2, ↓DL.ix3, ↓DL.ix4, ↓DL.ix5, ↓DL.ix6, ↓DL.ix7, ↓DL.g_lenT, ↓DL.g_lenL, ↓DL.g_lenS, ↓DL.g_int, ↓DL.g_intB, ↓DL.g_tupT, ↓DL.g_tupL, ↓DL.g_lsT, ↓DL.g_lsL, ↓DL.g_max, ↓DL.g_min, ↓DL.g_slT, ↓DL.g_slL, ↓DL.isQ_some, ↓DL.g_isi, ↓DL.i_int, ↓DL.i_bl, ↓DL.i_tup, ↓DL.i_lst, ↓DL.i_non, ↓DL.i_str, if_true, if_false, Bool.false_eq_true, Bool.not_true, Bool.not_false, reduceCtorEq, decide_eq_true_eq, decide_true, decide_false, Bool.not_eq_true', decide_eq_false_iff_not]
          split
          · exact yes
          · exact no _ _ _ _ _
      · exact no _ _ _ _ _
theorem p_l_story (ds : List D) (Q : D → Prop) (E : DExc → Prop) (hl : ds.length = 3) (h : sp_l_story ds Q E) : b_l_story (dEnd Q E) (en N_l_story.length ds) := by
  obtain ⟨s, c, m, big, rfl, q⟩ := h
  have h2 := big.ok.h2
  have h5 := big.ok.h5
  have l5 := big.ok.l5
  have a1 := big.ok.a1
  have f0 := big.f0
  have f1 := big.f1
  rw [en_l_story]
  simp -implicitDefEqProofs only [↓DL.gt_0, ↓DL.gt_s, ↓DL.pt_0, ↓DL.pt_s, ↓DL.gv_fz, ↓DL.x_var, ↓DL.go_fz, ↓DL.go_lst, ↓DL.x_own, ↓DL.x_c, ↓DL.x_bin, ↓DL.x_tst, ↓DL.asB_bl, ↓DL.x_chain, ↓DL.x_and, ↓DL.x_or, ↓DL.x_not, ↓DL.x_andV, ↓DL.x_orV, ↓DL.x_notV, ↓DL.x_if, ↓DL.x_nil, ↓DL.x_cons, ↓DL.x_tup, ↓DL.x_cb, ↓DL.x_call, ↓DL.x_noPart, ↓DL.x_part, ↓DL.asI_int, ↓DL.x_sl, ↓DL.x_neg, ↓DL.x_lstV, ↓DL.x_listL, ↓DL.x_it, ↓DL.x_rng1, ↓DL.x_rng2, ↓DL.ints1_int, ↓DL.ints2_int, ↓DL.asL_lst, ↓DL.asL_tup, ↓DL.asL_scr, ↓DL.x_comp, ↓DL.x_yes, ↓DL.wip_nil, ↓DL.wip_cons, ↓DL.x_next, ↓DL.x_seq, ↓DL.x_brk, ↓DL.x_cont, ↓DL.x_expr, ↓DL.x_ret, ↓DL.x_retN, ↓DL.x_sif, ↓DL.x_set, ↓DL.x_setO, ↓DL.tgK_some, ↓DL.x_asg, ↓DL.x_tgN, ↓DL.x_tgTup, ↓DL.x_tgNil, ↓DL.x_tgConsN, ↓DL.map_some, ↓DL.pts_nil, ↓DL.pts_cons, ↓DL.gl_lst, ↓DL.x_app, ↓DL.x_putIx, ↓DL.gf_lst, ↓DL.gf_fz, ↓DL.x_fz, ↓DL.x_for, ↓DL.x_end_nx, ↓DL.x_end_rt, ↓DL.g_eqS, ↓DL.g_eqI, ↓DL.g_neS, ↓DL.g_neI, ↓DL.g_lt, ↓DL.g_le, ↓DL.g_gt, ↓DL.g_ge, ↓DL.g_add, ↓DL.g_addL, ↓DL.g_addT, ↓DL.g_sub, ↓DL.g_mul, ↓DL.g_mulL, ↓DL.g_mod, ↓DL.g_fdiv, ↓DL.g_pow, ↓DL.g_isN, ↓DL.g_notN, ↓DL.g_ixT, ↓DL.g_ixL, ↓DL.g_ixS, ↓DL.ix0, ↓DL.ix1, ↓DL.ix2, ↓DL.ix3, ↓DL.ix4, ↓DL.ix5, ↓DL.ix6, ↓DL.ix7, ↓DL.g_lenT, ↓DL.g_lenL, ↓DL.g_lenS, ↓DL.g_int, ↓DL.g_intB, ↓DL.g_tupT, ↓DL.g_tupL, ↓DL.g_lsT, ↓DL.g_lsL, ↓DL.g_max, ↓DL.g_min, ↓DL.g_slT, ↓DL.g_slL, ↓DL.isQ_some, ↓DL.g_isi, ↓DL.i_int, ↓DL.i_bl, ↓DL.i_tup, ↓DL.i_lst, ↓DL.i_non, ↓DL.i_str, if_true, if_false, Bool.false_eq_true, Bool.not_true, Bool.not_false, reduceCtorEq, decide_eq_true_eq, decide_true, decide_false, Bool.not_eq_true', decide_eq_false_iff_not, b_l_story, ↓xs1, ↓xs0, kl]
  cases hf : s.fl with
  | false =>
    rw [if_pos rfl]
    exact ⟨s, c, m, big, hf, rfl, q⟩
  | true =>
    rw [if_neg (by simp)]
    simp only [List.length_cons, List.length_nil]
    have ef : ∀ (xs : List Int) (n : Nat), (List.replicate ((n : Int)).toNat (iL xs)).flatten = iL (List.replicate n xs).flatten := fun xs n => by rw [Int.toNat_natCast, il_flat]
    have e1 := ef [12] s.h
    have e2 := ef [6, 60, 2, 2, 2, 2, 4] s.h
    simp only [iL, List.map_cons, List.map_nil] at e1 e2
    rw [e1, e2]
    have e3 : ∀ xs : List Int, iL xs ++ [D.int 4, D.int s.h, D.int 5] = iL (xs ++ [4, (s.h : Int), 5]) := fun xs => by simp only [iL, List.map_append]; rfl
    rw [e3, il_app]
    refine ⟨by omega, by omega, by omega, ?_⟩
    refine ⟨by simp; omega, by omega, by omega, by omega, ?_⟩
    refine ⟨by simp; omega, ?_⟩
    refine ⟨c, _, rfl, by simp; omega, fun x hx => ?_, fun row hr => ?_⟩
    · simp only [List.mem_append] at hx
      rcases hx with (hx | hx) | hx
      · have := flat_mem hx; simp at this; omega
      · simp at hx; omega
      · have := flat_mem hx; simp at this; omega
    have hrl : row.length = s.h + 3 + 7 * s.h := by rw [hr.1]; simp; omega
    simp -implicitDefEqProofs only [↓DL.gt_0, ↓DL.gt_s, ↓DL.pt_0, ↓DL.pt_s, ↓DL.gv_fz, ↓DL.x_var, ↓DL.go_fz, ↓DL.go_lst, ↓DL.x_own, ↓DL.x_c, ↓DL.x_bin, ↓DL.x_tst, ↓DL.asB_bl, ↓DL.x_chain, ↓DL.x_and, ↓DL.x_or, ↓DL.x_not, ↓DL.x_andV, ↓DL.x_orV, ↓DL.x_notV, ↓DL.x_if, ↓DL.x_nil, ↓DL.x_cons, ↓DL.x_tup, ↓DL.x_cb, ↓DL.x_call, ↓DL.x_noPart, ↓DL.x_part, ↓DL.asI_int, ↓DL.x_sl, ↓DL.x_neg, ↓DL.x_lstV, ↓DL.x_listL, ↓DL.x_it, ↓DL.x_rng1, ↓DL.x_rng2, ↓DL.ints1_int, ↓DL.ints2_int, ↓DL.asL_lst, ↓DL.asL_tup, ↓DL.asL_scr, ↓DL.x_comp, ↓DL.x_yes, ↓DL.wip_nil, ↓DL.wip_cons, ↓DL.x_next, ↓DL.x_seq, ↓DL.x_brk, ↓DL.x_cont, ↓DL.x_expr, ↓DL.x_ret, ↓DL.x_retN, ↓DL.x_sif, ↓DL.x_set, ↓DL.x_setO, ↓DL.tgK_some, ↓DL.x_asg, ↓DL.x_tgN, ↓DL.x_tgTup, ↓DL.x_tgNil, ↓DL.x_tgConsN, ↓DL.map_some, ↓DL.pts_nil, ↓DL.pts_cons, ↓DL.gl_lst, ↓DL.x_app, ↓DL.x_putIx, ↓DL.gf_lst, ↓DL.gf_fz, ↓DL.x_fz, ↓DL.x_for, ↓DL.x_end_nx, ↓DL.x_end_rt, ↓DL.g_eqS, ↓DL.g_eqI, ↓DL.g_neS, ↓DL.g_neI, ↓DL.g_lt, ↓DL.g_le, ↓DL.g_gt, ↓DL.g_ge, ↓DL.g_add, ↓DL.g_addL, ↓DL.g_addT, ↓DL.g_sub, ↓DL.g_mul, ↓DL.g_mulL, ↓DL.g_mod, ↓DL.g_fdiv, ↓DL.g_pow, ↓DL.g_isN, ↓DL.g_notN, ↓DL.g_ixT, ↓DL.g_ixL, ↓DL.g_ixS, ↓DL.ix0, ↓DL.ix1, ↓DL.ix2, ↓DL.ix3, ↓DL.ix4, ↓DL.ix5, ↓DL.ix6, ↓DL.ix7, ↓DL.g_lenT, ↓DL.g_lenL, ↓DL.g_lenS, ↓DL.g_int, ↓DL.g_intB, ↓DL.g_tupT, ↓DL.g_tupL, ↓DL.g_lsT, ↓DL.g_lsL, ↓DL.g_max, ↓DL.g_min, ↓DL.g_slT, ↓DL.g_slL, ↓DL.isQ_some, ↓DL.g_isi, ↓DL.i_int, ↓DL.i_bl, ↓DL.i_tup, ↓DL.i_lst, ↓DL.i_non, ↓DL.i_str, if_true, if_false, Bool.false_eq_true, Bool.not_true, Bool.not_false, reduceCtorEq, decide_eq_true_eq, decide_true, decide_false, Bool.not_eq_true', decide_eq_false_iff_not, ↓xs2]
    refine ⟨by omega, by omega, ?_⟩
    rw [Int.toNat_natCast, rngE]
    refine ⟨by simp; omega, compGo_any .int .int (fun y => 0 ≤ y ∧ y < s.a) _ _ (fun y hy => ⟨_, rfl, fun Q E q => ?_⟩) fun b hb hB => ?_⟩
    · obtain ⟨n, hn, rfl⟩ := List.mem_map.mp hy
      have hn := List.mem_range.mp hn
      simp -implicitDefEqProofs only [↓DL.gt_0, ↓DL.gt_s, ↓DL.pt_0, ↓DL.pt_s, ↓DL.gv_fz, ↓DL.x_var, ↓DL.go_fz, ↓DL.go_lst, ↓DL.x_own, ↓DL.x_c, ↓DL.x_bin, ↓DL.x_tst, ↓DL.asB_bl, ↓DL.x_chain, ↓DL.x_and, ↓DL.x_or, ↓DL.x_not, ↓DL.x_andV, ↓DL.x_orV, ↓DL.x_notV, ↓DL.x_if, ↓DL.x_nil, ↓DL.x_cons, ↓DL.x_tup, ↓DL.x_cb, ↓DL.x_call, ↓DL.x_noPart, ↓DL.x_part, ↓DL.asI_int, ↓DL.x_sl, ↓DL.x_neg, ↓DL.x_lstV, ↓DL.x_listL, ↓DL.x_it, ↓DL.x_rng1, ↓DL.x_rng2, ↓DL.ints1_int, ↓DL.ints2_int, ↓DL.asL_lst, ↓DL.asL_tup, ↓DL.asL_scr, ↓DL.x_comp, ↓DL.x_yes, ↓DL.wip_nil, ↓DL.wip_cons, ↓DL.x_next, ↓DL.x_seq, ↓DL.x_brk, ↓DL.x_cont, ↓DL.x_expr, ↓DL.x_ret, ↓DL.x_retN, ↓DL.x_sif, ↓DL.x_set, ↓DL.x_setO, ↓DL.tgK_some, ↓DL.x_asg, ↓DL.x_tgN, ↓DL.x_tgTup, ↓DL.x_tgNil, ↓DL.x_tgConsN, ↓DL.map_some, ↓DL.pts_nil, ↓DL.pts_cons, ↓DL.gl_lst, ↓DL.x_app, ↓DL.x_putIx, ↓DL.gf_lst, ↓DL.gf_fz, ↓DL.x_fz, ↓DL.x_for, ↓DL.x_end_nx, ↓DL.x_end_rt, ↓DL.g_eqS, ↓DL.g_eqI, ↓DL.g_neS, ↓DL.g_neI, ↓DL.g_lt, ↓DL.g_le, ↓DL.g_gt, ↓DL.g_ge, ↓DL.g_add, ↓DL.g_addL, ↓DL.g_addT, ↓DL.g_sub, ↓DL.g_mul, ↓DL.g_mulL, ↓DL.g_mod, ↓DL.g_fdiv, ↓DL.g_pow, ↓DL.g_isN, ↓DL.g_notN, ↓DL.g_ixT, ↓DL.g_ixL, ↓DL.g_ixS, ↓DL.ix0, ↓DL.ix1, ↓DL.ix2, ↓DL.ix3, ↓DL.ix4, ↓DL.ix5, ↓DL.ix6, ↓DL.ix7, ↓DL.g_lenT, ↓DL.g_lenL, ↓DL.g_lenS, ↓DL.g_int, ↓DL.g_intB, ↓DL.g_tupT, ↓DL.g_tupL, ↓DL.g_lsT, ↓DL.g_lsL, ↓DL.g_max, ↓DL.g_min, ↓DL.g_slT, ↓DL.g_slL, ↓DL.isQ_some, ↓DL.g_isi, ↓DL.i_int, ↓DL.i_bl, ↓DL.i_tup, ↓DL.i_lst, ↓DL.i_non, ↓DL.i_str, if_true, if_false, Bool.false_eq_true, Bool.not_true, Bool.not_false, reduceCtorEq, decide_eq_true_eq, decide_true, decide_false, Bool.not_eq_true', decide_eq_false_iff_not]
      refine ixQ_il (by omega) (by omega) fun x _ => ?_
      simp -implicitDefEqProofs only [↓DL.gt_0, ↓DL.gt_s, ↓DL.pt_0, ↓DL.pt_s, ↓DL.gv_fz, ↓DL.x_var, ↓DL.go_fz, ↓DL.go_lst, ↓DL.x_own, ↓DL.x_c, ↓DL.x_bin, ↓DL.x_tst, ↓DL.asB_bl, ↓DL.x_chain, ↓DL.x_and, ↓DL.x_or, ↓DL.x_not, ↓DL.x_andV, ↓DL.x_orV, ↓DL.x_notV, ↓DL.x_if, ↓DL.x_nil, ↓DL.x_cons, ↓DL.x_tup, ↓DL.x_cb, ↓DL.x_call, ↓DL.x_noPart, ↓DL.x_part, ↓DL.asI_int, ↓DL.x_sl, ↓DL.x_neg, ↓DL.x_lstV, ↓DL.x_listL, ↓DL.x_it, ↓DL.x_rng1, ↓DL.x_rng2, ↓DL.ints1_int, ↓DL.ints2_int, ↓DL.asL_lst, ↓DL.asL_tup, ↓DL.asL_scr, ↓DL.x_comp, ↓DL.x_yes, ↓DL.wip_nil, ↓DL.wip_cons, ↓DL.x_next, ↓DL.x_seq, ↓DL.x_brk, ↓DL.x_cont, ↓DL.x_expr, ↓DL.x_ret, ↓DL.x_retN, ↓DL.x_sif, ↓DL.x_set, ↓DL.x_setO, ↓DL.tgK_some, ↓DL.x_asg, ↓DL.x_tgN, ↓DL.x_tgTup, ↓DL.x_tgNil, ↓DL.x_tgConsN, ↓DL.map_some, ↓DL.pts_nil, ↓DL.pts_cons, ↓DL.gl_lst, ↓DL.x_app, ↓DL.x_putIx, ↓DL.gf_lst, ↓DL.gf_fz, ↓DL.x_fz, ↓DL.x_for, ↓DL.x_end_nx, ↓DL.x_end_rt, ↓DL.g_eqS, ↓DL.g_eqI, ↓DL.g_neS, ↓DL.g_neI, ↓DL.g_lt, ↓DL.g_le, ↓DL.g_gt, ↓DL.g_ge, ↓DL.g_add, ↓DL.g_addL, ↓DL.g_addT, ↓DL.g_sub, ↓DL.g_mul, ↓DL.g_mulL, ↓DL.g_mod, ↓DL.g_fdiv, ↓DL.g_pow, ↓DL.g_isN, ↓DL.g_notN, ↓DL.g_ixT, ↓DL.g_ixL, ↓DL.g_ixS, ↓DL.ix0, ↓DL.ix1, ↓DL.ix2, ↓DL.ix3, ↓DL.ix4, ↓DL.ix5, ↓DL.ix6, ↓DL.ix7, ↓DL.g_lenT, ↓DL.g_lenL, ↓DL.g_lenS, ↓DL.g_int, ↓DL.g_intB, ↓DL.g_tupT, ↓DL.g_tupL, ↓DL.g_lsT, ↓DL.g_lsL, ↓DL.g_max, ↓DL.g_min, ↓DL.g_slT, ↓DL.g_slL, ↓DL.isQ_some, ↓DL.g_isi, ↓DL.i_int, ↓DL.i_bl, ↓DL.i_tup, ↓DL.i_lst, ↓DL.i_non, ↓DL.i_str, if_true, if_false, Bool.false_eq_true, Bool.not_true, Bool.not_false, reduceCtorEq, decide_eq_true_eq, decide_true, decide_false, Bool.not_eq_true', decide_eq_false_iff_not]
      have hb := bndB (a := (n : Int)) (b := 0 < x) (by omega)
      refine ⟨mulB, ixQ_il (by omega) (by omega) fun z _ => ?_⟩
      simp -implicitDefEqProofs only [↓DL.gt_0, ↓DL.gt_s, ↓DL.pt_0, ↓DL.pt_s, ↓DL.gv_fz, ↓DL.x_var, ↓DL.go_fz, ↓DL.go_lst, ↓DL.x_own, ↓DL.x_c, ↓DL.x_bin, ↓DL.x_tst, ↓DL.asB_bl, ↓DL.x_chain, ↓DL.x_and, ↓DL.x_or, ↓DL.x_not, ↓DL.x_andV, ↓DL.x_orV, ↓DL.x_notV, ↓DL.x_if, ↓DL.x_nil, ↓DL.x_cons, ↓DL.x_tup, ↓DL.x_cb, ↓DL.x_call, ↓DL.x_noPart, ↓DL.x_part, ↓DL.asI_int, ↓DL.x_sl, ↓DL.x_neg, ↓DL.x_lstV, ↓DL.x_listL, ↓DL.x_it, ↓DL.x_rng1, ↓DL.x_rng2, ↓DL.ints1_int, ↓DL.ints2_int, ↓DL.asL_lst, ↓DL.asL_tup, ↓DL.asL_scr, ↓DL.x_comp, ↓DL.x_yes, ↓DL.wip_nil, ↓DL.wip_cons, ↓DL.x_next, ↓DL.x_seq, ↓DL.x_brk, ↓DL.x_cont, ↓DL.x_expr, ↓DL.x_ret, ↓DL.x_retN, ↓DL.x_sif, ↓DL.x_set, ↓DL.x_setO, ↓DL.tgK_some, ↓DL.x_asg, ↓DL.x_tgN, ↓DL.x_tgTup, ↓DL.x_tgNil, ↓DL.x_tgConsN, ↓DL.map_some, ↓DL.pts_nil, ↓DL.pts_cons, ↓DL.gl_lst, ↓DL.x_app, ↓DL.x_putIx, ↓DL.gf_lst, ↓DL.gf_fz, ↓DL.x_fz, ↓DL.x_for, ↓DL.x_end_nx, ↓DL.x_end_rt, ↓DL.g_eqS, ↓DL.g_eqI, ↓DL.g_neS, ↓DL.g_neI, ↓DL.g_lt, ↓DL.g_le, ↓DL.g_gt, ↓DL.g_ge, ↓DL.g_add, ↓DL.g_addL, ↓DL.g_addT, ↓DL.g_sub, ↓DL.g_mul, ↓DL.g_mulL, ↓DL.g_mod, ↓DL.g_fdiv, ↓DL.g_pow, ↓DL.g_isN, ↓DL.g_notN, ↓DL.g_ixT, ↓DL.g_ixL, ↓DL.g_ixS, ↓DL.ix0, ↓DL.ix1, ↓DL.ix2, ↓DL.ix3, ↓DL.ix4, ↓DL.ix5, ↓DL.ix6, ↓DL.ix7, ↓DL.g_lenT, ↓DL.g_lenL, ↓DL.g_lenS, ↓DL.g_int, ↓DL.g_intB, ↓DL.g_tupT, ↓DL.g_tupL, ↓DL.g_lsT, ↓DL.g_lsL, ↓DL.g_max, ↓DL.g_min, ↓DL.g_slT, ↓DL.g_slL, ↓DL.isQ_some, ↓DL.g_isi, ↓DL.i_int, ↓DL.i_bl, ↓DL.i_tup, ↓DL.i_lst, ↓DL.i_non, ↓DL.i_str, if_true, if_false, Bool.false_eq_true, Bool.not_true, Bool.not_false, reduceCtorEq, decide_eq_true_eq, decide_true, decide_false, Bool.not_eq_true', decide_eq_false_iff_not, ↓xs4]
      refine ⟨by omega, q _ (emod_b (by omega))⟩
    have bk : BOk s b := ⟨by rw [hb]; simp, hB⟩
    refine ⟨by omega, by omega, by simp; omega, compGo_of .int (fun _ => true) (fun _ => D.non) _ _ (fun y hy => ⟨_, rfl, fun Q E q => q, fun _ Q E q => ?_⟩) ?_⟩
    · simp -implicitDefEqProofs only [↓DL.gt_0, ↓DL.gt_s, ↓DL.pt_0, ↓DL.pt_s, ↓DL.gv_fz, ↓DL.x_var, ↓DL.go_fz, ↓DL.go_lst, ↓DL.x_own, ↓DL.x_c, ↓DL.x_bin, ↓DL.x_tst, ↓DL.asB_bl, ↓DL.x_chain, ↓DL.x_and, ↓DL.x_or, ↓DL.x_not, ↓DL.x_andV, ↓DL.x_orV, ↓DL.x_notV, ↓DL.x_if, ↓DL.x_nil, ↓DL.x_cons, ↓DL.x_tup, ↓DL.x_cb, ↓DL.x_call, ↓DL.x_noPart, ↓DL.x_part, ↓DL.asI_int, ↓DL.x_sl, ↓DL.x_neg, ↓DL.x_lstV, ↓DL.x_listL, ↓DL.x_it, ↓DL.x_rng1, ↓DL.x_rng2, ↓DL.ints1_int, ↓DL.ints2_int, ↓DL.asL_lst, ↓DL.asL_tup, ↓DL.asL_scr, ↓DL.x_comp, ↓DL.x_yes, ↓DL.wip_nil, ↓DL.wip_cons, ↓DL.x_next, ↓DL.x_seq, ↓DL.x_brk, ↓DL.x_cont, ↓DL.x_expr, ↓DL.x_ret, ↓DL.x_retN, ↓DL.x_sif, ↓DL.x_set, ↓DL.x_setO, ↓DL.tgK_some, ↓DL.x_asg, ↓DL.x_tgN, ↓DL.x_tgTup, ↓DL.x_tgNil, ↓DL.x_tgConsN, ↓DL.map_some, ↓DL.pts_nil, ↓DL.pts_cons, ↓DL.gl_lst, ↓DL.x_app, ↓DL.x_putIx, ↓DL.gf_lst, ↓DL.gf_fz, ↓DL.x_fz, ↓DL.x_for, ↓DL.x_end_nx, ↓DL.x_end_rt, ↓DL.g_eqS, ↓DL.g_eqI, ↓DL.g_neS, ↓DL.g_neI, ↓DL.g_lt, ↓DL.g_le, ↓DL.g_gt, ↓DL.g_ge, ↓DL.g_add, ↓DL.g_addL, ↓DL.g_addT, ↓DL.g_sub, ↓DL.g_mul, ↓DL.g_mulL, ↓DL.g_mod, ↓DL.g_fdiv, ↓DL.g_pow, ↓DL.g_isN, ↓DL.g_notN, ↓DL.g_ixT, ↓DL.g_ixL, ↓DL.g_ixS, ↓DL.ix0, ↓DL.ix1, ↓DL.ix2, ↓DL.ix3, ↓DL.ix4, ↓DL.ix5, ↓DL.ix6, ↓DL.ix7, ↓DL.g_lenT, ↓DL.g_lenL, ↓DL.g_lenS, ↓DL.g_int, ↓DL.g_intB, ↓DL.g_tupT, ↓DL.g_tupL, ↓DL.g_lsT, ↓DL.g_lsL, ↓DL.g_max, ↓DL.g_min, ↓DL.g_slT, ↓DL.g_slL, ↓DL.isQ_some, ↓DL.g_isi, ↓DL.i_int, ↓DL.i_bl, ↓DL.i_tup, ↓DL.i_lst, ↓DL.i_non, ↓DL.i_str, if_true, if_false, Bool.false_eq_true, Bool.not_true, Bool.not_false, reduceCtorEq, decide_eq_true_eq, decide_true, decide_false, Bool.not_eq_true', decide_eq_false_iff_not]
      exact q
    rw [filter_t, map_cst, List.length_range, List.nil_append, List.nil_append]
    have e0 : List.replicate s.h D.non = (List.replicate s.h Part.non).map (Part.d false) := by
      rw [List.map_replicate]
      rfl
    rw [e0]
    have pk : POk s (List.replicate s.h Part.non) := pok_rep (by rw [hf]; rfl) hf
    refine ixQ_il (by omega) (by omega) fun x _ => ?_
    simp -implicitDefEqProofs only [↓DL.gt_0, ↓DL.gt_s, ↓DL.pt_0, ↓DL.pt_s, ↓DL.gv_fz, ↓DL.x_var, ↓DL.go_fz, ↓DL.go_lst, ↓DL.x_own, ↓DL.x_c, ↓DL.x_bin, ↓DL.x_tst, ↓DL.asB_bl, ↓DL.x_chain, ↓DL.x_and, ↓DL.x_or, ↓DL.x_not, ↓DL.x_andV, ↓DL.x_orV, ↓DL.x_notV, ↓DL.x_if, ↓DL.x_nil, ↓DL.x_cons, ↓DL.x_tup, ↓DL.x_cb, ↓DL.x_call, ↓DL.x_noPart, ↓DL.x_part, ↓DL.asI_int, ↓DL.x_sl, ↓DL.x_neg, ↓DL.x_lstV, ↓DL.x_listL, ↓DL.x_it, ↓DL.x_rng1, ↓DL.x_rng2, ↓DL.ints1_int, ↓DL.ints2_int, ↓DL.asL_lst, ↓DL.asL_tup, ↓DL.asL_scr, ↓DL.x_comp, ↓DL.x_yes, ↓DL.wip_nil, ↓DL.wip_cons, ↓DL.x_next, ↓DL.x_seq, ↓DL.x_brk, ↓DL.x_cont, ↓DL.x_expr, ↓DL.x_ret, ↓DL.x_retN, ↓DL.x_sif, ↓DL.x_set, ↓DL.x_setO, ↓DL.tgK_some, ↓DL.x_asg, ↓DL.x_tgN, ↓DL.x_tgTup, ↓DL.x_tgNil, ↓DL.x_tgConsN, ↓DL.map_some, ↓DL.pts_nil, ↓DL.pts_cons, ↓DL.gl_lst, ↓DL.x_app, ↓DL.x_putIx, ↓DL.gf_lst, ↓DL.gf_fz, ↓DL.x_fz, ↓DL.x_for, ↓DL.x_end_nx, ↓DL.x_end_rt, ↓DL.g_eqS, ↓DL.g_eqI, ↓DL.g_neS, ↓DL.g_neI, ↓DL.g_lt, ↓DL.g_le, ↓DL.g_gt, ↓DL.g_ge, ↓DL.g_add, ↓DL.g_addL, ↓DL.g_addT, ↓DL.g_sub, ↓DL.g_mul, ↓DL.g_mulL, ↓DL.g_mod, ↓DL.g_fdiv, ↓DL.g_pow, ↓DL.g_isN, ↓DL.g_notN, ↓DL.g_ixT, ↓DL.g_ixL, ↓DL.g_ixS, ↓DL.ix0, ↓DL.ix1, ↓DL.ix2, ↓DL.ix3, ↓DL.ix4, ↓DL.ix5, ↓DL.ix6, ↓DL.ix7, ↓DL.g_lenT, ↓DL.g_lenL, ↓DL.g_lenS, ↓DL.g_int, ↓DL.g_intB, ↓DL.g_tupT, ↓DL.g_tupL, ↓DL.g_lsT, ↓DL.g_lsL, ↓DL.g_max, ↓DL.g_min, ↓DL.g_slT, ↓DL.g_slL, ↓DL.isQ_some, ↓DL.g_isi, ↓DL.i_int, ↓DL.i_bl, ↓DL.i_tup, ↓DL.i_lst, ↓DL.i_non, ↓DL.i_str, if_true, if_false, Bool.false_eq_true, Bool.not_true, Bool.not_false, reduceCtorEq, decide_eq_true_eq, decide_true, decide_false, Bool.not_eq_true', decide_eq_false_iff_not]
    refine ⟨mulB, by omega, by omega, ?_⟩
    rw [← rngE]
    refine p_l_story_2 big hf hrl s.h 0 _ _ _ _ _ _ _ _ (by omega) pk fun ps left k house o10 o11 o12 o13 pk => ?_
    simp -implicitDefEqProofs only [↓DL.gt_0, ↓DL.gt_s, ↓DL.pt_0, ↓DL.pt_s, ↓DL.gv_fz, ↓DL.x_var, ↓DL.go_fz, ↓DL.go_lst, ↓DL.x_own, ↓DL.x_c, ↓DL.x_bin, ↓DL.x_tst, ↓DL.asB_bl, ↓DL.x_chain, ↓DL.x_and, ↓DL.x_or, ↓DL.x_not, ↓DL.x_andV, ↓DL.x_orV, ↓DL.x_notV, ↓DL.x_if, ↓DL.x_nil, ↓DL.x_cons, ↓DL.x_tup, ↓DL.x_cb, ↓DL.x_call, ↓DL.x_noPart, ↓DL.x_part, ↓DL.asI_int, ↓DL.x_sl, ↓DL.x_neg, ↓DL.x_lstV, ↓DL.x_listL, ↓DL.x_it, ↓DL.x_rng1, ↓DL.x_rng2, ↓DL.ints1_int, ↓DL.ints2_int, ↓DL.asL_lst, ↓DL.asL_tup, ↓DL.asL_scr, ↓DL.x_comp, ↓DL.x_yes, ↓DL.wip_nil, ↓DL.wip_cons, ↓DL.x_next, ↓DL.x_seq, ↓DL.x_brk, ↓DL.x_cont, ↓DL.x_expr, ↓DL.x_ret, ↓DL.x_retN, ↓DL.x_sif, ↓DL.x_set, ↓DL.x_setO, ↓DL.tgK_some, ↓DL.x_asg, ↓DL.x_tgN, ↓DL.x_tgTup, ↓DL.x_tgNil, ↓DL.x_tgConsN, ↓DL.map_some, ↓DL.pts_nil, ↓DL.pts_cons, ↓DL.gl_lst, ↓DL.x_app, ↓DL.x_putIx, ↓DL.gf_lst, ↓DL.gf_fz, ↓DL.x_fz, ↓DL.x_for, ↓DL.x_end_nx, ↓DL.x_end_rt, ↓DL.g_eqS, ↓DL.g_eqI, ↓DL.g_neS, ↓DL.g_neI, ↓DL.g_lt, ↓DL.g_le, ↓DL.g_gt, ↓DL.g_ge, ↓DL.g_add, ↓DL.g_addL, ↓DL.g_addT, ↓DL.g_sub, ↓DL.g_mul, ↓DL.g_mulL, ↓DL.g_mod, ↓DL.g_fdiv, ↓DL.g_pow, ↓DL.g_isN, ↓DL.g_notN, ↓DL.g_ixT, ↓DL.g_ixL, ↓DL.g_ixS, ↓DL.ix0, ↓DL.ix1, ↓DL.ix2, ↓DL.ix3, ↓DL.ix4, ↓DL.ix5, ↓DL.ix6, ↓DL.ix7, ↓DL.g_lenT, ↓DL.g_lenL, ↓DL.g_lenS, ↓DL.g_int, ↓DL.g_intB, ↓DL.g_tupT, ↓DL.g_tupL, ↓DL.g_lsT, ↓DL.g_lsL, ↓DL.g_max, ↓DL.g_min, ↓DL.g_slT, ↓DL.g_slL, ↓DL.isQ_some, ↓DL.g_isi, ↓DL.i_int, ↓DL.i_bl, ↓DL.i_tup, ↓DL.i_lst, ↓DL.i_non, ↓DL.i_str, if_true, if_false, Bool.false_eq_true, Bool.not_true, Bool.not_false, reduceCtorEq, decide_eq_true_eq, decide_true, decide_false, Bool.not_eq_true', decide_eq_false_iff_not]
    exact q b ps bk pk
end K64

namespace K64
open PySem L2 DL
theorem nice_il {ns : List Int} (h : ∀ x ∈ ns, 0 ≤ x ∧ x < 1000) : ∀ x ∈ iL ns, Nice 0 40 x := by
  intro x hx
  obtain ⟨n, hn, rfl⟩ := List.mem_map.mp hx
  have := h n hn
  exact Nice.int' (by omega)
theorem nice_seq {n w L : Nat} {xs : List D} {l : Bool} (h : ∀ x ∈ xs, Nice n w x) (hl : xs.length ≤ L) : Nice (n + 1) (L * (w + 1)) (seq l xs) := by
  cases l
  · exact .tup h hl
  · exact .lst h hl
theorem nice_part {s : St} {p : Part} {l : Bool} (ok : s.Ok) (h : p.ok s) : Nice 2 2000 (p.d l) := by
  have l5 := ok.l5
  cases p with
  | non => exact Nice.non.mono (by decide) (by decide)
  | fall t r =>
    obtain ⟨_, t1, t2, r1, r2⟩ := h
    refine (nice_seq (n := 1) (w := 205) (L := 2) (fun x hx => ?_) (by simp)).mono (by decide) (by decide)
    simp only [List.mem_cons, List.not_mem_nil, or_false] at hx
    rcases hx with rfl | rfl
    · exact (Nice.int' (by omega)).mono (by decide) (by decide)
    · exact nice_seq (L := 5) (nice_il fun x hx => by have := r2 x hx; omega) (by simpa using r1)
  | row ps =>
    obtain ⟨_, p1, p2⟩ := h
    refine (nice_seq (n := 1) (w := 82) (L := 12) (fun x hx => ?_) (by simpa using p1)).mono (by decide) (by decide)
    obtain ⟨p, hp, rfl⟩ := List.mem_map.mp hx
    have := p2 p hp
    refine nice_seq (n := 0) (w := 40) (L := 2) (fun x hx => ?_) (by simp)
    simp only [List.mem_cons, List.not_mem_nil, or_false] at hx
    rcases hx with rfl | rfl
    · exact Nice.int' (by omega)
    · exact Nice.int' (by omega)
theorem nice_story {s : St} {b : List Int} {ps : List Part} {l : Bool} (ok : s.Ok) (bk : BOk s b) (pk : POk s ps) : Nice 4 100000 (storyD l b ps) := by
  have a4 := ok.a4
  have h5 := ok.h5
  refine (nice_seq (n := 3) (w := 10005) (L := 2) (fun x hx => ?_) (by simp)).mono (by decide) (by decide)
  simp only [List.mem_cons, List.not_mem_nil, or_false] at hx
  rcases hx with rfl | rfl
  · exact (nice_seq (L := 5) (nice_il fun x hx => by have := bk.all x hx; omega) (by simp [bk.len]; omega)).mono (by decide) (by decide)
  · refine nice_seq (n := 2) (w := 2000) (L := 5) (fun x hx => ?_) (by simp; exact pok_len ok pk)
    obtain ⟨p, hp, rfl⟩ := List.mem_map.mp hx
    exact nice_part ok (pk.all p hp)
theorem nice_xs {s : St} (ok : s.Ok) (f0 : s.f.natAbs < 10 ^ 12) : ∀ x ∈ s.xs, Nice 0 1000 x := by
  have h5 := ok.h5
  have a4 := ok.a4
  have l5 := ok.l5
  have hi : ∀ i : Int, i.natAbs < 10 ^ 12 → Nice 0 1000 (.int i) := fun i h => (Nice.int' h).mono (by decide) (by decide)
  have hk : Nice 0 1000 (.str s.kind) := by unfold St.kind; cases s.fl <;> exact Nice.str (by decide +kernel) (by decide +kernel)
  have ht : Nice 0 1000 (.str s.task.s) := by cases s.task <;> exact Nice.str (by decide +kernel) (by decide +kernel)
  have hc : Nice 0 1000 (.str (if s.lasting = true then "lasting" else "standing")) := by cases s.lasting <;> exact Nice.str (by decide +kernel) (by decide +kernel)
  intro x hx
  unfold St.xs at hx
  unfold St.kind at hk
  split at hx
  · simp only [List.mem_cons, List.not_mem_nil, or_false] at hx
    rename_i hf
    rw [if_pos hf] at hk
    rcases hx with rfl | rfl | rfl | rfl | rfl | rfl | rfl
    · exact hk
    · exact hi _ (by omega)
    · exact hi _ (by omega)
    · exact hi _ (by omega)
    · exact hi _ (by omega)
    · exact ht
    · exact hc
  · simp only [List.mem_cons, List.not_mem_nil, or_false] at hx
    rename_i hf
    rw [if_neg hf] at hk
    rcases hx with rfl | rfl | rfl | rfl | rfl | rfl
    · exact hk
    · exact hi _ (by omega)
    · exact hi _ (by omega)
    · exact hi _ (by omega)
    · exact hi _ (by omega)
    · exact ht
theorem xs_len {s : St} : s.xs.length ≤ 7 := by unfold St.xs; cases s.fl <;> simp
theorem g_reprS {s : St} {b : List Int} {ps : List Part} {l : Bool} {Q : D → Prop} (ok : s.Ok) (bk : BOk s b) (pk : POk s ps) : gRepr [storyD l b ps] Q = Q (.str (storyD l b ps).py.shown) := by
  have h := nice_story (l := l) ok bk pk
  cases l
  · exact g_reprT h
  · exact g_reprL h
end K64

namespace K64
open PySem L2 DL
theorem Sim.b {s v : St} (h : Sim s v) {b : List Int} (k : BOk s b) : BOk v b := ⟨by rw [k.len, h.h], fun x hx => by rw [h.a]; exact k.all x hx⟩
theorem Sim.part {s v : St} (h : Sim s v) {p : Part} (k : p.ok s) : p.ok v := by
  cases p with
  | non => show v.fl = true; rw [h.fl]; exact k
  | fall t r => obtain ⟨k1, k2⟩ := k; exact ⟨h.fl.trans k1, by rw [h.l]; exact k2⟩
  | row r => obtain ⟨k1, k2⟩ := k; exact ⟨h.fl.trans k1, k2⟩
theorem Sim.p {s v : St} (h : Sim s v) {ps : List Part} (k : POk s ps) : POk v ps := ⟨by rw [k.len, h.fl, h.h, h.l], fun x hx => h.part (k.all x hx)⟩
theorem g_tupQ {l : Bool} {xs : List D} {Q : D → Prop} : gTuple [seq l xs] Q = Q (.tup xs) := by cases l <;> rfl
theorem right_len {s : St} {b : List Int} {ps : List Part} (ok : s.Ok) : (right s b ps).length ≤ 1000 := by
  have a4 := ok.a4
  have := List.length_filter_le (good s b ps) (answers s)
  unfold right
  unfold answers at *
  simp only [List.length_map, List.length_range] at this
  omega
theorem counts_len {s : St} {ps : List Part} (ok : s.Ok) : (counts s ps).length ≤ 1000 := by
  have h5 := ok.h5
  unfold counts
  simp
  omega
abbrev Wsl (s : St) (a0 a2 a3 a4 a5 : O) (l : Bool) (o7 o8 o9 o10 o11 o12 : Option O) : Sl :=
  [some a0, some (.fz (.tup s.xs)), some a2, some a3, some a4, some a5, some (.fz (.bl l)), o7, o8, o9, o10, o11, o12]
theorem p_law_1 {s : St} {a0 a2 a3 a4 a5 : O} {l : Bool} {b : List Int} {ps : List Part} {Z : DEnd} (bk : BOk s b) (pk : POk s ps) (hf : s.f.natAbs < 10 ^ 12) (o : s.Ok) :
    ∀ (vs : List St) (o11 o12 : Option O), (∀ v ∈ vs, Sim s v) →
    (∀ o11 o12, Z.nx (Wsl s a0 a2 a3 a4 a5 l (some (.fz (.tup (iL b)))) (some (.fz (secD false ps))) (some (.fz (storyD l b ps))) (some (.fz (.str (storyD l b ps).py.shown))) o11 o12)) →
    forGo (tgN 11) lp_law_1 Z (vs.map fun v => .tup v.xs) (Wsl s a0 a2 a3 a4 a5 l (some (.fz (.tup (iL b)))) (some (.fz (secD false ps))) (some (.fz (storyD l b ps))) (some (.fz (.str (storyD l b ps).py.shown))) o11 o12)
  | [], o11, o12, hv, q => q o11 o12
  | v :: vs, o11, o12, hv, q => by
    have sv := hv v List.mem_cons_self
    have ok := sv.ok
    simp -implicitDefEqProofs only [↓DL.gt_0, ↓DL.gt_s, ↓DL.pt_0, ↓DL.pt_s, ↓DL.gv_fz, ↓DL.x_var, ↓DL.go_fz, ↓DL.go_lst, ↓DL.x_own, ↓DL.x_c, ↓DL.x_bin, ↓DL.x_tst, ↓DL.asB_bl, ↓DL.x_chain, ↓DL.x_and, ↓DL.x_or, ↓DL.x_not, ↓DL.x_andV, ↓DL.x_orV, ↓DL.x_notV, ↓DL.x_if, ↓DL.x_nil, ↓DL.x_cons, ↓DL.x_tup, ↓DL.x_cb, ↓DL.x_call, ↓DL.x_noPart, ↓DL.x_part, ↓DL.asI_int, ↓DL.x_sl, ↓DL.x_neg, ↓DL.x_lstV, ↓DL.x_listL, ↓DL.x_it, ↓DL.x_rng1, ↓DL.x_rng2, ↓DL.ints1_int, ↓DL.ints2_int, ↓DL.asL_lst, ↓DL.asL_tup, ↓DL.asL_scr, ↓DL.x_comp, ↓DL.x_yes, ↓DL.wip_nil, ↓DL.wip_cons, ↓DL.x_next, ↓DL.x_seq, ↓DL.x_brk, ↓DL.x_cont, ↓DL.x_expr, ↓DL.x_ret, ↓DL.x_retN, ↓DL.x_sif, ↓DL.x_set, ↓DL.x_setO, ↓DL.tgK_some, ↓DL.x_asg, ↓DL.x_tgN, ↓DL.x_tgTup, ↓DL.x_tgNil, ↓DL.x_tgConsN, ↓DL.map_some, ↓DL.pts_nil, ↓DL.pts_cons, ↓DL.gl_lst, ↓DL.x_app, ↓DL.x_putIx, ↓DL.gf_lst, ↓DL.gf_fz, ↓DL.x_fz, ↓DL.x_for, ↓DL.x_end_nx, ↓DL.x_end_rt, ↓DL.g_eqS, ↓DL.g_eqI, ↓DL.g_neS, ↓DL.g_neI, ↓DL.g_lt, ↓DL.g_le, ↓DL.g_gt, ↓DL.g_ge, ↓DL.g_add, ↓DL.g_addL, ↓DL.g_addT, ↓DL.g_sub, ↓DL.g_mul, ↓DL.g_mulL, ↓DL.g_mod, ↓DL.g_fdiv, ↓DL.g_pow, ↓DL.g_isN, ↓DL.g_notN, ↓DL.g_ixT, ↓DL.g_ixL, ↓DL.g_ixS, ↓DL.ix0, ↓DL.ix1, ↓DL.ix2, ↓DL.ix3, ↓DL.ix4, ↓DL.ix5, ↓DL.ix6, ↓DL.ix7, ↓DL.g_lenT, ↓DL.g_lenL, ↓DL.g_lenS, ↓DL.g_int, ↓DL.g_intB, ↓DL.g_tupT, ↓DL.g_tupL, ↓DL.g_lsT, ↓DL.g_lsL, ↓DL.g_max, ↓DL.g_min, ↓DL.g_slT, ↓DL.g_slL, ↓DL.isQ_some, ↓DL.g_isi, ↓DL.i_int, ↓DL.i_bl, ↓DL.i_tup, ↓DL.i_lst, ↓DL.i_non, ↓DL.i_str, if_true, if_false, Bool.false_eq_true, Bool.not_true, Bool.not_false, reduceCtorEq, decide_eq_true_eq, decide_true, decide_false, Bool.not_eq_true', decide_eq_false_iff_not, List.map_cons, ↓forGo_cons, ↓u_law_1]
    refine ⟨v, l, rfl, ?_⟩
    simp -implicitDefEqProofs only [↓DL.gt_0, ↓DL.gt_s, ↓DL.pt_0, ↓DL.pt_s, ↓DL.gv_fz, ↓DL.x_var, ↓DL.go_fz, ↓DL.go_lst, ↓DL.x_own, ↓DL.x_c, ↓DL.x_bin, ↓DL.x_tst, ↓DL.asB_bl, ↓DL.x_chain, ↓DL.x_and, ↓DL.x_or, ↓DL.x_not, ↓DL.x_andV, ↓DL.x_orV, ↓DL.x_notV, ↓DL.x_if, ↓DL.x_nil, ↓DL.x_cons, ↓DL.x_tup, ↓DL.x_cb, ↓DL.x_call, ↓DL.x_noPart, ↓DL.x_part, ↓DL.asI_int, ↓DL.x_sl, ↓DL.x_neg, ↓DL.x_lstV, ↓DL.x_listL, ↓DL.x_it, ↓DL.x_rng1, ↓DL.x_rng2, ↓DL.ints1_int, ↓DL.ints2_int, ↓DL.asL_lst, ↓DL.asL_tup, ↓DL.asL_scr, ↓DL.x_comp, ↓DL.x_yes, ↓DL.wip_nil, ↓DL.wip_cons, ↓DL.x_next, ↓DL.x_seq, ↓DL.x_brk, ↓DL.x_cont, ↓DL.x_expr, ↓DL.x_ret, ↓DL.x_retN, ↓DL.x_sif, ↓DL.x_set, ↓DL.x_setO, ↓DL.tgK_some, ↓DL.x_asg, ↓DL.x_tgN, ↓DL.x_tgTup, ↓DL.x_tgNil, ↓DL.x_tgConsN, ↓DL.map_some, ↓DL.pts_nil, ↓DL.pts_cons, ↓DL.gl_lst, ↓DL.x_app, ↓DL.x_putIx, ↓DL.gf_lst, ↓DL.gf_fz, ↓DL.x_fz, ↓DL.x_for, ↓DL.x_end_nx, ↓DL.x_end_rt, ↓DL.g_eqS, ↓DL.g_eqI, ↓DL.g_neS, ↓DL.g_neI, ↓DL.g_lt, ↓DL.g_le, ↓DL.g_gt, ↓DL.g_ge, ↓DL.g_add, ↓DL.g_addL, ↓DL.g_addT, ↓DL.g_sub, ↓DL.g_mul, ↓DL.g_mulL, ↓DL.g_mod, ↓DL.g_fdiv, ↓DL.g_pow, ↓DL.g_isN, ↓DL.g_notN, ↓DL.g_ixT, ↓DL.g_ixL, ↓DL.g_ixS, ↓DL.ix0, ↓DL.ix1, ↓DL.ix2, ↓DL.ix3, ↓DL.ix4, ↓DL.ix5, ↓DL.ix6, ↓DL.ix7, ↓DL.g_lenT, ↓DL.g_lenL, ↓DL.g_lenS, ↓DL.g_int, ↓DL.g_intB, ↓DL.g_tupT, ↓DL.g_tupL, ↓DL.g_lsT, ↓DL.g_lsL, ↓DL.g_max, ↓DL.g_min, ↓DL.g_slT, ↓DL.g_slL, ↓DL.isQ_some, ↓DL.g_isi, ↓DL.i_int, ↓DL.i_bl, ↓DL.i_tup, ↓DL.i_lst, ↓DL.i_non, ↓DL.i_str, if_true, if_false, Bool.false_eq_true, Bool.not_true, Bool.not_false, reduceCtorEq, decide_eq_true_eq, decide_true, decide_false, Bool.not_eq_true', decide_eq_false_iff_not]
    refine ⟨l, l, v, b, ps, ok, sv.b bk, sv.p pk, rfl, ?_⟩
    simp -implicitDefEqProofs only [↓DL.gt_0, ↓DL.gt_s, ↓DL.pt_0, ↓DL.pt_s, ↓DL.gv_fz, ↓DL.x_var, ↓DL.go_fz, ↓DL.go_lst, ↓DL.x_own, ↓DL.x_c, ↓DL.x_bin, ↓DL.x_tst, ↓DL.asB_bl, ↓DL.x_chain, ↓DL.x_and, ↓DL.x_or, ↓DL.x_not, ↓DL.x_andV, ↓DL.x_orV, ↓DL.x_notV, ↓DL.x_if, ↓DL.x_nil, ↓DL.x_cons, ↓DL.x_tup, ↓DL.x_cb, ↓DL.x_call, ↓DL.x_noPart, ↓DL.x_part, ↓DL.asI_int, ↓DL.x_sl, ↓DL.x_neg, ↓DL.x_lstV, ↓DL.x_listL, ↓DL.x_it, ↓DL.x_rng1, ↓DL.x_rng2, ↓DL.ints1_int, ↓DL.ints2_int, ↓DL.asL_lst, ↓DL.asL_tup, ↓DL.asL_scr, ↓DL.x_comp, ↓DL.x_yes, ↓DL.wip_nil, ↓DL.wip_cons, ↓DL.x_next, ↓DL.x_seq, ↓DL.x_brk, ↓DL.x_cont, ↓DL.x_expr, ↓DL.x_ret, ↓DL.x_retN, ↓DL.x_sif, ↓DL.x_set, ↓DL.x_setO, ↓DL.tgK_some, ↓DL.x_asg, ↓DL.x_tgN, ↓DL.x_tgTup, ↓DL.x_tgNil, ↓DL.x_tgConsN, ↓DL.map_some, ↓DL.pts_nil, ↓DL.pts_cons, ↓DL.gl_lst, ↓DL.x_app, ↓DL.x_putIx, ↓DL.gf_lst, ↓DL.gf_fz, ↓DL.x_fz, ↓DL.x_for, ↓DL.x_end_nx, ↓DL.x_end_rt, ↓DL.g_eqS, ↓DL.g_eqI, ↓DL.g_neS, ↓DL.g_neI, ↓DL.g_lt, ↓DL.g_le, ↓DL.g_gt, ↓DL.g_ge, ↓DL.g_add, ↓DL.g_addL, ↓DL.g_addT, ↓DL.g_sub, ↓DL.g_mul, ↓DL.g_mulL, ↓DL.g_mod, ↓DL.g_fdiv, ↓DL.g_pow, ↓DL.g_isN, ↓DL.g_notN, ↓DL.g_ixT, ↓DL.g_ixL, ↓DL.g_ixS, ↓DL.ix0, ↓DL.ix1, ↓DL.ix2, ↓DL.ix3, ↓DL.ix4, ↓DL.ix5, ↓DL.ix6, ↓DL.ix7, ↓DL.g_lenT, ↓DL.g_lenL, ↓DL.g_lenS, ↓DL.g_int, ↓DL.g_intB, ↓DL.g_tupT, ↓DL.g_tupL, ↓DL.g_lsT, ↓DL.g_lsL, ↓DL.g_max, ↓DL.g_min, ↓DL.g_slT, ↓DL.g_slL, ↓DL.isQ_some, ↓DL.g_isi, ↓DL.i_int, ↓DL.i_bl, ↓DL.i_tup, ↓DL.i_lst, ↓DL.i_non, ↓DL.i_str, if_true, if_false, Bool.false_eq_true, Bool.not_true, Bool.not_false, reduceCtorEq, decide_eq_true_eq, decide_true, decide_false, Bool.not_eq_true', decide_eq_false_iff_not]
    refine ⟨v, b, ps, ok, sv.b bk, sv.p pk, rfl, ?_⟩
    refine ⟨_, right_len ok, rfl, ?_⟩
    simp -implicitDefEqProofs only [↓DL.gt_0, ↓DL.gt_s, ↓DL.pt_0, ↓DL.pt_s, ↓DL.gv_fz, ↓DL.x_var, ↓DL.go_fz, ↓DL.go_lst, ↓DL.x_own, ↓DL.x_c, ↓DL.x_bin, ↓DL.x_tst, ↓DL.asB_bl, ↓DL.x_chain, ↓DL.x_and, ↓DL.x_or, ↓DL.x_not, ↓DL.x_andV, ↓DL.x_orV, ↓DL.x_notV, ↓DL.x_if, ↓DL.x_nil, ↓DL.x_cons, ↓DL.x_tup, ↓DL.x_cb, ↓DL.x_call, ↓DL.x_noPart, ↓DL.x_part, ↓DL.asI_int, ↓DL.x_sl, ↓DL.x_neg, ↓DL.x_lstV, ↓DL.x_listL, ↓DL.x_it, ↓DL.x_rng1, ↓DL.x_rng2, ↓DL.ints1_int, ↓DL.ints2_int, ↓DL.asL_lst, ↓DL.asL_tup, ↓DL.asL_scr, ↓DL.x_comp, ↓DL.x_yes, ↓DL.wip_nil, ↓DL.wip_cons, ↓DL.x_next, ↓DL.x_seq, ↓DL.x_brk, ↓DL.x_cont, ↓DL.x_expr, ↓DL.x_ret, ↓DL.x_retN, ↓DL.x_sif, ↓DL.x_set, ↓DL.x_setO, ↓DL.tgK_some, ↓DL.x_asg, ↓DL.x_tgN, ↓DL.x_tgTup, ↓DL.x_tgNil, ↓DL.x_tgConsN, ↓DL.map_some, ↓DL.pts_nil, ↓DL.pts_cons, ↓DL.gl_lst, ↓DL.x_app, ↓DL.x_putIx, ↓DL.gf_lst, ↓DL.gf_fz, ↓DL.x_fz, ↓DL.x_for, ↓DL.x_end_nx, ↓DL.x_end_rt, ↓DL.g_eqS, ↓DL.g_eqI, ↓DL.g_neS, ↓DL.g_neI, ↓DL.g_lt, ↓DL.g_le, ↓DL.g_gt, ↓DL.g_ge, ↓DL.g_add, ↓DL.g_addL, ↓DL.g_addT, ↓DL.g_sub, ↓DL.g_mul, ↓DL.g_mulL, ↓DL.g_mod, ↓DL.g_fdiv, ↓DL.g_pow, ↓DL.g_isN, ↓DL.g_notN, ↓DL.g_ixT, ↓DL.g_ixL, ↓DL.g_ixS, ↓DL.ix0, ↓DL.ix1, ↓DL.ix2, ↓DL.ix3, ↓DL.ix4, ↓DL.ix5, ↓DL.ix6, ↓DL.ix7, ↓DL.g_lenT, ↓DL.g_lenL, ↓DL.g_lenS, ↓DL.g_int, ↓DL.g_intB, ↓DL.g_tupT, ↓DL.g_tupL, ↓DL.g_lsT, ↓DL.g_lsL, ↓DL.g_max, ↓DL.g_min, ↓DL.g_slT, ↓DL.g_slL, ↓DL.isQ_some, ↓DL.g_isi, ↓DL.i_int, ↓DL.i_bl, ↓DL.i_tup, ↓DL.i_lst, ↓DL.i_non, ↓DL.i_str, if_true, if_false, Bool.false_eq_true, Bool.not_true, Bool.not_false, reduceCtorEq, decide_eq_true_eq, decide_true, decide_false, Bool.not_eq_true', decide_eq_false_iff_not]
    refine ⟨l, l, v, b, ps, ok, sv.p pk, rfl, ?_⟩
    simp -implicitDefEqProofs only [↓DL.gt_0, ↓DL.gt_s, ↓DL.pt_0, ↓DL.pt_s, ↓DL.gv_fz, ↓DL.x_var, ↓DL.go_fz, ↓DL.go_lst, ↓DL.x_own, ↓DL.x_c, ↓DL.x_bin, ↓DL.x_tst, ↓DL.asB_bl, ↓DL.x_chain, ↓DL.x_and, ↓DL.x_or, ↓DL.x_not, ↓DL.x_andV, ↓DL.x_orV, ↓DL.x_notV, ↓DL.x_if, ↓DL.x_nil, ↓DL.x_cons, ↓DL.x_tup, ↓DL.x_cb, ↓DL.x_call, ↓DL.x_noPart, ↓DL.x_part, ↓DL.asI_int, ↓DL.x_sl, ↓DL.x_neg, ↓DL.x_lstV, ↓DL.x_listL, ↓DL.x_it, ↓DL.x_rng1, ↓DL.x_rng2, ↓DL.ints1_int, ↓DL.ints2_int, ↓DL.asL_lst, ↓DL.asL_tup, ↓DL.asL_scr, ↓DL.x_comp, ↓DL.x_yes, ↓DL.wip_nil, ↓DL.wip_cons, ↓DL.x_next, ↓DL.x_seq, ↓DL.x_brk, ↓DL.x_cont, ↓DL.x_expr, ↓DL.x_ret, ↓DL.x_retN, ↓DL.x_sif, ↓DL.x_set, ↓DL.x_setO, ↓DL.tgK_some, ↓DL.x_asg, ↓DL.x_tgN, ↓DL.x_tgTup, ↓DL.x_tgNil, ↓DL.x_tgConsN, ↓DL.map_some, ↓DL.pts_nil, ↓DL.pts_cons, ↓DL.gl_lst, ↓DL.x_app, ↓DL.x_putIx, ↓DL.gf_lst, ↓DL.gf_fz, ↓DL.x_fz, ↓DL.x_for, ↓DL.x_end_nx, ↓DL.x_end_rt, ↓DL.g_eqS, ↓DL.g_eqI, ↓DL.g_neS, ↓DL.g_neI, ↓DL.g_lt, ↓DL.g_le, ↓DL.g_gt, ↓DL.g_ge, ↓DL.g_add, ↓DL.g_addL, ↓DL.g_addT, ↓DL.g_sub, ↓DL.g_mul, ↓DL.g_mulL, ↓DL.g_mod, ↓DL.g_fdiv, ↓DL.g_pow, ↓DL.g_isN, ↓DL.g_notN, ↓DL.g_ixT, ↓DL.g_ixL, ↓DL.g_ixS, ↓DL.ix0, ↓DL.ix1, ↓DL.ix2, ↓DL.ix3, ↓DL.ix4, ↓DL.ix5, ↓DL.ix6, ↓DL.ix7, ↓DL.g_lenT, ↓DL.g_lenL, ↓DL.g_lenS, ↓DL.g_int, ↓DL.g_intB, ↓DL.g_tupT, ↓DL.g_tupL, ↓DL.g_lsT, ↓DL.g_lsL, ↓DL.g_max, ↓DL.g_min, ↓DL.g_slT, ↓DL.g_slL, ↓DL.isQ_some, ↓DL.g_isi, ↓DL.i_int, ↓DL.i_bl, ↓DL.i_tup, ↓DL.i_lst, ↓DL.i_non, ↓DL.i_str, if_true, if_false, Bool.false_eq_true, Bool.not_true, Bool.not_false, reduceCtorEq, decide_eq_true_eq, decide_true, decide_false, Bool.not_eq_true', decide_eq_false_iff_not]
    refine ⟨v, b, ps, ok, sv.p pk, rfl, ?_⟩
    refine ⟨_, counts_len ok, rfl, ?_⟩
    simp -implicitDefEqProofs only [↓DL.gt_0, ↓DL.gt_s, ↓DL.pt_0, ↓DL.pt_s, ↓DL.gv_fz, ↓DL.x_var, ↓DL.go_fz, ↓DL.go_lst, ↓DL.x_own, ↓DL.x_c, ↓DL.x_bin, ↓DL.x_tst, ↓DL.asB_bl, ↓DL.x_chain, ↓DL.x_and, ↓DL.x_or, ↓DL.x_not, ↓DL.x_andV, ↓DL.x_orV, ↓DL.x_notV, ↓DL.x_if, ↓DL.x_nil, ↓DL.x_cons, ↓DL.x_tup, ↓DL.x_cb, ↓DL.x_call, ↓DL.x_noPart, ↓DL.x_part, ↓DL.asI_int, ↓DL.x_sl, ↓DL.x_neg, ↓DL.x_lstV, ↓DL.x_listL, ↓DL.x_it, ↓DL.x_rng1, ↓DL.x_rng2, ↓DL.ints1_int, ↓DL.ints2_int, ↓DL.asL_lst, ↓DL.asL_tup, ↓DL.asL_scr, ↓DL.x_comp, ↓DL.x_yes, ↓DL.wip_nil, ↓DL.wip_cons, ↓DL.x_next, ↓DL.x_seq, ↓DL.x_brk, ↓DL.x_cont, ↓DL.x_expr, ↓DL.x_ret, ↓DL.x_retN, ↓DL.x_sif, ↓DL.x_set, ↓DL.x_setO, ↓DL.tgK_some, ↓DL.x_asg, ↓DL.x_tgN, ↓DL.x_tgTup, ↓DL.x_tgNil, ↓DL.x_tgConsN, ↓DL.map_some, ↓DL.pts_nil, ↓DL.pts_cons, ↓DL.gl_lst, ↓DL.x_app, ↓DL.x_putIx, ↓DL.gf_lst, ↓DL.gf_fz, ↓DL.x_fz, ↓DL.x_for, ↓DL.x_end_nx, ↓DL.x_end_rt, ↓DL.g_eqS, ↓DL.g_eqI, ↓DL.g_neS, ↓DL.g_neI, ↓DL.g_lt, ↓DL.g_le, ↓DL.g_gt, ↓DL.g_ge, ↓DL.g_add, ↓DL.g_addL, ↓DL.g_addT, ↓DL.g_sub, ↓DL.g_mul, ↓DL.g_mulL, ↓DL.g_mod, ↓DL.g_fdiv, ↓DL.g_pow, ↓DL.g_isN, ↓DL.g_notN, ↓DL.g_ixT, ↓DL.g_ixL, ↓DL.g_ixS, ↓DL.ix0, ↓DL.ix1, ↓DL.ix2, ↓DL.ix3, ↓DL.ix4, ↓DL.ix5, ↓DL.ix6, ↓DL.ix7, ↓DL.g_lenT, ↓DL.g_lenL, ↓DL.g_lenS, ↓DL.g_int, ↓DL.g_intB, ↓DL.g_tupT, ↓DL.g_tupL, ↓DL.g_lsT, ↓DL.g_lsL, ↓DL.g_max, ↓DL.g_min, ↓DL.g_slT, ↓DL.g_slL, ↓DL.isQ_some, ↓DL.g_isi, ↓DL.i_int, ↓DL.i_bl, ↓DL.i_tup, ↓DL.i_lst, ↓DL.i_non, ↓DL.i_str, if_true, if_false, Bool.false_eq_true, Bool.not_true, Bool.not_false, reduceCtorEq, decide_eq_true_eq, decide_true, decide_false, Bool.not_eq_true', decide_eq_false_iff_not, ↓g_tupQ]
    have nx : Nice 1 7007 (.tup v.xs) := .tup (nice_xs ok (by rw [sv.f]; exact hf)) xs_len
    refine gNe_of nx.ok nx.ok ?_
    rw [eqb_refl nx]
    simp -implicitDefEqProofs only [↓DL.gt_0, ↓DL.gt_s, ↓DL.pt_0, ↓DL.pt_s, ↓DL.gv_fz, ↓DL.x_var, ↓DL.go_fz, ↓DL.go_lst, ↓DL.x_own, ↓DL.x_c, ↓DL.x_bin, ↓DL.x_tst, ↓DL.asB_bl, ↓DL.x_chain, ↓DL.x_and, ↓DL.x_or, ↓DL.x_not, ↓DL.x_andV, ↓DL.x_orV, ↓DL.x_notV, ↓DL.x_if, ↓DL.x_nil, ↓DL.x_cons, ↓DL.x_tup, ↓DL.x_cb, ↓DL.x_call, ↓DL.x_noPart, ↓DL.x_part, ↓DL.asI_int, ↓DL.x_sl, ↓DL.x_neg, ↓DL.x_lstV, ↓DL.x_listL, ↓DL.x_it, ↓DL.x_rng1, ↓DL.x_rng2, ↓DL.ints1_int, ↓DL.ints2_int, ↓DL.asL_lst, ↓DL.asL_tup, ↓DL.asL_scr, ↓DL.x_comp, ↓DL.x_yes, ↓DL.wip_nil, ↓DL.wip_cons, ↓DL.x_next, ↓DL.x_seq, ↓DL.x_brk, ↓DL.x_cont, ↓DL.x_expr, ↓DL.x_ret, ↓DL.x_retN, ↓DL.x_sif, ↓DL.x_set, ↓DL.x_setO, ↓DL.tgK_some, ↓DL.x_asg, ↓DL.x_tgN, ↓DL.x_tgTup, ↓DL.x_tgNil, ↓DL.x_tgConsN, ↓DL.map_some, ↓DL.pts_nil, ↓DL.pts_cons, ↓DL.gl_lst, ↓DL.x_app, ↓DL.x_putIx, ↓DL.gf_lst, ↓DL.gf_fz, ↓DL.x_fz, ↓DL.x_for, ↓DL.x_end_nx, ↓DL.x_end_rt, ↓DL.g_eqS, ↓DL.g_eqI, ↓DL.g_neS, ↓DL.g_neI, ↓DL.g_lt, ↓DL.g_le, ↓DL.g_gt, ↓DL.g_ge, ↓DL.g_add, ↓DL.g_addL, ↓DL.g_addT, ↓DL.g_sub, ↓DL.g_mul, ↓DL.g_mulL, ↓DL.g_mod, ↓DL.g_fdiv, ↓DL.g_pow, ↓DL.g_isN, ↓DL.g_notN, ↓DL.g_ixT, ↓DL.g_ixL, ↓DL.g_ixS, ↓DL.ix0, ↓DL.ix1, ↓DL.ix2, ↓DL.ix3, ↓DL.ix4, ↓DL.ix5, ↓DL.ix6, ↓DL.ix7, ↓DL.g_lenT, ↓DL.g_lenL, ↓DL.g_lenS, ↓DL.g_int, ↓DL.g_intB, ↓DL.g_tupT, ↓DL.g_tupL, ↓DL.g_lsT, ↓DL.g_lsL, ↓DL.g_max, ↓DL.g_min, ↓DL.g_slT, ↓DL.g_slL, ↓DL.isQ_some, ↓DL.g_isi, ↓DL.i_int, ↓DL.i_bl, ↓DL.i_tup, ↓DL.i_lst, ↓DL.i_non, ↓DL.i_str, if_true, if_false, Bool.false_eq_true, Bool.not_true, Bool.not_false, reduceCtorEq, decide_eq_true_eq, decide_true, decide_false, Bool.not_eq_true', decide_eq_false_iff_not, g_reprS o bk pk, ne_eq, not_true]
    exact p_law_1 bk pk hf o vs _ _ (fun v h => hv v (List.mem_cons_of_mem _ h)) q
theorem p_law_2 {s : St} {a0 a2 a3 a4 a5 : O} {b : List Int} {Z : DEnd} (big : s.Big) (bk : BOk s b) :
    ∀ (pss : List (List Part)) (l : Bool) (o8 o9 o10 o11 o12 : Option O), (∀ ps ∈ pss, POk s ps) →
    (∀ l o8 o9 o10 o11 o12, Z.nx (Wsl s a0 a2 a3 a4 a5 l (some (.fz (.tup (iL b)))) o8 o9 o10 o11 o12)) →
    forGo (tgN 8) lp_law_2 Z (pss.map (secD false)) (Wsl s a0 a2 a3 a4 a5 l (some (.fz (.tup (iL b)))) o8 o9 o10 o11 o12)
  | [], l, o8, o9, o10, o11, o12, hv, q => q l o8 o9 o10 o11 o12
  | ps :: pss, l, o8, o9, o10, o11, o12, hv, q => by
    have pk := hv ps List.mem_cons_self
    have f0 := big.f0
    have f1 := big.f1
    simp -implicitDefEqProofs only [↓DL.gt_0, ↓DL.gt_s, ↓DL.pt_0, ↓DL.pt_s, ↓DL.gv_fz, ↓DL.x_var, ↓DL.go_fz, ↓DL.go_lst, ↓DL.x_own, ↓DL.x_c, ↓DL.x_bin, ↓DL.x_tst, ↓DL.asB_bl, ↓DL.x_chain, ↓DL.x_and, ↓DL.x_or, ↓DL.x_not, ↓DL.x_andV, ↓DL.x_orV, ↓DL.x_notV, ↓DL.x_if, ↓DL.x_nil, ↓DL.x_cons, ↓DL.x_tup, ↓DL.x_cb, ↓DL.x_call, ↓DL.x_noPart, ↓DL.x_part, ↓DL.asI_int, ↓DL.x_sl, ↓DL.x_neg, ↓DL.x_lstV, ↓DL.x_listL, ↓DL.x_it, ↓DL.x_rng1, ↓DL.x_rng2, ↓DL.ints1_int, ↓DL.ints2_int, ↓DL.asL_lst, ↓DL.asL_tup, ↓DL.asL_scr, ↓DL.x_comp, ↓DL.x_yes, ↓DL.wip_nil, ↓DL.wip_cons, ↓DL.x_next, ↓DL.x_seq, ↓DL.x_brk, ↓DL.x_cont, ↓DL.x_expr, ↓DL.x_ret, ↓DL.x_retN, ↓DL.x_sif, ↓DL.x_set, ↓DL.x_setO, ↓DL.tgK_some, ↓DL.x_asg, ↓DL.x_tgN, ↓DL.x_tgTup, ↓DL.x_tgNil, ↓DL.x_tgConsN, ↓DL.map_some, ↓DL.pts_nil, ↓DL.pts_cons, ↓DL.gl_lst, ↓DL.x_app, ↓DL.x_putIx, ↓DL.gf_lst, ↓DL.gf_fz, ↓DL.x_fz, ↓DL.x_for, ↓DL.x_end_nx, ↓DL.x_end_rt, ↓DL.g_eqS, ↓DL.g_eqI, ↓DL.g_neS, ↓DL.g_neI, ↓DL.g_lt, ↓DL.g_le, ↓DL.g_gt, ↓DL.g_ge, ↓DL.g_add, ↓DL.g_addL, ↓DL.g_addT, ↓DL.g_sub, ↓DL.g_mul, ↓DL.g_mulL, ↓DL.g_mod, ↓DL.g_fdiv, ↓DL.g_pow, ↓DL.g_isN, ↓DL.g_notN, ↓DL.g_ixT, ↓DL.g_ixL, ↓DL.g_ixS, ↓DL.ix0, ↓DL.ix1, ↓DL.ix2, ↓DL.ix3, ↓DL.ix4, ↓DL.ix5, ↓DL.ix6, ↓DL.ix7, ↓DL.g_lenT, ↓DL.g_lenL, ↓DL.g_lenS, ↓DL.g_int, ↓DL.g_intB, ↓DL.g_tupT, ↓DL.g_tupL, ↓DL.g_lsT, ↓DL.g_lsL, ↓DL.g_max, ↓DL.g_min, ↓DL.g_slT, ↓DL.g_slL, ↓DL.isQ_some, ↓DL.g_isi, ↓DL.i_int, ↓DL.i_bl, ↓DL.i_tup, ↓DL.i_lst, ↓DL.i_non, ↓DL.i_str, if_true, if_false, Bool.false_eq_true, Bool.not_true, Bool.not_false, reduceCtorEq, decide_eq_true_eq, decide_true, decide_false, Bool.not_eq_true', decide_eq_false_iff_not, List.map_cons, ↓forGo_cons, ↓u_law_2]
    refine ⟨s, b, ps, !l, big.ok, bk, pk, rfl, ?_⟩
    simp -implicitDefEqProofs only [↓DL.gt_0, ↓DL.gt_s, ↓DL.pt_0, ↓DL.pt_s, ↓DL.gv_fz, ↓DL.x_var, ↓DL.go_fz, ↓DL.go_lst, ↓DL.x_own, ↓DL.x_c, ↓DL.x_bin, ↓DL.x_tst, ↓DL.asB_bl, ↓DL.x_chain, ↓DL.x_and, ↓DL.x_or, ↓DL.x_not, ↓DL.x_andV, ↓DL.x_orV, ↓DL.x_notV, ↓DL.x_if, ↓DL.x_nil, ↓DL.x_cons, ↓DL.x_tup, ↓DL.x_cb, ↓DL.x_call, ↓DL.x_noPart, ↓DL.x_part, ↓DL.asI_int, ↓DL.x_sl, ↓DL.x_neg, ↓DL.x_lstV, ↓DL.x_listL, ↓DL.x_it, ↓DL.x_rng1, ↓DL.x_rng2, ↓DL.ints1_int, ↓DL.ints2_int, ↓DL.asL_lst, ↓DL.asL_tup, ↓DL.asL_scr, ↓DL.x_comp, ↓DL.x_yes, ↓DL.wip_nil, ↓DL.wip_cons, ↓DL.x_next, ↓DL.x_seq, ↓DL.x_brk, ↓DL.x_cont, ↓DL.x_expr, ↓DL.x_ret, ↓DL.x_retN, ↓DL.x_sif, ↓DL.x_set, ↓DL.x_setO, ↓DL.tgK_some, ↓DL.x_asg, ↓DL.x_tgN, ↓DL.x_tgTup, ↓DL.x_tgNil, ↓DL.x_tgConsN, ↓DL.map_some, ↓DL.pts_nil, ↓DL.pts_cons, ↓DL.gl_lst, ↓DL.x_app, ↓DL.x_putIx, ↓DL.gf_lst, ↓DL.gf_fz, ↓DL.x_fz, ↓DL.x_for, ↓DL.x_end_nx, ↓DL.x_end_rt, ↓DL.g_eqS, ↓DL.g_eqI, ↓DL.g_neS, ↓DL.g_neI, ↓DL.g_lt, ↓DL.g_le, ↓DL.g_gt, ↓DL.g_ge, ↓DL.g_add, ↓DL.g_addL, ↓DL.g_addT, ↓DL.g_sub, ↓DL.g_mul, ↓DL.g_mulL, ↓DL.g_mod, ↓DL.g_fdiv, ↓DL.g_pow, ↓DL.g_isN, ↓DL.g_notN, ↓DL.g_ixT, ↓DL.g_ixL, ↓DL.g_ixS, ↓DL.ix0, ↓DL.ix1, ↓DL.ix2, ↓DL.ix3, ↓DL.ix4, ↓DL.ix5, ↓DL.ix6, ↓DL.ix7, ↓DL.g_lenT, ↓DL.g_lenL, ↓DL.g_lenS, ↓DL.g_int, ↓DL.g_intB, ↓DL.g_tupT, ↓DL.g_tupL, ↓DL.g_lsT, ↓DL.g_lsL, ↓DL.g_max, ↓DL.g_min, ↓DL.g_slT, ↓DL.g_slL, ↓DL.isQ_some, ↓DL.g_isi, ↓DL.i_int, ↓DL.i_bl, ↓DL.i_tup, ↓DL.i_lst, ↓DL.i_non, ↓DL.i_str, if_true, if_false, Bool.false_eq_true, Bool.not_true, Bool.not_false, reduceCtorEq, decide_eq_true_eq, decide_true, decide_false, Bool.not_eq_true', decide_eq_false_iff_not, ↓g_reprS big.ok bk pk]
    refine ⟨s, big, rfl, fun vs hs => ?_⟩
    simp -implicitDefEqProofs only [↓DL.gt_0, ↓DL.gt_s, ↓DL.pt_0, ↓DL.pt_s, ↓DL.gv_fz, ↓DL.x_var, ↓DL.go_fz, ↓DL.go_lst, ↓DL.x_own, ↓DL.x_c, ↓DL.x_bin, ↓DL.x_tst, ↓DL.asB_bl, ↓DL.x_chain, ↓DL.x_and, ↓DL.x_or, ↓DL.x_not, ↓DL.x_andV, ↓DL.x_orV, ↓DL.x_notV, ↓DL.x_if, ↓DL.x_nil, ↓DL.x_cons, ↓DL.x_tup, ↓DL.x_cb, ↓DL.x_call, ↓DL.x_noPart, ↓DL.x_part, ↓DL.asI_int, ↓DL.x_sl, ↓DL.x_neg, ↓DL.x_lstV, ↓DL.x_listL, ↓DL.x_it, ↓DL.x_rng1, ↓DL.x_rng2, ↓DL.ints1_int, ↓DL.ints2_int, ↓DL.asL_lst, ↓DL.asL_tup, ↓DL.asL_scr, ↓DL.x_comp, ↓DL.x_yes, ↓DL.wip_nil, ↓DL.wip_cons, ↓DL.x_next, ↓DL.x_seq, ↓DL.x_brk, ↓DL.x_cont, ↓DL.x_expr, ↓DL.x_ret, ↓DL.x_retN, ↓DL.x_sif, ↓DL.x_set, ↓DL.x_setO, ↓DL.tgK_some, ↓DL.x_asg, ↓DL.x_tgN, ↓DL.x_tgTup, ↓DL.x_tgNil, ↓DL.x_tgConsN, ↓DL.map_some, ↓DL.pts_nil, ↓DL.pts_cons, ↓DL.gl_lst, ↓DL.x_app, ↓DL.x_putIx, ↓DL.gf_lst, ↓DL.gf_fz, ↓DL.x_fz, ↓DL.x_for, ↓DL.x_end_nx, ↓DL.x_end_rt, ↓DL.g_eqS, ↓DL.g_eqI, ↓DL.g_neS, ↓DL.g_neI, ↓DL.g_lt, ↓DL.g_le, ↓DL.g_gt, ↓DL.g_ge, ↓DL.g_add, ↓DL.g_addL, ↓DL.g_addT, ↓DL.g_sub, ↓DL.g_mul, ↓DL.g_mulL, ↓DL.g_mod, ↓DL.g_fdiv, ↓DL.g_pow, ↓DL.g_isN, ↓DL.g_notN, ↓DL.g_ixT, ↓DL.g_ixL, ↓DL.g_ixS, ↓DL.ix0, ↓DL.ix1, ↓DL.ix2, ↓DL.ix3, ↓DL.ix4, ↓DL.ix5, ↓DL.ix6, ↓DL.ix7, ↓DL.g_lenT, ↓DL.g_lenL, ↓DL.g_lenS, ↓DL.g_int, ↓DL.g_intB, ↓DL.g_tupT, ↓DL.g_tupL, ↓DL.g_lsT, ↓DL.g_lsL, ↓DL.g_max, ↓DL.g_min, ↓DL.g_slT, ↓DL.g_slL, ↓DL.isQ_some, ↓DL.g_isi, ↓DL.i_int, ↓DL.i_bl, ↓DL.i_tup, ↓DL.i_lst, ↓DL.i_non, ↓DL.i_str, if_true, if_false, Bool.false_eq_true, Bool.not_true, Bool.not_false, reduceCtorEq, decide_eq_true_eq, decide_true, decide_false, Bool.not_eq_true', decide_eq_false_iff_not]
    refine p_law_1 bk pk (by omega) big.ok vs _ _ hs fun o11 o12 => ?_
    exact p_law_2 big bk pss (!l) _ _ _ _ _ (fun v h => hv v (List.mem_cons_of_mem _ h)) q
theorem p_law_3 {s : St} {a0 a2 : O} {b1 b2 : List Int} {p1 p2 : List Part} {h : Nat} {Z : DEnd} (big : s.Big) (hh : h < s.h) (k1 : POk s p1) (k2 : POk s p2) :
    ∀ (bs : List (List Int)) (l : Bool) (o7 o8 o9 o10 o11 o12 : Option O), (∀ b ∈ bs, BOk s b) →
    (∀ l o7 o8 o9 o10 o11 o12, Z.nx (Wsl s a0 a2 (.fz (storyD false b1 p1)) (.fz (storyD false b2 p2)) (.fz (.int h)) l o7 o8 o9 o10 o11 o12)) →
    forGo (tgN 7) lp_law_3 Z (bs.map fun b => .tup (iL b)) (Wsl s a0 a2 (.fz (storyD false b1 p1)) (.fz (storyD false b2 p2)) (.fz (.int h)) l o7 o8 o9 o10 o11 o12)
  | [], l, o7, o8, o9, o10, o11, o12, hv, q => q l o7 o8 o9 o10 o11 o12
  | b :: bs, l, o7, o8, o9, o10, o11, o12, hv, q => by
    have bk := hv b List.mem_cons_self
    simp -implicitDefEqProofs only [↓DL.gt_0, ↓DL.gt_s, ↓DL.pt_0, ↓DL.pt_s, ↓DL.gv_fz, ↓DL.x_var, ↓DL.go_fz, ↓DL.go_lst, ↓DL.x_own, ↓DL.x_c, ↓DL.x_bin, ↓DL.x_tst, ↓DL.asB_bl, ↓DL.x_chain, ↓DL.x_and, ↓DL.x_or, ↓DL.x_not, ↓DL.x_andV, ↓DL.x_orV, ↓DL.x_notV, ↓DL.x_if, ↓DL.x_nil, ↓DL.x_cons, ↓DL.x_tup, ↓DL.x_cb, ↓DL.x_call, ↓DL.x_noPart, ↓DL.x_part, ↓DL.asI_int, ↓DL.x_sl, ↓DL.x_neg, ↓DL.x_lstV, ↓DL.x_listL, ↓DL.x_it, ↓DL.x_rng1, ↓DL.x_rng2, ↓DL.ints1_int, ↓DL.ints2_int, ↓DL.asL_lst, ↓DL.asL_tup, ↓DL.asL_scr, ↓DL.x_comp, ↓DL.x_yes, ↓DL.wip_nil, ↓DL.wip_cons, ↓DL.x_next, ↓DL.x_seq, ↓DL.x_brk, ↓DL.x_cont, ↓DL.x_expr, ↓DL.x_ret, ↓DL.x_retN, ↓DL.x_sif, ↓DL.x_set, ↓DL.x_setO, ↓DL.tgK_some, ↓DL.x_asg, ↓DL.x_tgN, ↓DL.x_tgTup, ↓DL.x_tgNil, ↓DL.x_tgConsN, ↓DL.map_some, ↓DL.pts_nil, ↓DL.pts_cons, ↓DL.gl_lst, ↓DL.x_app, ↓DL.x_putIx, ↓DL.gf_lst, ↓DL.gf_fz, ↓DL.x_fz, ↓DL.x_for, ↓DL.x_end_nx, ↓DL.x_end_rt, ↓DL.g_eqS, ↓DL.g_eqI, ↓DL.g_neS, ↓DL.g_neI, ↓DL.g_lt, ↓DL.g_le, ↓DL.g_gt, ↓DL.g_ge, ↓DL.g_add, ↓DL.g_addL, ↓DL.g_addT, ↓DL.g_sub, ↓DL.g_mul, ↓DL.g_mulL, ↓DL.g_mod, ↓DL.g_fdiv, ↓DL.g_pow, ↓DL.g_isN, ↓DL.g_notN, ↓DL.g_ixT, ↓DL.g_ixL, ↓DL.g_ixS, ↓DL.ix0, ↓DL.ix1, ↓DL.ix2, ↓DL.ix3, ↓DL.ix4, ↓DL.ix5, ↓DL.ix6, ↓DL.ix7, ↓DL.g_lenT, ↓DL.g_lenL, ↓DL.g_lenS, ↓DL.g_int, ↓DL.g_intB, ↓DL.g_tupT, ↓DL.g_tupL, ↓DL.g_lsT, ↓DL.g_lsL, ↓DL.g_max, ↓DL.g_min, ↓DL.g_slT, ↓DL.g_slL, ↓DL.isQ_some, ↓DL.g_isi, ↓DL.i_int, ↓DL.i_bl, ↓DL.i_tup, ↓DL.i_lst, ↓DL.i_non, ↓DL.i_str, if_true, if_false, Bool.false_eq_true, Bool.not_true, Bool.not_false, reduceCtorEq, decide_eq_true_eq, decide_true, decide_false, Bool.not_eq_true', decide_eq_false_iff_not, List.map_cons, ↓forGo_cons, ↓u_law_3, ↓g_ixSt]
    refine ⟨s, h, big, hh, rfl, fun pss hl hk => ?_⟩
    simp -implicitDefEqProofs only [↓DL.gt_0, ↓DL.gt_s, ↓DL.pt_0, ↓DL.pt_s, ↓DL.gv_fz, ↓DL.x_var, ↓DL.go_fz, ↓DL.go_lst, ↓DL.x_own, ↓DL.x_c, ↓DL.x_bin, ↓DL.x_tst, ↓DL.asB_bl, ↓DL.x_chain, ↓DL.x_and, ↓DL.x_or, ↓DL.x_not, ↓DL.x_andV, ↓DL.x_orV, ↓DL.x_notV, ↓DL.x_if, ↓DL.x_nil, ↓DL.x_cons, ↓DL.x_tup, ↓DL.x_cb, ↓DL.x_call, ↓DL.x_noPart, ↓DL.x_part, ↓DL.asI_int, ↓DL.x_sl, ↓DL.x_neg, ↓DL.x_lstV, ↓DL.x_listL, ↓DL.x_it, ↓DL.x_rng1, ↓DL.x_rng2, ↓DL.ints1_int, ↓DL.ints2_int, ↓DL.asL_lst, ↓DL.asL_tup, ↓DL.asL_scr, ↓DL.x_comp, ↓DL.x_yes, ↓DL.wip_nil, ↓DL.wip_cons, ↓DL.x_next, ↓DL.x_seq, ↓DL.x_brk, ↓DL.x_cont, ↓DL.x_expr, ↓DL.x_ret, ↓DL.x_retN, ↓DL.x_sif, ↓DL.x_set, ↓DL.x_setO, ↓DL.tgK_some, ↓DL.x_asg, ↓DL.x_tgN, ↓DL.x_tgTup, ↓DL.x_tgNil, ↓DL.x_tgConsN, ↓DL.map_some, ↓DL.pts_nil, ↓DL.pts_cons, ↓DL.gl_lst, ↓DL.x_app, ↓DL.x_putIx, ↓DL.gf_lst, ↓DL.gf_fz, ↓DL.x_fz, ↓DL.x_for, ↓DL.x_end_nx, ↓DL.x_end_rt, ↓DL.g_eqS, ↓DL.g_eqI, ↓DL.g_neS, ↓DL.g_neI, ↓DL.g_lt, ↓DL.g_le, ↓DL.g_gt, ↓DL.g_ge, ↓DL.g_add, ↓DL.g_addL, ↓DL.g_addT, ↓DL.g_sub, ↓DL.g_mul, ↓DL.g_mulL, ↓DL.g_mod, ↓DL.g_fdiv, ↓DL.g_pow, ↓DL.g_isN, ↓DL.g_notN, ↓DL.g_ixT, ↓DL.g_ixL, ↓DL.g_ixS, ↓DL.ix0, ↓DL.ix1, ↓DL.ix2, ↓DL.ix3, ↓DL.ix4, ↓DL.ix5, ↓DL.ix6, ↓DL.ix7, ↓DL.g_lenT, ↓DL.g_lenL, ↓DL.g_lenS, ↓DL.g_int, ↓DL.g_intB, ↓DL.g_tupT, ↓DL.g_tupL, ↓DL.g_lsT, ↓DL.g_lsL, ↓DL.g_max, ↓DL.g_min, ↓DL.g_slT, ↓DL.g_slL, ↓DL.isQ_some, ↓DL.g_isi, ↓DL.i_int, ↓DL.i_bl, ↓DL.i_tup, ↓DL.i_lst, ↓DL.i_non, ↓DL.i_str, if_true, if_false, Bool.false_eq_true, Bool.not_true, Bool.not_false, reduceCtorEq, decide_eq_true_eq, decide_true, decide_false, Bool.not_eq_true', decide_eq_false_iff_not, List.length_map, List.length_cons, List.length_nil]
    refine ⟨by omega, ?_⟩
    refine p_law_2 big bk (p1 :: p2 :: pss) l _ _ _ _ _ (fun ps hps => ?_) fun l o8 o9 o10 o11 o12 => ?_
    · rcases List.mem_cons.mp hps with rfl | hps
      · exact k1
      rcases List.mem_cons.mp hps with rfl | hps
      · exact k2
      · exact hk ps hps
    · exact p_law_3 big hh k1 k2 bs l _ _ _ _ _ _ (fun v h => hv v (List.mem_cons_of_mem _ h)) q
theorem p_law (ns : List Int) (hn : ns.length ≤ 63) : b_law (dEnd (fun r => r = .bl true) (fun _ => False)) (en N_law.length [.scr ns]) := by
  rw [en_law]
  have cell : ∀ (k : Nat), k < 1000 → ∀ (Q : D → Prop) (E : DExc → Prop), (∀ c : Int, Q (.int c)) → sp_l_cell [.scr ns, .int k] Q E := fun k hk Q E q => ⟨ns, k, rfl, hk, hn, q⟩
  simp -implicitDefEqProofs only [↓DL.gt_0, ↓DL.gt_s, ↓DL.pt_0, ↓DL.pt_s, ↓DL.gv_fz, ↓DL.x_var, ↓DL.go_fz, ↓DL.go_lst, ↓DL.x_own, ↓DL.x_c, ↓DL.x_bin, ↓DL.x_tst, ↓DL.asB_bl, ↓DL.x_chain, ↓DL.x_and, ↓DL.x_or, ↓DL.x_not, ↓DL.x_andV, ↓DL.x_orV, ↓DL.x_notV, ↓DL.x_if, ↓DL.x_nil, ↓DL.x_cons, ↓DL.x_tup, ↓DL.x_cb, ↓DL.x_call, ↓DL.x_noPart, ↓DL.x_part, ↓DL.asI_int, ↓DL.x_sl, ↓DL.x_neg, ↓DL.x_lstV, ↓DL.x_listL, ↓DL.x_it, ↓DL.x_rng1, ↓DL.x_rng2, ↓DL.ints1_int, ↓DL.ints2_int, ↓DL.asL_lst, ↓DL.asL_tup, ↓DL.asL_scr, ↓DL.x_comp, ↓DL.x_yes, ↓DL.wip_nil, ↓DL.wip_cons, ↓DL.x_next, ↓DL.x_seq, ↓DL.x_brk, ↓DL.x_cont, ↓DL.x_expr, ↓DL.x_ret, ↓DL.x_retN, ↓DL.x_sif, ↓DL.x_set, ↓DL.x_setO, ↓DL.tgK_some, ↓DL.x_asg, ↓DL.x_tgN, ↓DL.x_tgTup, ↓DL.x_tgNil, ↓DL.x_tgConsN, ↓DL.map_some, ↓DL.pts_nil, ↓DL.pts_cons, ↓DL.gl_lst, ↓DL.x_app, ↓DL.x_putIx, ↓DL.gf_lst, ↓DL.gf_fz, ↓DL.x_fz, ↓DL.x_for, ↓DL.x_end_nx, ↓DL.x_end_rt, ↓DL.g_eqS, ↓DL.g_eqI, ↓DL.g_neS, ↓DL.g_neI, ↓DL.g_lt, ↓DL.g_le, ↓DL.g_gt, ↓DL.g_ge, ↓DL.g_add, ↓DL.g_addL, ↓DL.g_addT, ↓DL.g_sub, ↓DL.g_mul, ↓DL.g_mulL, ↓DL.g_mod, ↓DL.g_fdiv, ↓DL.g_pow, ↓DL.g_isN, ↓DL.g_notN, ↓DL.g_ixT, ↓DL.g_ixL, ↓DL.g_ixS, ↓DL.ix0, ↓DL.ix1, ↓DL.ix2, ↓DL.ix3, ↓DL.ix4, ↓DL.ix5, ↓DL.ix6, ↓DL.ix7, ↓DL.g_lenT, ↓DL.g_lenL, ↓DL.g_lenS, ↓DL.g_int, ↓DL.g_intB, ↓DL.g_tupT, ↓DL.g_tupL, ↓DL.g_lsT, ↓DL.g_lsL, ↓DL.g_max, ↓DL.g_min, ↓DL.g_slT, ↓DL.g_slL, ↓DL.isQ_some, ↓DL.g_isi, ↓DL.i_int, ↓DL.i_bl, ↓DL.i_tup, ↓DL.i_lst, ↓DL.i_non, ↓DL.i_str, if_true, if_false, Bool.false_eq_true, Bool.not_true, Bool.not_false, reduceCtorEq, decide_eq_true_eq, decide_true, decide_false, Bool.not_eq_true', decide_eq_false_iff_not, b_law]
  refine cell 44 (by decide) _ _ fun c => ?_
  refine ⟨c, rfl, fun s big => ?_⟩
  have h2 := big.ok.h2
  have a1 := big.ok.a1
  simp -implicitDefEqProofs only [↓DL.gt_0, ↓DL.gt_s, ↓DL.pt_0, ↓DL.pt_s, ↓DL.gv_fz, ↓DL.x_var, ↓DL.go_fz, ↓DL.go_lst, ↓DL.x_own, ↓DL.x_c, ↓DL.x_bin, ↓DL.x_tst, ↓DL.asB_bl, ↓DL.x_chain, ↓DL.x_and, ↓DL.x_or, ↓DL.x_not, ↓DL.x_andV, ↓DL.x_orV, ↓DL.x_notV, ↓DL.x_if, ↓DL.x_nil, ↓DL.x_cons, ↓DL.x_tup, ↓DL.x_cb, ↓DL.x_call, ↓DL.x_noPart, ↓DL.x_part, ↓DL.asI_int, ↓DL.x_sl, ↓DL.x_neg, ↓DL.x_lstV, ↓DL.x_listL, ↓DL.x_it, ↓DL.x_rng1, ↓DL.x_rng2, ↓DL.ints1_int, ↓DL.ints2_int, ↓DL.asL_lst, ↓DL.asL_tup, ↓DL.asL_scr, ↓DL.x_comp, ↓DL.x_yes, ↓DL.wip_nil, ↓DL.wip_cons, ↓DL.x_next, ↓DL.x_seq, ↓DL.x_brk, ↓DL.x_cont, ↓DL.x_expr, ↓DL.x_ret, ↓DL.x_retN, ↓DL.x_sif, ↓DL.x_set, ↓DL.x_setO, ↓DL.tgK_some, ↓DL.x_asg, ↓DL.x_tgN, ↓DL.x_tgTup, ↓DL.x_tgNil, ↓DL.x_tgConsN, ↓DL.map_some, ↓DL.pts_nil, ↓DL.pts_cons, ↓DL.gl_lst, ↓DL.x_app, ↓DL.x_putIx, ↓DL.gf_lst, ↓DL.gf_fz, ↓DL.x_fz, ↓DL.x_for, ↓DL.x_end_nx, ↓DL.x_end_rt, ↓DL.g_eqS, ↓DL.g_eqI, ↓DL.g_neS, ↓DL.g_neI, ↓DL.g_lt, ↓DL.g_le, ↓DL.g_gt, ↓DL.g_ge, ↓DL.g_add, ↓DL.g_addL, ↓DL.g_addT, ↓DL.g_sub, ↓DL.g_mul, ↓DL.g_mulL, ↓DL.g_mod, ↓DL.g_fdiv, ↓DL.g_pow, ↓DL.g_isN, ↓DL.g_notN, ↓DL.g_ixT, ↓DL.g_ixL, ↓DL.g_ixS, ↓DL.ix0, ↓DL.ix1, ↓DL.ix2, ↓DL.ix3, ↓DL.ix4, ↓DL.ix5, ↓DL.ix6, ↓DL.ix7, ↓DL.g_lenT, ↓DL.g_lenL, ↓DL.g_lenS, ↓DL.g_int, ↓DL.g_intB, ↓DL.g_tupT, ↓DL.g_tupL, ↓DL.g_lsT, ↓DL.g_lsL, ↓DL.g_max, ↓DL.g_min, ↓DL.g_slT, ↓DL.g_slL, ↓DL.isQ_some, ↓DL.g_isi, ↓DL.i_int, ↓DL.i_bl, ↓DL.i_tup, ↓DL.i_lst, ↓DL.i_non, ↓DL.i_str, if_true, if_false, Bool.false_eq_true, Bool.not_true, Bool.not_false, reduceCtorEq, decide_eq_true_eq, decide_true, decide_false, Bool.not_eq_true', decide_eq_false_iff_not]
  refine cell 1 (by decide) _ _ fun c => ?_
  refine ⟨c, [2, 60, 12], rfl, by decide, by decide, fun row hr => ?_⟩
  obtain ⟨len, hr⟩ := hr
  match row, len with
  | [r0, r1, r2], _ =>
    simp -implicitDefEqProofs only [↓DL.gt_0, ↓DL.gt_s, ↓DL.pt_0, ↓DL.pt_s, ↓DL.gv_fz, ↓DL.x_var, ↓DL.go_fz, ↓DL.go_lst, ↓DL.x_own, ↓DL.x_c, ↓DL.x_bin, ↓DL.x_tst, ↓DL.asB_bl, ↓DL.x_chain, ↓DL.x_and, ↓DL.x_or, ↓DL.x_not, ↓DL.x_andV, ↓DL.x_orV, ↓DL.x_notV, ↓DL.x_if, ↓DL.x_nil, ↓DL.x_cons, ↓DL.x_tup, ↓DL.x_cb, ↓DL.x_call, ↓DL.x_noPart, ↓DL.x_part, ↓DL.asI_int, ↓DL.x_sl, ↓DL.x_neg, ↓DL.x_lstV, ↓DL.x_listL, ↓DL.x_it, ↓DL.x_rng1, ↓DL.x_rng2, ↓DL.ints1_int, ↓DL.ints2_int, ↓DL.asL_lst, ↓DL.asL_tup, ↓DL.asL_scr, ↓DL.x_comp, ↓DL.x_yes, ↓DL.wip_nil, ↓DL.wip_cons, ↓DL.x_next, ↓DL.x_seq, ↓DL.x_brk, ↓DL.x_cont, ↓DL.x_expr, ↓DL.x_ret, ↓DL.x_retN, ↓DL.x_sif, ↓DL.x_set, ↓DL.x_setO, ↓DL.tgK_some, ↓DL.x_asg, ↓DL.x_tgN, ↓DL.x_tgTup, ↓DL.x_tgNil, ↓DL.x_tgConsN, ↓DL.map_some, ↓DL.pts_nil, ↓DL.pts_cons, ↓DL.gl_lst, ↓DL.x_app, ↓DL.x_putIx, ↓DL.gf_lst, ↓DL.gf_fz, ↓DL.x_fz, ↓DL.x_for, ↓DL.x_end_nx, ↓DL.x_end_rt, ↓DL.g_eqS, ↓DL.g_eqI, ↓DL.g_neS, ↓DL.g_neI, ↓DL.g_lt, ↓DL.g_le, ↓DL.g_gt, ↓DL.g_ge, ↓DL.g_add, ↓DL.g_addL, ↓DL.g_addT, ↓DL.g_sub, ↓DL.g_mul, ↓DL.g_mulL, ↓DL.g_mod, ↓DL.g_fdiv, ↓DL.g_pow, ↓DL.g_isN, ↓DL.g_notN, ↓DL.g_ixT, ↓DL.g_ixL, ↓DL.g_ixS, ↓DL.ix0, ↓DL.ix1, ↓DL.ix2, ↓DL.ix3, ↓DL.ix4, ↓DL.ix5, ↓DL.ix6, ↓DL.ix7, ↓DL.g_lenT, ↓DL.g_lenL, ↓DL.g_lenS, ↓DL.g_int, ↓DL.g_intB, ↓DL.g_tupT, ↓DL.g_tupL, ↓DL.g_lsT, ↓DL.g_lsL, ↓DL.g_max, ↓DL.g_min, ↓DL.g_slT, ↓DL.g_slL, ↓DL.isQ_some, ↓DL.g_isi, ↓DL.i_int, ↓DL.i_bl, ↓DL.i_tup, ↓DL.i_lst, ↓DL.i_non, ↓DL.i_str, if_true, if_false, Bool.false_eq_true, Bool.not_true, Bool.not_false, reduceCtorEq, decide_eq_true_eq, decide_true, decide_false, Bool.not_eq_true', decide_eq_false_iff_not, iL, List.map_cons, List.map_nil]
    refine cell 2 (by decide) _ _ fun c => ?_
    refine cell 3 (by decide) _ _ fun m => ?_
    refine ⟨s, c, m, big, rfl, fun b1 p1 bk1 pk1 => ?_⟩
    simp -implicitDefEqProofs only [↓DL.gt_0, ↓DL.gt_s, ↓DL.pt_0, ↓DL.pt_s, ↓DL.gv_fz, ↓DL.x_var, ↓DL.go_fz, ↓DL.go_lst, ↓DL.x_own, ↓DL.x_c, ↓DL.x_bin, ↓DL.x_tst, ↓DL.asB_bl, ↓DL.x_chain, ↓DL.x_and, ↓DL.x_or, ↓DL.x_not, ↓DL.x_andV, ↓DL.x_orV, ↓DL.x_notV, ↓DL.x_if, ↓DL.x_nil, ↓DL.x_cons, ↓DL.x_tup, ↓DL.x_cb, ↓DL.x_call, ↓DL.x_noPart, ↓DL.x_part, ↓DL.asI_int, ↓DL.x_sl, ↓DL.x_neg, ↓DL.x_lstV, ↓DL.x_listL, ↓DL.x_it, ↓DL.x_rng1, ↓DL.x_rng2, ↓DL.ints1_int, ↓DL.ints2_int, ↓DL.asL_lst, ↓DL.asL_tup, ↓DL.asL_scr, ↓DL.x_comp, ↓DL.x_yes, ↓DL.wip_nil, ↓DL.wip_cons, ↓DL.x_next, ↓DL.x_seq, ↓DL.x_brk, ↓DL.x_cont, ↓DL.x_expr, ↓DL.x_ret, ↓DL.x_retN, ↓DL.x_sif, ↓DL.x_set, ↓DL.x_setO, ↓DL.tgK_some, ↓DL.x_asg, ↓DL.x_tgN, ↓DL.x_tgTup, ↓DL.x_tgNil, ↓DL.x_tgConsN, ↓DL.map_some, ↓DL.pts_nil, ↓DL.pts_cons, ↓DL.gl_lst, ↓DL.x_app, ↓DL.x_putIx, ↓DL.gf_lst, ↓DL.gf_fz, ↓DL.x_fz, ↓DL.x_for, ↓DL.x_end_nx, ↓DL.x_end_rt, ↓DL.g_eqS, ↓DL.g_eqI, ↓DL.g_neS, ↓DL.g_neI, ↓DL.g_lt, ↓DL.g_le, ↓DL.g_gt, ↓DL.g_ge, ↓DL.g_add, ↓DL.g_addL, ↓DL.g_addT, ↓DL.g_sub, ↓DL.g_mul, ↓DL.g_mulL, ↓DL.g_mod, ↓DL.g_fdiv, ↓DL.g_pow, ↓DL.g_isN, ↓DL.g_notN, ↓DL.g_ixT, ↓DL.g_ixL, ↓DL.g_ixS, ↓DL.ix0, ↓DL.ix1, ↓DL.ix2, ↓DL.ix3, ↓DL.ix4, ↓DL.ix5, ↓DL.ix6, ↓DL.ix7, ↓DL.g_lenT, ↓DL.g_lenL, ↓DL.g_lenS, ↓DL.g_int, ↓DL.g_intB, ↓DL.g_tupT, ↓DL.g_tupL, ↓DL.g_lsT, ↓DL.g_lsL, ↓DL.g_max, ↓DL.g_min, ↓DL.g_slT, ↓DL.g_slL, ↓DL.isQ_some, ↓DL.g_isi, ↓DL.i_int, ↓DL.i_bl, ↓DL.i_tup, ↓DL.i_lst, ↓DL.i_non, ↓DL.i_str, if_true, if_false, Bool.false_eq_true, Bool.not_true, Bool.not_false, reduceCtorEq, decide_eq_true_eq, decide_true, decide_false, Bool.not_eq_true', decide_eq_false_iff_not]
    refine cell 4 (by decide) _ _ fun c => ?_
    refine cell 5 (by decide) _ _ fun m => ?_
    refine ⟨s, c, m, big, rfl, fun b2 p2 bk2 pk2 => ?_⟩
    simp -implicitDefEqProofs only [↓DL.gt_0, ↓DL.gt_s, ↓DL.pt_0, ↓DL.pt_s, ↓DL.gv_fz, ↓DL.x_var, ↓DL.go_fz, ↓DL.go_lst, ↓DL.x_own, ↓DL.x_c, ↓DL.x_bin, ↓DL.x_tst, ↓DL.asB_bl, ↓DL.x_chain, ↓DL.x_and, ↓DL.x_or, ↓DL.x_not, ↓DL.x_andV, ↓DL.x_orV, ↓DL.x_notV, ↓DL.x_if, ↓DL.x_nil, ↓DL.x_cons, ↓DL.x_tup, ↓DL.x_cb, ↓DL.x_call, ↓DL.x_noPart, ↓DL.x_part, ↓DL.asI_int, ↓DL.x_sl, ↓DL.x_neg, ↓DL.x_lstV, ↓DL.x_listL, ↓DL.x_it, ↓DL.x_rng1, ↓DL.x_rng2, ↓DL.ints1_int, ↓DL.ints2_int, ↓DL.asL_lst, ↓DL.asL_tup, ↓DL.asL_scr, ↓DL.x_comp, ↓DL.x_yes, ↓DL.wip_nil, ↓DL.wip_cons, ↓DL.x_next, ↓DL.x_seq, ↓DL.x_brk, ↓DL.x_cont, ↓DL.x_expr, ↓DL.x_ret, ↓DL.x_retN, ↓DL.x_sif, ↓DL.x_set, ↓DL.x_setO, ↓DL.tgK_some, ↓DL.x_asg, ↓DL.x_tgN, ↓DL.x_tgTup, ↓DL.x_tgNil, ↓DL.x_tgConsN, ↓DL.map_some, ↓DL.pts_nil, ↓DL.pts_cons, ↓DL.gl_lst, ↓DL.x_app, ↓DL.x_putIx, ↓DL.gf_lst, ↓DL.gf_fz, ↓DL.x_fz, ↓DL.x_for, ↓DL.x_end_nx, ↓DL.x_end_rt, ↓DL.g_eqS, ↓DL.g_eqI, ↓DL.g_neS, ↓DL.g_neI, ↓DL.g_lt, ↓DL.g_le, ↓DL.g_gt, ↓DL.g_ge, ↓DL.g_add, ↓DL.g_addL, ↓DL.g_addT, ↓DL.g_sub, ↓DL.g_mul, ↓DL.g_mulL, ↓DL.g_mod, ↓DL.g_fdiv, ↓DL.g_pow, ↓DL.g_isN, ↓DL.g_notN, ↓DL.g_ixT, ↓DL.g_ixL, ↓DL.g_ixS, ↓DL.ix0, ↓DL.ix1, ↓DL.ix2, ↓DL.ix3, ↓DL.ix4, ↓DL.ix5, ↓DL.ix6, ↓DL.ix7, ↓DL.g_lenT, ↓DL.g_lenL, ↓DL.g_lenS, ↓DL.g_int, ↓DL.g_intB, ↓DL.g_tupT, ↓DL.g_tupL, ↓DL.g_lsT, ↓DL.g_lsL, ↓DL.g_max, ↓DL.g_min, ↓DL.g_slT, ↓DL.g_slL, ↓DL.isQ_some, ↓DL.g_isi, ↓DL.i_int, ↓DL.i_bl, ↓DL.i_tup, ↓DL.i_lst, ↓DL.i_non, ↓DL.i_str, if_true, if_false, Bool.false_eq_true, Bool.not_true, Bool.not_false, reduceCtorEq, decide_eq_true_eq, decide_true, decide_false, Bool.not_eq_true', decide_eq_false_iff_not, ↓xs1, ↓xs4, ↓g_ixSt]
    refine ⟨by omega, by omega, ?_⟩
    obtain ⟨h0, h1⟩ := emod_b (a := r1) (b := (s.h : Int)) (by omega)
    obtain ⟨h, hh⟩ := Int.eq_ofNat_of_zero_le h0
    rw [hh] at h0 h1 ⊢
    obtain ⟨x0, x1⟩ := emod_b (a := r2) (b := (s.a : Int)) (by omega)
    refine ⟨s, b1, h, r2 % (s.a : Int), big, bk1, by omega, x0, x1, rfl, fun bs hb => ?_⟩
    simp -implicitDefEqProofs only [↓DL.gt_0, ↓DL.gt_s, ↓DL.pt_0, ↓DL.pt_s, ↓DL.gv_fz, ↓DL.x_var, ↓DL.go_fz, ↓DL.go_lst, ↓DL.x_own, ↓DL.x_c, ↓DL.x_bin, ↓DL.x_tst, ↓DL.asB_bl, ↓DL.x_chain, ↓DL.x_and, ↓DL.x_or, ↓DL.x_not, ↓DL.x_andV, ↓DL.x_orV, ↓DL.x_notV, ↓DL.x_if, ↓DL.x_nil, ↓DL.x_cons, ↓DL.x_tup, ↓DL.x_cb, ↓DL.x_call, ↓DL.x_noPart, ↓DL.x_part, ↓DL.asI_int, ↓DL.x_sl, ↓DL.x_neg, ↓DL.x_lstV, ↓DL.x_listL, ↓DL.x_it, ↓DL.x_rng1, ↓DL.x_rng2, ↓DL.ints1_int, ↓DL.ints2_int, ↓DL.asL_lst, ↓DL.asL_tup, ↓DL.asL_scr, ↓DL.x_comp, ↓DL.x_yes, ↓DL.wip_nil, ↓DL.wip_cons, ↓DL.x_next, ↓DL.x_seq, ↓DL.x_brk, ↓DL.x_cont, ↓DL.x_expr, ↓DL.x_ret, ↓DL.x_retN, ↓DL.x_sif, ↓DL.x_set, ↓DL.x_setO, ↓DL.tgK_some, ↓DL.x_asg, ↓DL.x_tgN, ↓DL.x_tgTup, ↓DL.x_tgNil, ↓DL.x_tgConsN, ↓DL.map_some, ↓DL.pts_nil, ↓DL.pts_cons, ↓DL.gl_lst, ↓DL.x_app, ↓DL.x_putIx, ↓DL.gf_lst, ↓DL.gf_fz, ↓DL.x_fz, ↓DL.x_for, ↓DL.x_end_nx, ↓DL.x_end_rt, ↓DL.g_eqS, ↓DL.g_eqI, ↓DL.g_neS, ↓DL.g_neI, ↓DL.g_lt, ↓DL.g_le, ↓DL.g_gt, ↓DL.g_ge, ↓DL.g_add, ↓DL.g_addL, ↓DL.g_addT, ↓DL.g_sub, ↓DL.g_mul, ↓DL.g_mulL, ↓DL.g_mod, ↓DL.g_fdiv, ↓DL.g_pow, ↓DL.g_isN, ↓DL.g_notN, ↓DL.g_ixT, ↓DL.g_ixL, ↓DL.g_ixS, ↓DL.ix0, ↓DL.ix1, ↓DL.ix2, ↓DL.ix3, ↓DL.ix4, ↓DL.ix5, ↓DL.ix6, ↓DL.ix7, ↓DL.g_lenT, ↓DL.g_lenL, ↓DL.g_lenS, ↓DL.g_int, ↓DL.g_intB, ↓DL.g_tupT, ↓DL.g_tupL, ↓DL.g_lsT, ↓DL.g_lsL, ↓DL.g_max, ↓DL.g_min, ↓DL.g_slT, ↓DL.g_slL, ↓DL.isQ_some, ↓DL.g_isi, ↓DL.i_int, ↓DL.i_bl, ↓DL.i_tup, ↓DL.i_lst, ↓DL.i_non, ↓DL.i_str, if_true, if_false, Bool.false_eq_true, Bool.not_true, Bool.not_false, reduceCtorEq, decide_eq_true_eq, decide_true, decide_false, Bool.not_eq_true', decide_eq_false_iff_not]
    refine p_law_3 big (by omega) pk1 pk2 bs _ _ _ _ _ _ _ hb fun l o7 o8 o9 o10 o11 o12 => rfl
end K64

namespace K64
open PySem L2 DL PyProof.Rows
def top (i : Nat) : Stmt := PySem.Challenge.pw_whywait_k64_tasks_and_counts.main.body.getD i (.Pass ⟨0, 0, 0, 0⟩)
section
variable {P : Program} {w : World} {K : PySem.W.Frag} {mg : Str → Option Value} {base : Heap} {f : Addr} {fd : FuncData}
abbrev s_stands : Stmt := top 1
theorem sc_stands : FnScope N_stands ["setting", "story", "house", "moment"] (defScope s_stands) := ⟨rfl, rfl, rfl, by decide +kernel, rfl, by decide +kernel, by decide +kernel⟩
theorem t_stands (T : Bt mg) (cdv : Value) (A : Around) (outer : List Env) (s : Shared) (H : Hp) (E : XK) (hr : Room 0 (A.deeper (envOfC "stands" (defScope s_stands) s.heap.objs.size f cdv))) :
    ∃ ts, DSs (cxOf (L2.CX P w) P w K mg base N_stands "stands" (defScope s_stands) f cdv A outer s H E) (fun c d _ H => E c d H) (defBody s_stands) ts b_stands := by
  have tk : Takes (cxOf (L2.CX P w) P w K mg base N_stands "stands" (defScope s_stands) f cdv A outer s H E) (fun c d _ H => E c d H) := takes_of rfl rfl rfl rfl
  exact ⟨_, (dss_cons (ds_if (dt_eq (K := K) hr (DE.o (de_idx (K := K) (DE.o (de_var 0)) (DE.o de_int))) (DE.o de_str)) (dss_one (ds_ret de_bl)) dss_nil) (dss_cons (ds_set (i := 4) sc_stands.nd rfl (Or.inl rfl) (de_idx (K := K) (DE.o (de_idx (K := K) (DE.o (de_var 1)) (DE.o de_int))) (DE.o (de_var 2)))) (dss_one (ds_ret (de_or (de_isN (DE.o (de_var 4)) (DE.o de_non)) (de_one (de_lt (DE.o (de_var 3)) (DE.o (de_idx (K := K) (DE.o (de_var 4)) (DE.o de_int))))))))))⟩
theorem ok_stands (T : Bt mg) (F : FunD K "stands" "stands" (defArgs s_stands) (defBody s_stands) (defScope s_stands) [] [] f fd) (hm : mg "stands" = some (.ref f)) : Fn P w K mg base 1 "stands" 4 sp_stands :=
  fn_def F sc_stands hm (F.bindsN fun _ _ _ _ _ _ us hl => match us, hl with | [_, _, _, _], _ => rfl) (fun cdv A outer s H E hr => t_stands T cdv A outer s H E hr) p_stands
abbrev s_is_smooth : Stmt := top 3
theorem sc_is_smooth : FnScope N_is_smooth ["setting", "story"] (defScope s_is_smooth) := ⟨rfl, rfl, rfl, by decide +kernel, rfl, by decide +kernel, by decide +kernel⟩
theorem t_is_smooth (T : Bt mg) (cdv : Value) (A : Around) (outer : List Env) (s : Shared) (H : Hp) (E : XK) (hr : Room 0 (A.deeper (envOfC "is_smooth" (defScope s_is_smooth) s.heap.objs.size f cdv))) :
    ∃ ts, DSs (cxOf (L2.CX P w) P w K mg base N_is_smooth "is_smooth" (defScope s_is_smooth) f cdv A outer s H E) (fun c d _ H => E c d H) (defBody s_is_smooth) ts b_is_smooth := by
  have tk : Takes (cxOf (L2.CX P w) P w K mg base N_is_smooth "is_smooth" (defScope s_is_smooth) f cdv A outer s H E) (fun c d _ H => E c d H) := takes_of rfl rfl rfl rfl
  exact ⟨_, (dss_cons (ds_if (dt_eq (K := K) hr (DE.o (de_idx (K := K) (DE.o (de_var 0)) (DE.o de_int))) (DE.o de_str)) (dss_one (ds_ret (de_eq (K := K) hr (DE.o (dc_len (K := K) (by rfl) T.len (da_consH (DE.o (DL.v (dl_comp rfl sc_is_smooth.nd (own := [("lost", 3)]) (di_seqK (K := K) (de_idx (K := K) (DE.o (de_var 1)) (DE.o de_int))) (blkOk_by (N := N_is_smooth) (sc := defScope s_is_smooth) (by decide +kernel)) (fun _ _ _ _ _ => (dg_name (i := 3) sc_is_smooth.nd rfl (Or.inl rfl))) (by decide) (fun _ _ _ _ _ => (dts_one (dt_gt (DE.o (dc_len (K := K) (by rfl) T.len (da_consH (DE.o (de_var 3)) da_nil))) (DE.o de_int)))) (fun _ _ _ _ _ => (de_var 3))))) da_nil))) (DE.o de_int)))) dss_nil) (dss_one (ds_ret (de_eq (K := K) hr (DE.o (dc_len (K := K) (by rfl) T.len (da_consH (DE.o (DL.v (dl_comp rfl sc_is_smooth.nd (own := [("fall", 2)]) (di_seqK (K := K) (de_idx (K := K) (DE.o (de_var 1)) (DE.o de_int))) (blkOk_by (N := N_is_smooth) (sc := defScope s_is_smooth) (by decide +kernel)) (fun _ _ _ _ _ => (dg_name (i := 2) sc_is_smooth.nd rfl (Or.inl rfl))) (by decide) (fun _ _ _ _ _ => (dts_one (dt_notN (DE.o (de_var 2)) (DE.o de_non)))) (fun _ _ _ _ _ => (de_var 2))))) da_nil))) (DE.o de_int)))))⟩
theorem ok_is_smooth (T : Bt mg) (F : FunD K "is_smooth" "is_smooth" (defArgs s_is_smooth) (defBody s_is_smooth) (defScope s_is_smooth) [] [] f fd) (hm : mg "is_smooth" = some (.ref f)) : Fn P w K mg base 1 "is_smooth" 2 sp_is_smooth :=
  fn_def F sc_is_smooth hm (F.bindsN fun _ _ _ _ _ _ us hl => match us, hl with | [_, _], _ => rfl) (fun cdv A outer s H E hr => t_is_smooth T cdv A outer s H E hr) p_is_smooth
abbrev s_counts_in : Stmt := top 4
theorem sc_counts_in : FnScope N_counts_in ["setting", "story"] (defScope s_counts_in) := ⟨rfl, rfl, rfl, by decide +kernel, rfl, by decide +kernel, by decide +kernel⟩
theorem t_counts_in (T : Bt mg) (F_stands : Fn P w K mg base 1 "stands" 4 sp_stands) (cdv : Value) (A : Around) (outer : List Env) (s : Shared) (H : Hp) (E : XK) (hr : Room 1 (A.deeper (envOfC "counts_in" (defScope s_counts_in) s.heap.objs.size f cdv))) :
    ∃ ts, DSs (cxOf (L2.CX P w) P w K mg base N_counts_in "counts_in" (defScope s_counts_in) f cdv A outer s H E) (fun c d _ H => E c d H) (defBody s_counts_in) ts b_counts_in := by
  have tk : Takes (cxOf (L2.CX P w) P w K mg base N_counts_in "counts_in" (defScope s_counts_in) f cdv A outer s H E) (fun c d _ H => E c d H) := takes_of rfl rfl rfl rfl
  exact ⟨_, (dss_cons (ds_setO (i := 2) sc_counts_in.nd rfl (Or.inl rfl) (dl_lst da_nil)) (dss_cons (ds_for (passes_of rfl) rfl (di_rng1 (by rfl) T.range (da_consH (DE.o (de_idx (K := K) (DE.o (de_var 0)) (DE.o de_int))) da_nil)) (dg_name (i := 3) sc_counts_in.nd rfl (Or.inr rfl)) (dss_cons (ds_setLc (i := 4) rfl sc_counts_in.nd rfl rfl (sw_true rfl rfl rfl (by decide +kernel)) (own := [("moment", 5)]) (di_rng1 (by rfl) T.range (da_consH (DE.o (de_add (K := K) (DE.o (de_idx (K := K) (DE.o (de_var 0)) (DE.o de_int))) (DE.o de_int))) da_nil)) (blkOk_by (N := N_counts_in) (sc := defScope s_counts_in) (by decide +kernel)) (fun _ _ _ _ _ => (dg_name (i := 5) sc_counts_in.nd rfl (Or.inl rfl))) (by decide) (fun _ _ _ _ _ => (dts_one (dt_val (de_callK (K := K) (mg := mg) F_stands (hr.mono (by first | decide | omega)) (by rfl) takes0 (da_consA (de_var 0) (da_consA (de_var 1) (da_consA (de_var 3) (da_consA (de_var 5) da_nil)))))))) (fun _ _ _ _ _ => (de_var 5))) (dss_one (ds_if (DW.t (dw_and (dt_le (DE.o (dc_len (K := K) (by rfl) T.len (da_consH (DE.o (de_var 4)) da_nil))) (DE.o (de_idx (K := K) (DE.o (de_var 0)) (DE.o de_int)))) (dw_and1 (dt_eq (K := K) hr (DE.o (de_idx (K := K) (DE.o (de_var 0)) (DE.o de_int))) (DE.o de_str))))) (dss_one (ds_app 2 (pv 2) de_int)) (dss_one (ds_app 2 (pv 2) (dc_len (K := K) (by rfl) T.len (da_consH (DE.o (de_var 4)) da_nil)))))))) (dss_one (ds_ret (dc_tuple (K := K) (by rfl) T.tuple (da_consH (de_own 2) da_nil))))))⟩
theorem ok_counts_in (T : Bt mg) (F_stands : Fn P w K mg base 1 "stands" 4 sp_stands) (F : FunD K "counts_in" "counts_in" (defArgs s_counts_in) (defBody s_counts_in) (defScope s_counts_in) [] [] f fd) (hm : mg "counts_in" = some (.ref f)) : Fn P w K mg base 2 "counts_in" 2 sp_counts_in :=
  fn_def F sc_counts_in hm (F.bindsN fun _ _ _ _ _ _ us hl => match us, hl with | [_, _], _ => rfl) (fun cdv A outer s H E hr => t_counts_in T F_stands cdv A outer s H E hr) p_counts_in
abbrev s_right_in : Stmt := top 5
theorem sc_right_in : FnScope N_right_in ["setting", "story"] (defScope s_right_in) := ⟨rfl, rfl, rfl, by decide +kernel, rfl, by decide +kernel, by decide +kernel⟩
theorem t_right_in (T : Bt mg) (F_is_smooth : Fn P w K mg base 1 "is_smooth" 2 sp_is_smooth) (cdv : Value) (A : Around) (outer : List Env) (s : Shared) (H : Hp) (E : XK) (hr : Room 1 (A.deeper (envOfC "right_in" (defScope s_right_in) s.heap.objs.size f cdv))) :
    ∃ ts, DSs (cxOf (L2.CX P w) P w K mg base N_right_in "right_in" (defScope s_right_in) f cdv A outer s H E) (fun c d _ H => E c d H) (defBody s_right_in) ts b_right_in := by
  have tk : Takes (cxOf (L2.CX P w) P w K mg base N_right_in "right_in" (defScope s_right_in) f cdv A outer s H E) (fun c d _ H => E c d H) := takes_of rfl rfl rfl rfl
  exact ⟨_, (dss_cons (ds_set (i := 2) sc_right_in.nd rfl (Or.inl rfl) (de_idx (K := K) (DE.o (de_var 1)) (DE.o de_int))) (dss_cons (ds_set (i := 3) sc_right_in.nd rfl (Or.inl rfl) (de_callK (K := K) (mg := mg) F_is_smooth (hr.mono (by first | decide | omega)) (by rfl) tk (da_consA (de_var 0) (da_consA (de_var 1) da_nil)))) (dss_cons (ds_setO (i := 4) sc_right_in.nd rfl (Or.inl rfl) (dl_lst da_nil)) (dss_cons (ds_for (passes_of rfl) rfl (di_rng1 (by rfl) T.range (da_consH (DE.o (de_idx (K := K) (DE.o (de_var 0)) (DE.o de_int))) da_nil)) (dg_name (i := 5) sc_right_in.nd rfl (Or.inl rfl)) (dss_cons (ds_if (dt_eq (K := K) hr (DE.o (de_idx (K := K) (DE.o (de_var 0)) (DE.o de_int))) (DE.o de_str)) (dss_one (ds_set (i := 6) sc_right_in.nd rfl (Or.inl rfl) de_bl)) (dss_one (ds_if (dt_eq (K := K) hr (DE.o (de_idx (K := K) (DE.o (de_var 0)) (DE.o de_int))) (DE.o de_str)) (dss_one (ds_set (i := 6) sc_right_in.nd rfl (Or.inl rfl) (de_in (K := K) hr (DE.o (de_var 5)) (DE.o (de_var 2))))) (dss_one (ds_if (DW.t (dw_and (dt_eq (K := K) hr (DE.o (de_idx (K := K) (DE.o (de_var 0)) (DE.o de_int))) (DE.o de_str)) (dw_and1 (dt_eq (K := K) hr (DE.o (de_var 5)) (DE.o de_int))))) (dss_one (ds_set (i := 6) sc_right_in.nd rfl (Or.inl rfl) (de_nin (K := K) hr (DE.o de_int) (DE.o (de_var 2))))) (dss_one (ds_if (dt_eq (K := K) hr (DE.o (de_idx (K := K) (DE.o (de_var 0)) (DE.o de_int))) (DE.o de_str)) (dss_one (ds_set (i := 6) sc_right_in.nd rfl (Or.inl rfl) (de_or (de_in (K := K) hr (DE.o de_int) (DE.o (de_var 2))) (de_one (de_not (de_var 3)))))) (dss_one (ds_set (i := 6) sc_right_in.nd rfl (Or.inl rfl) (de_or (de_eq (K := K) hr (DE.o (de_var 5)) (DE.o (de_idx (K := K) (DE.o (de_var 2)) (DE.o de_int)))) (de_one (de_and (de_not (de_var 3)) (de_one (de_in (K := K) hr (DE.o (de_var 5)) (DE.o (de_var 2)))))))))))))))) (dss_one (ds_if (dt_val (de_var 6)) (dss_one (ds_app 4 (pv 4) (de_var 5))) dss_nil)))) (dss_one (ds_ret (dc_tuple (K := K) (by rfl) T.tuple (da_consH (de_own 4) da_nil))))))))⟩
theorem ok_right_in (T : Bt mg) (F_is_smooth : Fn P w K mg base 1 "is_smooth" 2 sp_is_smooth) (F : FunD K "right_in" "right_in" (defArgs s_right_in) (defBody s_right_in) (defScope s_right_in) [] [] f fd) (hm : mg "right_in" = some (.ref f)) : Fn P w K mg base 2 "right_in" 2 sp_right_in :=
  fn_def F sc_right_in hm (F.bindsN fun _ _ _ _ _ _ us hl => match us, hl with | [_, _], _ => rfl) (fun cdv A outer s H E hr => t_right_in T F_is_smooth cdv A outer s H E hr) p_right_in
abbrev s_l_whole : Stmt := top 7
theorem sc_l_whole : FnScope N_l_whole ["value"] (defScope s_l_whole) := ⟨rfl, rfl, rfl, by decide +kernel, rfl, by decide +kernel, by decide +kernel⟩
theorem t_l_whole (T : Bt mg) (cdv : Value) (A : Around) (outer : List Env) (s : Shared) (H : Hp) (E : XK) (hr : Room 0 (A.deeper (envOfC "_law_whole" (defScope s_l_whole) s.heap.objs.size f cdv))) :
    ∃ ts, DSs (cxOf (L2.CX P w) P w K mg base N_l_whole "_law_whole" (defScope s_l_whole) f cdv A outer s H E) (fun c d _ H => E c d H) (defBody s_l_whole) ts b_l_whole := by
  have tk : Takes (cxOf (L2.CX P w) P w K mg base N_l_whole "_law_whole" (defScope s_l_whole) f cdv A outer s H E) (fun c d _ H => E c d H) := takes_of rfl rfl rfl rfl
  exact ⟨_, (dss_one (ds_ret (de_and (dc_isi (K := K) (by rfl) T.isinstance (da_consH (DE.o (de_var 0)) (da_consH (DE.o (de_ty (by rfl) T.int bt_int)) da_nil))) (de_one (de_not (dc_isi (K := K) (by rfl) T.isinstance (da_consH (DE.o (de_var 0)) (da_consH (DE.o (de_ty (by rfl) T.bool bt_bool)) da_nil))))))))⟩
theorem ok_l_whole (T : Bt mg) (F : FunD K "_law_whole" "_law_whole" (defArgs s_l_whole) (defBody s_l_whole) (defScope s_l_whole) [] [] f fd) (hm : mg "_law_whole" = some (.ref f)) : Fn P w K mg base 1 "_law_whole" 1 sp_l_whole :=
  fn_def F sc_l_whole hm (F.bindsN fun _ _ _ _ _ _ us hl => match us, hl with | [_], _ => rfl) (fun cdv A outer s H E hr => t_l_whole T cdv A outer s H E hr) p_l_whole
abbrev s_l_cell : Stmt := top 8
theorem sc_l_cell : FnScope N_l_cell ["script", "k"] (defScope s_l_cell) := ⟨rfl, rfl, rfl, by decide +kernel, rfl, by decide +kernel, by decide +kernel⟩
theorem t_l_cell (T : Bt mg) (cdv : Value) (A : Around) (outer : List Env) (s : Shared) (H : Hp) (E : XK) (hr : Room 0 (A.deeper (envOfC "_law_cell" (defScope s_l_cell) s.heap.objs.size f cdv))) :
    ∃ ts, DSs (cxOf (L2.CX P w) P w K mg base N_l_cell "_law_cell" (defScope s_l_cell) f cdv A outer s H E) (fun c d _ H => E c d H) (defBody s_l_cell) ts b_l_cell := by
  have tk : Takes (cxOf (L2.CX P w) P w K mg base N_l_cell "_law_cell" (defScope s_l_cell) f cdv A outer s H E) (fun c d _ H => E c d H) := takes_of rfl rfl rfl rfl
  exact ⟨_, (dss_cons (ds_if (dt_lt (DE.o (de_var 1)) (DE.o (dc_len (K := K) (by rfl) T.len (da_consH (DE.o (de_var 0)) da_nil)))) (dss_one (ds_ret (de_idx (K := K) (DE.o (de_var 0)) (DE.o (de_var 1))))) dss_nil) (dss_cons (ds_set (i := 2) sc_l_cell.nd rfl (Or.inl rfl) de_int) (dss_cons (ds_for (passes_of rfl) rfl (di_seqK (K := K) (de_var 0)) (dg_name (i := 3) sc_l_cell.nd rfl (Or.inl rfl)) (dss_one (ds_set (i := 2) sc_l_cell.nd rfl (Or.inl rfl) (de_mod (DE.o (dc_int (by rfl) T.int (da_consH (DE.o (de_add (K := K) (DE.o (de_mul (DE.o (de_var 2)) (DE.o de_int))) (DE.o (de_mod (DE.o (dc_int (by rfl) T.int (da_consH (DE.o (de_var 3)) da_nil))) (DE.o de_int))))) da_nil))) (DE.o de_int))))) (dss_one (ds_ret (de_mod (DE.o (dc_int (by rfl) T.int (da_consH (DE.o (de_mul (DE.o (de_mul (DE.o (de_add (K := K) (DE.o (de_var 2)) (DE.o de_int))) (DE.o (de_add (K := K) (DE.o (de_var 1)) (DE.o de_int))))) (DE.o de_int))) da_nil))) (DE.o de_int)))))))⟩
theorem ok_l_cell (T : Bt mg) (F : FunD K "_law_cell" "_law_cell" (defArgs s_l_cell) (defBody s_l_cell) (defScope s_l_cell) [] [] f fd) (hm : mg "_law_cell" = some (.ref f)) : Fn P w K mg base 1 "_law_cell" 2 sp_l_cell :=
  fn_def F sc_l_cell hm (F.bindsN fun _ _ _ _ _ _ us hl => match us, hl with | [_, _], _ => rfl) (fun cdv A outer s H E hr => t_l_cell T cdv A outer s H E hr) p_l_cell
abbrev s_l_digits : Stmt := top 9
theorem sc_l_digits : FnScope N_l_digits ["cell", "sizes"] (defScope s_l_digits) := ⟨rfl, rfl, rfl, by decide +kernel, rfl, by decide +kernel, by decide +kernel⟩
theorem t_l_digits (T : Bt mg) (cdv : Value) (A : Around) (outer : List Env) (s : Shared) (H : Hp) (E : XK) (hr : Room 0 (A.deeper (envOfC "_law_digits" (defScope s_l_digits) s.heap.objs.size f cdv))) :
    ∃ ts, DSs (cxOf (L2.CX P w) P w K mg base N_l_digits "_law_digits" (defScope s_l_digits) f cdv A outer s H E) (fun c d _ H => E c d H) (defBody s_l_digits) ts b_l_digits := by
  have tk : Takes (cxOf (L2.CX P w) P w K mg base N_l_digits "_law_digits" (defScope s_l_digits) f cdv A outer s H E) (fun c d _ H => E c d H) := takes_of rfl rfl rfl rfl
  exact ⟨_, (dss_cons (ds_setO (i := 2) sc_l_digits.nd rfl (Or.inl rfl) (dl_lst da_nil)) (dss_cons (ds_set (i := 3) sc_l_digits.nd rfl (Or.inl rfl) (dc_int (by rfl) T.int (da_consH (DE.o (de_var 0)) da_nil))) (dss_cons (ds_if (dt_ge (DE.o (de_var 3)) (DE.o (de_pow (DE.o de_int) (DE.o de_int)))) (dss_cons (ds_set (i := 3) sc_l_digits.nd rfl (Or.inl rfl) (de_sub (DE.o (de_var 3)) (DE.o (de_pow (DE.o de_int) (DE.o de_int))))) (dss_cons (ds_for (passes_of rfl) rfl (di_seqK (K := K) (de_var 1)) (dg_name (i := 4) sc_l_digits.nd rfl (Or.inl rfl)) (dss_cons (ds_app 2 (pv 2) (de_mod (DE.o (dc_int (by rfl) T.int (da_consH (DE.o (de_var 3)) da_nil))) (DE.o (de_var 4)))) (dss_one (ds_set (i := 3) sc_l_digits.nd rfl (Or.inl rfl) (de_fdiv (DE.o (dc_int (by rfl) T.int (da_consH (DE.o (de_var 3)) da_nil))) (DE.o (de_var 4))))))) (dss_one (DS.fz 2 (ds_ret (de_var 2)))))) dss_nil) (dss_cons (ds_set (i := 5) sc_l_digits.nd rfl (Or.inl rfl) (de_mod (DE.o (dc_int (by rfl) T.int (da_consH (DE.o (de_var 3)) da_nil))) (DE.o de_int))) (dss_cons (ds_for (passes_of rfl) rfl (di_rng1 (by rfl) T.range (da_consH (DE.o (dc_len (K := K) (by rfl) T.len (da_consH (DE.o (de_var 1)) da_nil))) da_nil)) (dg_name (i := 6) sc_l_digits.nd rfl (Or.inl rfl)) (dss_cons (ds_set (i := 5) sc_l_digits.nd rfl (Or.inl rfl) (de_mod (DE.o (dc_int (by rfl) T.int (da_consH (DE.o (de_add (K := K) (DE.o (de_add (K := K) (DE.o (de_mul (DE.o (de_var 5)) (DE.o de_int))) (DE.o (de_mul (DE.o de_int) (DE.o (de_var 6)))))) (DE.o de_int))) da_nil))) (DE.o de_int))) (dss_cons (ds_set (i := 7) sc_l_digits.nd rfl (Or.inl rfl) (de_mod (DE.o (dc_int (by rfl) T.int (da_consH (DE.o (de_mul (DE.o (de_var 5)) (DE.o (de_add (K := K) (DE.o (de_fdiv (DE.o (de_var 5)) (DE.o de_int))) (DE.o de_int))))) da_nil))) (DE.o de_int))) (dss_one (ds_app 2 (pv 2) (de_mod (DE.o (dc_int (by rfl) T.int (da_consH (DE.o (de_fdiv (DE.o (de_var 7)) (DE.o de_int))) da_nil))) (DE.o (de_idx (K := K) (DE.o (de_var 1)) (DE.o (de_var 6)))))))))) (dss_one (DS.fz 2 (ds_ret (de_var 2)))))))))⟩
theorem ok_l_digits (T : Bt mg) (F : FunD K "_law_digits" "_law_digits" (defArgs s_l_digits) (defBody s_l_digits) (defScope s_l_digits) [] [] f fd) (hm : mg "_law_digits" = some (.ref f)) : Fn P w K mg base 1 "_law_digits" 2 sp_l_digits :=
  fn_def F sc_l_digits hm (F.bindsN fun _ _ _ _ _ _ us hl => match us, hl with | [_, _], _ => rfl) (fun cdv A outer s H E hr => t_l_digits T cdv A outer s H E hr) p_l_digits
abbrev s_l_same : Stmt := top 10
theorem sc_l_same : FnScope N_l_same ["told", "expected"] (defScope s_l_same) := ⟨rfl, rfl, rfl, by decide +kernel, rfl, by decide +kernel, by decide +kernel⟩
theorem t_l_same (T : Bt mg) {j : Nat} (hj : 1 ≤ j) (rec : PSp) (REC : Fn P w K mg base j "_law_same" 2 rec) (F_l_whole : Fn P w K mg base 1 "_law_whole" 1 sp_l_whole) (cdv : Value) (A : Around) (outer : List Env) (s : Shared) (H : Hp) (E : XK) (hr : Room j (A.deeper (envOfC "_law_same" (defScope s_l_same) s.heap.objs.size f cdv))) :
    ∃ ts, DSs (cxOf (L2.CX P w) P w K mg base N_l_same "_law_same" (defScope s_l_same) f cdv A outer s H E) (fun c d _ H => E c d H) (defBody s_l_same) ts (b_l_same rec) := by
  have tk : Takes (cxOf (L2.CX P w) P w K mg base N_l_same "_law_same" (defScope s_l_same) f cdv A outer s H E) (fun c d _ H => E c d H) := takes_of rfl rfl rfl rfl
  exact ⟨_, (dss_cons (ds_if (dt_isN (DE.o (de_var 1)) (DE.o de_non)) (dss_one (ds_ret (de_isN (DE.o (de_var 0)) (DE.o de_non)))) dss_nil) (dss_cons (ds_if (dt_val (dc_isi (K := K) (by rfl) T.isinstance (da_consH (DE.o (de_var 1)) (da_consH (DE.o (de_ty (by rfl) T.tuple bt_tuple)) da_nil)))) (dss_cons (ds_if (DW.t (dw_or (dt_not (dt_val (dc_isi (K := K) (by rfl) T.isinstance (da_consH (DE.o (de_var 0)) (da_consH (DE.o (de_ty (by rfl) T.tuple bt_tuple)) da_nil))))) (dw_or1 (dt_ne (K := K) hr (DE.o (dc_len (K := K) (by rfl) T.len (da_consH (DE.o (de_var 0)) da_nil))) (DE.o (dc_len (K := K) (by rfl) T.len (da_consH (DE.o (de_var 1)) da_nil))))))) (dss_one (ds_ret de_bl)) dss_nil) (dss_cons (ds_for (passes_of rfl) rfl (di_rng1 (by rfl) T.range (da_consH (DE.o (dc_len (K := K) (by rfl) T.len (da_consH (DE.o (de_var 1)) da_nil))) da_nil)) (dg_name (i := 2) sc_l_same.nd rfl (Or.inl rfl)) (dss_one (ds_if (dt_not (dt_val (de_callK (K := K) (mg := mg) REC (hr.mono (by omega)) (by rfl) tk (da_consA (de_idx (K := K) (DE.o (de_var 0)) (DE.o (de_var 2))) (da_consA (de_idx (K := K) (DE.o (de_var 1)) (DE.o (de_var 2))) da_nil))))) (dss_one (ds_ret de_bl)) dss_nil))) (dss_one (ds_ret de_bl)))) dss_nil) (dss_one (ds_ret (de_and (de_callK (K := K) (mg := mg) F_l_whole (hr.mono (by first | decide | omega)) (by rfl) tk (da_consA (de_var 0) da_nil)) (de_one (de_eq (K := K) hr (DE.o (de_var 0)) (DE.o (de_var 1)))))))))⟩
abbrev s_l_others : Stmt := top 11
theorem sc_l_others : FnScope N_l_others ["houses", "house"] (defScope s_l_others) := ⟨rfl, rfl, rfl, by decide +kernel, rfl, by decide +kernel, by decide +kernel⟩
theorem t_l_others (T : Bt mg) (cdv : Value) (A : Around) (outer : List Env) (s : Shared) (H : Hp) (E : XK) (hr : Room 0 (A.deeper (envOfC "_law_others" (defScope s_l_others) s.heap.objs.size f cdv))) :
    ∃ ts, DSs (cxOf (L2.CX P w) P w K mg base N_l_others "_law_others" (defScope s_l_others) f cdv A outer s H E) (fun c d _ H => E c d H) (defBody s_l_others) ts b_l_others := by
  have tk : Takes (cxOf (L2.CX P w) P w K mg base N_l_others "_law_others" (defScope s_l_others) f cdv A outer s H E) (fun c d _ H => E c d H) := takes_of rfl rfl rfl rfl
  exact ⟨_, (dss_one (ds_ret (DL.v (dl_comp rfl sc_l_others.nd (own := [("other", 2)]) (di_rng1 (by rfl) T.range (da_consH (DE.o (de_var 0)) da_nil)) (blkOk_by (N := N_l_others) (sc := defScope s_l_others) (by decide +kernel)) (fun _ _ _ _ _ => (dg_name (i := 2) sc_l_others.nd rfl (Or.inl rfl))) (by decide) (fun _ _ _ _ _ => (dts_one (dt_ne (K := K) hr (DE.o (de_var 2)) (DE.o (de_var 1))))) (fun _ _ _ _ _ => (de_var 2))))))⟩
theorem ok_l_others (T : Bt mg) (F : FunD K "_law_others" "_law_others" (defArgs s_l_others) (defBody s_l_others) (defScope s_l_others) [] [] f fd) (hm : mg "_law_others" = some (.ref f)) : Fn P w K mg base 1 "_law_others" 2 sp_l_others :=
  fn_def F sc_l_others hm (F.bindsN fun _ _ _ _ _ _ us hl => match us, hl with | [_, _], _ => rfl) (fun cdv A outer s H E hr => t_l_others T cdv A outer s H E hr) p_l_others
abbrev s_l_letters : Stmt := top 12
theorem sc_l_letters : FnScope N_l_letters ["houses"] (defScope s_l_letters) := ⟨rfl, rfl, rfl, by decide +kernel, rfl, by decide +kernel, by decide +kernel⟩
theorem t_l_letters (T : Bt mg) (F_l_others : Fn P w K mg base 1 "_law_others" 2 sp_l_others) (cdv : Value) (A : Around) (outer : List Env) (s : Shared) (H : Hp) (E : XK) (hr : Room 1 (A.deeper (envOfC "_law_letters" (defScope s_l_letters) s.heap.objs.size f cdv))) :
    ∃ ts, DSs (cxOf (L2.CX P w) P w K mg base N_l_letters "_law_letters" (defScope s_l_letters) f cdv A outer s H E) (fun c d _ H => E c d H) (defBody s_l_letters) ts b_l_letters := by
  have tk : Takes (cxOf (L2.CX P w) P w K mg base N_l_letters "_law_letters" (defScope s_l_letters) f cdv A outer s H E) (fun c d _ H => E c d H) := takes_of rfl rfl rfl rfl
  exact ⟨_, (dss_cons (ds_setO (i := 1) sc_l_letters.nd rfl (Or.inl rfl) (dl_lst da_nil)) (dss_cons (ds_for (passes_of rfl) rfl (di_rng1 (by rfl) T.range (da_consH (DE.o (de_var 0)) da_nil)) (dg_name (i := 2) sc_l_letters.nd rfl (Or.inl rfl)) (dss_one (ds_for (passes_of rfl) rfl (di_seqK (K := K) (de_callK (K := K) (mg := mg) F_l_others (hr.mono (by first | decide | omega)) (by rfl) tk (da_consA (de_var 0) (da_consA (de_var 2) da_nil)))) (dg_name (i := 3) sc_l_letters.nd rfl (Or.inl rfl)) (dss_one (ds_app 1 (pv 1) (de_tup (da_consA (de_var 2) (da_consA (de_var 3) da_nil)))))))) (dss_one (DS.fz 1 (ds_ret (de_var 1))))))⟩
theorem ok_l_letters (T : Bt mg) (F_l_others : Fn P w K mg base 1 "_law_others" 2 sp_l_others) (F : FunD K "_law_letters" "_law_letters" (defArgs s_l_letters) (defBody s_l_letters) (defScope s_l_letters) [] [] f fd) (hm : mg "_law_letters" = some (.ref f)) : Fn P w K mg base 2 "_law_letters" 1 sp_l_letters :=
  fn_def F sc_l_letters hm (F.bindsN fun _ _ _ _ _ _ us hl => match us, hl with | [_], _ => rfl) (fun cdv A outer s H E hr => t_l_letters T F_l_others cdv A outer s H E hr) p_l_letters
abbrev s_l_setting : Stmt := top 13
theorem sc_l_setting : FnScope N_l_setting ["cell"] (defScope s_l_setting) := ⟨rfl, rfl, rfl, by decide +kernel, rfl, by decide +kernel, by decide +kernel⟩
theorem t_l_setting (T : Bt mg) (F_l_digits : Fn P w K mg base 1 "_law_digits" 2 sp_l_digits) (cdv : Value) (A : Around) (outer : List Env) (s : Shared) (H : Hp) (E : XK) (hr : Room 1 (A.deeper (envOfC "_law_setting" (defScope s_l_setting) s.heap.objs.size f cdv))) :
    ∃ ts, DSs (cxOf (L2.CX P w) P w K mg base N_l_setting "_law_setting" (defScope s_l_setting) f cdv A outer s H E) (fun c d _ H => E c d H) (defBody s_l_setting) ts b_l_setting := by
  have tk : Takes (cxOf (L2.CX P w) P w K mg base N_l_setting "_law_setting" (defScope s_l_setting) f cdv A outer s H E) (fun c d _ H => E c d H) := takes_of rfl rfl rfl rfl
  exact ⟨_, (dss_cons (ds_set (i := 1) sc_l_setting.nd rfl (Or.inl rfl) (de_callK (K := K) (mg := mg) F_l_digits (hr.mono (by first | decide | omega)) (by rfl) tk (da_consA (de_var 0) (da_consA (DL.v (dl_lst (da_consA de_int (da_consA de_int (da_consA de_int (da_consA de_int (da_consA de_int (da_consA de_int (da_consA de_int (da_consA de_int da_nil)))))))))) da_nil)))) (dss_cons (ds_set (i := 2) sc_l_setting.nd rfl (Or.inl rfl) (de_idx (K := K) (DE.o (DL.v (dl_lst (da_consA de_int (da_consA de_int (da_consA de_int (da_consA de_int (da_consA de_int (da_consA de_int (da_consA de_int (da_consA de_int da_nil))))))))))) (DE.o (de_idx (K := K) (DE.o (de_var 1)) (DE.o de_int))))) (dss_cons (ds_set (i := 3) sc_l_setting.nd rfl (Or.inl rfl) (de_idx (K := K) (DE.o (DL.v (dl_lst (da_consA de_str (da_consA de_str (da_consA de_str (da_consA de_str da_nil))))))) (DE.o (de_idx (K := K) (DE.o (de_var 1)) (DE.o de_int))))) (dss_cons (ds_if (dt_eq (K := K) hr (DE.o (de_var 2)) (DE.o de_int)) (dss_one (ds_set (i := 3) sc_l_setting.nd rfl (Or.inl rfl) (de_idx (K := K) (DE.o (DL.v (dl_lst (da_consA de_str (da_consA de_str (da_consA de_str (da_consA de_str da_nil))))))) (DE.o (de_idx (K := K) (DE.o (de_var 1)) (DE.o de_int)))))) dss_nil) (dss_cons (ds_if (dt_lt (DE.o (de_idx (K := K) (DE.o (de_var 1)) (DE.o de_int))) (DE.o de_int)) (dss_cons (ds_set (i := 4) sc_l_setting.nd rfl (Or.inl rfl) (de_add (K := K) (DE.o de_int) (DE.o (de_idx (K := K) (DE.o (de_var 1)) (DE.o de_int))))) (dss_cons (ds_set (i := 5) sc_l_setting.nd rfl (Or.inl rfl) (de_idx (K := K) (DE.o (DL.v (dl_lst (da_consA (de_sub (DE.o (de_var 4)) (DE.o de_int)) (da_consA (de_mod (DE.o (dc_int (by rfl) T.int (da_consH (DE.o (de_idx (K := K) (DE.o (de_var 1)) (DE.o de_int))) da_nil))) (DE.o (de_var 4))) (da_consA (dc_max rfl (by rfl) T.max (da_consH (DE.o de_int) (da_consH (DE.o (de_mod (DE.o (dc_int (by rfl) T.int (da_consH (DE.o (de_idx (K := K) (DE.o (de_var 1)) (DE.o de_int))) da_nil))) (DE.o (de_var 4)))) da_nil))) da_nil)))))) (DE.o (de_idx (K := K) (DE.o (de_var 1)) (DE.o de_int))))) (dss_one (ds_ret (de_tup (da_consA de_str (da_consA (de_var 4) (da_consA (de_var 5) (da_consA (de_add (K := K) (DE.o de_int) (DE.o (de_idx (K := K) (DE.o (de_var 1)) (DE.o de_int)))) (da_consA (de_var 2) (da_consA (de_var 3) (da_consA (de_idx (K := K) (DE.o (DL.v (dl_lst (da_consA de_str (da_consA de_str da_nil))))) (DE.o (de_idx (K := K) (DE.o (de_var 1)) (DE.o de_int)))) da_nil)))))))))))) dss_nil) (dss_cons (ds_set (i := 4) sc_l_setting.nd rfl (Or.inl rfl) (de_add (K := K) (DE.o de_int) (DE.o (de_mod (DE.o (dc_int (by rfl) T.int (da_consH (DE.o (de_idx (K := K) (DE.o (de_var 1)) (DE.o de_int))) da_nil))) (DE.o de_int))))) (dss_cons (ds_set (i := 6) sc_l_setting.nd rfl (Or.inl rfl) (de_idx (K := K) (DE.o (DL.v (dl_lst (da_consA de_int (da_consA de_int (da_consA (de_mod (DE.o (dc_int (by rfl) T.int (da_consH (DE.o (de_idx (K := K) (DE.o (de_var 1)) (DE.o de_int))) da_nil))) (DE.o (de_add (K := K) (DE.o (de_mul (DE.o (de_var 4)) (DE.o (de_sub (DE.o (de_var 4)) (DE.o de_int))))) (DE.o de_int)))) da_nil)))))) (DE.o (de_idx (K := K) (DE.o (de_var 1)) (DE.o de_int))))) (dss_one (ds_ret (de_tup (da_consA de_str (da_consA (de_var 4) (da_consA (de_var 6) (da_consA (de_add (K := K) (DE.o de_int) (DE.o (de_mod (DE.o (dc_int (by rfl) T.int (da_consH (DE.o (de_idx (K := K) (DE.o (de_var 1)) (DE.o de_int))) da_nil))) (DE.o de_int)))) (da_consA (de_var 2) (da_consA (de_var 3) da_nil))))))))))))))))⟩
theorem ok_l_setting (T : Bt mg) (F_l_digits : Fn P w K mg base 1 "_law_digits" 2 sp_l_digits) (F : FunD K "_law_setting" "_law_setting" (defArgs s_l_setting) (defBody s_l_setting) (defScope s_l_setting) [] [] f fd) (hm : mg "_law_setting" = some (.ref f)) : Fn P w K mg base 2 "_law_setting" 1 sp_l_setting :=
  fn_def F sc_l_setting hm (F.bindsN fun _ _ _ _ _ _ us hl => match us, hl with | [_], _ => rfl) (fun cdv A outer s H E hr => t_l_setting T F_l_digits cdv A outer s H E hr) p_l_setting
abbrev s_l_lossy : Stmt := top 15
theorem sc_l_lossy : FnScope N_l_lossy ["setting", "cell", "more"] (defScope s_l_lossy) := ⟨rfl, rfl, rfl, by decide +kernel, rfl, by decide +kernel, by decide +kernel⟩
theorem t_l_lossy (T : Bt mg) (F_l_letters : Fn P w K mg base 2 "_law_letters" 1 sp_l_letters) (F_l_digits : Fn P w K mg base 1 "_law_digits" 2 sp_l_digits) (cdv : Value) (A : Around) (outer : List Env) (s : Shared) (H : Hp) (E : XK) (hr : Room 2 (A.deeper (envOfC "_law_lossy" (defScope s_l_lossy) s.heap.objs.size f cdv))) :
    ∃ ts, DSs (cxOf (L2.CX P w) P w K mg base N_l_lossy "_law_lossy" (defScope s_l_lossy) f cdv A outer s H E) (fun c d _ H => E c d H) (defBody s_l_lossy) ts b_l_lossy := by
  have tk : Takes (cxOf (L2.CX P w) P w K mg base N_l_lossy "_law_lossy" (defScope s_l_lossy) f cdv A outer s H E) (fun c d _ H => E c d H) := takes_of rfl rfl rfl rfl
  exact ⟨_, (dss_cons (ds_set (i := 3) sc_l_lossy.nd rfl (Or.inr rfl) (de_idx (K := K) (DE.o (de_var 0)) (DE.o de_int))) (dss_cons (ds_set (i := 4) sc_l_lossy.nd rfl (Or.inl rfl) (de_callK (K := K) (mg := mg) F_l_letters (hr.mono (by first | decide | omega)) (by rfl) tk (da_consA (de_var 3) da_nil))) (dss_cons (ds_set (i := 5) sc_l_lossy.nd rfl (Or.inr rfl) (de_callK (K := K) (mg := mg) F_l_digits (hr.mono (by first | decide | omega)) (by rfl) tk (da_consA (de_var 1) (da_consA (de_add (K := K) (DE.o (de_add (K := K) (DE.o (de_mul (DE.o (DL.v (dl_lst (da_consA de_int da_nil)))) (DE.o (de_var 3)))) (DE.o (DL.v (dl_lst (da_consA de_int (da_consA de_int da_nil))))))) (DE.o (de_mul (DE.o (DL.v (dl_lst (da_consA de_int (da_consA de_int da_nil))))) (DE.o (de_idx (K := K) (DE.o (de_var 0)) (DE.o de_int)))))) da_nil)))) (dss_cons (ds_set (i := 6) sc_l_lossy.nd rfl (Or.inl rfl) (de_callK (K := K) (mg := mg) F_l_digits (hr.mono (by first | decide | omega)) (by rfl) tk (da_consA (de_var 2) (da_consA (de_mul (DE.o (DL.v (dl_lst (da_consA de_int da_nil)))) (DE.o (de_mul (DE.o (dc_len (K := K) (by rfl) T.len (da_consH (DE.o (de_var 4)) da_nil))) (DE.o (de_idx (K := K) (DE.o (de_var 0)) (DE.o de_int)))))) da_nil)))) (dss_cons (ds_setLc (i := 8) rfl sc_l_lossy.nd rfl rfl (sw_true rfl rfl rfl (by decide +kernel)) (own := [("k", 7)]) (di_rng1 (by rfl) T.range (da_consH (DE.o (de_var 3)) da_nil)) (blkOk_by (N := N_l_lossy) (sc := defScope s_l_lossy) (by decide +kernel)) (fun _ _ _ _ _ => (dg_name (i := 7) sc_l_lossy.nd rfl (Or.inl rfl))) (by decide) (fun _ _ _ _ _ => dts_nil) (fun _ _ _ _ _ => (de_mod (DE.o (dc_int (by rfl) T.int (da_consH (DE.o (de_idx (K := K) (DE.o (de_var 5)) (DE.o (de_mul (DE.o (de_var 7)) (DE.o (dc_int (by rfl) T.int (da_consH (DE.o (de_gt (DE.o (de_idx (K := K) (DE.o (de_var 5)) (DE.o (de_var 3)))) (DE.o de_int))) da_nil))))))) da_nil))) (DE.o (de_idx (K := K) (DE.o (de_var 0)) (DE.o de_int)))))) (dss_cons (ds_setO (i := 9) sc_l_lossy.nd rfl (Or.inl rfl) (dl_lst da_nil)) (dss_cons (ds_for (passes_of rfl) rfl (di_rng1 (by rfl) T.range (da_consH (DE.o (de_idx (K := K) (DE.o (de_var 0)) (DE.o de_int))) da_nil)) (dg_name (i := 10) sc_l_lossy.nd rfl (Or.inl rfl)) (dss_cons (ds_set (i := 11) sc_l_lossy.nd rfl (Or.inl rfl) (de_mul (DE.o (de_idx (K := K) (DE.o (de_var 5)) (DE.o (de_add (K := K) (DE.o (de_add (K := K) (DE.o (de_var 3)) (DE.o de_int))) (DE.o (de_mul (DE.o de_int) (DE.o (de_var 10)))))))) (DE.o (dc_int (by rfl) T.int (da_consH (DE.o (de_gt (DE.o (de_idx (K := K) (DE.o (de_var 5)) (DE.o (de_add (K := K) (DE.o (de_var 3)) (DE.o de_int))))) (DE.o de_int))) da_nil))))) (dss_cons (ds_setO (i := 12) sc_l_lossy.nd rfl (Or.inl rfl) (dl_lst da_nil)) (dss_cons (ds_for (passes_of rfl) rfl (di_rng1 (by rfl) T.range (da_consH (DE.o (dc_len (K := K) (by rfl) T.len (da_consH (DE.o (de_var 4)) da_nil))) da_nil)) (dg_name (i := 7) sc_l_lossy.nd rfl (Or.inl rfl)) (dss_cons (ds_set (i := 13) sc_l_lossy.nd rfl (Or.inl rfl) (de_mod (DE.o (dc_int (by rfl) T.int (da_consH (DE.o (de_add (K := K) (DE.o (de_idx (K := K) (DE.o (de_var 5)) (DE.o (de_add (K := K) (DE.o (de_add (K := K) (DE.o (de_var 3)) (DE.o de_int))) (DE.o (de_mul (DE.o de_int) (DE.o (de_var 10)))))))) (DE.o (de_var 7)))) da_nil))) (DE.o (dc_len (K := K) (by rfl) T.len (da_consH (DE.o (de_var 4)) da_nil))))) (dss_one (ds_if (DW.t (dw_and (dt_lt (DE.o (dc_len (K := K) (by rfl) T.len (da_consH (de_own 12) da_nil))) (DE.o (de_idx (K := K) (DE.o (de_var 0)) (DE.o de_int)))) (dw_and1 (DW.t (dw_or (dt_eq (K := K) hr (DE.o (de_var 11)) (DE.o de_int)) (dw_or1 (DW.t (dw_and (dt_gt (DE.o (de_var 11)) (DE.o de_int)) (dw_and1 (dt_eq (K := K) hr (DE.o (de_idx (K := K) (DE.o (de_var 6)) (DE.o (de_add (K := K) (DE.o (de_mul (DE.o (de_var 10)) (DE.o (dc_len (K := K) (by rfl) T.len (da_consH (DE.o (de_var 4)) da_nil))))) (DE.o (de_var 13)))))) (DE.o de_int))))))))))) (dss_one (ds_app 12 (pv 12) (de_idx (K := K) (DE.o (de_var 4)) (DE.o (de_var 13))))) dss_nil)))) (dss_one (ds_app 9 (pv 9) (dc_tuple (K := K) (by rfl) T.tuple (da_consH (DE.o (dc_sorted (K := K) (by rfl) T.sorted (da_consH (de_own 12) da_nil))) da_nil)))))))) (dss_one (ds_ret (de_tup (da_consA (dc_tuple (K := K) (by rfl) T.tuple (da_consH (DE.o (de_var 8)) da_nil)) (da_consA (dc_tuple (K := K) (by rfl) T.tuple (da_consH (de_own 9) da_nil)) da_nil))))))))))))⟩
theorem ok_l_lossy (T : Bt mg) (F_l_letters : Fn P w K mg base 2 "_law_letters" 1 sp_l_letters) (F_l_digits : Fn P w K mg base 1 "_law_digits" 2 sp_l_digits) (F : FunD K "_law_lossy" "_law_lossy" (defArgs s_l_lossy) (defBody s_l_lossy) (defScope s_l_lossy) [] [] f fd) (hm : mg "_law_lossy" = some (.ref f)) : Fn P w K mg base 3 "_law_lossy" 3 sp_l_lossy :=
  fn_def F sc_l_lossy hm (F.bindsN fun _ _ _ _ _ _ us hl => match us, hl with | [_, _, _], _ => rfl) (fun cdv A outer s H E hr => t_l_lossy T F_l_letters F_l_digits cdv A outer s H E hr) p_l_lossy
abbrev s_l_story : Stmt := top 14
theorem sc_l_story : FnScope N_l_story ["setting", "cell", "more"] (defScope s_l_story) := ⟨rfl, rfl, rfl, by decide +kernel, rfl, by decide +kernel, by decide +kernel⟩
theorem t_l_story (T : Bt mg) (F_l_lossy : Fn P w K mg base 3 "_law_lossy" 3 sp_l_lossy) (F_l_digits : Fn P w K mg base 1 "_law_digits" 2 sp_l_digits) (F_l_others : Fn P w K mg base 1 "_law_others" 2 sp_l_others) (cdv : Value) (A : Around) (outer : List Env) (s : Shared) (H : Hp) (E : XK) (hr : Room 3 (A.deeper (envOfC "_law_story" (defScope s_l_story) s.heap.objs.size f cdv))) :
    ∃ ts, DSs (cxOf (L2.CX P w) P w K mg base N_l_story "_law_story" (defScope s_l_story) f cdv A outer s H E) (fun c d _ H => E c d H) (defBody s_l_story) ts b_l_story := by
  have tk : Takes (cxOf (L2.CX P w) P w K mg base N_l_story "_law_story" (defScope s_l_story) f cdv A outer s H E) (fun c d _ H => E c d H) := takes_of rfl rfl rfl rfl
  exact ⟨_, (dss_cons (ds_set (i := 3) sc_l_story.nd rfl (Or.inr rfl) (de_idx (K := K) (DE.o (de_var 0)) (DE.o de_int))) (dss_cons (ds_if (dt_eq (K := K) hr (DE.o (de_idx (K := K) (DE.o (de_var 0)) (DE.o de_int))) (DE.o de_str)) (dss_one (ds_ret (de_callK (K := K) (mg := mg) F_l_lossy (hr.mono (by first | decide | omega)) (by rfl) tk (da_consA (de_var 0) (da_consA (de_var 1) (da_consA (de_var 2) da_nil)))))) dss_nil) (dss_cons (ds_set (i := 4) sc_l_story.nd rfl (Or.inr rfl) (de_callK (K := K) (mg := mg) F_l_digits (hr.mono (by first | decide | omega)) (by rfl) tk (da_consA (de_var 1) (da_consA (de_add (K := K) (DE.o (de_add (K := K) (DE.o (de_mul (DE.o (DL.v (dl_lst (da_consA de_int da_nil)))) (DE.o (de_var 3)))) (DE.o (DL.v (dl_lst (da_consA de_int (da_consA (de_var 3) (da_consA de_int da_nil)))))))) (DE.o (de_mul (DE.o (DL.v (dl_lst (da_consA de_int (da_consA de_int (da_consA de_int (da_consA de_int (da_consA de_int (da_consA de_int (da_consA de_int da_nil)))))))))) (DE.o (de_var 3))))) da_nil)))) (dss_cons (ds_setLc (i := 6) rfl sc_l_story.nd rfl rfl (sw_true rfl rfl rfl (by decide +kernel)) (own := [("k", 5)]) (di_rng1 (by rfl) T.range (da_consH (DE.o (de_var 3)) da_nil)) (blkOk_by (N := N_l_story) (sc := defScope s_l_story) (by decide +kernel)) (fun _ _ _ _ _ => (dg_name (i := 5) sc_l_story.nd rfl (Or.inl rfl))) (by decide) (fun _ _ _ _ _ => dts_nil) (fun _ _ _ _ _ => (de_mod (DE.o (dc_int (by rfl) T.int (da_consH (DE.o (de_idx (K := K) (DE.o (de_var 4)) (DE.o (de_mul (DE.o (de_var 5)) (DE.o (dc_int (by rfl) T.int (da_consH (DE.o (de_gt (DE.o (de_idx (K := K) (DE.o (de_var 4)) (DE.o (de_var 3)))) (DE.o de_int))) da_nil))))))) da_nil))) (DE.o (de_idx (K := K) (DE.o (de_var 0)) (DE.o de_int)))))) (dss_cons (ds_setLcO (i := 8) rfl sc_l_story.nd rfl rfl (sw_true rfl rfl rfl (by decide +kernel)) (own := [("house", 7)]) (di_rng1 (by rfl) T.range (da_consH (DE.o (de_var 3)) da_nil)) (blkOk_by (N := N_l_story) (sc := defScope s_l_story) (by decide +kernel)) (fun _ _ _ _ _ => (dg_name (i := 7) sc_l_story.nd rfl (Or.inl rfl))) (by decide) (fun _ _ _ _ _ => dts_nil) (fun _ _ _ _ _ => de_non)) (dss_cons (ds_set (i := 9) sc_l_story.nd rfl (Or.inl rfl) (de_mul (DE.o (de_idx (K := K) (DE.o (de_var 0)) (DE.o de_int))) (DE.o (dc_int (by rfl) T.int (da_consH (DE.o (de_gt (DE.o (de_idx (K := K) (DE.o (de_var 4)) (DE.o (de_add (K := K) (DE.o (de_var 3)) (DE.o de_int))))) (DE.o de_int))) da_nil))))) (dss_cons (ds_for (passes_of rfl) rfl (di_rng1 (by rfl) T.range (da_consH (DE.o (de_var 3)) da_nil)) (dg_name (i := 5) sc_l_story.nd rfl (Or.inl rfl)) (dss_cons (ds_set (i := 7) sc_l_story.nd rfl (Or.inl rfl) (de_mod (DE.o (dc_int (by rfl) T.int (da_consH (DE.o (de_add (K := K) (DE.o (de_var 5)) (DE.o (de_idx (K := K) (DE.o (de_var 4)) (DE.o (de_add (K := K) (DE.o (de_var 3)) (DE.o de_int))))))) da_nil))) (DE.o (de_var 3)))) (dss_cons (ds_set (i := 10) sc_l_story.nd rfl (Or.inr rfl) (de_cut (K := K) (DE.o (de_var 4)) (dp_some (de_add (K := K) (DE.o (de_add (K := K) (DE.o (de_var 3)) (DE.o de_int))) (DE.o (de_mul (DE.o de_int) (DE.o (de_var 5)))))) (dp_some (de_add (K := K) (DE.o (de_add (K := K) (DE.o (de_var 3)) (DE.o de_int))) (DE.o (de_mul (DE.o de_int) (DE.o (de_var 5)))))))) (dss_one (ds_if (DW.t (dw_and (dt_gt (DE.o (de_var 9)) (DE.o de_int)) (dw_and1 (DW.t (dw_or (dt_lt (DE.o (de_idx (K := K) (DE.o (de_var 10)) (DE.o de_int))) (DE.o de_int)) (dw_or1 (dt_eq (K := K) hr (DE.o (de_idx (K := K) (DE.o (de_var 4)) (DE.o (de_add (K := K) (DE.o (de_var 3)) (DE.o de_int))))) (DE.o de_int)))))))) (dss_cons (ds_set (i := 9) sc_l_story.nd rfl (Or.inl rfl) (de_sub (DE.o (de_var 9)) (DE.o de_int))) (dss_cons (ds_set (i := 11) sc_l_story.nd rfl (Or.inl rfl) (de_add (K := K) (DE.o de_int) (DE.o (de_mod (DE.o (dc_int (by rfl) T.int (da_consH (DE.o (de_idx (K := K) (DE.o (DL.v (dl_lst (da_consA (de_idx (K := K) (DE.o (de_var 10)) (DE.o de_int)) (da_consA (de_var 5) (da_consA (de_idx (K := K) (DE.o (de_var 10)) (DE.o de_int)) da_nil)))))) (DE.o (de_mod (DE.o (dc_int (by rfl) T.int (da_consH (DE.o (de_idx (K := K) (DE.o (de_var 10)) (DE.o de_int))) da_nil))) (DE.o de_int))))) da_nil))) (DE.o (de_idx (K := K) (DE.o (de_var 0)) (DE.o de_int))))))) (dss_cons (ds_set (i := 12) sc_l_story.nd rfl (Or.inr rfl) (de_callK (K := K) (mg := mg) F_l_others (hr.mono (by first | decide | omega)) (by rfl) tk (da_consA (de_var 3) (da_consA (de_var 7) da_nil)))) (dss_cons (ds_setLc (i := 13) rfl sc_l_story.nd rfl rfl (sw_true rfl rfl rfl (by decide +kernel)) (own := [("j", 14)]) (di_rng1 (by rfl) T.range (da_consH (DE.o (dc_len (K := K) (by rfl) T.len (da_consH (DE.o (de_var 12)) da_nil))) da_nil)) (blkOk_by (N := N_l_story) (sc := defScope s_l_story) (by decide +kernel)) (fun _ _ _ _ _ => (dg_name (i := 14) sc_l_story.nd rfl (Or.inl rfl))) (by decide) (fun _ _ _ _ _ => (dts_one (DW.t (dw_or (DW.t (dw_and (dt_eq (K := K) hr (DE.o (de_idx (K := K) (DE.o (de_var 10)) (DE.o (de_add (K := K) (DE.o de_int) (DE.o (de_var 14)))))) (DE.o de_int)) (dw_and1 (dt_gt (DE.o (de_idx (K := K) (DE.o (de_var 10)) (DE.o de_int))) (DE.o de_int))))) (dw_or1 (dt_eq (K := K) hr (DE.o (de_idx (K := K) (DE.o (de_var 10)) (DE.o de_int))) (DE.o de_int))))))) (fun _ _ _ _ _ => (de_idx (K := K) (DE.o (de_var 12)) (DE.o (de_var 14))))) (dss_one (ds_putIx 8 (pv 8) (de_tup (da_consA (de_var 11) (da_consA (dc_tuple (K := K) (by rfl) T.tuple (da_consH (DE.o (de_var 13)) da_nil)) da_nil))) (de_var 7))))))) dss_nil))))) (dss_one (ds_ret (de_tup (da_consA (dc_tuple (K := K) (by rfl) T.tuple (da_consH (DE.o (de_var 6)) da_nil)) (da_consA (dc_tuple (K := K) (by rfl) T.tuple (da_consH (de_own 8) da_nil)) da_nil))))))))))))⟩
theorem ok_l_story (T : Bt mg) (F_l_lossy : Fn P w K mg base 3 "_law_lossy" 3 sp_l_lossy) (F_l_digits : Fn P w K mg base 1 "_law_digits" 2 sp_l_digits) (F_l_others : Fn P w K mg base 1 "_law_others" 2 sp_l_others) (F : FunD K "_law_story" "_law_story" (defArgs s_l_story) (defBody s_l_story) (defScope s_l_story) [] [] f fd) (hm : mg "_law_story" = some (.ref f)) : Fn P w K mg base 4 "_law_story" 3 sp_l_story :=
  fn_def F sc_l_story hm (F.bindsN fun _ _ _ _ _ _ us hl => match us, hl with | [_, _, _], _ => rfl) (fun cdv A outer s H E hr => t_l_story T F_l_lossy F_l_digits F_l_others cdv A outer s H E hr) p_l_story
abbrev s_l_passed : Stmt := top 16
theorem sc_l_passed : FnScope N_l_passed ["setting", "lists"] (defScope s_l_passed) := ⟨rfl, rfl, rfl, by decide +kernel, rfl, by decide +kernel, by decide +kernel⟩
theorem t_l_passed (T : Bt mg) (cdv : Value) (A : Around) (outer : List Env) (s : Shared) (H : Hp) (E : XK) (hr : Room 0 (A.deeper (envOfC "_law_passed" (defScope s_l_passed) s.heap.objs.size f cdv))) :
    ∃ ts, DSs (cxOf (L2.CX P w) P w K mg base N_l_passed "_law_passed" (defScope s_l_passed) f cdv A outer s H E) (fun c d _ H => E c d H) (defBody s_l_passed) ts b_l_passed := by
  have tk : Takes (cxOf (L2.CX P w) P w K mg base N_l_passed "_law_passed" (defScope s_l_passed) f cdv A outer s H E) (fun c d _ H => E c d H) := takes_of rfl rfl rfl rfl
  exact ⟨_, (dss_one (ds_ret (de_idx (K := K) (DE.o (DL.v (dl_lst (da_consA (de_var 0) (da_consA (dc_list (K := K) (by rfl) T.list (da_consH (DE.o (de_var 0)) da_nil)) da_nil))))) (DE.o (dc_int (by rfl) T.int (da_consH (DE.o (de_var 1)) da_nil))))))⟩
theorem ok_l_passed (T : Bt mg) (F : FunD K "_law_passed" "_law_passed" (defArgs s_l_passed) (defBody s_l_passed) (defScope s_l_passed) [] [] f fd) (hm : mg "_law_passed" = some (.ref f)) : Fn P w K mg base 1 "_law_passed" 2 sp_l_passed :=
  fn_def F sc_l_passed hm (F.bindsN fun _ _ _ _ _ _ us hl => match us, hl with | [_, _], _ => rfl) (fun cdv A outer s H E hr => t_l_passed T cdv A outer s H E hr) p_l_passed
abbrev s_l_form : Stmt := top 17
theorem sc_l_form : FnScope N_l_form ["setting", "story", "lists"] (defScope s_l_form) := ⟨rfl, rfl, rfl, by decide +kernel, rfl, by decide +kernel, by decide +kernel⟩
theorem t_l_form (T : Bt mg) (cdv : Value) (A : Around) (outer : List Env) (s : Shared) (H : Hp) (E : XK) (hr : Room 0 (A.deeper (envOfC "_law_form" (defScope s_l_form) s.heap.objs.size f cdv))) :
    ∃ ts, DSs (cxOf (L2.CX P w) P w K mg base N_l_form "_law_form" (defScope s_l_form) f cdv A outer s H E) (fun c d _ H => E c d H) (defBody s_l_form) ts b_l_form := by
  have tk : Takes (cxOf (L2.CX P w) P w K mg base N_l_form "_law_form" (defScope s_l_form) f cdv A outer s H E) (fun c d _ H => E c d H) := takes_of rfl rfl rfl rfl
  exact ⟨_, (dss_cons (ds_if (dt_not (dt_val (de_var 2))) (dss_one (ds_ret (de_var 1))) dss_nil) (dss_cons (ds_setO (i := 3) sc_l_form.nd rfl (Or.inl rfl) (dl_lst da_nil)) (dss_cons (ds_for (passes_of rfl) rfl (di_seqK (K := K) (de_idx (K := K) (DE.o (de_var 1)) (DE.o de_int))) (dg_name (i := 4) sc_l_form.nd rfl (Or.inl rfl)) (dss_one (ds_if (dt_isN (DE.o (de_var 4)) (DE.o de_non)) (dss_one (ds_app 3 (pv 3) de_non)) (dss_one (ds_if (dt_eq (K := K) hr (DE.o (de_idx (K := K) (DE.o (de_var 0)) (DE.o de_int))) (DE.o de_str)) (dss_one (ds_app 3 (pv 3) (DL.v (dl_lst (da_consA (de_idx (K := K) (DE.o (de_var 4)) (DE.o de_int)) (da_consA (dc_list (K := K) (by rfl) T.list (da_consH (DE.o (de_idx (K := K) (DE.o (de_var 4)) (DE.o de_int))) da_nil)) da_nil)))))) (dss_one (ds_app 3 (pv 3) (DL.v (dl_comp rfl sc_l_form.nd (own := [("pair", 5)]) (di_seqK (K := K) (de_var 4)) (blkOk_by (N := N_l_form) (sc := defScope s_l_form) (by decide +kernel)) (fun _ _ _ _ _ => (dg_name (i := 5) sc_l_form.nd rfl (Or.inl rfl))) (by decide) (fun _ _ _ _ _ => dts_nil) (fun _ _ _ _ _ => (dc_list (K := K) (by rfl) T.list (da_consH (DE.o (de_var 5)) da_nil)))))))))))) (dss_one (DS.fz 3 (ds_ret (DL.v (dl_lst (da_consA (dc_list (K := K) (by rfl) T.list (da_consH (DE.o (de_idx (K := K) (DE.o (de_var 1)) (DE.o de_int))) da_nil)) (da_consA (de_var 3) da_nil))))))))))⟩
theorem ok_l_form (T : Bt mg) (F : FunD K "_law_form" "_law_form" (defArgs s_l_form) (defBody s_l_form) (defScope s_l_form) [] [] f fd) (hm : mg "_law_form" = some (.ref f)) : Fn P w K mg base 1 "_law_form" 3 sp_l_form :=
  fn_def F sc_l_form hm (F.bindsN fun _ _ _ _ _ _ us hl => match us, hl with | [_, _, _], _ => rfl) (fun cdv A outer s H E hr => t_l_form T cdv A outer s H E hr) p_l_form
abbrev s_l_counts : Stmt := top 18
theorem sc_l_counts : FnScope N_l_counts ["setting", "story"] (defScope s_l_counts) := ⟨rfl, rfl, rfl, by decide +kernel, rfl, by decide +kernel, by decide +kernel⟩
theorem t_l_counts (T : Bt mg) (cdv : Value) (A : Around) (outer : List Env) (s : Shared) (H : Hp) (E : XK) (hr : Room 0 (A.deeper (envOfC "_law_counts" (defScope s_l_counts) s.heap.objs.size f cdv))) :
    ∃ ts, DSs (cxOf (L2.CX P w) P w K mg base N_l_counts "_law_counts" (defScope s_l_counts) f cdv A outer s H E) (fun c d _ H => E c d H) (defBody s_l_counts) ts b_l_counts := by
  have tk : Takes (cxOf (L2.CX P w) P w K mg base N_l_counts "_law_counts" (defScope s_l_counts) f cdv A outer s H E) (fun c d _ H => E c d H) := takes_of rfl rfl rfl rfl
  exact ⟨_, (dss_cons (ds_setO (i := 2) sc_l_counts.nd rfl (Or.inl rfl) (dl_lst da_nil)) (dss_cons (ds_for (passes_of rfl) rfl (di_rng1 (by rfl) T.range (da_consH (DE.o (de_idx (K := K) (DE.o (de_var 0)) (DE.o de_int))) da_nil)) (dg_name (i := 3) sc_l_counts.nd rfl (Or.inl rfl)) (dss_one (ds_if (DW.t (dw_or (dt_eq (K := K) hr (DE.o (de_idx (K := K) (DE.o (de_var 0)) (DE.o de_int))) (DE.o de_str)) (dw_or1 (dt_isN (DE.o (de_idx (K := K) (DE.o (de_idx (K := K) (DE.o (de_var 1)) (DE.o de_int))) (DE.o (de_var 3)))) (DE.o de_non))))) (dss_one (ds_app 2 (pv 2) (de_add (K := K) (DE.o (de_idx (K := K) (DE.o (de_var 0)) (DE.o de_int))) (DE.o de_int)))) (dss_one (ds_if (dt_eq (K := K) hr (DE.o (de_idx (K := K) (DE.o (de_var 0)) (DE.o de_int))) (DE.o de_str)) (dss_one (ds_app 2 (pv 2) de_int)) (dss_one (ds_app 2 (pv 2) (de_idx (K := K) (DE.o (de_idx (K := K) (DE.o (de_idx (K := K) (DE.o (de_var 1)) (DE.o de_int))) (DE.o (de_var 3)))) (DE.o de_int))))))))) (dss_one (ds_ret (dc_tuple (K := K) (by rfl) T.tuple (da_consH (de_own 2) da_nil))))))⟩
theorem ok_l_counts (T : Bt mg) (F : FunD K "_law_counts" "_law_counts" (defArgs s_l_counts) (defBody s_l_counts) (defScope s_l_counts) [] [] f fd) (hm : mg "_law_counts" = some (.ref f)) : Fn P w K mg base 1 "_law_counts" 2 sp_l_counts :=
  fn_def F sc_l_counts hm (F.bindsN fun _ _ _ _ _ _ us hl => match us, hl with | [_, _], _ => rfl) (fun cdv A outer s H E hr => t_l_counts T cdv A outer s H E hr) p_l_counts
abbrev s_l_right : Stmt := top 19
theorem sc_l_right : FnScope N_l_right ["setting", "story"] (defScope s_l_right) := ⟨rfl, rfl, rfl, by decide +kernel, rfl, by decide +kernel, by decide +kernel⟩
theorem t_l_right (T : Bt mg) (cdv : Value) (A : Around) (outer : List Env) (s : Shared) (H : Hp) (E : XK) (hr : Room 0 (A.deeper (envOfC "_law_right" (defScope s_l_right) s.heap.objs.size f cdv))) :
    ∃ ts, DSs (cxOf (L2.CX P w) P w K mg base N_l_right "_law_right" (defScope s_l_right) f cdv A outer s H E) (fun c d _ H => E c d H) (defBody s_l_right) ts b_l_right := by
  have tk : Takes (cxOf (L2.CX P w) P w K mg base N_l_right "_law_right" (defScope s_l_right) f cdv A outer s H E) (fun c d _ H => E c d H) := takes_of rfl rfl rfl rfl
  exact ⟨_, (dss_cons (ds_set (i := 2) sc_l_right.nd rfl (Or.inl rfl) (de_idx (K := K) (DE.o (de_var 0)) (DE.o de_int))) (dss_cons (ds_set (i := 3) sc_l_right.nd rfl (Or.inl rfl) (de_eq (K := K) hr (DE.o (dc_len (K := K) (by rfl) T.len (da_consH (DE.o (DL.v (dl_comp rfl sc_l_right.nd (own := [("item", 9)]) (di_seqK (K := K) (de_idx (K := K) (DE.o (de_var 1)) (DE.o de_int))) (blkOk_by (N := N_l_right) (sc := defScope s_l_right) (by decide +kernel)) (fun _ _ _ _ _ => (dg_name (i := 9) sc_l_right.nd rfl (Or.inl rfl))) (by decide) (fun _ _ _ _ _ => (dts_one (DW.t (dw_and (dt_notN (DE.o (de_var 9)) (DE.o de_non)) (dw_and1 (dt_gt (DE.o (dc_len (K := K) (by rfl) T.len (da_consH (DE.o (de_var 9)) da_nil))) (DE.o de_int))))))) (fun _ _ _ _ _ => (de_var 9))))) da_nil))) (DE.o de_int))) (dss_cons (ds_setLc (i := 4) rfl sc_l_right.nd rfl rfl (sw_true rfl rfl rfl (by decide +kernel)) (own := [("b", 7)]) (di_rng1 (by rfl) T.range (da_consH (DE.o (de_idx (K := K) (DE.o (de_var 0)) (DE.o de_int))) da_nil)) (blkOk_by (N := N_l_right) (sc := defScope s_l_right) (by decide +kernel)) (fun _ _ _ _ _ => (dg_name (i := 7) sc_l_right.nd rfl (Or.inl rfl))) (by decide) (fun _ _ _ _ _ => (dts_one (dt_in (K := K) hr (DE.o (de_var 7)) (DE.o (de_idx (K := K) (DE.o (de_var 1)) (DE.o de_int)))))) (fun _ _ _ _ _ => (de_var 7))) (dss_cons (ds_if (dt_eq (K := K) hr (DE.o (de_idx (K := K) (DE.o (de_var 0)) (DE.o de_int))) (DE.o de_str)) (dss_one (ds_ret (dc_tuple (K := K) (by rfl) T.tuple (da_consH (DE.o (de_var 4)) da_nil)))) dss_nil) (dss_cons (ds_if (dt_eq (K := K) hr (DE.o (de_idx (K := K) (DE.o (de_var 0)) (DE.o de_int))) (DE.o de_str)) (dss_one (ds_ret (dc_tuple (K := K) (by rfl) T.tuple (da_consH (DE.o (DL.v (dl_comp rfl sc_l_right.nd (own := [("b", 7)]) (di_rng1 (by rfl) T.range (da_consH (DE.o (de_idx (K := K) (DE.o (de_var 0)) (DE.o de_int))) da_nil)) (blkOk_by (N := N_l_right) (sc := defScope s_l_right) (by decide +kernel)) (fun _ _ _ _ _ => (dg_name (i := 7) sc_l_right.nd rfl (Or.inl rfl))) (by decide) (fun _ _ _ _ _ => dts_nil) (fun _ _ _ _ _ => (de_var 7))))) da_nil)))) dss_nil) (dss_cons (ds_if (dt_eq (K := K) hr (DE.o (de_idx (K := K) (DE.o (de_var 0)) (DE.o de_int))) (DE.o de_str)) (dss_cons (ds_if (dt_val (de_var 3)) (dss_one (ds_ret (de_tup (da_consA (de_idx (K := K) (DE.o (de_idx (K := K) (DE.o (de_var 1)) (DE.o de_int))) (DE.o de_int)) da_nil)))) dss_nil) (dss_one (ds_ret (dc_tuple (K := K) (by rfl) T.tuple (da_consH (DE.o (de_var 4)) da_nil))))) dss_nil) (dss_cons (ds_set (i := 5) sc_l_right.nd rfl (Or.inl rfl) (dc_len (K := K) (by rfl) T.len (da_consH (DE.o (DL.v (dl_comp rfl sc_l_right.nd (own := [("begin", 8)]) (di_seqK (K := K) (de_idx (K := K) (DE.o (de_var 1)) (DE.o de_int))) (blkOk_by (N := N_l_right) (sc := defScope s_l_right) (by decide +kernel)) (fun _ _ _ _ _ => (dg_name (i := 8) sc_l_right.nd rfl (Or.inl rfl))) (by decide) (fun _ _ _ _ _ => (dts_one (dt_eq (K := K) hr (DE.o (de_var 8)) (DE.o de_int)))) (fun _ _ _ _ _ => (de_var 8))))) da_nil))) (dss_cons (ds_setO (i := 6) sc_l_right.nd rfl (Or.inl rfl) (dl_lst da_nil)) (dss_cons (ds_if (DW.t (dw_or (dt_lt (DE.o (de_var 5)) (DE.o (de_var 2))) (dw_or1 (dt_not (dt_val (de_var 3)))))) (dss_one (ds_app 6 (pv 6) de_int)) dss_nil) (dss_cons (ds_if (dt_eq (K := K) hr (DE.o (de_var 5)) (DE.o (de_var 2))) (dss_one (ds_app 6 (pv 6) de_int)) dss_nil) (dss_one (ds_ret (dc_tuple (K := K) (by rfl) T.tuple (da_consH (de_own 6) da_nil))))))))))))))⟩
theorem ok_l_right (T : Bt mg) (F : FunD K "_law_right" "_law_right" (defArgs s_l_right) (defBody s_l_right) (defScope s_l_right) [] [] f fd) (hm : mg "_law_right" = some (.ref f)) : Fn P w K mg base 1 "_law_right" 2 sp_l_right :=
  fn_def F sc_l_right hm (F.bindsN fun _ _ _ _ _ _ us hl => match us, hl with | [_, _], _ => rfl) (fun cdv A outer s H E hr => t_l_right T cdv A outer s H E hr) p_l_right
abbrev s_l_variants : Stmt := top 20
theorem sc_l_variants : FnScope N_l_variants ["setting"] (defScope s_l_variants) := ⟨rfl, rfl, rfl, by decide +kernel, rfl, by decide +kernel, by decide +kernel⟩
theorem t_l_variants (T : Bt mg) (cdv : Value) (A : Around) (outer : List Env) (s : Shared) (H : Hp) (E : XK) (hr : Room 0 (A.deeper (envOfC "_law_variants" (defScope s_l_variants) s.heap.objs.size f cdv))) :
    ∃ ts, DSs (cxOf (L2.CX P w) P w K mg base N_l_variants "_law_variants" (defScope s_l_variants) f cdv A outer s H E) (fun c d _ H => E c d H) (defBody s_l_variants) ts b_l_variants := by
  have tk : Takes (cxOf (L2.CX P w) P w K mg base N_l_variants "_law_variants" (defScope s_l_variants) f cdv A outer s H E) (fun c d _ H => E c d H) := takes_of rfl rfl rfl rfl
  exact ⟨_, (dss_cons (ds_setO (i := 1) sc_l_variants.nd rfl (Or.inl rfl) (dl_lst da_nil)) (dss_cons (ds_for (passes_of rfl) rfl (di_seqK (K := K) (de_cut (K := K) (DE.o (DL.v (dl_lst (da_consA de_str (da_consA de_str (da_consA de_str (da_consA de_str da_nil))))))) dp_none (dp_some (de_add (K := K) (DE.o de_int) (DE.o (dc_int (by rfl) T.int (da_consH (DE.o (de_eq (K := K) hr (DE.o (de_idx (K := K) (DE.o (de_var 0)) (DE.o de_int))) (DE.o de_int))) da_nil))))))) (dg_name (i := 2) sc_l_variants.nd rfl (Or.inl rfl)) (dss_one (ds_if (dt_eq (K := K) hr (DE.o (de_idx (K := K) (DE.o (de_var 0)) (DE.o de_int))) (DE.o de_str)) (dss_one (ds_app 1 (pv 1) (de_add (K := K) (DE.o (de_cut (K := K) (DE.o (de_var 0)) dp_none (dp_some de_int))) (DE.o (de_tup (da_consA (de_var 2) da_nil)))))) (dss_cons (ds_app 1 (pv 1) (de_add (K := K) (DE.o (de_cut (K := K) (DE.o (de_var 0)) dp_none (dp_some de_int))) (DE.o (de_tup (da_consA (de_var 2) (da_consA de_str da_nil)))))) (dss_one (ds_app 1 (pv 1) (de_add (K := K) (DE.o (de_cut (K := K) (DE.o (de_var 0)) dp_none (dp_some de_int))) (DE.o (de_tup (da_consA (de_var 2) (da_consA de_str da_nil))))))))))) (dss_one (DS.fz 1 (ds_ret (de_var 1))))))⟩
theorem ok_l_variants (T : Bt mg) (F : FunD K "_law_variants" "_law_variants" (defArgs s_l_variants) (defBody s_l_variants) (defScope s_l_variants) [] [] f fd) (hm : mg "_law_variants" = some (.ref f)) : Fn P w K mg base 1 "_law_variants" 1 sp_l_variants :=
  fn_def F sc_l_variants hm (F.bindsN fun _ _ _ _ _ _ us hl => match us, hl with | [_], _ => rfl) (fun cdv A outer s H E hr => t_l_variants T cdv A outer s H E hr) p_l_variants
abbrev s_l_seconds : Stmt := top 21
theorem sc_l_seconds : FnScope N_l_seconds ["setting", "house"] (defScope s_l_seconds) := ⟨rfl, rfl, rfl, by decide +kernel, rfl, by decide +kernel, by decide +kernel⟩
theorem t_l_seconds (T : Bt mg) (F_l_letters : Fn P w K mg base 2 "_law_letters" 1 sp_l_letters) (F_l_others : Fn P w K mg base 1 "_law_others" 2 sp_l_others) (cdv : Value) (A : Around) (outer : List Env) (s : Shared) (H : Hp) (E : XK) (hr : Room 2 (A.deeper (envOfC "_law_seconds" (defScope s_l_seconds) s.heap.objs.size f cdv))) :
    ∃ ts, DSs (cxOf (L2.CX P w) P w K mg base N_l_seconds "_law_seconds" (defScope s_l_seconds) f cdv A outer s H E) (fun c d _ H => E c d H) (defBody s_l_seconds) ts b_l_seconds := by
  have tk : Takes (cxOf (L2.CX P w) P w K mg base N_l_seconds "_law_seconds" (defScope s_l_seconds) f cdv A outer s H E) (fun c d _ H => E c d H) := takes_of rfl rfl rfl rfl
  exact ⟨_, (dss_cons (ds_set (i := 2) sc_l_seconds.nd rfl (Or.inl rfl) (de_idx (K := K) (DE.o (de_var 0)) (DE.o de_int))) (dss_cons (ds_set (i := 3) sc_l_seconds.nd rfl (Or.inl rfl) (de_callK (K := K) (mg := mg) F_l_letters (hr.mono (by first | decide | omega)) (by rfl) tk (da_consA (de_var 2) da_nil))) (dss_cons (ds_if (dt_eq (K := K) hr (DE.o (de_idx (K := K) (DE.o (de_var 0)) (DE.o de_int))) (DE.o de_str)) (dss_cons (ds_setLc (i := 5) rfl sc_l_seconds.nd rfl rfl (sw_true rfl rfl rfl (by decide +kernel)) (own := [("turn", 4)]) (di_rng1 (by rfl) T.range (da_consH (DE.o (de_idx (K := K) (DE.o (de_var 0)) (DE.o de_int))) da_nil)) (blkOk_by (N := N_l_seconds) (sc := defScope s_l_seconds) (by decide +kernel)) (fun _ _ _ _ _ => (dg_name (i := 4) sc_l_seconds.nd rfl (Or.inl rfl))) (by decide) (fun _ _ _ _ _ => dts_nil) (fun _ _ _ _ _ => (de_tup da_nil))) (dss_cons (ds_set (i := 6) sc_l_seconds.nd rfl (Or.inl rfl) (de_tup (da_consA (de_idx (K := K) (DE.o (de_var 3)) (DE.o (de_mod (DE.o (dc_int (by rfl) T.int (da_consH (DE.o (de_mul (DE.o (de_var 1)) (DE.o de_int))) da_nil))) (DE.o (dc_len (K := K) (by rfl) T.len (da_consH (DE.o (de_var 3)) da_nil)))))) da_nil))) (dss_one (ds_setO (i := 7) sc_l_seconds.nd rfl (Or.inl rfl) (dl_lst (da_consA (de_add (K := K) (DE.o (de_cut (K := K) (DE.o (de_var 5)) dp_none (dp_some (de_neg de_int)))) (DE.o (DL.v (dl_lst (da_consA (de_var 6) da_nil))))) (da_consA (de_add (K := K) (DE.o (DL.v (dl_lst (da_consA (de_var 6) da_nil)))) (DE.o (de_cut (K := K) (DE.o (de_var 5)) (dp_some de_int) dp_none))) da_nil))))))) (dss_cons (ds_setLc (i := 5) rfl sc_l_seconds.nd rfl rfl (sw_true rfl rfl rfl (by decide +kernel)) (own := [("other", 9)]) (di_rng1 (by rfl) T.range (da_consH (DE.o (de_var 2)) da_nil)) (blkOk_by (N := N_l_seconds) (sc := defScope s_l_seconds) (by decide +kernel)) (fun _ _ _ _ _ => (dg_name (i := 9) sc_l_seconds.nd rfl (Or.inl rfl))) (by decide) (fun _ _ _ _ _ => dts_nil) (fun _ _ _ _ _ => de_non)) (dss_cons (ds_setO (i := 7) sc_l_seconds.nd rfl (Or.inl rfl) (dl_lst da_nil)) (dss_one (ds_for (passes_of rfl) rfl (di_seqK (K := K) (DL.v (dl_lst (da_consA (de_idx (K := K) (DE.o (de_var 0)) (DE.o de_int)) (da_consA de_int da_nil))))) (dg_name (i := 4) sc_l_seconds.nd rfl (Or.inl rfl)) (dss_one (ds_app 7 (pv 7) (de_add (K := K) (DE.o (de_add (K := K) (DE.o (de_cut (K := K) (DE.o (de_var 5)) dp_none (dp_some (de_var 1)))) (DE.o (DL.v (dl_lst (da_consA (de_tup (da_consA (de_var 4) (da_consA (dc_tuple (K := K) (by rfl) T.tuple (da_consH (DE.o (de_callK (K := K) (mg := mg) F_l_others (hr.mono (by first | decide | omega)) (by rfl) tk (da_consA (de_var 2) (da_consA (de_var 1) da_nil)))) da_nil)) da_nil))) da_nil)))))) (DE.o (de_cut (K := K) (DE.o (de_var 5)) (dp_some (de_add (K := K) (DE.o (de_var 1)) (DE.o de_int))) dp_none)))))))))) (dss_cons (ds_if (dt_eq (K := K) hr (DE.o (de_idx (K := K) (DE.o (de_var 0)) (DE.o de_int))) (DE.o de_int)) (dss_one (ds_setO (i := 7) sc_l_seconds.nd rfl (Or.inl rfl) (dl_lst da_nil))) dss_nil) (dss_one (ds_ret (DL.v (dl_comp rfl sc_l_seconds.nd (own := [("second", 8)]) (di_seqK (K := K) (de_add (K := K) (DE.o (DL.v (dl_lst (da_consA (de_var 5) da_nil)))) (de_own 7))) (blkOk_by (N := N_l_seconds) (sc := defScope s_l_seconds) (by decide +kernel)) (fun _ _ _ _ _ => (dg_name (i := 8) sc_l_seconds.nd rfl (Or.inl rfl))) (by decide) (fun _ _ _ _ _ => dts_nil) (fun _ _ _ _ _ => (dc_tuple (K := K) (by rfl) T.tuple (da_consH (DE.o (de_var 8)) da_nil)))))))))))⟩
theorem ok_l_seconds (T : Bt mg) (F_l_letters : Fn P w K mg base 2 "_law_letters" 1 sp_l_letters) (F_l_others : Fn P w K mg base 1 "_law_others" 2 sp_l_others) (F : FunD K "_law_seconds" "_law_seconds" (defArgs s_l_seconds) (defBody s_l_seconds) (defScope s_l_seconds) [] [] f fd) (hm : mg "_law_seconds" = some (.ref f)) : Fn P w K mg base 3 "_law_seconds" 2 sp_l_seconds :=
  fn_def F sc_l_seconds hm (F.bindsN fun _ _ _ _ _ _ us hl => match us, hl with | [_, _], _ => rfl) (fun cdv A outer s H E hr => t_l_seconds T F_l_letters F_l_others cdv A outer s H E hr) p_l_seconds
abbrev s_l_beginnings : Stmt := top 22
theorem sc_l_beginnings : FnScope N_l_beginnings ["setting", "drawn", "house", "answer"] (defScope s_l_beginnings) := ⟨rfl, rfl, rfl, by decide +kernel, rfl, by decide +kernel, by decide +kernel⟩
theorem t_l_beginnings (T : Bt mg) (cdv : Value) (A : Around) (outer : List Env) (s : Shared) (H : Hp) (E : XK) (hr : Room 0 (A.deeper (envOfC "_law_beginnings" (defScope s_l_beginnings) s.heap.objs.size f cdv))) :
    ∃ ts, DSs (cxOf (L2.CX P w) P w K mg base N_l_beginnings "_law_beginnings" (defScope s_l_beginnings) f cdv A outer s H E) (fun c d _ H => E c d H) (defBody s_l_beginnings) ts b_l_beginnings := by
  have tk : Takes (cxOf (L2.CX P w) P w K mg base N_l_beginnings "_law_beginnings" (defScope s_l_beginnings) f cdv A outer s H E) (fun c d _ H => E c d H) := takes_of rfl rfl rfl rfl
  exact ⟨_, (dss_cons (ds_set (i := 4) sc_l_beginnings.nd rfl (Or.inl rfl) (de_idx (K := K) (DE.o (de_var 0)) (DE.o de_int))) (dss_cons (ds_setLc (i := 5) rfl sc_l_beginnings.nd rfl rfl (sw_true rfl rfl rfl (by decide +kernel)) (own := [("k", 7)]) (di_rng1 (by rfl) T.range (da_consH (DE.o (de_var 4)) da_nil)) (blkOk_by (N := N_l_beginnings) (sc := defScope s_l_beginnings) (by decide +kernel)) (fun _ _ _ _ _ => (dg_name (i := 7) sc_l_beginnings.nd rfl (Or.inl rfl))) (by decide) (fun _ _ _ _ _ => dts_nil) (fun _ _ _ _ _ => (de_var 3))) (dss_cons (ds_set (i := 6) sc_l_beginnings.nd rfl (Or.inl rfl) (de_add (K := K) (DE.o (de_add (K := K) (DE.o (de_cut (K := K) (DE.o (de_var 5)) dp_none (dp_some (de_var 2)))) (DE.o (DL.v (dl_lst (da_consA (de_mod (DE.o (dc_int (by rfl) T.int (da_consH (DE.o (de_add (K := K) (DE.o (de_var 3)) (DE.o de_int))) da_nil))) (DE.o (de_idx (K := K) (DE.o (de_var 0)) (DE.o de_int)))) da_nil)))))) (DE.o (de_cut (K := K) (DE.o (de_var 5)) (dp_some (de_add (K := K) (DE.o (de_var 2)) (DE.o de_int))) dp_none)))) (dss_one (ds_ret (DL.v (dl_lst (da_consA (de_var 1) (da_consA (dc_tuple (K := K) (by rfl) T.tuple (da_consH (DE.o (de_var 5)) da_nil)) (da_consA (dc_tuple (K := K) (by rfl) T.tuple (da_consH (DE.o (de_var 6)) da_nil)) (da_consA (dc_tuple (K := K) (by rfl) T.tuple (da_consH (DE.o (DL.v (dl_comp rfl sc_l_beginnings.nd (own := [("k", 7)]) (di_rng1 (by rfl) T.range (da_consH (DE.o (de_var 4)) da_nil)) (blkOk_by (N := N_l_beginnings) (sc := defScope s_l_beginnings) (by decide +kernel)) (fun _ _ _ _ _ => (dg_name (i := 7) sc_l_beginnings.nd rfl (Or.inl rfl))) (by decide) (fun _ _ _ _ _ => dts_nil) (fun _ _ _ _ _ => de_int)))) da_nil)) (da_consA (dc_tuple (K := K) (by rfl) T.tuple (da_consH (DE.o (DL.v (dl_comp rfl sc_l_beginnings.nd (own := [("k", 7)]) (di_rng1 (by rfl) T.range (da_consH (DE.o (de_var 4)) da_nil)) (blkOk_by (N := N_l_beginnings) (sc := defScope s_l_beginnings) (by decide +kernel)) (fun _ _ _ _ _ => (dg_name (i := 7) sc_l_beginnings.nd rfl (Or.inl rfl))) (by decide) (fun _ _ _ _ _ => dts_nil) (fun _ _ _ _ _ => (de_sub (DE.o (de_idx (K := K) (DE.o (de_var 0)) (DE.o de_int))) (DE.o de_int)))))) da_nil)) da_nil))))))))))))⟩
theorem ok_l_beginnings (T : Bt mg) (F : FunD K "_law_beginnings" "_law_beginnings" (defArgs s_l_beginnings) (defBody s_l_beginnings) (defScope s_l_beginnings) [] [] f fd) (hm : mg "_law_beginnings" = some (.ref f)) : Fn P w K mg base 1 "_law_beginnings" 4 sp_l_beginnings :=
  fn_def F sc_l_beginnings hm (F.bindsN fun _ _ _ _ _ _ us hl => match us, hl with | [_, _, _, _], _ => rfl) (fun cdv A outer s H E hr => t_l_beginnings T cdv A outer s H E hr) p_l_beginnings
abbrev s_law : Stmt := top 23
theorem sc_law : FnScope N_law ["script"] (defScope s_law) := ⟨rfl, rfl, rfl, by decide +kernel, rfl, by decide +kernel, by decide +kernel⟩
theorem t_law (T : Bt mg) (F_l_cell : Fn P w K mg base 1 "_law_cell" 2 sp_l_cell) (F_l_setting : Fn P w K mg base 2 "_law_setting" 1 sp_l_setting) (F_l_digits : Fn P w K mg base 1 "_law_digits" 2 sp_l_digits) (F_l_story : Fn P w K mg base 4 "_law_story" 3 sp_l_story) (F_l_beginnings : Fn P w K mg base 1 "_law_beginnings" 4 sp_l_beginnings) (F_l_seconds : Fn P w K mg base 3 "_law_seconds" 2 sp_l_seconds) (F_l_form : Fn P w K mg base 1 "_law_form" 3 sp_l_form) (F_l_variants : Fn P w K mg base 1 "_law_variants" 1 sp_l_variants) (F_l_passed : Fn P w K mg base 1 "_law_passed" 2 sp_l_passed) (F_l_right : Fn P w K mg base 1 "_law_right" 2 sp_l_right) (F_right_in : Fn P w K mg base 2 "right_in" 2 sp_right_in) (F_l_same : Fn P w K mg base 3 "_law_same" 2 sp_l_same) (F_l_counts : Fn P w K mg base 1 "_law_counts" 2 sp_l_counts) (F_counts_in : Fn P w K mg base 2 "counts_in" 2 sp_counts_in) (cdv : Value) (A : Around) (outer : List Env) (s : Shared) (H : Hp) (E : XK) (GU : A.guards = some []) (hr : Room 4 (A.deeper (envOfC "law" (defScope s_law) s.heap.objs.size f cdv))) :
    ∃ ts, DSs (cxOf (L2.CX P w) P w K mg base N_law "law" (defScope s_law) f cdv A outer s H E) (fun c d _ H => E c d H) (defBody s_law) ts b_law := by
  have tk : Takes (cxOf (L2.CX P w) P w K mg base N_law "law" (defScope s_law) f cdv A outer s H E) (fun c d _ H => E c d H) := takes_of rfl rfl rfl rfl
  exact ⟨_, (dss_cons (ds_set (i := 1) sc_law.nd rfl (Or.inl rfl) (de_callK (K := K) (mg := mg) F_l_setting (hr.mono (by first | decide | omega)) (by rfl) tk (da_consA (de_callK (K := K) (mg := mg) F_l_cell (hr.mono (by first | decide | omega)) (by rfl) tk (da_consA (de_var 0) (da_consA de_int da_nil))) da_nil))) (dss_cons (ds_set (i := 2) sc_law.nd rfl (Or.inl rfl) (de_callK (K := K) (mg := mg) F_l_digits (hr.mono (by first | decide | omega)) (by rfl) tk (da_consA (de_callK (K := K) (mg := mg) F_l_cell (hr.mono (by first | decide | omega)) (by rfl) tk (da_consA (de_var 0) (da_consA de_int da_nil))) (da_consA (DL.v (dl_lst (da_consA de_int (da_consA de_int (da_consA de_int da_nil))))) da_nil)))) (dss_cons (ds_set (i := 3) sc_law.nd rfl (Or.inl rfl) (de_callK (K := K) (mg := mg) F_l_story (hr.mono (by first | decide | omega)) (by rfl) tk (da_consA (de_var 1) (da_consA (de_callK (K := K) (mg := mg) F_l_cell (hr.mono (by first | decide | omega)) (by rfl) tk (da_consA (de_var 0) (da_consA de_int da_nil))) (da_consA (de_callK (K := K) (mg := mg) F_l_cell (hr.mono (by first | decide | omega)) (by rfl) tk (da_consA (de_var 0) (da_consA de_int da_nil))) da_nil))))) (dss_cons (ds_set (i := 4) sc_law.nd rfl (Or.inl rfl) (de_callK (K := K) (mg := mg) F_l_story (hr.mono (by first | decide | omega)) (by rfl) tk (da_consA (de_var 1) (da_consA (de_callK (K := K) (mg := mg) F_l_cell (hr.mono (by first | decide | omega)) (by rfl) tk (da_consA (de_var 0) (da_consA de_int da_nil))) (da_consA (de_callK (K := K) (mg := mg) F_l_cell (hr.mono (by first | decide | omega)) (by rfl) tk (da_consA (de_var 0) (da_consA de_int da_nil))) da_nil))))) (dss_cons (ds_set (i := 5) sc_law.nd rfl (Or.inl rfl) (de_mod (DE.o (dc_int (by rfl) T.int (da_consH (DE.o (de_idx (K := K) (DE.o (de_var 2)) (DE.o de_int))) da_nil))) (DE.o (de_idx (K := K) (DE.o (de_var 1)) (DE.o de_int))))) (dss_cons (ds_set (i := 6) sc_law.nd rfl (Or.inl rfl) (de_eq (K := K) hr (DE.o (de_idx (K := K) (DE.o (de_var 2)) (DE.o de_int))) (DE.o de_int))) (dss_cons (ds_for (passes_of rfl) rfl (di_seqK (K := K) (de_callK (K := K) (mg := mg) F_l_beginnings (hr.mono (by first | decide | omega)) (by rfl) tk (da_consA (de_var 1) (da_consA (de_idx (K := K) (DE.o (de_var 3)) (DE.o de_int)) (da_consA (de_var 5) (da_consA (de_mod (DE.o (dc_int (by rfl) T.int (da_consH (DE.o (de_idx (K := K) (DE.o (de_var 2)) (DE.o de_int))) da_nil))) (DE.o (de_idx (K := K) (DE.o (de_var 1)) (DE.o de_int)))) da_nil)))))) (dg_name (i := 7) sc_law.nd rfl (Or.inl rfl)) (dss_one (ds_for (passes_of rfl) rfl (di_seqK (K := K) (de_add (K := K) (DE.o (DL.v (dl_lst (da_consA (de_idx (K := K) (DE.o (de_var 3)) (DE.o de_int)) (da_consA (de_idx (K := K) (DE.o (de_var 4)) (DE.o de_int)) da_nil))))) (DE.o (de_callK (K := K) (mg := mg) F_l_seconds (hr.mono (by first | decide | omega)) (by rfl) tk (da_consA (de_var 1) (da_consA (de_var 5) da_nil)))))) (dg_name (i := 8) sc_law.nd rfl (Or.inl rfl)) (dss_cons (ds_set (i := 6) sc_law.nd rfl (Or.inl rfl) (de_not (de_var 6))) (dss_cons (ds_set (i := 9) sc_law.nd rfl (Or.inl rfl) (de_callK (K := K) (mg := mg) F_l_form (hr.mono (by first | decide | omega)) (by rfl) tk (da_consA (de_var 1) (da_consA (de_tup (da_consA (de_var 7) (da_consA (de_var 8) da_nil))) (da_consA (de_var 6) da_nil))))) (dss_cons (ds_set (i := 10) sc_law.nd rfl (Or.inl rfl) (dc_repr (K := K) (guards_deeper GU) hr.units (by rfl) T.repr (da_consH (DE.o (de_var 9)) da_nil))) (dss_one (ds_for (passes_of rfl) rfl (di_seqK (K := K) (de_callK (K := K) (mg := mg) F_l_variants (hr.mono (by first | decide | omega)) (by rfl) tk (da_consA (de_var 1) da_nil))) (dg_name (i := 11) sc_law.nd rfl (Or.inl rfl)) (dss_cons (ds_set (i := 12) sc_law.nd rfl (Or.inl rfl) (de_callK (K := K) (mg := mg) F_l_passed (hr.mono (by first | decide | omega)) (by rfl) tk (da_consA (de_var 11) (da_consA (de_var 6) da_nil)))) (dss_cons (ds_if (dt_not (dt_val (de_callK (K := K) (mg := mg) F_l_same (hr.mono (by first | decide | omega)) (by rfl) tk (da_consA (de_callK (K := K) (mg := mg) F_right_in (hr.mono (by first | decide | omega)) (by rfl) tk (da_consA (de_var 12) (da_consA (de_var 9) da_nil))) (da_consA (de_callK (K := K) (mg := mg) F_l_right (hr.mono (by first | decide | omega)) (by rfl) tk (da_consA (de_var 11) (da_consA (de_tup (da_consA (de_var 7) (da_consA (de_var 8) da_nil))) da_nil))) da_nil))))) (dss_one (ds_ret de_bl)) dss_nil) (dss_cons (ds_if (dt_not (dt_val (de_callK (K := K) (mg := mg) F_l_same (hr.mono (by first | decide | omega)) (by rfl) tk (da_consA (de_callK (K := K) (mg := mg) F_counts_in (hr.mono (by first | decide | omega)) (by rfl) tk (da_consA (de_var 12) (da_consA (de_var 9) da_nil))) (da_consA (de_callK (K := K) (mg := mg) F_l_counts (hr.mono (by first | decide | omega)) (by rfl) tk (da_consA (de_var 11) (da_consA (de_tup (da_consA (de_var 7) (da_consA (de_var 8) da_nil))) da_nil))) da_nil))))) (dss_one (ds_ret de_bl)) dss_nil) (dss_one (ds_if (DW.t (dw_or (dt_ne (K := K) hr (DE.o (dc_tuple (K := K) (by rfl) T.tuple (da_consH (DE.o (de_var 12)) da_nil))) (DE.o (de_var 11))) (dw_or1 (dt_ne (K := K) hr (DE.o (dc_repr (K := K) (guards_deeper GU) hr.units (by rfl) T.repr (da_consH (DE.o (de_var 9)) da_nil))) (DE.o (de_var 10)))))) (dss_one (ds_ret de_bl)) dss_nil))))))))))))) (dss_one (ds_ret de_bl)))))))))⟩
end
section
variable {P : Program} {w : World} {K : PySem.W.Frag} {mg : Str → Option Value} {base : Heap} {f : Addr} {fd : FuncData}
theorem ok_l_same (T : Bt mg) (F_l_whole : Fn P w K mg base 1 "_law_whole" 1 sp_l_whole) (F : FunD K "_law_same" "_law_same" (defArgs s_l_same) (defBody s_l_same) (defScope s_l_same) [] [] f fd) (hm : mg "_law_same" = some (.ref f)) : Fn P w K mg base 3 "_law_same" 2 sp_l_same := by
  have hb := F.bindsN (ps := ["told", "expected"]) fun _ _ _ _ _ _ us hl => match us, hl with | [_, _], _ => rfl
  have f0 : Fn P w K mg base 1 "_law_same" 2 (fun _ _ _ => False) := fn_false F sc_l_same hm hb
  have f1 : Fn P w K mg base 2 "_law_same" 2 sp_l_same0 := fn_def F sc_l_same hm hb (fun cdv A outer s H E hr => t_l_same T (by decide) _ f0 F_l_whole cdv A outer s H E hr) p_l_same0
  exact fn_def F sc_l_same hm hb (fun cdv A outer s H E hr => t_l_same T (by decide) _ f1 F_l_whole cdv A outer s H E hr) p_l_same1
end
end K64

namespace K64
open PySem L2 DL PyProof.Rows
def d_stands : He.DefD := ⟨("stands", none), "stands", "stands", defArgs s_stands, defBody s_stands, defScope s_stands, [], []⟩
def d_is_smooth : He.DefD := ⟨("is_smooth", none), "is_smooth", "is_smooth", defArgs s_is_smooth, defBody s_is_smooth, defScope s_is_smooth, [], []⟩
def d_counts_in : He.DefD := ⟨("counts_in", none), "counts_in", "counts_in", defArgs s_counts_in, defBody s_counts_in, defScope s_counts_in, [], []⟩
def d_right_in : He.DefD := ⟨("right_in", none), "right_in", "right_in", defArgs s_right_in, defBody s_right_in, defScope s_right_in, [], []⟩
def d_l_whole : He.DefD := ⟨("_law_whole", none), "_law_whole", "_law_whole", defArgs s_l_whole, defBody s_l_whole, defScope s_l_whole, [], []⟩
def d_l_cell : He.DefD := ⟨("_law_cell", none), "_law_cell", "_law_cell", defArgs s_l_cell, defBody s_l_cell, defScope s_l_cell, [], []⟩
def d_l_digits : He.DefD := ⟨("_law_digits", none), "_law_digits", "_law_digits", defArgs s_l_digits, defBody s_l_digits, defScope s_l_digits, [], []⟩
def d_l_same : He.DefD := ⟨("_law_same", none), "_law_same", "_law_same", defArgs s_l_same, defBody s_l_same, defScope s_l_same, [], []⟩
def d_l_others : He.DefD := ⟨("_law_others", none), "_law_others", "_law_others", defArgs s_l_others, defBody s_l_others, defScope s_l_others, [], []⟩
def d_l_letters : He.DefD := ⟨("_law_letters", none), "_law_letters", "_law_letters", defArgs s_l_letters, defBody s_l_letters, defScope s_l_letters, [], []⟩
def d_l_setting : He.DefD := ⟨("_law_setting", none), "_law_setting", "_law_setting", defArgs s_l_setting, defBody s_l_setting, defScope s_l_setting, [], []⟩
def d_l_story : He.DefD := ⟨("_law_story", none), "_law_story", "_law_story", defArgs s_l_story, defBody s_l_story, defScope s_l_story, [], []⟩
def d_l_lossy : He.DefD := ⟨("_law_lossy", none), "_law_lossy", "_law_lossy", defArgs s_l_lossy, defBody s_l_lossy, defScope s_l_lossy, [], []⟩
def d_l_passed : He.DefD := ⟨("_law_passed", none), "_law_passed", "_law_passed", defArgs s_l_passed, defBody s_l_passed, defScope s_l_passed, [], []⟩
def d_l_form : He.DefD := ⟨("_law_form", none), "_law_form", "_law_form", defArgs s_l_form, defBody s_l_form, defScope s_l_form, [], []⟩
def d_l_counts : He.DefD := ⟨("_law_counts", none), "_law_counts", "_law_counts", defArgs s_l_counts, defBody s_l_counts, defScope s_l_counts, [], []⟩
def d_l_right : He.DefD := ⟨("_law_right", none), "_law_right", "_law_right", defArgs s_l_right, defBody s_l_right, defScope s_l_right, [], []⟩
def d_l_variants : He.DefD := ⟨("_law_variants", none), "_law_variants", "_law_variants", defArgs s_l_variants, defBody s_l_variants, defScope s_l_variants, [], []⟩
def d_l_seconds : He.DefD := ⟨("_law_seconds", none), "_law_seconds", "_law_seconds", defArgs s_l_seconds, defBody s_l_seconds, defScope s_l_seconds, [], []⟩
def d_l_beginnings : He.DefD := ⟨("_law_beginnings", none), "_law_beginnings", "_law_beginnings", defArgs s_l_beginnings, defBody s_l_beginnings, defScope s_l_beginnings, [], []⟩
def d_law : He.DefD := ⟨("law", none), "law", "law", defArgs s_law, defBody s_law, defScope s_law, [], []⟩
def hfn : List He.DefD := [d_stands, d_is_smooth, d_counts_in, d_right_in, d_l_whole, d_l_cell, d_l_digits, d_l_same, d_l_others, d_l_letters, d_l_setting, d_l_story, d_l_lossy, d_l_passed, d_l_form, d_l_counts, d_l_right, d_l_variants, d_l_seconds, d_l_beginnings, d_law]
def hfa : List He.Fa := [.glo "stands", .glo "is_smooth", .glo "counts_in", .glo "right_in", .glo "_law_whole", .glo "_law_cell", .glo "_law_digits", .glo "_law_same", .glo "_law_others", .glo "_law_letters", .glo "_law_setting", .glo "_law_story", .glo "_law_lossy", .glo "_law_passed", .glo "_law_form", .glo "_law_counts", .glo "_law_right", .glo "_law_variants", .glo "_law_seconds", .glo "_law_beginnings", .glo "law", .free "len", .free "int", .free "bool", .free "tuple", .free "list", .free "range", .free "max", .free "min", .free "sorted", .free "isinstance", .free "repr"]
abbrev hR : PySem.W.OpenRow := PySem.W.OpenLaw.row PySem.Challenge.rw_whywait_k64_tasks_and_counts
abbrev hk : PySem.W.Hook := He.hookD 4 hfa hfn
def hob (s : PySem.W.SharedT) : He.AlD := He.obsDG 4 hfa hfn (HandSHeadRun.getT s)
theorem hob_eq (s : PySem.W.SharedT) : hob s = hk.obs s.abs := He.obsDG_eq (HandSHeadRun.getT_eq s)
theorem hrun (w : World) : HandSHeadRun.RunEq hR (PySem.W.view hR.prog [23]) hk hob 4000 ["stands", "is_smooth", "counts_in", "right_in", "_law_whole", "_law_cell", "_law_digits", "_law_same", "_law_others", "_law_letters", "_law_setting", "_law_story", "_law_lossy", "_law_passed", "_law_form", "_law_counts", "_law_right", "_law_variants", "_law_seconds", "_law_beginnings"] w := by
  intro os
  kernel_rfl
theorem facts {P : Program} {w : World} {K : PySem.W.Frag} {h : Heap} {mg : Str → Option Value} {f : Addr} (X : K.In h) (G : h.Ns mainGlobals mg) (hlw : mg ("law" : Str) = some (.ref f)) (c : He.SaysD hfa hfn K) :
    ∃ fd : FuncData, (∀ (s : Shared) (v : Value), BindsTo s fd ⟨[v], []⟩ [("script", v)]) ∧ ∀ base : Heap, K.In base → base.Ns mainGlobals mg → FnG P w K mg base (L2.CX P w) 5 f fd ["script"] (spLaw K) := by
  obtain ⟨fd_stands, D_stands⟩ := c.def_ 0 (d := d_stands) rfl
  obtain ⟨fd_is_smooth, D_is_smooth⟩ := c.def_ 1 (d := d_is_smooth) rfl
  obtain ⟨fd_counts_in, D_counts_in⟩ := c.def_ 2 (d := d_counts_in) rfl
  obtain ⟨fd_right_in, D_right_in⟩ := c.def_ 3 (d := d_right_in) rfl
  obtain ⟨fd_l_whole, D_l_whole⟩ := c.def_ 4 (d := d_l_whole) rfl
  obtain ⟨fd_l_cell, D_l_cell⟩ := c.def_ 5 (d := d_l_cell) rfl
  obtain ⟨fd_l_digits, D_l_digits⟩ := c.def_ 6 (d := d_l_digits) rfl
  obtain ⟨fd_l_same, D_l_same⟩ := c.def_ 7 (d := d_l_same) rfl
  obtain ⟨fd_l_others, D_l_others⟩ := c.def_ 8 (d := d_l_others) rfl
  obtain ⟨fd_l_letters, D_l_letters⟩ := c.def_ 9 (d := d_l_letters) rfl
  obtain ⟨fd_l_setting, D_l_setting⟩ := c.def_ 10 (d := d_l_setting) rfl
  obtain ⟨fd_l_story, D_l_story⟩ := c.def_ 11 (d := d_l_story) rfl
  obtain ⟨fd_l_lossy, D_l_lossy⟩ := c.def_ 12 (d := d_l_lossy) rfl
  obtain ⟨fd_l_passed, D_l_passed⟩ := c.def_ 13 (d := d_l_passed) rfl
  obtain ⟨fd_l_form, D_l_form⟩ := c.def_ 14 (d := d_l_form) rfl
  obtain ⟨fd_l_counts, D_l_counts⟩ := c.def_ 15 (d := d_l_counts) rfl
  obtain ⟨fd_l_right, D_l_right⟩ := c.def_ 16 (d := d_l_right) rfl
  obtain ⟨fd_l_variants, D_l_variants⟩ := c.def_ 17 (d := d_l_variants) rfl
  obtain ⟨fd_l_seconds, D_l_seconds⟩ := c.def_ 18 (d := d_l_seconds) rfl
  obtain ⟨fd_l_beginnings, D_l_beginnings⟩ := c.def_ 19 (d := d_l_beginnings) rfl
  obtain ⟨fd_law, D_law⟩ := c.def_ 20 (d := d_law) rfl
  have e := hlw.symm.trans (He.glo_ok X G (c.fact 20 (f := .glo "law") rfl))
  cases e
  have b := FunD.bindsA (ps := ["script"]) D_law fun _ _ _ _ _ _ us hl => match us, hl with | [_], _ => rfl
  refine ⟨fd_law, fun s v => b s [v] rfl, fun base _ _ => ?_⟩
  have T : Bt mg := ⟨He.free_ok X G (c.fact 21 (f := .free "len") rfl), He.free_ok X G (c.fact 22 (f := .free "int") rfl), He.free_ok X G (c.fact 23 (f := .free "bool") rfl), He.free_ok X G (c.fact 24 (f := .free "tuple") rfl), He.free_ok X G (c.fact 25 (f := .free "list") rfl), He.free_ok X G (c.fact 26 (f := .free "range") rfl), He.free_ok X G (c.fact 27 (f := .free "max") rfl), He.free_ok X G (c.fact 28 (f := .free "min") rfl), He.free_ok X G (c.fact 29 (f := .free "sorted") rfl), He.free_ok X G (c.fact 30 (f := .free "isinstance") rfl), He.free_ok X G (c.fact 31 (f := .free "repr") rfl)⟩
  have F_stands : Fn P w K mg base 1 "stands" 4 sp_stands := ok_stands T D_stands (He.glo_ok X G (c.fact 0 (f := .glo "stands") rfl))
  have F_is_smooth : Fn P w K mg base 1 "is_smooth" 2 sp_is_smooth := ok_is_smooth T D_is_smooth (He.glo_ok X G (c.fact 1 (f := .glo "is_smooth") rfl))
  have F_counts_in : Fn P w K mg base 2 "counts_in" 2 sp_counts_in := ok_counts_in T F_stands D_counts_in (He.glo_ok X G (c.fact 2 (f := .glo "counts_in") rfl))
  have F_right_in : Fn P w K mg base 2 "right_in" 2 sp_right_in := ok_right_in T F_is_smooth D_right_in (He.glo_ok X G (c.fact 3 (f := .glo "right_in") rfl))
  have F_l_whole : Fn P w K mg base 1 "_law_whole" 1 sp_l_whole := ok_l_whole T D_l_whole (He.glo_ok X G (c.fact 4 (f := .glo "_law_whole") rfl))
  have F_l_cell : Fn P w K mg base 1 "_law_cell" 2 sp_l_cell := ok_l_cell T D_l_cell (He.glo_ok X G (c.fact 5 (f := .glo "_law_cell") rfl))
  have F_l_digits : Fn P w K mg base 1 "_law_digits" 2 sp_l_digits := ok_l_digits T D_l_digits (He.glo_ok X G (c.fact 6 (f := .glo "_law_digits") rfl))
  have F_l_same : Fn P w K mg base 3 "_law_same" 2 sp_l_same := ok_l_same T F_l_whole D_l_same (He.glo_ok X G (c.fact 7 (f := .glo "_law_same") rfl))
  have F_l_others : Fn P w K mg base 1 "_law_others" 2 sp_l_others := ok_l_others T D_l_others (He.glo_ok X G (c.fact 8 (f := .glo "_law_others") rfl))
  have F_l_letters : Fn P w K mg base 2 "_law_letters" 1 sp_l_letters := ok_l_letters T F_l_others D_l_letters (He.glo_ok X G (c.fact 9 (f := .glo "_law_letters") rfl))
  have F_l_setting : Fn P w K mg base 2 "_law_setting" 1 sp_l_setting := ok_l_setting T F_l_digits D_l_setting (He.glo_ok X G (c.fact 10 (f := .glo "_law_setting") rfl))
  have F_l_lossy : Fn P w K mg base 3 "_law_lossy" 3 sp_l_lossy := ok_l_lossy T F_l_letters F_l_digits D_l_lossy (He.glo_ok X G (c.fact 12 (f := .glo "_law_lossy") rfl))
  have F_l_story : Fn P w K mg base 4 "_law_story" 3 sp_l_story := ok_l_story T F_l_lossy F_l_digits F_l_others D_l_story (He.glo_ok X G (c.fact 11 (f := .glo "_law_story") rfl))
  have F_l_passed : Fn P w K mg base 1 "_law_passed" 2 sp_l_passed := ok_l_passed T D_l_passed (He.glo_ok X G (c.fact 13 (f := .glo "_law_passed") rfl))
  have F_l_form : Fn P w K mg base 1 "_law_form" 3 sp_l_form := ok_l_form T D_l_form (He.glo_ok X G (c.fact 14 (f := .glo "_law_form") rfl))
  have F_l_counts : Fn P w K mg base 1 "_law_counts" 2 sp_l_counts := ok_l_counts T D_l_counts (He.glo_ok X G (c.fact 15 (f := .glo "_law_counts") rfl))
  have F_l_right : Fn P w K mg base 1 "_law_right" 2 sp_l_right := ok_l_right T D_l_right (He.glo_ok X G (c.fact 16 (f := .glo "_law_right") rfl))
  have F_l_variants : Fn P w K mg base 1 "_law_variants" 1 sp_l_variants := ok_l_variants T D_l_variants (He.glo_ok X G (c.fact 17 (f := .glo "_law_variants") rfl))
  have F_l_seconds : Fn P w K mg base 3 "_law_seconds" 2 sp_l_seconds := ok_l_seconds T F_l_letters F_l_others D_l_seconds (He.glo_ok X G (c.fact 18 (f := .glo "_law_seconds") rfl))
  have F_l_beginnings : Fn P w K mg base 1 "_law_beginnings" 4 sp_l_beginnings := ok_l_beginnings T D_l_beginnings (He.glo_ok X G (c.fact 19 (f := .glo "_law_beginnings") rfl))
  exact law_fnG D_law sc_law (fun cdv A outer s H E hG hr => t_law T F_l_cell F_l_setting F_l_digits F_l_story F_l_beginnings F_l_seconds F_l_form F_l_variants F_l_passed F_l_right F_right_in F_l_same F_l_counts F_counts_in cdv A outer s H E hG hr) p_law
end K64
open PySem PySem.W PySem.Calls PyProof.Rows
theorem PySem.Challenge.cw_whywait_k64_tasks_and_counts_holds : PySem.Challenge.rw_whywait_k64_tasks_and_counts.Holds := by
  w_on; o_law
  refine HandSHeadRun.head_any (r := OpenLaw.row PySem.Challenge.rw_whywait_k64_tasks_and_counts) (q := view (OpenLaw.row PySem.Challenge.rw_whywait_k64_tasks_and_counts).prog [23]) (H := K64.hk) (ob := K64.hob) (M := 4000) (loose := ["stands", "is_smooth", "counts_in", "right_in", "_law_whole", "_law_cell", "_law_digits", "_law_same", "_law_others", "_law_letters", "_law_setting", "_law_story", "_law_lossy", "_law_passed", "_law_form", "_law_counts", "_law_right", "_law_variants", "_law_seconds", "_law_beginnings"]) (d := HandSHeadRun.topDef (OpenLaw.row PySem.Challenge.rw_whywait_k64_tasks_and_counts).prog 23) (kwd := []) K64.hob_eq
    (by kernel_rfl) (fun s => by kernel_rfl) K64.hrun (by kernel_rfl) (by kernel_rfl) (by kernel_rfl) (by rfl) (by first | assumption | decide +kernel) (by decide +kernel) ⟨rfl, rfl, rfl, rfl, rfl, by decide +kernel⟩ ?hw ?hc
  case hw => w_witness2
  case hc =>
    refine DL.walkG (l := PySem.Challenge.rw_whywait_k64_tasks_and_counts) (n := 63) (k := 5) (x := "script") (CX := fun w => L2.CX (PySem.Challenge.rw_whywait_k64_tasks_and_counts).prog w) rfl (by decide) (by kernel_rfl) ⟨rfl, by decide, by decide⟩ ?F (fun w H s e s' h => DL.cx_false w H s e s' h)
    intro w mg fa h Y G hmg0
    obtain ⟨K, KX, c⟩ := Y
    have hmg : mg ("law" : PySem.Str) = some (.ref fa) := by
      have e : (HandSHeadRun.topDef (OpenLaw.row PySem.Challenge.rw_whywait_k64_tasks_and_counts).prog 23).name = ("law" : PySem.Str) := by kernel_rfl
      rw [← e]
      exact hmg0
    obtain ⟨fd, hb, hF⟩ := K64.facts (P := (PySem.Challenge.rw_whywait_k64_tasks_and_counts).prog) (w := w) KX G hmg c
    exact ⟨K, fd, DL.spLaw K, KX, hb, fun H a ns hl hS => ⟨a, ns, rfl, hl, hS, fun _ => rfl⟩, hF⟩

