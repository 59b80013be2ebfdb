import PyProof.Rows.All
import Wide.All
import OpenK.AllK
import Wide.FinOn
import HandS.ForMost
import HandS.ForExc
import HandS.TupAny
import HandS.Deep
import HandS.Style
import HandS.IsInst
import HandS.More
import HandS.TupLe
import HandS.Text
import HandS.Dict
import HandS.SetKeys
import HandS.Conv
import HandS.SortOrd
import HandS.Zip
import HandS.SetFor
import HandS.NoneIn
import HandS.Iter
import KE.GoesMore
import HandS.Lambda
import HandS.Codes
import HandS.SortInts
import PySem.Challenge.RW_sametones_k80_whole_kept_tiles_judged
section
set_option Elab.async false
set_option linter.all false
set_option maxRecDepth 100000
set_option maxHeartbeats 4000000
/-! IvCore: plain data D, cells, the representation of data by values and the abstract heap, runs as functions. -/
namespace Iv
open PySem PySem.Spec L2

/-- plain data: trees that no one changes any more; cell n: the n-th thing that may still be changed -/
inductive D where
  | non | bl (b : Bool) | int (i : Int) | str (x : Str) | ty (n : String) | cls (i : Nat)
  | tup (xs : List D) | lst (xs : List D)
  | obj (C : Nat) (ns : List Str) (vs : List D)
  | dK (ks : List Key) (vs : List D) | dT (ks : List (List Key)) (vs : List D)
  | cell (n : Nat)
  | script (ns : List Int)
  deriving Inhabited

/-- what stands for what: the written part, the classes' addresses -/
structure Gh where
  K : PySem.W.Frag
  ca : Nat → Addr

abbrev Ph := List (Option Addr)

section
variable (g : Gh) (φ : Ph) (H : Hp)
mutual
def Rep : D → V → Prop
  | .non, v => v = .non
  | .bl b, v => v = .bl b
  | .int i, v => v = .int i
  | .str x, v => v = .str x
  | .ty n, v => v = .ty n
  | .cls i, v => v = .ref (g.ca i)
  | .tup ds, v => ∃ p vs, v = .ref p ∧ H p = some (.tup vs) ∧ RepL ds vs
  | .lst ds, v => ∃ p vs, v = .ref p ∧ some p ∉ φ ∧ H p = some (.lst vs) ∧ RepL ds vs
  | .obj C ns ds, v => ∃ p dx vs, v = .ref p ∧ some p ∉ φ ∧ H p = some (.ins (g.ca C) dx (ns.zip vs)) ∧ ns.length = vs.length ∧ RepL ds vs
  | .dK ks ds, v => ∃ p vs, v = .ref p ∧ some p ∉ φ ∧ H p = some (.dK (ks.zip vs)) ∧ ks.length = vs.length ∧ RepL ds vs
  | .dT ks ds, v => ∃ p vs, v = .ref p ∧ some p ∉ φ ∧ H p = some (.dT (ks.zip vs)) ∧ ks.length = vs.length ∧ RepL ds vs
  | .cell n, v => match φ[n]? with
    | some (some a) => v = .ref a
    | some none => True
    | none => False
  | .script ns, v => ∃ a, v = .ref a ∧ ((∃ o, H a = some (.frz o (.lst (ns.map V.int)))) ∨
      ∃ (o : Obj) (its : Array Value) (n : Nat), g.K.lookup a = some o ∧ o.cls = .type "list" ∧ o.dict = none ∧ o.data = .seq its n ∧ its.size ≤ sizeLine ∧ Vals (ns.map V.int) its.toList)
def RepL : List D → List V → Prop
  | [], vs => vs = []
  | d :: ds, vs => ∃ v r, vs = v :: r ∧ Rep d v ∧ RepL ds r
end

/-- what stands in a cell at a -/
def RepC : D → Addr → Prop
  | .lst ds, a => ∃ vs, H a = some (.lst vs) ∧ RepL g φ H ds vs
  | .obj C ns ds, a => ∃ dx vs, H a = some (.ins (g.ca C) dx (ns.zip vs)) ∧ ns.length = vs.length ∧ RepL g φ H ds vs
  | .dK ks ds, a => ∃ vs, H a = some (.dK (ks.zip vs)) ∧ ks.length = vs.length ∧ RepL g φ H ds vs
  | .dT ks ds, a => ∃ vs, H a = some (.dT (ks.zip vs)) ∧ ks.length = vs.length ∧ RepL g φ H ds vs
  | _, _ => False
end

abbrev Mu := List D
/-- the cells are held -/
structure RepMu (g : Gh) (φ : Ph) (H : Hp) (μ : Mu) : Prop where
  len : φ.length = μ.length
  nd : ∀ (i j : Nat) (a : Addr), φ[i]? = some (some a) → φ[j]? = some (some a) → i = j
  at_ : ∀ (n : Nat) (a : Addr) (d : D), φ[n]? = some (some a) → μ[n]? = some d → RepC g φ H d a
  dead : ∀ (n : Nat), φ[n]? = some none → μ[n]? = some D.non

/-- what a run may do: cells end or are new, all that stood outside the cells stands -/
structure Ext (φ : Ph) (H : Hp) (φ' : Ph) (H' : Hp) : Prop where
  pre : ∀ (n : Nat) o, φ[n]? = some o → φ'[n]? = some o ∨ φ'[n]? = some none
  keep : ∀ b o, H b = some o → some b ∉ φ → H' b = some o
  new : ∀ a, some a ∈ φ' → some a ∈ φ ∨ H a = none
  frz : ∀ b o u, H b = some (.frz o u) → H' b = some (.frz o u)
  tup : ∀ b xs, H b = some (.tup xs) → H' b = some (.tup xs)

theorem Ext.refl (φ : Ph) (H : Hp) : Ext φ H φ H := ⟨fun _ _ h => .inl h, fun _ _ h _ => h, fun _ h => .inl h, fun _ _ _ h => h, fun _ _ h => h⟩
theorem Ext.out {φ φ' : Ph} {H H' : Hp} (e : Ext φ H φ' H') {b : Addr} {o : HO} (h : H b = some o) (n : some b ∉ φ) : some b ∉ φ' := fun z => by
  rcases e.new b z with q | q
  · exact n q
  · rw [h] at q; cases q
theorem Ext.trans {φ φ1 φ2 : Ph} {H H1 H2 : Hp} (a : Ext φ H φ1 H1) (b : Ext φ1 H1 φ2 H2) : Ext φ H φ2 H2 where
  pre := fun n o h => by
    rcases a.pre n o h with q | q
    · exact b.pre n o q
    · rcases b.pre n _ q with r | r <;> exact .inr r
  keep := fun c o h n => b.keep c o (a.keep c o h n) (a.out h n)
  new := fun c h => by
    rcases b.new c h with q | q
    · exact a.new c q
    · cases e : H c with
      | none => exact .inr rfl
      | some o =>
        by_cases hc : some c ∈ φ
        · exact .inl hc
        · rw [a.keep c o e hc] at q; cases q
  frz := fun c o u h => b.frz c o u (a.frz c o u h)
  tup := fun c xs h => b.tup c xs (a.tup c xs h)

section
variable {g : Gh} {φ φ' : Ph} {H H' : Hp}
mutual
theorem Rep.ext (e : Ext φ H φ' H') : ∀ (d : D) (v : V), Rep g φ H d v → Rep g φ' H' d v
  | .non, v, h => by unfold Rep at h ⊢; exact h
  | .bl b, v, h => by unfold Rep at h ⊢; exact h
  | .int i, v, h => by unfold Rep at h ⊢; exact h
  | .str x, v, h => by unfold Rep at h ⊢; exact h
  | .ty n, v, h => by unfold Rep at h ⊢; exact h
  | .cls i, v, h => by unfold Rep at h ⊢; exact h
  | .tup ds, v, h => by
    unfold Rep at h ⊢
    obtain ⟨p, vs, h1, h2, h3⟩ := h
    exact ⟨p, vs, h1, e.tup p vs h2, RepL.ext e ds vs h3⟩
  | .lst ds, v, h => by
    unfold Rep at h ⊢
    obtain ⟨p, vs, h1, h2, h3, h4⟩ := h
    exact ⟨p, vs, h1, e.out h3 h2, e.keep p _ h3 h2, RepL.ext e ds vs h4⟩
  | .obj C ns ds, v, h => by
    unfold Rep at h ⊢
    obtain ⟨p, dx, vs, h1, h2, h3, h4, h5⟩ := h
    exact ⟨p, dx, vs, h1, e.out h3 h2, e.keep p _ h3 h2, h4, RepL.ext e ds vs h5⟩
  | .dK ks ds, v, h => by
    unfold Rep at h ⊢
    obtain ⟨p, vs, h1, h2, h3, h4, h5⟩ := h
    exact ⟨p, vs, h1, e.out h3 h2, e.keep p _ h3 h2, h4, RepL.ext e ds vs h5⟩
  | .dT ks ds, v, h => by
    unfold Rep at h ⊢
    obtain ⟨p, vs, h1, h2, h3, h4, h5⟩ := h
    exact ⟨p, vs, h1, e.out h3 h2, e.keep p _ h3 h2, h4, RepL.ext e ds vs h5⟩
  | .cell n, v, h => by
    unfold Rep at h ⊢
    cases q : φ[n]? with
    | none => rw [q] at h; exact h.elim
    | some o =>
      rw [q] at h
      rcases e.pre n o q with r | r
      · rw [r]; exact h
      · rw [r]; trivial
  | .script ns, v, h => by
    unfold Rep at h ⊢
    obtain ⟨a, h1, h2⟩ := h
    refine ⟨a, h1, ?_⟩
    rcases h2 with ⟨o, h2⟩ | h2
    · exact .inl ⟨o, e.frz _ _ _ h2⟩
    · exact .inr h2
theorem RepL.ext (e : Ext φ H φ' H') : ∀ (ds : List D) (vs : List V), RepL g φ H ds vs → RepL g φ' H' ds vs
  | [], vs, h => by unfold RepL at h ⊢; exact h
  | d :: ds, vs, h => by
    unfold RepL at h ⊢
    obtain ⟨v, r, h1, h2, h3⟩ := h
    exact ⟨v, r, h1, Rep.ext e d v h2, RepL.ext e ds r h3⟩
end
end

section
variable {g : Gh} {φ : Ph} {H : Hp}
theorem RepL.nil : RepL g φ H [] [] := by unfold RepL; rfl
theorem RepL.cons {d : D} {v : V} {ds : List D} {vs : List V} (h : Rep g φ H d v) (t : RepL g φ H ds vs) : RepL g φ H (d :: ds) (v :: vs) := by
  unfold RepL; exact ⟨v, vs, rfl, h, t⟩
theorem RepL.nil_inv {vs : List V} (h : RepL g φ H [] vs) : vs = [] := by unfold RepL at h; exact h
theorem RepL.cons_inv {d : D} {ds : List D} {vs : List V} (h : RepL g φ H (d :: ds) vs) : ∃ v r, vs = v :: r ∧ Rep g φ H d v ∧ RepL g φ H ds r := by unfold RepL at h; exact h
theorem RepL.length : ∀ {ds : List D} {vs : List V}, RepL g φ H ds vs → ds.length = vs.length
  | [], vs, h => by rw [h.nil_inv]; rfl
  | d :: ds, vs, h => by
    obtain ⟨v, r, rfl, _, t⟩ := h.cons_inv
    simp [RepL.length t]
theorem RepL.get : ∀ {ds : List D} {vs : List V} {i : Nat} {d : D}, RepL g φ H ds vs → ds[i]? = some d → ∃ v, vs[i]? = some v ∧ Rep g φ H d v
  | [], _, _, _, _, e => by simp at e
  | d :: ds, vs, 0, d', h, e => by
    obtain ⟨v, r, rfl, hd, _⟩ := h.cons_inv
    simp at e; subst e
    exact ⟨v, rfl, hd⟩
  | d :: ds, vs, i + 1, d', h, e => by
    obtain ⟨v, r, rfl, _, t⟩ := h.cons_inv
    obtain ⟨u, h1, h2⟩ := RepL.get (i := i) t (by simpa using e)
    exact ⟨u, by simpa using h1, h2⟩
theorem RepL.getV {ds : List D} {vs : List V} {i : Nat} {v : V} (h : RepL g φ H ds vs) (e : vs[i]? = some v) : ∃ d, ds[i]? = some d ∧ Rep g φ H d v := by
  have hi : i < vs.length := (List.getElem?_eq_some_iff.mp e).1
  rw [← h.length] at hi
  obtain ⟨u, h1, h2⟩ := h.get (List.getElem?_eq_getElem hi)
  rw [e] at h1; cases h1
  exact ⟨_, List.getElem?_eq_getElem hi, h2⟩
theorem RepL.append : ∀ {ds es : List D} {vs us : List V}, RepL g φ H ds vs → RepL g φ H es us → RepL g φ H (ds ++ es) (vs ++ us)
  | [], _, _, _, h, k => by rw [h.nil_inv]; exact k
  | d :: ds, _, _, _, h, k => by
    obtain ⟨v, r, rfl, hd, t⟩ := h.cons_inv
    exact .cons hd (RepL.append t k)
theorem RepL.set {e : D} {u : V} (k : Rep g φ H e u) : ∀ {ds : List D} {vs : List V} (i : Nat), RepL g φ H ds vs → RepL g φ H (ds.set i e) (vs.set i u)
  | [], _, _, h => by rw [h.nil_inv]; exact .nil
  | d :: ds, _, 0, h => by
    obtain ⟨v, r, rfl, hd, t⟩ := h.cons_inv
    exact .cons k t
  | d :: ds, _, i + 1, h => by
    obtain ⟨v, r, rfl, hd, t⟩ := h.cons_inv
    exact .cons hd (RepL.set k i t)
theorem RepL.take : ∀ {ds : List D} {vs : List V} (n : Nat), RepL g φ H ds vs → RepL g φ H (ds.take n) (vs.take n)
  | _, _, 0, _ => .nil
  | [], _, n + 1, h => by rw [h.nil_inv]; exact .nil
  | d :: ds, _, n + 1, h => by
    obtain ⟨v, r, rfl, hd, t⟩ := h.cons_inv
    exact .cons hd (RepL.take n t)
theorem RepL.drop : ∀ {ds : List D} {vs : List V} (n : Nat), RepL g φ H ds vs → RepL g φ H (ds.drop n) (vs.drop n)
  | _, _, 0, h => h
  | [], _, n + 1, h => by rw [h.nil_inv]; exact .nil
  | d :: ds, _, n + 1, h => by
    obtain ⟨v, r, rfl, hd, t⟩ := h.cons_inv
    exact RepL.drop n t
theorem RepL.reverse : ∀ {ds : List D} {vs : List V}, RepL g φ H ds vs → RepL g φ H ds.reverse vs.reverse
  | [], _, h => by rw [h.nil_inv]; exact .nil
  | d :: ds, _, h => by
    obtain ⟨v, r, rfl, hd, t⟩ := h.cons_inv
    rw [List.reverse_cons, List.reverse_cons]
    exact (RepL.reverse t).append (.cons hd .nil)
theorem RepL.eraseIdx : ∀ {ds : List D} {vs : List V} (i : Nat), RepL g φ H ds vs → RepL g φ H (ds.eraseIdx i) (vs.eraseIdx i)
  | [], _, _, h => by rw [h.nil_inv]; exact .nil
  | d :: ds, _, 0, h => by
    obtain ⟨v, r, rfl, hd, t⟩ := h.cons_inv
    exact t
  | d :: ds, _, i + 1, h => by
    obtain ⟨v, r, rfl, hd, t⟩ := h.cons_inv
    exact .cons hd (RepL.eraseIdx i t)
theorem RepL.dropLast {ds : List D} {vs : List V} (h : RepL g φ H ds vs) : RepL g φ H ds.dropLast vs.dropLast := by
  rw [List.dropLast_eq_take, List.dropLast_eq_take, ← h.length]
  exact h.take _
theorem RepL.rep {ds : List D} {vs : List V} (h : RepL g φ H ds vs) : ∀ k : Nat, RepL g φ H (List.replicate k ds).flatten (List.replicate k vs).flatten
  | 0 => .nil
  | k + 1 => by
    rw [List.replicate_succ, List.replicate_succ, List.flatten_cons, List.flatten_cons]
    exact h.append (RepL.rep h k)
theorem RepL.insert {e : D} {u : V} (k : Rep g φ H e u) {ds : List D} {vs : List V} (i : Nat) (h : RepL g φ H ds vs) : RepL g φ H (ds.take i ++ e :: ds.drop i) (vs.take i ++ u :: vs.drop i) :=
  (h.take i).append (.cons k (h.drop i))
theorem RepL.ints : ∀ (ns : List Int), RepL g φ H (ns.map D.int) (ns.map V.int)
  | [] => .nil
  | n :: ns => .cons (by unfold Rep; rfl) (RepL.ints ns)
theorem RepL.of_ints : ∀ {ns : List Int} {vs : List V}, RepL g φ H (ns.map D.int) vs → vs = ns.map V.int
  | [], vs, h => h.nil_inv
  | n :: ns, vs, h => by
    obtain ⟨v, r, rfl, hd, t⟩ := h.cons_inv
    unfold Rep at hd
    rw [hd, RepL.of_ints t]
    rfl
end

theorem RepC.ext {g : Gh} {φ φ' : Ph} {H H' : Hp} (e : Ext φ H φ' H') {d : D} {a : Addr} (same : ∀ o, H a = some o → H' a = some o) (h : RepC g φ H d a) : RepC g φ' H' d a := by
  cases d with
  | lst ds =>
    obtain ⟨vs, h1, h2⟩ := h
    exact ⟨vs, same _ h1, h2.ext e⟩
  | obj C ns ds =>
    obtain ⟨dx, vs, h1, h2, h3⟩ := h
    exact ⟨dx, vs, same _ h1, h2, h3.ext e⟩
  | dK ks ds =>
    obtain ⟨vs, h1, h2, h3⟩ := h
    exact ⟨vs, same _ h1, h2, h3.ext e⟩
  | dT ks ds =>
    obtain ⟨vs, h1, h2, h3⟩ := h
    exact ⟨vs, same _ h1, h2, h3.ext e⟩
  | _ => exact (show False from h).elim
/-- what stands in a cell is neither a tuple nor locked -/
theorem RepC.kind {g : Gh} {φ : Ph} {H : Hp} {d : D} {a : Addr} (h : RepC g φ H d a) : ∃ o, H a = some o ∧ (∀ xs, o ≠ .tup xs) ∧ (∀ b u, o ≠ .frz b u) := by
  cases d with
  | lst ds =>
    obtain ⟨vs, h1, h2⟩ := h
    exact ⟨_, h1, (fun _ z => nomatch z), fun _ _ z => nomatch z⟩
  | obj C ns ds =>
    obtain ⟨dx, vs, h1, h2, h3⟩ := h
    exact ⟨_, h1, (fun _ z => nomatch z), fun _ _ z => nomatch z⟩
  | dK ks ds =>
    obtain ⟨vs, h1, h2, h3⟩ := h
    exact ⟨_, h1, (fun _ z => nomatch z), fun _ _ z => nomatch z⟩
  | dT ks ds =>
    obtain ⟨vs, h1, h2, h3⟩ := h
    exact ⟨_, h1, (fun _ z => nomatch z), fun _ _ z => nomatch z⟩
  | _ => exact (show False from h).elim

section
variable {g : Gh} {φ φ' : Ph} {H H' : Hp} {μ : Mu}
theorem RepMu.there (r : RepMu g φ H μ) {a : Addr} (h : some a ∈ φ) : ∃ (n : Nat) (d : D), φ[n]? = some (some a) ∧ μ[n]? = some d ∧ RepC g φ H d a := by
  obtain ⟨n, hn⟩ := List.mem_iff_getElem?.mp h
  have hl : n < φ.length := (List.getElem?_eq_some_iff.mp hn).1
  rw [r.len] at hl
  exact ⟨n, _, hn, List.getElem?_eq_getElem hl, r.at_ n a _ hn (List.getElem?_eq_getElem hl)⟩
theorem RepMu.tracked (r : RepMu g φ H μ) {a : Addr} (h : some a ∈ φ) : ∃ o, H a = some o := by
  obtain ⟨n, d, _, _, c⟩ := r.there h
  obtain ⟨o, e, _⟩ := c.kind
  exact ⟨o, e⟩
/-- a new object, which is no cell -/
theorem Ext.laid {p : Addr} {o : HO} (r : RepMu g φ H μ) (hp : H p = none) : Ext φ H φ (upd H p o) := by
  have ne : ∀ b u, H b = some u → b ≠ p := fun b u e => ne_of_none e hp
  exact ⟨fun _ _ h => .inl h, fun b u e _ => by rw [upd_ne (ne b u e)]; exact e, fun _ h => .inl h, fun b _ _ e => by rw [upd_ne (ne b _ e)]; exact e, fun b _ e => by rw [upd_ne (ne b _ e)]; exact e⟩
theorem RepMu.laid {p : Addr} {o : HO} (r : RepMu g φ H μ) (hp : H p = none) : RepMu g φ (upd H p o) μ where
  len := r.len
  nd := r.nd
  at_ := fun n a d h1 h2 => (r.at_ n a d h1 h2).ext (Ext.laid r hp) fun u e => by rw [upd_ne (ne_of_none e hp)]; exact e
  dead := r.dead
theorem RepMu.notIn (r : RepMu g φ H μ) {p : Addr} (hp : H p = none) : some p ∉ φ := fun z => by
  obtain ⟨o, e⟩ := r.tracked z
  rw [hp] at e; cases e
/-- a new object, which is a cell -/
theorem Ext.cell {p : Addr} {o : HO} (r : RepMu g φ H μ) (hp : H p = none) : Ext φ H (φ ++ [some p]) (upd H p o) := by
  have ne : ∀ b u, H b = some u → b ≠ p := fun b u e => ne_of_none e hp
  refine ⟨fun n q h => .inl ?_, fun b u e _ => by rw [upd_ne (ne b u e)]; exact e, fun a h => ?_, fun b _ _ e => by rw [upd_ne (ne b _ e)]; exact e, fun b _ e => by rw [upd_ne (ne b _ e)]; exact e⟩
  · rw [List.getElem?_append_left (List.getElem?_eq_some_iff.mp h).1]; exact h
  · rcases List.mem_append.mp h with q | q
    · exact .inl q
    · have e : a = p := by simpa using q
      subst e; exact .inr hp
theorem RepMu.cell {p : Addr} {o : HO} {d : D} (r : RepMu g φ H μ) (hp : H p = none) (c : RepC g (φ ++ [some p]) (upd H p o) d p) : RepMu g (φ ++ [some p]) (upd H p o) (μ ++ [d]) where
  len := by simp [r.len]
  nd := fun i j a h1 h2 => by
    have key : ∀ k, (φ ++ [some p])[k]? = some (some a) → (φ[k]? = some (some a) ∧ a ≠ p) ∨ (k = φ.length ∧ a = p) := fun k h => by
      by_cases hk : k < φ.length
      · rw [List.getElem?_append_left hk] at h
        refine .inl ⟨h, fun e => ?_⟩
        subst e
        exact r.notIn hp (List.mem_of_getElem? h)
      · rw [List.getElem?_append_right (by omega)] at h
        cases q : k - φ.length with
        | zero => rw [q] at h; simp at h; exact .inr ⟨by omega, h.symm⟩
        | succ m => rw [q] at h; simp at h
    rcases key i h1 with ⟨a1, n1⟩ | ⟨a1, n1⟩
    · rcases key j h2 with ⟨a2, n2⟩ | ⟨a2, n2⟩
      · exact r.nd i j a a1 a2
      · exact absurd n2 n1
    · rcases key j h2 with ⟨a2, n2⟩ | ⟨a2, n2⟩
      · exact absurd n1 n2
      · omega
  at_ := fun n a u h1 h2 => by
    by_cases hn : n < φ.length
    · rw [List.getElem?_append_left hn] at h1
      rw [List.getElem?_append_left (by rw [← r.len]; exact hn)] at h2
      exact (r.at_ n a u h1 h2).ext (Ext.cell r hp) fun w e => by rw [upd_ne (ne_of_none e hp)]; exact e
    · rw [List.getElem?_append_right (by omega)] at h1
      rw [List.getElem?_append_right (by rw [← r.len]; omega)] at h2
      have e0 : n - φ.length = 0 := by
        cases q : n - φ.length with
        | zero => rfl
        | succ m => rw [q] at h1; simp at h1
      rw [e0] at h1
      rw [← r.len, e0] at h2
      simp at h1 h2
      subst h1; subst h2
      exact c
  dead := fun n h => by
    have hn : n < φ.length := by
      by_cases hn : n < φ.length
      · exact hn
      · rw [List.getElem?_append_right (by omega)] at h
        cases q : n - φ.length with
        | zero => rw [q] at h; simp at h
        | succ m => rw [q] at h; simp at h
    rw [List.getElem?_append_left hn] at h
    rw [List.getElem?_append_left (by rw [← r.len]; exact hn)]
    exact r.dead n h
/-- a cell is changed -/
theorem Ext.write {n : Nat} {a : Addr} {d : D} {o : HO} (r : RepMu g φ H μ) (hn : φ[n]? = some (some a)) (hd : μ[n]? = some d) : Ext φ H φ (upd H a o) := by
  obtain ⟨u, e, k1, k2⟩ := (r.at_ n a d hn hd).kind
  have ne : ∀ b w, H b = some w → ((∃ xs, w = .tup xs) ∨ ∃ x y, w = .frz x y) → b ≠ a := fun b w hb hw z => by
    subst z
    rw [e] at hb; cases hb
    rcases hw with ⟨xs, q⟩ | ⟨x, y, q⟩
    · exact k1 _ q
    · exact k2 _ _ q
  refine ⟨fun _ _ h => .inl h, fun b u e nb => ?_, fun _ h => .inl h, fun b x y e => by rw [upd_ne (ne b _ e (.inr ⟨x, y, rfl⟩))]; exact e, fun b xs e => by rw [upd_ne (ne b _ e (.inl ⟨xs, rfl⟩))]; exact e⟩
  rw [upd_ne fun z => nb (by rw [z]; exact List.mem_of_getElem? hn)]
  exact e
theorem RepMu.write {n : Nat} {a : Addr} {d d' : D} {o : HO} (r : RepMu g φ H μ) (hn : φ[n]? = some (some a)) (hd : μ[n]? = some d) (c : RepC g φ (upd H a o) d' a) : RepMu g φ (upd H a o) (μ.set n d') where
  len := by simp [r.len]
  nd := r.nd
  at_ := fun m b u h1 h2 => by
    by_cases e : m = n
    · subst e
      rw [hn] at h1; cases h1
      rw [List.getElem?_set_self (List.getElem?_eq_some_iff.mp hd).1] at h2
      cases h2
      exact c
    · rw [List.getElem?_set_ne (Ne.symm e)] at h2
      refine (r.at_ m b u h1 h2).ext (Ext.write r hn hd) fun w hw => ?_
      rw [upd_ne fun z => e (r.nd m n b h1 (by rw [z]; exact hn))]
      exact hw
  dead := fun m h => by
    have e : m ≠ n := fun e => by
      subst e
      rw [hn] at h; cases h
    rw [List.getElem?_set_ne (Ne.symm e)]
    exact r.dead m h
end

/-! ### runs -/
inductive R (α : Type) where
  | ok (a : α) | err (i : Nat) (ns : List Str) (vs : List D)
def M (α : Type) : Type := Mu → Option (R α × Mu)
def M.pure {α : Type} (a : α) : M α := fun μ => some (.ok a, μ)
def M.bind {α β : Type} (m : M α) (f : α → M β) : M β := fun μ => match m μ with
  | none => none
  | some (.ok a, μ') => f a μ'
  | some (.err i ns vs, μ') => some (.err i ns vs, μ')
instance : Monad M where
  pure := M.pure
  bind := M.bind
def M.fail {α : Type} : M α := fun _ => none
def M.ofO {α : Type} : Option α → M α
  | some a => M.pure a
  | none => M.fail
/-- a step that raises nothing -/
abbrev O (α : Type) := Mu → Option (α × Mu)
def M.op {α : Type} (o : O α) : M α := fun μ => match o μ with
  | none => none
  | some (a, μ') => some (.ok a, μ')

abbrev Sg := List (Option D)
/-- the names' data -/
def RepS (g : Gh) (φ : Ph) (H : Hp) (δ : Sg) (σ : St) : Prop := δ.length = σ.length ∧ ∀ (i : Nat) (d : D), δ[i]? = some (some d) → ∃ v, σ[i]? = some (some v) ∧ Rep g φ H d v
structure At (g : Gh) (φ : Ph) (H : Hp) (μ : Mu) (δ : Sg) (σ : St) : Prop where
  s : RepS g φ H δ σ
  m : RepMu g φ H μ
theorem RepS.ext {g : Gh} {φ φ' : Ph} {H H' : Hp} {δ : Sg} {σ : St} (e : Ext φ H φ' H') (h : RepS g φ H δ σ) : RepS g φ' H' δ σ :=
  ⟨h.1, fun i d hd => let ⟨v, h1, h2⟩ := h.2 i d hd; ⟨v, h1, h2.ext e⟩⟩
theorem RepS.set {g : Gh} {φ : Ph} {H : Hp} {δ : Sg} {σ : St} {d : D} {v : V} (h : RepS g φ H δ σ) (i : Nat) (k : Rep g φ H d v) : RepS g φ H (δ.set i (some d)) (σ.set i (some v)) := by
  refine ⟨by simp [h.1], fun j e he => ?_⟩
  by_cases hij : i = j
  · subst hij
    by_cases hi : i < δ.length
    · rw [List.getElem?_set_self hi] at he
      cases he
      exact ⟨v, List.getElem?_set_self (by rw [← h.1]; exact hi), k⟩
    · rw [List.getElem?_eq_none (by simpa using hi)] at he; cases he
  · rw [List.getElem?_set_ne hij] at he
    obtain ⟨u, h1, h2⟩ := h.2 j e he
    exact ⟨u, by rw [List.getElem?_set_ne hij]; exact h1, h2⟩

/-- an exception's own dict -/
def ErrAt (g : Gh) (φ : Ph) (H : Hp) (ns : List Str) (ds : List D) (d : Option Addr) : Prop :=
  (ns = [] ∧ ds = []) ∨ ∃ dx vs, d = some dx ∧ H dx = some (.xd (ns.zip vs)) ∧ ns.length = vs.length ∧ RepL g φ H ds vs

abbrev Rl (α β : Type) := Ph → Hp → α → β → Prop
def EndG {α β : Type} (g : Gh) (rel : Rl α β) (W : WX) (σ : St) (φ : Ph) (H : Hp) (Q : β → Hp → Prop) : Option (R α × Mu) → Prop
  | none => False
  | some (.ok a, μ') => ∀ φ' H' b, Ext φ H φ' H' → RepMu g φ' H' μ' → rel φ' H' a b → Q b H'
  | some (.err i ns ds, μ') => ∀ φ' H' d, Ext φ H φ' H' → RepMu g φ' H' μ' → ErrAt g φ' H' ns ds d → W (.ref (g.ca i)) d σ H'
theorem EndG.mono {α β : Type} {g : Gh} {rel : Rl α β} {W : WX} {σ : St} {φ φ1 : Ph} {H H1 : Hp} {Q : β → Hp → Prop} (e : Ext φ H φ1 H1) : ∀ {r : Option (R α × Mu)}, EndG g rel W σ φ H Q r → EndG g rel W σ φ1 H1 Q r
  | none, h => h
  | some (.ok _, _), h => fun φ' H' b e' => h φ' H' b (e.trans e')
  | some (.err _ _ _, _), h => fun φ' H' d e' => h φ' H' d (e.trans e')
def tG {α β : Type} (g : Gh) (rel : Rl α β) (W : WX) (m : Sg → M α) : St → Hp → (β → Hp → Prop) → Prop := fun σ H Q =>
  ∃ φ μ δ, At g φ H μ δ σ ∧ EndG g rel W σ φ H Q (m δ μ)
/-- ONE STEP: the first part's reading, from the whole run's -/
theorem tG_bind {α β γ ε : Type} {g : Gh} {rel : Rl α β} {rel' : Rl γ ε} {W : WX} {σ : St} {φ : Ph} {H : Hp} {μ : Mu} {δ : Sg} {Q : ε → Hp → Prop} {ma : Sg → M α} {k : Sg → α → M γ} {Rr : β → Hp → Prop}
    (a : At g φ H μ δ σ) (h : EndG g rel' W σ φ H Q ((ma δ >>= k δ) μ))
    (step : ∀ φ1 H1 μ1 x b, Ext φ H φ1 H1 → At g φ1 H1 μ1 δ σ → rel φ1 H1 x b → EndG g rel' W σ φ1 H1 Q (k δ x μ1) → Rr b H1) : tG g rel W ma σ H Rr := by
  refine ⟨φ, μ, δ, a, ?_⟩
  have h' : EndG g rel' W σ φ H Q (M.bind (ma δ) (k δ) μ) := h
  unfold M.bind at h'
  cases e : ma δ μ with
  | none => rw [e] at h'; exact h'
  | some p =>
    obtain ⟨r, μ1⟩ := p
    rw [e] at h'
    cases r with
    | ok x => exact fun φ1 H1 b x1 m1 rl => step φ1 H1 μ1 x b x1 ⟨a.s.ext x1, m1⟩ rl (EndG.mono x1 h')
    | err i ns vs => exact h'
/-- the run's answer is handed on -/
theorem EndG.here {α β : Type} {g : Gh} {rel : Rl α β} {W : WX} {σ : St} {φ : Ph} {H : Hp} {Q : β → Hp → Prop} {a : α} {μ : Mu} {b : β} (h : EndG g rel W σ φ H Q (some (.ok a, μ))) (m : RepMu g φ H μ) (r : rel φ H a b) : Q b H :=
  h φ H b (Ext.refl _ _) m r

abbrev rD (g : Gh) : Rl D V := fun φ H d v => Rep g φ H d v
abbrev rDs (g : Gh) : Rl (List D) (List V) := fun φ H d v => RepL g φ H d v
abbrev rB : Rl Bool Bool := fun _ _ a b => a = b

/-- a run of the expression -/
def DE (g : Gh) (X : Cx) (W : WX) (e : Expr) (m : Sg → M D) : Prop := PE X e (tG g (rD g) W m)
def DT (g : Gh) (X : Cx) (W : WX) (e : Expr) (m : Sg → M Bool) : Prop := PT X e (tG g rB W m)
def DA (g : Gh) (X : Cx) (W : WX) (es : List Expr) (m : Sg → M (List D)) : Prop := PA X es (tG g (rDs g) W m)

theorem PE.imp {X : Cx} {e : Expr} {t t' : TE} (h : PE X e t) (k : ∀ σ H Q, t' σ H Q → t σ H Q) : PE X e t' := ⟨fun pins s σ H Q I q => h.run pins s σ H Q I (k σ H Q q)⟩
theorem PT.imp {X : Cx} {e : Expr} {t t' : TT} (h : PT X e t) (k : ∀ σ H Q, t' σ H Q → t σ H Q) : PT X e t' := ⟨fun pins s σ H Q I q => h.run pins s σ H Q I (k σ H Q q)⟩
theorem PW.imp {X : Cx} {e : Expr} {t t' : TT} (h : PW X e t) (k : ∀ σ H Q, t' σ H Q → t σ H Q) : PW X e t' := ⟨fun w pins s σ H Q I q => h.run w pins s σ H Q I (k σ H Q q)⟩
theorem PA.imp {X : Cx} {e : List Expr} {t t' : TA} (h : PA X e t) (k : ∀ σ H Q, t' σ H Q → t σ H Q) : PA X e t' := ⟨fun pos pins s σ H Q I q => h.run pos pins s σ H Q I (k σ H Q q)⟩
theorem PS.imp {X : Cx} {e : Stmt} {t t' : TS} (h : PS X e t) (k : ∀ D σ H, t' D σ H → t D σ H) : PS X e t' := ⟨fun pins s σ H D I q => h.run pins s σ H D I (k D σ H q)⟩
theorem PSs.imp {X : Cx} {e : List Stmt} {t t' : TS} (h : PSs X e t) (k : ∀ D σ H, t' D σ H → t D σ H) : PSs X e t' := ⟨fun pins s σ H D I q => h.run pins s σ H D I (k D σ H q)⟩
end Iv
end
section
set_option Elab.async false
set_option linter.all false
set_option maxRecDepth 100000
set_option maxHeartbeats 4000000
/-! IvOps: operations on plain data, each shown over the layer's rules by values. -/
namespace Iv
open PySem PySem.Spec L2

abbrev LIM : Nat := 1000000
theorem lim_size {n : Nat} (h : n ≤ LIM) : n ≤ sizeLine := Nat.le_trans h (by decide)
theorem lim_lt {n : Nat} (h : n < LIM) : n < sizeLine := Nat.lt_of_lt_of_le h (by decide)

def EndO (g : Gh) (φ : Ph) (H : Hp) (Q : VK) : Option (D × Mu) → Prop
  | none => False
  | some (d, μ') => ∀ φ' H' v, Ext φ H φ' H' → RepMu g φ' H' μ' → Rep g φ' H' d v → Q v H'
theorem EndO.here {g : Gh} {φ : Ph} {H : Hp} {Q : VK} {d : D} {μ : Mu} {v : V} (h : EndO g φ H Q (some (d, μ))) (m : RepMu g φ H μ) (r : Rep g φ H d v) : Q v H := h φ H v (Ext.refl _ _) m r
theorem EndO.of {g : Gh} {W : WX} {σ : St} {φ : Ph} {H : Hp} {Q : VK} {o : O D} {μ : Mu} (h : EndG g (rD g) W σ φ H Q (M.op o μ)) : EndO g φ H Q (o μ) := by
  unfold M.op at h
  cases e : o μ with
  | none => rw [e] at h; exact h
  | some p => obtain ⟨d, μ'⟩ := p; rw [e] at h; exact h

/-- readings by values of an operation on data -/
def rO2 (g : Gh) (f : D → D → O D) : R2 := fun x y H Q => ∃ φ μ a b, RepMu g φ H μ ∧ Rep g φ H a x ∧ Rep g φ H b y ∧ EndO g φ H Q (f a b μ)
def rO1 (g : Gh) (f : D → O D) : V → Hp → VK → Prop := fun x H Q => ∃ φ μ a, RepMu g φ H μ ∧ Rep g φ H a x ∧ EndO g φ H Q (f a μ)
def rOL (g : Gh) (f : List D → O D) : List V → Hp → VK → Prop := fun xs H Q => ∃ φ μ as, RepMu g φ H μ ∧ RepL g φ H as xs ∧ EndO g φ H Q (f as μ)
def rOM (g : Gh) (f : D → List D → O D) : V → List V → Hp → VK → Prop := fun x xs H Q => ∃ φ μ a as, RepMu g φ H μ ∧ Rep g φ H a x ∧ RepL g φ H as xs ∧ EndO g φ H Q (f a as μ)
def rOS (g : Gh) (f : D → Option Int → Option Int → O D) : V → Option Int → Option Int → Hp → VK → Prop := fun x lo hi H Q => ∃ φ μ a, RepMu g φ H μ ∧ Rep g φ H a x ∧ EndO g φ H Q (f a lo hi μ)

/-! ### reading lists and tuples -/
def lstOf (μ : Mu) : D → Option (List D)
  | .lst ds => some ds
  | .cell n => match μ[n]? with
    | some (.lst ds) => some ds
    | _ => none
  | _ => none
/-- .. the script too -/
def lstOfS (μ : Mu) : D → Option (List D)
  | .script ns => some (ns.map D.int)
  | d => lstOf μ d
def seqOf (μ : Mu) : D → Option (List D)
  | .tup ds => some ds
  | d => lstOfS μ d
section
variable {g : Gh} {φ : Ph} {H : Hp} {μ : Mu} {d : D} {v : V} {ds : List D}
theorem cell_at {n : Nat} {c : D} (m : RepMu g φ H μ) (r : Rep g φ H (.cell n) v) (h : μ[n]? = some c) (hc : c ≠ .non) :
    ∃ a, φ[n]? = some (some a) ∧ v = .ref a ∧ RepC g φ H c a := by
  unfold Rep at r
  cases q : φ[n]? with
  | none => rw [q] at r; exact r.elim
  | some o =>
    cases o with
    | none => rw [m.dead n q] at h; cases h; exact absurd rfl hc
    | some a =>
      rw [q] at r
      exact ⟨a, rfl, r, m.at_ n a c q h⟩
theorem lstOf_ok (m : RepMu g φ H μ) (r : Rep g φ H d v) (h : lstOf μ d = some ds) : ∃ p vs, v = .ref p ∧ H p = some (.lst vs) ∧ RepL g φ H ds vs := by
  unfold lstOf at h
  split at h
  · cases h
    unfold Rep at r
    obtain ⟨p, vs, h1, _, h3, h4⟩ := r
    exact ⟨p, vs, h1, h3, h4⟩
  · split at h
    · rename_i e
      cases h
      obtain ⟨a, _, rfl, vs, h1, h2⟩ := cell_at m r e (by intro z; cases z)
      exact ⟨a, vs, rfl, h1, h2⟩
    · cases h
  · cases h
theorem lstOfS_ok (m : RepMu g φ H μ) (r : Rep g φ H d v) (h : lstOfS μ d = some ds) : ∃ p vs, v = .ref p ∧ SqL g.K H p vs ∧ RepL g φ H ds vs := by
  unfold lstOfS at h
  split at h
  · rename_i ns
    cases h
    unfold Rep at r
    obtain ⟨a, h1, h2⟩ := r
    refine ⟨a, ns.map V.int, h1, ?_, RepL.ints ns⟩
    rcases h2 with ⟨o, h2⟩ | h2
    · exact .inl (.inr ⟨o, h2⟩)
    · exact .inr h2
  · obtain ⟨p, vs, h1, h2, h3⟩ := lstOf_ok m r h
    exact ⟨p, vs, h1, .of h2, h3⟩
theorem seqOf_ok (m : RepMu g φ H μ) (r : Rep g φ H d v) (h : seqOf μ d = some ds) : ∃ p vs, v = .ref p ∧ (SqL g.K H p vs ∨ SqT g.K H p vs) ∧ RepL g φ H ds vs := by
  unfold seqOf at h
  split at h
  · cases h
    unfold Rep at r
    obtain ⟨p, vs, h1, h3, h4⟩ := r
    exact ⟨p, vs, h1, .inr (.of h3), h4⟩
  · obtain ⟨p, vs, h1, h2, h3⟩ := lstOfS_ok m r h
    exact ⟨p, vs, h1, .inl h2, h3⟩
theorem tup_ok {ds : List D} (r : Rep g φ H (.tup ds) v) : ∃ p vs, v = .ref p ∧ H p = some (.tup vs) ∧ RepL g φ H ds vs := by
  unfold Rep at r; exact r
end

/-! ### new things -/
/-- a new list: data, or a cell -/
def mkL (cell : Bool) (ds : List D) : O D := fun μ => if cell then some (.cell μ.length, μ ++ [.lst ds]) else some (.lst ds, μ)
section
variable {g : Gh} {φ : Ph} {H : Hp} {μ : Mu} {ds : List D} {vs : List V} {Q : VK}
theorem new_lst {cell : Bool} (m : RepMu g φ H μ) (r : RepL g φ H ds vs) (q : EndO g φ H Q (mkL cell ds μ)) : ∀ p, H p = none → Q (.ref p) (upd H p (.lst vs)) := by
  intro p hp
  cases cell with
  | false =>
    have e := Ext.laid (o := .lst vs) m hp
    refine q φ (upd H p (.lst vs)) (.ref p) e (m.laid hp) ?_
    unfold Rep
    exact ⟨p, vs, rfl, m.notIn hp, upd_same, r.ext e⟩
  | true =>
    have e := Ext.cell (o := .lst vs) m hp
    refine q (φ ++ [some p]) (upd H p (.lst vs)) (.ref p) e (m.cell hp ⟨vs, upd_same, r.ext e⟩) ?_
    unfold Rep
    rw [← m.len, List.getElem?_append_right (Nat.le_refl _), Nat.sub_self]
    rfl
theorem new_tup (m : RepMu g φ H μ) (r : RepL g φ H ds vs) (q : EndO g φ H Q (some (.tup ds, μ))) : ∀ p, H p = none → Q (.ref p) (upd H p (.tup vs)) := by
  intro p hp
  have e := Ext.laid (o := .tup vs) m hp
  refine q φ (upd H p (.tup vs)) (.ref p) e (m.laid hp) ?_
  unfold Rep
  exact ⟨p, vs, rfl, upd_same, r.ext e⟩
theorem RepL.len_le (r : RepL g φ H ds vs) {n : Nat} (h : ds.length ≤ n) : vs.length ≤ n := by rw [← r.length]; exact h
end

/-! ### arithmetic -/
def addO (cell : Bool) (a b : D) : O D := fun μ => match a, b with
  | .int i, .int j => some (.int (i + j), μ)
  | .str x, .str y => if x.length + y.length ≤ LIM then some (.str (x ++ y), μ) else none
  | .tup x, .tup y => if x.length + y.length ≤ LIM then some (.tup (x ++ y), μ) else none
  | a, b => match lstOf μ a, lstOf μ b with
    | some x, some y => if x.length + y.length ≤ LIM then mkL cell (x ++ y) μ else none
    | _, _ => none
def subO (a b : D) : O D := fun μ => match a, b with
  | .int i, .int j => some (.int (i - j), μ)
  | _, _ => none
def mulO (cell : Bool) (a b : D) : O D := fun μ => match a, b with
  | .int i, .int j => if (-(2 ^ 64) < i ∧ i < 2 ^ 64) ∨ (-(2 ^ 64) < j ∧ j < 2 ^ 64) then some (.int (i * j), μ) else none
  | a, .int k => match lstOf μ a with
    | some x => if 0 ≤ k ∧ k ≤ LIM ∧ x.length * k.toNat ≤ LIM then mkL cell (List.replicate k.toNat x).flatten μ else none
    | none => none
  | _, _ => none
def fdivO (a b : D) : O D := fun μ => match a, b with
  | .int i, .int j => if 0 < j ∧ j < 1073741824 then some (.int (i / j), μ) else none
  | _, _ => none
def modO (a b : D) : O D := fun μ => match a, b with
  | .int i, .int j => if 0 < j then some (.int (i % j), μ) else none
  | _, _ => none
def powO (a b : D) : O D := fun μ => match a, b with
  | .int i, .int j => if 0 ≤ j ∧ j ≤ 1000000 ∧ i.natAbs < 2 ^ 64 then some (.int (i ^ j.toNat), μ) else none
  | _, _ => none
def negO (a : D) : O D := fun μ => match a with
  | .int i => some (.int (-i), μ)
  | _ => none

theorem rep_int {g : Gh} {φ : Ph} {H : Hp} {i : Int} {v : V} : Rep g φ H (.int i) v ↔ v = .int i := by unfold Rep; rfl
theorem rep_bl {g : Gh} {φ : Ph} {H : Hp} {b : Bool} {v : V} : Rep g φ H (.bl b) v ↔ v = .bl b := by unfold Rep; rfl
theorem rep_str {g : Gh} {φ : Ph} {H : Hp} {x : Str} {v : V} : Rep g φ H (.str x) v ↔ v = .str x := by unfold Rep; rfl
theorem rep_non {g : Gh} {φ : Ph} {H : Hp} {v : V} : Rep g φ H .non v ↔ v = .non := by unfold Rep; rfl
theorem rep_ty {g : Gh} {φ : Ph} {H : Hp} {n : String} {v : V} : Rep g φ H (.ty n) v ↔ v = .ty n := by unfold Rep; rfl
theorem rep_cls {g : Gh} {φ : Ph} {H : Hp} {n : Nat} {v : V} : Rep g φ H (.cls n) v ↔ v = .ref (g.ca n) := by unfold Rep; rfl
/-- the ghosts of a context -/
abbrev Gx (X : Cx) (ca : Nat → Addr) : Gh := ⟨X.K, ca⟩
section
variable {X : Cx} {ca : Nat → Addr}
theorem add_ok {cell : Bool} : OpR X (binaryOp .Add) (rO2 (Gx X ca) (addO cell)) := by
  intro pins s σ H x y v u Q I rx ry h
  obtain ⟨φ, μ, a, b, m, ra, rb, q⟩ := h
  unfold addO at q
  split at q
  · rw [rep_int] at ra rb
    exact op_add pins s σ H x y v u Q I rx ry ⟨_, _, ra, rb, q.here m (rep_int.mpr rfl)⟩
  · split at q
    · rename_i hz
      rw [rep_str] at ra rb
      exact op_add_str pins s σ H x y v u Q I rx ry ⟨_, _, ra, rb, lim_size hz, q.here m (rep_str.mpr rfl)⟩
    · exact q.elim
  · split at q
    · rename_i xs ys hz
      obtain ⟨p, vs, rfl, h1, r1⟩ := tup_ok ra
      obtain ⟨p2, us, rfl, h2, r2⟩ := tup_ok rb
      refine op_catA pins s σ H _ _ v u Q I rx ry ⟨p, p2, vs, us, rfl, rfl, .of h1, .of h2, ?_, fun e => ?_, fun _ e => ?_, fun _ _ => ?_⟩
      · rw [← r1.length, ← r2.length]; exact lim_size hz
      · subst e
        have e1 : xs = [] := List.length_eq_zero_iff.mp r1.length
        subst e1
        exact q.here m rb
      · subst e
        have e1 : ys = [] := List.length_eq_zero_iff.mp r2.length
        subst e1
        rw [List.append_nil] at q
        exact q.here m ra
      · exact new_tup m (r1.append r2) q
    · exact q.elim
  · split at q
    · rename_i e1 e2
      split at q
      · rename_i hz
        obtain ⟨p, vs, rfl, h1, r1⟩ := lstOf_ok m ra e1
        obtain ⟨p2, us, rfl, h2, r2⟩ := lstOf_ok m rb e2
        exact op_cat pins s σ H _ _ v u Q I rx ry ⟨p, p2, vs, us, rfl, rfl, h1, h2, by rw [← r1.length, ← r2.length]; exact lim_size hz, new_lst m (r1.append r2) q⟩
      · exact q.elim
    · exact q.elim
theorem sub_ok : OpR X (binaryOp .Sub) (rO2 (Gx X ca) subO) := by
  intro pins s σ H x y v u Q I rx ry h
  obtain ⟨φ, μ, a, b, m, ra, rb, q⟩ := h
  unfold subO at q
  split at q
  · rw [rep_int] at ra rb
    exact op_sub pins s σ H x y v u Q I rx ry ⟨_, _, ra, rb, q.here m (rep_int.mpr rfl)⟩
  · exact q.elim
theorem mul_ok {cell : Bool} : OpR X (binaryOp .Mult) (rO2 (Gx X ca) (mulO cell)) := by
  intro pins s σ H x y v u Q I rx ry h
  obtain ⟨φ, μ, a, b, m, ra, rb, q⟩ := h
  unfold mulO at q
  split at q
  · split at q
    · rename_i hc
      rw [rep_int] at ra rb
      exact op_mul pins s σ H x y v u Q I rx ry ⟨_, _, ra, rb, hc, q.here m (rep_int.mpr rfl)⟩
    · exact q.elim
  · split at q
    · rename_i e1
      split at q
      · rename_i hz
        obtain ⟨h0, h1, h2⟩ := hz
        obtain ⟨p, vs, rfl, h3, r1⟩ := lstOf_ok m ra e1
        rw [rep_int] at rb
        subst rb
        exact op_rep pins s σ H _ _ v u Q I rx ry ⟨p, _, vs, rfl, rfl, h3, by omega, by have : ((LIM : Nat) : Int) < 2 ^ 63 := by decide
                                                                                        omega, by rw [← r1.length]; exact lim_size h2, new_lst m (r1.rep _) q⟩
      · exact q.elim
    · exact q.elim
  · exact q.elim
theorem fdiv_ok : OpR X (binaryOp .FloorDiv) (rO2 (Gx X ca) fdivO) := by
  intro pins s σ H x y v u Q I rx ry h
  obtain ⟨φ, μ, a, b, m, ra, rb, q⟩ := h
  unfold fdivO at q
  split at q
  · split at q
    · rename_i hc
      rw [rep_int] at ra rb
      exact op_fdiv pins s σ H x y v u Q I rx ry ⟨_, _, ra, rb, hc, q.here m (rep_int.mpr rfl)⟩
    · exact q.elim
  · exact q.elim
theorem mod_ok : OpR X (binaryOp .Mod) (rO2 (Gx X ca) modO) := by
  intro pins s σ H x y v u Q I rx ry h
  obtain ⟨φ, μ, a, b, m, ra, rb, q⟩ := h
  unfold modO at q
  split at q
  · split at q
    · rename_i hc
      rw [rep_int] at ra rb
      exact op_mod pins s σ H x y v u Q I rx ry ⟨_, _, ra, rb, hc, q.here m (rep_int.mpr rfl)⟩
    · exact q.elim
  · exact q.elim
theorem pow_ok : OpR X (binaryOp .Pow) (rO2 (Gx X ca) powO) := by
  intro pins s σ H x y v u Q I rx ry h
  obtain ⟨φ, μ, a, b, m, ra, rb, q⟩ := h
  unfold powO at q
  split at q
  · split at q
    · rename_i hc
      rw [rep_int] at ra rb
      exact op_pow pins s σ H x y v u Q I rx ry ⟨_, _, ra, rb, hc, q.here m (rep_int.mpr rfl)⟩
    · exact q.elim
  · exact q.elim
theorem neg_ok : UnR X (unaryOp .USub) (rO1 (Gx X ca) negO) := by
  intro pins s σ H x v Q I rx h
  obtain ⟨φ, μ, a, m, ra, q⟩ := h
  unfold negO at q
  split at q
  · rw [rep_int] at ra
    exact un_neg pins s σ H x v Q I rx ⟨_, ra, q.here m (rep_int.mpr rfl)⟩
  · exact q.elim
end
end Iv
end
section
set_option Elab.async false
set_option linter.all false
set_option maxRecDepth 100000
set_option maxHeartbeats 4000000
/-! IvCmp: ==, order, in, is of plain data. -/
namespace Iv
open PySem PySem.Spec L2

mutual
/-- == of data -/
def eqD : D → D → Bool
  | .non, .non => true
  | .bl a, .bl b => a == b
  | .bl a, .int j => (if a then 1 else 0) == j
  | .int i, .bl b => i == (if b then 1 else 0)
  | .int i, .int j => i == j
  | .str x, .str y => x == y
  | .lst xs, .lst ys => eqL xs ys
  | .tup xs, .tup ys => eqL xs ys
  | _, _ => false
def eqL : List D → List D → Bool
  | [], [] => true
  | x :: xs, y :: ys => eqD x y && eqL xs ys
  | _, _ => false
end
mutual
/-- data of a bounded depth that == reads: no cells, objects, dicts -/
def shp : Nat → D → Bool
  | _, .non => true
  | _, .bl _ => true
  | _, .int _ => true
  | _, .str x => PyData.strOk x
  | k + 1, .tup ds => shpL k ds
  | k + 1, .lst ds => shpL k ds
  | _, _ => false
def shpL : Nat → List D → Bool
  | _, [] => true
  | k, d :: ds => shp k d && shpL k ds
end
mutual
def pd : D → PyData
  | .non => .none
  | .bl b => .bool b
  | .int i => .int i
  | .str x => .str x
  | .tup ds => .tuple (pdL ds)
  | .lst ds => .list (pdL ds)
  | _ => .none
def pdL : List D → List PyData
  | [] => []
  | d :: ds => pd d :: pdL ds
end

theorem shp_non {k} : shp k .non = true := by cases k <;> rfl
theorem pd_tup {ds : List D} : pd (.tup ds) = .tuple (pdL ds) := by unfold pd; rfl
theorem pd_lst {ds : List D} : pd (.lst ds) = .list (pdL ds) := by unfold pd; rfl
theorem pdL_nil : pdL [] = [] := by unfold pdL; rfl
theorem pdL_cons {d : D} {ds : List D} : pdL (d :: ds) = pd d :: pdL ds := by rw [pdL]
theorem shpL_cons {k : Nat} {d : D} {ds : List D} : shpL k (d :: ds) = (shp k d && shpL k ds) := by rw [shpL]
theorem shpL_nil {k : Nat} : shpL k [] = true := by unfold shpL; rfl
theorem shp_tup {k : Nat} {ds : List D} : shp (k + 1) (.tup ds) = shpL k ds := by rw [shp]
theorem shp_lst {k : Nat} {ds : List D} : shp (k + 1) (.lst ds) = shpL k ds := by rw [shp]
theorem shp0_tup {ds : List D} : shp 0 (.tup ds) = false := by unfold shp; rfl
theorem shp0_lst {ds : List D} : shp 0 (.lst ds) = false := by unfold shp; rfl
theorem shpL_eq_all {k : Nat} : ∀ ds : List D, shpL k ds = ds.all (shp k)
  | [] => by rw [shpL_nil]; rfl
  | d :: ds => by rw [shpL_cons, shpL_eq_all ds]; rfl

section
variable {g : Gh} {φ : Ph} {H : Hp}
mutual
theorem shp_dp : ∀ (d : D) (k : Nat) (v : V), shp k d = true → Rep g φ H d v → Dp g.K H v (pd d)
  | .non, _, v, _, r => by rw [rep_non] at r; subst r; unfold pd; exact .non
  | .bl b, _, v, _, r => by rw [rep_bl] at r; subst r; unfold pd; exact .bl b
  | .int i, _, v, _, r => by rw [rep_int] at r; subst r; unfold pd; exact .int i
  | .str x, _, v, _, r => by rw [rep_str] at r; subst r; unfold pd; exact .str x
  | .tup ds, 0, _, h, _ => by rw [shp0_tup] at h; cases h
  | .tup ds, k + 1, v, h, r => by
    rw [shp_tup] at h
    obtain ⟨p, vs, rfl, h1, r1⟩ := tup_ok r
    rw [pd_tup]
    exact .tup (.of h1) (shp_dpL ds k vs h r1)
  | .lst ds, 0, _, h, _ => by rw [shp0_lst] at h; cases h
  | .lst ds, k + 1, v, h, r => by
    rw [shp_lst] at h
    unfold Rep at r
    obtain ⟨p, vs, rfl, _, h1, r1⟩ := r
    rw [pd_lst]
    exact .lst (.of h1) (shp_dpL ds k vs h r1)
  | .ty n, k, _, h, _ => by cases k <;> cases h
  | .cls n, k, _, h, _ => by cases k <;> cases h
  | .obj C ns vs, k, _, h, _ => by cases k <;> cases h
  | .dK ns vs, k, _, h, _ => by cases k <;> cases h
  | .dT ns vs, k, _, h, _ => by cases k <;> cases h
  | .cell n, k, _, h, _ => by cases k <;> cases h
  | .script n, k, _, h, _ => by cases k <;> cases h
theorem shp_dpL : ∀ (ds : List D) (k : Nat) (vs : List V), shpL k ds = true → RepL g φ H ds vs → DpAll g.K H vs (pdL ds)
  | [], _, vs, _, r => by rw [r.nil_inv, pdL_nil]; exact .nil
  | d :: ds, k, vs, h, r => by
    rw [shpL_cons, Bool.and_eq_true] at h
    obtain ⟨v, t, rfl, r1, r2⟩ := r.cons_inv
    rw [pdL_cons]
    exact .cons (shp_dp d k v h.1 r1) (shp_dpL ds k t h.2 r2)
end
end
mutual
theorem shp_lay : ∀ (d : D) (k : Nat), shp k d = true → (pd d).canLay0 = true ∧ (pd d).depth ≤ k
  | .non, _, _ => by unfold pd; simp [PyData.canLay0, PyData.depth]
  | .bl b, _, _ => by unfold pd; simp [PyData.canLay0, PyData.depth]
  | .int i, _, _ => by unfold pd; simp [PyData.canLay0, PyData.depth]
  | .str x, k, h => by
    have h' : PyData.strOk x = true := by cases k <;> exact h
    unfold pd
    simp [PyData.canLay0, PyData.depth, h']
  | .tup ds, 0, h => by rw [shp0_tup] at h; cases h
  | .tup ds, k + 1, h => by
    rw [shp_tup] at h
    rw [pd_tup]
    obtain ⟨h1, h2⟩ := shp_layL ds k h
    simp only [PyData.canLay0, PyData.depth]
    exact ⟨h1, by omega⟩
  | .lst ds, 0, h => by rw [shp0_lst] at h; cases h
  | .lst ds, k + 1, h => by
    rw [shp_lst] at h
    rw [pd_lst]
    obtain ⟨h1, h2⟩ := shp_layL ds k h
    simp only [PyData.canLay0, PyData.depth]
    exact ⟨h1, by omega⟩
  | .ty n, k, h => by cases k <;> cases h
  | .cls n, k, h => by cases k <;> cases h
  | .obj C ns vs, k, h => by cases k <;> cases h
  | .dK ns vs, k, h => by cases k <;> cases h
  | .dT ns vs, k, h => by cases k <;> cases h
  | .cell n, k, h => by cases k <;> cases h
  | .script n, k, h => by cases k <;> cases h
theorem shp_layL : ∀ (ds : List D) (k : Nat), shpL k ds = true → PyData.canLayAll0 (pdL ds) = true ∧ PyData.depthAll (pdL ds) ≤ k
  | [], _, _ => by rw [pdL_nil]; simp [PyData.canLayAll0, PyData.depthAll]
  | d :: ds, k, h => by
    rw [shpL_cons, Bool.and_eq_true] at h
    rw [pdL_cons]
    obtain ⟨a1, a2⟩ := shp_lay d k h.1
    obtain ⟨b1, b2⟩ := shp_layL ds k h.2
    simp only [PyData.canLayAll0, PyData.depthAll, Bool.and_eq_true]
    exact ⟨⟨a1, b1⟩, by omega⟩
end
theorem shp_shaped {d : D} {k : Nat} (h : shp k d = true) (hk : k ≤ 64) : SeqAt.shaped (pd d) = true := by
  obtain ⟨h1, h2⟩ := shp_lay d k h
  unfold SeqAt.shaped
  rw [h1, Bool.true_and]
  exact decide_eq_true (by omega)
mutual
theorem eqv_pd : ∀ (a b : D) (k j : Nat), shp k a = true → shp j b = true → PyData.eqv (pd a) (pd b) = eqD a b
  | .non, b, _, j, _, h => by cases b <;> first | (cases j <;> cases h; done) | (simp [pd, PyData.eqv, eqD]; done)
  | .bl x, b, _, j, _, h => by cases b <;> first | (cases j <;> cases h; done) | (simp [pd, PyData.eqv, eqD]; done)
  | .int x, b, _, j, _, h => by cases b <;> first | (cases j <;> cases h; done) | (simp [pd, PyData.eqv, eqD]; done)
  | .str x, b, _, j, _, h => by cases b <;> first | (cases j <;> cases h; done) | (simp [pd, PyData.eqv, eqD]; done)
  | .tup ds, b, k, j, h0, h => by
    cases b with
    | tup es =>
      cases k with
      | zero => rw [shp0_tup] at h0; cases h0
      | succ k =>
        cases j with
        | zero => rw [shp0_tup] at h; cases h
        | succ j =>
          rw [shp_tup] at h0 h
          simp only [pd, PyData.eqv, eqD]
          exact eqv_pdL ds es k j h0 h
    | _ => first | (cases j <;> cases h; done) | (simp [pd, PyData.eqv, eqD]; done)
  | .lst ds, b, k, j, h0, h => by
    cases b with
    | lst es =>
      cases k with
      | zero => rw [shp0_lst] at h0; cases h0
      | succ k =>
        cases j with
        | zero => rw [shp0_lst] at h; cases h
        | succ j =>
          rw [shp_lst] at h0 h
          simp only [pd, PyData.eqv, eqD]
          exact eqv_pdL ds es k j h0 h
    | _ => first | (cases j <;> cases h; done) | (simp [pd, PyData.eqv, eqD]; done)
  | .ty n, _, k, _, h, _ => by cases k <;> cases h
  | .cls n, _, k, _, h, _ => by cases k <;> cases h
  | .obj C ns vs, _, k, _, h, _ => by cases k <;> cases h
  | .dK ns vs, _, k, _, h, _ => by cases k <;> cases h
  | .dT ns vs, _, k, _, h, _ => by cases k <;> cases h
  | .cell n, _, k, _, h, _ => by cases k <;> cases h
  | .script n, _, k, _, h, _ => by cases k <;> cases h
theorem eqv_pdL : ∀ (as bs : List D) (k j : Nat), shpL k as = true → shpL j bs = true → PyData.eqvAll (pdL as) (pdL bs) = eqL as bs
  | [], [], _, _, _, _ => by simp [pdL, PyData.eqvAll, eqL]
  | [], _ :: _, _, _, _, _ => by simp [pdL, PyData.eqvAll, eqL]
  | _ :: _, [], _, _, _, _ => by simp [pdL, PyData.eqvAll, eqL]
  | a :: as, b :: bs, k, j, h, h' => by
    rw [shpL_cons, Bool.and_eq_true] at h h'
    simp only [pdL, PyData.eqvAll, eqL]
    rw [eqv_pd a b k j h.1 h'.1, eqv_pdL as bs k j h.2 h'.2]
end

/-- a cell that holds a list read as the list -/
def derf (μ : Mu) : D → Option D
  | .cell n => match μ[n]? with
    | some (.lst ds) => some (.lst ds)
    | _ => none
  | d => some d
theorem derf_dp {g : Gh} {φ : Ph} {H : Hp} {μ : Mu} {d e : D} {v : V} {k : Nat} (m : RepMu g φ H μ) (r : Rep g φ H d v) (h : derf μ d = some e) (hs : shp k e = true) : Dp g.K H v (pd e) := by
  unfold derf at h
  split at h
  · split at h
    · rename_i ds hc
      cases h
      obtain ⟨a, _, rfl, vs, h1, h2⟩ := cell_at m r hc (by intro z; cases z)
      rw [pd_lst]
      cases k with
      | zero => rw [shp0_lst] at hs; cases hs
      | succ k =>
        rw [shp_lst] at hs
        exact .lst (.of h1) (shp_dpL ds k vs hs h2)
    · cases h
  · cases h
    exact shp_dp d k v hs r
/-- how deep data may be where it is compared -/
abbrev DEEP : Nat := 9
def eqO (neg : Bool) (a b : D) : O D := fun μ => match derf μ a, derf μ b with
  | some x, some y => if shp DEEP x = true ∧ shp DEEP y = true then some (.bl (if neg then !eqD x y else eqD x y), μ) else none
  | _, _ => none
section
variable {X : Cx} {ca : Nat → Addr}
theorem eq_ok (hu : X.A.units + 64 < cLine) : OpR X (compareOp .Eq) (rO2 (Gx X ca) (eqO false)) := by
  intro pins s σ H x y v u Q I rx ry h
  obtain ⟨φ, μ, a, b, m, ra, rb, q⟩ := h
  unfold eqO at q
  split at q
  · rename_i a' b' e1 e2
    split at q
    · rename_i hs
      refine op_eqD hu pins s σ H x y v u Q I rx ry ⟨_, _, derf_dp m ra e1 hs.1, derf_dp m rb e2 hs.2, shp_shaped hs.1 (by decide), shp_shaped hs.2 (by decide), ?_⟩
      rw [eqv_pd _ _ _ _ hs.1 hs.2]
      exact q.here m (rep_bl.mpr rfl)
    · exact q.elim
  · exact q.elim
theorem ne_ok (hu : X.A.units + 64 < cLine) : OpR X (compareOp .NotEq) (rO2 (Gx X ca) (eqO true)) := by
  intro pins s σ H x y v u Q I rx ry h
  obtain ⟨φ, μ, a, b, m, ra, rb, q⟩ := h
  unfold eqO at q
  split at q
  · rename_i a' b' e1 e2
    split at q
    · rename_i hs
      refine op_neD hu pins s σ H x y v u Q I rx ry ⟨_, _, derf_dp m ra e1 hs.1, derf_dp m rb e2 hs.2, shp_shaped hs.1 (by decide), shp_shaped hs.2 (by decide), ?_⟩
      rw [eqv_pd _ _ _ _ hs.1 hs.2]
      exact q.here m (rep_bl.mpr rfl)
    · exact q.elim
  · exact q.elim
end

/-! ### order -/
mutual
/-- < (le: <=) of ints, texts, tuples of such; none where they can't be told -/
def cmpD (le : Bool) : D → D → Option Bool
  | .int i, .int j => some (if le then decide (i ≤ j) else decide (i < j))
  | .str x, .str y => if le then none else some (decide (x.cps.toList < y.cps.toList))
  | .tup xs, .tup ys => cmpL le xs ys
  | _, _ => none
def cmpL (le : Bool) : List D → List D → Option Bool
  | [], [] => some le
  | [], _ :: _ => some true
  | _ :: _, [] => some false
  | x :: xs, y :: ys => match cmpL le xs ys with
    | none => none
    | some r => if eqD x y = true then some r else cmpD le x y
end
def opL (le : Bool) : CmpOp := if le then .LtE else .Lt
def szL (le : Bool) (m n : Nat) : Bool := if le then decide (m ≤ n) else decide (m < n)
theorem lexAt_cmp (le : Bool) : ∀ (xs ys : List D) (i : Nat) (e r : Nat → Bool) (z c : Bool), z = szL le xs.length ys.length → cmpL le xs ys = some c →
    (∀ (j : Nat) (x y : D), xs[j]? = some x → ys[j]? = some y → e (i + j) = eqD x y ∧ (eqD x y = false → cmpD le x y = some (r (i + j)))) → Ob.lexAt e r z i (min xs.length ys.length) = c
  | [], [], i, e, r, z, c, hz, hc, _ => by
    simp only [cmpL, Option.some.injEq] at hc
    subst hc hz
    simp [Ob.lexAt, szL]
  | [], y :: ys, i, e, r, z, c, hz, hc, _ => by
    simp only [cmpL, Option.some.injEq] at hc
    subst hc hz
    simp [Ob.lexAt, szL]
  | x :: xs, [], i, e, r, z, c, hz, hc, _ => by
    simp only [cmpL, Option.some.injEq] at hc
    subst hc hz
    simp [Ob.lexAt, szL]
  | x :: xs, y :: ys, i, e, r, z, c, hz, hc, h => by
    rw [cmpL] at hc
    cases q : cmpL le xs ys with
    | none => rw [q] at hc; cases hc
    | some c' =>
      rw [q] at hc
      simp only at hc
      obtain ⟨h1, h2⟩ := h 0 x y rfl rfl
      rw [Nat.add_zero] at h1 h2
      have em : min (x :: xs).length (y :: ys).length = min xs.length ys.length + 1 := by simp only [List.length_cons]; omega
      rw [em, Ob.lexAt_succ, h1]
      by_cases he : eqD x y = true
      · rw [if_pos he] at hc ⊢
        have hc' := Option.some.inj hc
        subst hc'
        refine lexAt_cmp le xs ys (i + 1) e r z c' ?_ q fun j a b ha hb => ?_
        · rw [hz]; simp [szL]
        · obtain ⟨k1, k2⟩ := h (j + 1) a b (by simpa using ha) (by simpa using hb)
          rw [show i + 1 + j = i + (j + 1) by omega]
          exact ⟨k1, k2⟩
      · rw [if_neg he] at hc ⊢
        have := h2 (by simpa using he)
        rw [this] at hc
        exact Option.some.inj hc
theorem readsAll_at {h : Heap} : ∀ {vs : List Value} {ds : List PyData} {as : List Addr} {j : Nat} {v : Value} {d : PyData}, ReadsAll h vs ds as → vs[j]? = some v → ds[j]? = some d → ∃ bs, Reads h v d bs
  | _, _, _, _, _, _, .nil, e, _ => by simp at e
  | _, _, _, 0, _, _, .cons r _, e, e' => by
    simp at e e'; subst e; subst e'
    exact ⟨_, r⟩
  | _, _, _, j + 1, _, _, .cons _ t, e, e' => readsAll_at (j := j) t (by simpa using e) (by simpa using e')
theorem pdL_at : ∀ {ds : List D} {j : Nat} {d : D}, ds[j]? = some d → (pdL ds)[j]? = some (pd d)
  | [], _, _, e => by simp at e
  | d :: ds, 0, e', h => by simp at h; subst h; rw [pdL_cons]; rfl
  | d :: ds, j + 1, e', h => by rw [pdL_cons]; simpa using pdL_at (j := j) (by simpa using h)
theorem pdL_length : ∀ ds : List D, (pdL ds).length = ds.length
  | [] => by rw [pdL_nil]; rfl
  | d :: ds => by rw [pdL_cons, List.length_cons, List.length_cons, pdL_length ds]
theorem readsAll_len {h : Heap} : ∀ {vs : List Value} {ds : List PyData} {as : List Addr}, ReadsAll h vs ds as → vs.length = ds.length
  | _, _, _, .nil => rfl
  | _, _, _, .cons _ t => by rw [List.length_cons, List.length_cons, readsAll_len t]
theorem cmpL_at (le : Bool) : ∀ (xs ys : List D) (c : Bool) (j : Nat) (x y : D), cmpL le xs ys = some c → xs[j]? = some x → ys[j]? = some y → eqD x y = false → ∃ r, cmpD le x y = some r
  | [], _, _, _, _, _, _, h, _, _ => by simp at h
  | _ :: _, [], _, _, _, _, _, _, h, _ => by simp at h
  | a :: as, b :: bs, c, j, x, y, hc, hx, hy, he => by
    rw [cmpL] at hc
    cases q : cmpL le as bs with
    | none => rw [q] at hc; cases hc
    | some c' =>
      rw [q] at hc
      simp only at hc
      cases j with
      | zero =>
        simp at hx hy
        subst hx; subst hy
        rw [if_neg (by rw [he]; decide)] at hc
        exact ⟨_, hc⟩
      | succ j => exact cmpL_at le as bs c' j x y q (by simpa using hx) (by simpa using hy) he
theorem rc_ok (le : Bool) : ∀ (k : Nat) (a b : D) (A : Around) (s : Shared) (u v : Value) (as bs : List Addr) (r : Bool), shp k a = true → shp k b = true → cmpD le a b = some r → Reads s.heap u (pd a) as → Reads s.heap v (pd b) bs →
    A.units + k < cLine → Ob.RcOp (opL le) A s u v r := by
  intro k
  induction k with
  | zero =>
    intro a b A s u v as bs r ha hb hc ru rv hu
    cases a with
    | int i =>
      cases b with
      | int j =>
        simp only [cmpD, Option.some.injEq] at hc
        subst hc
        simp only [pd] at ru rv
        cases ru; cases rv
        cases le with
        | true => exact Ob.RcOp.le_int _ _ _ _
        | false => exact Ob.RcOp.lt_int _ _ _ _
      | _ => simp [cmpD] at hc
    | str x =>
      cases b with
      | str y =>
        cases le with
        | true => simp [cmpD] at hc
        | false =>
          simp only [cmpD, Bool.false_eq_true, if_false, Option.some.injEq] at hc
          subst hc
          simp only [pd] at ru rv
          cases ru; cases rv
          exact fun _ _ _ _ h => PyProof.Rows.lt_str h
      | _ => simp [cmpD] at hc
    | tup ds => rw [shp0_tup] at ha; cases ha
    | _ => simp [cmpD] at hc
  | succ k ih =>
    intro a b A s u v as bs r ha hb hc ru rv hu
    cases a with
    | int i =>
      cases b with
      | int j =>
        simp only [cmpD, Option.some.injEq] at hc
        subst hc
        simp only [pd] at ru rv
        cases ru; cases rv
        cases le with
        | true => exact Ob.RcOp.le_int _ _ _ _
        | false => exact Ob.RcOp.lt_int _ _ _ _
      | _ => simp [cmpD] at hc
    | str x =>
      cases b with
      | str y =>
        cases le with
        | true => simp [cmpD] at hc
        | false =>
          simp only [cmpD, Bool.false_eq_true, if_false, Option.some.injEq] at hc
          subst hc
          simp only [pd] at ru rv
          cases ru; cases rv
          exact fun _ _ _ _ h => PyProof.Rows.lt_str h
      | _ => simp [cmpD] at hc
    | tup xs =>
      cases b with
      | tup ys =>
        rw [shp_tup] at ha hb
        rw [cmpD] at hc
        rw [pd_tup] at ru rv
        cases ru with
        | @tuple l o vs n _ _ k1 k2 k3 k4 =>
          cases rv with
          | @tuple l' o' ws n' _ _ j1 j2 j3 j4 =>
            have hl : s.heap.IsTuple l vs := ⟨_, k1, k2, _, k3⟩
            have hl' : s.heap.IsTuple l' ws := ⟨_, j1, j2, _, j3⟩
            have n1 : vs.size = xs.length := by have := readsAll_len k4; rw [pdL_length] at this; simpa using this
            have n2 : ws.size = ys.length := by have := readsAll_len j4; rw [pdL_length] at this; simpa using this
            have hunit : A.in1.units = A.units + 1 := rfl
            let e : Nat → Bool := fun j => match xs[j]?, ys[j]? with | some x, some y => eqD x y | _, _ => false
            let q : Nat → Bool := fun j => match xs[j]?, ys[j]? with | some x, some y => (cmpD le x y).getD false | _, _ => false
            have at_ : ∀ j (h1 : j < vs.size) (h2 : j < ws.size), ∃ x y, xs[j]? = some x ∧ ys[j]? = some y ∧ (∃ cs, Reads s.heap vs[j] (pd x) cs) ∧ ∃ cs, Reads s.heap ws[j] (pd y) cs := fun j h1 h2 => by
              have e1 : xs[j]? = some (xs[j]'(by omega)) := List.getElem?_eq_getElem (by omega)
              have e2 : ys[j]? = some (ys[j]'(by omega)) := List.getElem?_eq_getElem (by omega)
              exact ⟨_, _, e1, e2, readsAll_at k4 (by simp [h1]) (pdL_at e1), readsAll_at j4 (by simp [h2]) (pdL_at e2)⟩
            have mem1 : ∀ (j : Nat) (x : D), xs[j]? = some x → shp k x = true := fun j x h => by
              rw [shpL_eq_all] at ha
              exact List.all_eq_true.mp ha x (List.mem_of_getElem? h)
            have mem2 : ∀ (j : Nat) (y : D), ys[j]? = some y → shp k y = true := fun j y h => by
              rw [shpL_eq_all] at hb
              exact List.all_eq_true.mp hb y (List.mem_of_getElem? h)
            have he : ∀ j (h1 : j < vs.size) (h2 : j < ws.size), SeqAt.EqAt A.in1 s vs[j] ws[j] (e j) := fun j h1 h2 => by
              obtain ⟨x, y, e1, e2, ⟨cs, r1⟩, cs', r2⟩ := at_ j h1 h2
              have z : e j = PyData.eqv (pd x) (pd y) := by
                show (match xs[j]?, ys[j]? with | some x, some y => eqD x y | _, _ => false) = _
                rw [e1, e2, eqv_pd x y k k (mem1 j x e1) (mem2 j y e2)]
              rw [z]
              obtain ⟨a1, a2⟩ := shp_lay x k (mem1 j x e1)
              obtain ⟨b1, b2⟩ := shp_lay y k (mem2 j y e2)
              exact SeqAt.eqAt_reads _ _ _ _ _ _ _ _ r1 r2 a1 b1 (by rw [hunit]; omega)
            have hr : ∀ j (h1 : j < vs.size) (h2 : j < ws.size), e j = false → Ob.RcOp (opL le) A.in1 s vs[j] ws[j] (q j) := fun j h1 h2 hf => by
              obtain ⟨x, y, e1, e2, ⟨cs, r1⟩, cs', r2⟩ := at_ j h1 h2
              have z : e j = eqD x y := by
                show (match xs[j]?, ys[j]? with | some x, some y => eqD x y | _, _ => false) = _
                rw [e1, e2]
              obtain ⟨c', hc'⟩ := cmpL_at le xs ys r j x y hc e1 e2 (by rw [← z]; exact hf)
              have z2 : q j = c' := by
                show (match xs[j]?, ys[j]? with | some x, some y => (cmpD le x y).getD false | _, _ => false) = _
                rw [e1, e2]
                show (cmpD le x y).getD false = c'
                rw [hc']
                rfl
              rw [z2]
              exact ih x y A.in1 s _ _ _ _ c' (mem1 j x e1) (mem2 j y e2) hc' r1 r2 (by rw [hunit]; omega)
            have fin := lexAt_cmp le xs ys 0 e q (szL le xs.length ys.length) r rfl hc fun j x y e1 e2 => by
              have z : e j = eqD x y := by
                show (match xs[j]?, ys[j]? with | some x, some y => eqD x y | _, _ => false) = _
                rw [e1, e2]
              rw [Nat.zero_add]
              refine ⟨z, fun hf => ?_⟩
              obtain ⟨c', hc'⟩ := cmpL_at le xs ys r j x y hc e1 e2 hf
              have z2 : q j = c' := by
                show (match xs[j]?, ys[j]? with | some x, some y => (cmpD le x y).getD false | _, _ => false) = _
                rw [e1, e2]
                show (cmpD le x y).getD false = c'
                rw [hc']
                rfl
              rw [hc', z2]
            rw [← fin, ← n1, ← n2]
            cases le with
            | true => exact Ob.RcOp.tuples_le hl hl' (by omega) he hr
            | false => exact Ob.RcOp.tuples_lt hl hl' (by omega) he hr
      | _ => simp [cmpD] at hc
    | _ => simp [cmpD] at hc
/-- a < b, a <= b -/
def ordO (le : Bool) (a b : D) : O D := fun μ => if shp DEEP a = true ∧ shp DEEP b = true then match cmpD le a b with
  | some r => some (.bl r, μ)
  | none => none
  else none
/-- a > b, a >= b of ints -/
def gtO (ge : Bool) (a b : D) : O D := fun μ => match a, b with
  | .int i, .int j => some (.bl (if ge then decide (j ≤ i) else decide (j < i)), μ)
  | _, _ => none
section
variable {X : Cx} {ca : Nat → Addr}
theorem ord_ok (le : Bool) (hu : X.A.units + 64 < cLine) : OpR X (compareOp (opL le)) (rO2 (Gx X ca) (ordO le)) := by
  intro pins s σ H x y v u Q I rx ry h
  obtain ⟨φ, μ, a, b, m, ra, rb, q⟩ := h
  unfold ordO at q
  split at q
  · rename_i hs
    split at q
    · rename_i r hc
      obtain ⟨as, r1⟩ := Dp.reads I _ x v (shp_dp a DEEP x hs.1 ra) rx
      obtain ⟨bs, r2⟩ := Dp.reads I _ y u (shp_dp b DEEP y hs.2 rb) ry
      have R := rc_ok le DEEP a b X.A s v u as bs r hs.1 hs.2 hc r1 r2 (by show X.A.units + 9 < cLine; omega)
      have fin : EP X pins σ Q (.bool r) s := ⟨.bl r, H, I, rfl, q.here m (rep_bl.mpr rfl)⟩
      cases le with
      | true => exact R X.prog X.w X.xe (EP X pins σ Q) fin
      | false => exact R X.prog X.w X.xe (EP X pins σ Q) fin
    · exact q.elim
  · exact q.elim
theorem gt_ok : OpR X (compareOp .Gt) (rO2 (Gx X ca) (gtO false)) := by
  intro pins s σ H x y v u Q I rx ry h
  obtain ⟨φ, μ, a, b, m, ra, rb, q⟩ := h
  unfold gtO at q
  split at q
  · rw [rep_int] at ra rb
    exact op_gt pins s σ H x y v u Q I rx ry ⟨_, _, ra, rb, q.here m (rep_bl.mpr (by simp))⟩
  · exact q.elim
theorem ge_ok : OpR X (compareOp .GtE) (rO2 (Gx X ca) (gtO true)) := by
  intro pins s σ H x y v u Q I rx ry h
  obtain ⟨φ, μ, a, b, m, ra, rb, q⟩ := h
  unfold gtO at q
  split at q
  · rw [rep_int] at ra rb
    exact op_ge pins s σ H x y v u Q I rx ry ⟨_, _, ra, rb, q.here m (rep_bl.mpr (by simp))⟩
  · exact q.elim
end
end Iv
end
section
set_option Elab.async false
set_option linter.all false
set_option maxRecDepth 100000
set_option maxHeartbeats 4000000
/-! IvSeq: subscripts, slices, in, len, truth, methods, conversions, dicts of plain data. -/
namespace Iv
open PySem PySem.Spec L2

/-! ### dicts -/
section
variable {κ : Type} [DecidableEq κ]
def lookD (ks : List κ) (ds : List D) (k : κ) : Option D := ((ks.zip ds).find? fun p => decide (p.1 = k)).map (·.2)
def putKs (ks : List κ) (k : κ) : List κ := if k ∈ ks then ks else ks ++ [k]
def putVs {α : Type} (ks : List κ) (ds : List α) (k : κ) (d : α) : List α := if k ∈ ks then (ks.zip ds).map (fun p => if p.1 = k then d else p.2) else ds ++ [d]
theorem look_ok {g : Gh} {φ : Ph} {H : Hp} : ∀ (ks : List κ) (ds : List D) (vs : List V) (k : κ), RepL g φ H ds vs → ks.length = vs.length →
    (∀ d, lookD ks ds k = some d → ∃ v, valV (ks.zip vs) k = some v ∧ Rep g φ H d v) ∧ (lookD ks ds k = none → valV (ks.zip vs) k = none)
  | [], ds, vs, k, r, hl => by
    constructor
    · intro d h; simp [lookD] at h
    · intro _; simp [valV]
  | x :: ks, [], vs, k, r, hl => by
    rw [r.nil_inv] at hl; simp at hl
  | x :: ks, d :: ds, vs, k, r, hl => by
    obtain ⟨v, t, rfl, r1, r2⟩ := r.cons_inv
    obtain ⟨i1, i2⟩ := look_ok ks ds t k r2 (by simpa using hl)
    by_cases e : x = k
    · constructor
      · intro d' h
        simp [lookD, e] at h
        subst h
        exact ⟨v, by simp [valV, e], r1⟩
      · intro h; simp [lookD, e] at h
    · have e1 : lookD (x :: ks) (d :: ds) k = lookD ks ds k := by simp [lookD, e]
      have e2 : valV ((x :: ks).zip (v :: t)) k = valV (ks.zip t) k := by simp [valV, e]
      rw [e1, e2]
      exact ⟨i1, i2⟩
theorem any_zip {α : Type} : ∀ (ks : List κ) (vs : List α) (k : κ), ks.length = vs.length → ((ks.zip vs).any fun kv => decide (kv.1 = k)) = decide (k ∈ ks)
  | [], vs, k, _ => by simp
  | x :: ks, [], k, h => by simp at h
  | x :: ks, v :: vs, k, h => by
    simp only [List.zip_cons_cons, List.any_cons, any_zip ks vs k (by simpa using h), List.mem_cons]
    by_cases e : x = k
    · simp [e]
    · have e' : ¬ k = x := fun z => e z.symm
      simp [e, e']
theorem zip_map_snd {α : Type} (f : κ × α → α) : ∀ (ks : List κ) (vs : List α), ks.length = vs.length → ks.zip ((ks.zip vs).map f) = (ks.zip vs).map fun p => (p.1, f p)
  | [], _, _ => by simp
  | _ :: _, [], h => by simp at h
  | x :: ks, v :: vs, h => by simp only [List.zip_cons_cons, List.map_cons, zip_map_snd f ks vs (by simpa using h)]
theorem put_zip (ks : List κ) (vs : List V) (k : κ) (v : V) (h : ks.length = vs.length) : putK (ks.zip vs) k v = (putKs ks k).zip (putVs ks vs k v) := by
  unfold putK putKs putVs
  rw [any_zip ks vs k h]
  by_cases hk : k ∈ ks
  · rw [if_pos hk, if_pos hk]
    simp only [hk, decide_true, if_true]
    rw [zip_map_snd _ _ _ h]
    apply List.map_congr_left
    intro p _
    by_cases e : p.1 = k
    · simp [e]
    · simp [e]
  · rw [if_neg hk, if_neg hk]
    simp only [hk, decide_false, Bool.false_eq_true, if_false]
    rw [List.zip_append h]
    rfl
theorem put_len {α : Type} (ks : List κ) (vs : List α) (k : κ) (v : α) (h : ks.length = vs.length) : (putKs ks k).length = (putVs ks vs k v).length := by
  unfold putKs putVs
  by_cases hk : k ∈ ks
  · simp [hk, h]
  · simp [hk, h]
theorem RepL.mapSnd {g : Gh} {φ : Ph} {H : Hp} {k : κ} {d : D} {v : V} (r : Rep g φ H d v) : ∀ (ks : List κ) (ds : List D) (vs : List V), RepL g φ H ds vs → ks.length = vs.length →
    RepL g φ H ((ks.zip ds).map fun p => if p.1 = k then d else p.2) ((ks.zip vs).map fun p => if p.1 = k then v else p.2)
  | [], _, _, _, _ => by simp; exact .nil
  | x :: ks, [], vs, h, hl => by rw [h.nil_inv] at hl; simp at hl
  | x :: ks, e :: ds, vs, h, hl => by
    obtain ⟨u, t, rfl, h1, h2⟩ := h.cons_inv
    simp only [List.zip_cons_cons, List.map_cons]
    refine .cons ?_ (RepL.mapSnd r ks ds t h2 (by simpa using hl))
    by_cases q : x = k
    · simp [q, r]
    · simp [q, h1]
theorem RepL.put {g : Gh} {φ : Ph} {H : Hp} {k : κ} {d : D} {v : V} {ks : List κ} {ds : List D} {vs : List V} (r : Rep g φ H d v) (h : RepL g φ H ds vs) (hl : ks.length = vs.length) : RepL g φ H (putVs ks ds k d) (putVs ks vs k v) := by
  unfold putVs
  by_cases hk : k ∈ ks
  · rw [if_pos hk, if_pos hk]; exact RepL.mapSnd r ks ds vs h hl
  · rw [if_neg hk, if_neg hk]; exact h.append (.cons r .nil)
end
def keyD : D → Option Key
  | .int i => some (.inl i)
  | .str x => some (.inr x)
  | _ => none
def keysD : List D → Option (List Key)
  | [] => some []
  | d :: ds => match keyD d, keysD ds with
    | some k, some r => some (k :: r)
    | _, _ => none
def tkeyD : D → Option (List Key)
  | .tup ds => keysD ds
  | _ => none
theorem keyD_ok {g : Gh} {φ : Ph} {H : Hp} {d : D} {k : Key} {v : V} (h : keyD d = some k) (r : Rep g φ H d v) : v = kV k := by
  unfold keyD at h
  split at h
  · cases h; rw [rep_int] at r; exact r
  · cases h; rw [rep_str] at r; exact r
  · cases h
theorem keysD_ok {g : Gh} {φ : Ph} {H : Hp} : ∀ {ds : List D} {ks : List Key} {vs : List V}, keysD ds = some ks → RepL g φ H ds vs → vs = ks.map kV
  | [], ks, vs, h, r => by simp [keysD] at h; subst h; exact r.nil_inv
  | d :: ds, ks, vs, h, r => by
    obtain ⟨v, t, rfl, r1, r2⟩ := r.cons_inv
    rw [keysD] at h
    split at h
    · rename_i k kr e1 e2
      cases h
      rw [keyD_ok e1 r1, keysD_ok e2 r2]
      rfl
    · cases h
/-- a dict's content, of the cell or the data -/
def dictOf (μ : Mu) : D → Option D
  | .cell n => match μ[n]? with
    | some (.dK ks ds) => some (.dK ks ds)
    | some (.dT ks ds) => some (.dT ks ds)
    | _ => none
  | .dK ks ds => some (.dK ks ds)
  | .dT ks ds => some (.dT ks ds)
  | _ => none
section
variable {g : Gh} {φ : Ph} {H : Hp} {μ : Mu} {d : D} {v : V}
theorem dK_of (m : RepMu g φ H μ) (r : Rep g φ H d v) {ks : List Key} {ds : List D} (h : dictOf μ d = some (.dK ks ds)) : ∃ p vs, v = .ref p ∧ H p = some (.dK (ks.zip vs)) ∧ ks.length = vs.length ∧ RepL g φ H ds vs := by
  unfold dictOf at h
  split at h
  · split at h <;> cases h
    rename_i e
    obtain ⟨a, _, rfl, vs, h1, h2, h3⟩ := cell_at m r e (by intro z; cases z)
    exact ⟨a, vs, rfl, h1, h2, h3⟩
  · cases h
    unfold Rep at r
    obtain ⟨p, vs, h1, _, h3, h4, h5⟩ := r
    exact ⟨p, vs, h1, h3, h4, h5⟩
  · cases h
  · cases h
theorem dT_of (m : RepMu g φ H μ) (r : Rep g φ H d v) {ks : List (List Key)} {ds : List D} (h : dictOf μ d = some (.dT ks ds)) : ∃ p vs, v = .ref p ∧ H p = some (.dT (ks.zip vs)) ∧ ks.length = vs.length ∧ RepL g φ H ds vs := by
  unfold dictOf at h
  split at h
  · split at h <;> cases h
    rename_i e
    obtain ⟨a, _, rfl, vs, h1, h2, h3⟩ := cell_at m r e (by intro z; cases z)
    exact ⟨a, vs, rfl, h1, h2, h3⟩
  · cases h
  · cases h
    unfold Rep at r
    obtain ⟨p, vs, h1, _, h3, h4, h5⟩ := r
    exact ⟨p, vs, h1, h3, h4, h5⟩
  · cases h
/-- what the dict holds at a key: none, if the key's kind is none of the dict's -/
def getD? (μ : Mu) (c k : D) : Option (Option D) := match dictOf μ c with
  | some (.dK ks ds) => match keyD k with
    | some q => some (lookD ks ds q)
    | none => none
  | some (.dT ks ds) => match tkeyD k with
    | some q => some (lookD ks ds q)
    | none => none
  | _ => none
theorem getD_ok {k : D} {y : V} {o : Option D} (m : RepMu g φ H μ) (r : Rep g φ H d v) (ry : Rep g φ H k y) (h : getD? μ d k = some o) :
    ∃ a o', v = .ref a ∧ DGet H a y o' ∧ (∀ x, o = some x → ∃ z, o' = some z ∧ Rep g φ H x z) ∧ (o = none → o' = none) := by
  unfold getD? at h
  split at h
  · rename_i ks ds e
    split at h
    · rename_i q eq
      cases h
      obtain ⟨p, vs, rfl, h1, h2, h3⟩ := dK_of m r e
      obtain ⟨l1, l2⟩ := look_ok ks ds vs q h3 h2
      rw [keyD_ok eq ry]
      exact ⟨p, _, rfl, DGet.k h1, fun x hx => l1 x hx, l2⟩
    · cases h
  · rename_i ks ds e
    split at h
    · rename_i q eq
      cases h
      obtain ⟨p, vs, rfl, h1, h2, h3⟩ := dT_of m r e
      obtain ⟨l1, l2⟩ := look_ok ks ds vs q h3 h2
      unfold tkeyD at eq
      split at eq
      · rename_i es
        obtain ⟨b, us, rfl, hb, rb⟩ := tup_ok ry
        rw [keysD_ok eq rb] at hb
        exact ⟨p, _, rfl, DGet.t h1 hb, fun x hx => l1 x hx, l2⟩
      · cases eq
    · cases h
  · cases h
end

/-! ### subscripts -/
def atD (xs : List D) (i : Int) : Option D := atI xs i
def idxO (a i : D) : O D := fun μ => match a, i with
  | .str z, .int i => if z.length ≤ LIM then (match atI z.cps.toList i with
    | some c => some (.str ⟨#[c]⟩, μ)
    | none => none) else none
  | a, i => match seqOf μ a with
    | some ds => (match i with
      | .int i => match atD ds i with
        | some d => some (d, μ)
        | none => none
      | _ => none)
    | none => match getD? μ a i with
      | some (some d) => some (d, μ)
      | _ => none
theorem RepL.atI {g : Gh} {φ : Ph} {H : Hp} {ds : List D} {vs : List V} {i : Int} {d : D} (r : RepL g φ H ds vs) (h : atD ds i = some d) : ∃ v, L2.atI vs i = some v ∧ Rep g φ H d v := by
  unfold atD L2.atI at h
  rw [r.length] at h
  cases q : ixN vs.length i with
  | none => rw [q] at h; cases h
  | some j =>
    rw [q] at h
    obtain ⟨v, h1, h2⟩ := r.get (i := j) h
    exact ⟨v, by unfold L2.atI; rw [q]; exact h1, h2⟩
section
variable {X : Cx} {ca : Nat → Addr}
theorem ix_dict (hu : X.A.units + 1 < cLine) : IxR X (fun x y H Q => ∃ a v, x = .ref a ∧ DGet H a y (some v) ∧ Q v H) := by
  intro value slice pins s σ H x y v u Q I rx ry h hs
  obtain ⟨a, r, rfl, g, q⟩ := h
  obtain rfl : v = Value.ref a := rx
  exact PyProof.Rows.tail_any (dict_typeIs I g) PySem.F.slot_dict_getitem.lookup (d_getItem hu I g ry fun w' s3 I3 rw' => ⟨r, H, I3, rw', q⟩) hs
theorem idx_ok (hu : X.A.units + 1 < cLine) : IxR X (rO2 (Gx X ca) idxO) := by
  intro value slice pins s σ H x y v u Q I rx ry h hs
  obtain ⟨φ, μ, a, b, m, ra, rb, q⟩ := h
  unfold idxO at q
  split at q
  · split at q
    · rename_i hz
      split at q
      · rename_i c hc
        rw [rep_str] at ra
        rw [rep_int] at rb
        exact ix_str value slice pins s σ H x y v u Q I rx ry ⟨_, _, c, ra, rb, lim_size hz, hc, q.here m (rep_str.mpr rfl)⟩ hs
      · exact q.elim
    · exact q.elim
  · split at q
    · rename_i ds e
      split at q
      · split at q
        · rename_i d hd
          rw [rep_int] at rb
          obtain ⟨p, vs, rfl, h1, r1⟩ := seqOf_ok m ra e
          obtain ⟨w, h2, r2⟩ := r1.atI hd
          rcases h1 with h1 | h1
          · exact ix_list value slice pins s σ H _ y v u Q I rx ry ⟨p, vs, _, w, rfl, rb, h1, h2, q.here m r2⟩ hs
          · exact ix_tup value slice pins s σ H _ y v u Q I rx ry ⟨p, vs, _, w, rfl, rb, h1, h2, q.here m r2⟩ hs
        · exact q.elim
      · exact q.elim
    · split at q
      · rename_i d e
        obtain ⟨p, o', rfl, h1, h2, _⟩ := getD_ok m ra rb e
        obtain ⟨z, rfl, r2⟩ := h2 d rfl
        exact ix_dict hu value slice pins s σ H _ y v u Q I rx ry ⟨p, z, rfl, h1, q.here m r2⟩ hs
      · exact q.elim
end

/-! ### slices a[lo:hi], a[::-1] -/
def cutL {α : Type} (xs : List α) (lo hi : Option Int) : List α := (xs.drop (HT.sIx xs.length 0 lo)).take (HT.sIx xs.length xs.length hi - HT.sIx xs.length 0 lo)
def slO (cell : Bool) (a : D) (lo hi : Option Int) : O D := fun μ => match a with
  | .str z => if z.length ≤ LIM then some (.str (cutS z lo hi), μ) else none
  | .tup ds => some (.tup (cutL ds lo hi), μ)
  | a => match lstOfS μ a with
    | some ds => mkL cell (cutL ds lo hi) μ
    | none => none
theorem RepL.cut {g : Gh} {φ : Ph} {H : Hp} {ds : List D} {vs : List V} (r : RepL g φ H ds vs) (lo hi : Option Int) : RepL g φ H (cutL ds lo hi) (cutV vs lo hi) := by
  unfold cutL cutV
  rw [r.length]
  exact (r.drop _).take _
theorem cut_whole {α : Type} {xs : List α} {lo hi : Option Int} (h1 : HT.sIx xs.length 0 lo = 0) (h2 : HT.sIx xs.length xs.length hi = xs.length) : cutL xs lo hi = xs := by
  unfold cutL
  rw [h1, h2, Nat.sub_zero, List.drop_zero, List.take_length]

section
variable {X : Cx} {ca : Nat → Addr}
theorem sl_ok {cell : Bool} : SlR X (rOS (Gx X ca) (slO cell)) := by
  intro pins s σ H x v vl vu lo hi sl Q I rx hs pl pu h
  obtain ⟨φ, μ, a, m, ra, q⟩ := h
  unfold slO at q
  split at q
  · split at q
    · rename_i hz
      rw [rep_str] at ra
      exact sl_str pins s σ H x v vl vu lo hi sl Q I rx hs pl pu ⟨_, ra, lim_size hz, q.here m (rep_str.mpr rfl)⟩
    · exact q.elim
  · rename_i ds
    obtain ⟨p, vs, rfl, h1, r1⟩ := tup_ok ra
    refine sl_tupA pins s σ H _ v vl vu lo hi sl Q I rx hs pl pu ⟨p, vs, rfl, .of h1, fun hw => ?_, fun _ => ?_⟩
    · rw [← r1.length] at hw
      rw [cut_whole hw.1 hw.2] at q
      exact q.here m ra
    · exact new_tup m (r1.cut lo hi) q
  · split at q
    · rename_i ds e
      obtain ⟨p, vs, rfl, h1, r1⟩ := lstOfS_ok m ra e
      exact sl_list pins s σ H _ v vl vu lo hi sl Q I rx hs pl pu ⟨p, vs, rfl, h1, new_lst m (r1.cut lo hi) q⟩
    · exact q.elim
end

/-! ### truth, len -/
def truO (d : D) : Mu → Option Bool := fun μ => match d with
  | .non => some false
  | .bl b => some b
  | .int i => some (i != 0)
  | .str x => if x.length ≤ LIM then some ((x.length : Int) != 0) else none
  | d => match seqOf μ d with
    | some ds => some (!ds.isEmpty)
    | none => match dictOf μ d with
      | some (.dK ks _) => some (!ks.isEmpty)
      | _ => none
theorem RepL.isEmpty {g : Gh} {φ : Ph} {H : Hp} {ds : List D} {vs : List V} (r : RepL g φ H ds vs) : ds.isEmpty = vs.isEmpty := by
  have := r.length
  cases ds <;> cases vs <;> simp_all
theorem tru_of {g : Gh} {φ : Ph} {H : Hp} {μ : Mu} {d : D} {v : V} {k : Bool} (m : RepMu g φ H μ) (r : Rep g φ H d v) (h : truO d μ = some k) : TruV g.K v H k := by
  unfold truO at h
  split at h
  · cases h; rw [rep_non] at r; subst r; exact rfl
  · cases h; rw [rep_bl] at r; subst r; exact rfl
  · cases h; rw [rep_int] at r; subst r; exact rfl
  · split at h
    · rename_i hz
      cases h; rw [rep_str] at r; subst r; exact ⟨lim_size hz, rfl⟩
    · cases h
  · split at h
    · rename_i ds e
      cases h
      obtain ⟨p, vs, rfl, h1, r1⟩ := seqOf_ok m r e
      rcases h1 with h1 | h1
      · exact .inl ⟨vs, h1, by rw [r1.isEmpty]⟩
      · exact .inr (.inl ⟨vs, h1, by rw [r1.isEmpty]⟩)
    · split at h
      · rename_i ks ds e
        cases h
        obtain ⟨p, vs, rfl, h1, h2, h3⟩ := dK_of m r e
        refine .inr (.inr ⟨_, h1, ?_⟩)
        cases ks with
        | nil => simp
        | cons k ks =>
          cases vs with
          | nil => simp at h2
          | cons v vs => simp
      · cases h
def lenO : List D → O D := fun as μ => match as with
  | [.str x] => if x.length ≤ LIM then some (.int x.length, μ) else none
  | [d] => match seqOf μ d with
    | some ds => some (.int ds.length, μ)
    | none => match dictOf μ d with
      | some (.dK ks _) => some (.int ks.length, μ)
      | _ => none
  | _ => none
theorem repL_one {g : Gh} {φ : Ph} {H : Hp} {d : D} {vs : List V} (r : RepL g φ H [d] vs) : ∃ v, vs = [v] ∧ Rep g φ H d v := by
  obtain ⟨v, t, rfl, h1, h2⟩ := r.cons_inv
  rw [h2.nil_inv]
  exact ⟨v, rfl, h1⟩
theorem repL_two {g : Gh} {φ : Ph} {H : Hp} {d e : D} {vs : List V} (r : RepL g φ H [d, e] vs) : ∃ v u, vs = [v, u] ∧ Rep g φ H d v ∧ Rep g φ H e u := by
  obtain ⟨v, t, rfl, h1, h2⟩ := r.cons_inv
  obtain ⟨u, rfl, h3⟩ := repL_one h2
  exact ⟨v, u, rfl, h1, h3⟩
section
variable {X : Cx} {ca : Nat → Addr}
theorem len_ok : CallR X (.builtin "len") (rOL (Gx X ca) lenO) := by
  intro pins s σ H xs us Q I rv h
  obtain ⟨φ, μ, as, m, ra, q⟩ := h
  unfold lenO at q
  split at q
  · split at q
    · rename_i hz
      obtain ⟨v, rfl, r1⟩ := repL_one ra
      rw [rep_str] at r1
      subst r1
      exact call_len_str pins s σ H _ us Q I rv ⟨_, rfl, lim_size hz, q.here m (rep_int.mpr rfl)⟩
    · exact q.elim
  · obtain ⟨v, rfl, r1⟩ := repL_one ra
    split at q
    · rename_i ds e
      obtain ⟨p, vs, rfl, h1, r2⟩ := seqOf_ok m r1 e
      refine call_len_seq pins s σ H _ us Q I rv ⟨p, vs, rfl, h1, ?_⟩
      rw [← r2.length]
      exact q.here m (rep_int.mpr rfl)
    · split at q
      · rename_i ks ds e
        obtain ⟨p, vs, rfl, h1, h2, h3⟩ := dK_of m r1 e
        obtain ⟨u, rfl, ru⟩ := vals1 rv
        cases ru
        refine d_len I (.inl h1) fun t s' I' => ⟨.int _, H, I', ⟨t, rfl⟩, ?_⟩
        rw [List.length_zip, ← h2, Nat.min_self]
        exact q.here m (rep_int.mpr rfl)
      · exact q.elim
  · exact q.elim

/-! ### list(x), tuple(x), int(x), abs(x), min(x, y), all(xs), sum(xs) -/
def listO (cell : Bool) : List D → O D := fun as μ => match as with
  | [d] => match seqOf μ d with
    | some ds => mkL cell ds μ
    | none => none
  | _ => none
def tupleO : List D → O D := fun as μ => match as with
  | [d] => match seqOf μ d with
    | some ds => some (.tup ds, μ)
    | none => none
  | _ => none
def intO : List D → O D := fun as μ => match as with
  | [.int i] => some (.int i, μ)
  | [.bl b] => some (.int (if b then 1 else 0), μ)
  | _ => none
def absO : List D → O D := fun as μ => match as with
  | [.int i] => some (.int (if i < 0 then -i else i), μ)
  | _ => none
def minO : List D → O D := fun as μ => match as with
  | [.int i, .int j] => some (.int (if j < i then j else i), μ)
  | _ => none
def maxO : List D → O D := fun as μ => match as with
  | [.int i, .int j] => some (.int (if j > i then j else i), μ)
  | _ => none
def blsD : List D → Option (List Bool)
  | [] => some []
  | .bl b :: ds => match blsD ds with
    | some r => some (b :: r)
    | none => none
  | _ :: _ => none
def intsD : List D → Option (List Int)
  | [] => some []
  | .int i :: ds => match intsD ds with
    | some r => some (i :: r)
    | none => none
  | _ :: _ => none
theorem blsD_ok {g : Gh} {φ : Ph} {H : Hp} : ∀ {ds : List D} {bs : List Bool} {vs : List V}, blsD ds = some bs → RepL g φ H ds vs → vs = bs.map V.bl
  | [], bs, vs, h, r => by simp [blsD] at h; subst h; exact r.nil_inv
  | d :: ds, bs, vs, h, r => by
    obtain ⟨v, t, rfl, r1, r2⟩ := r.cons_inv
    cases d with
    | bl b =>
      rw [blsD] at h
      split at h
      · rename_i q e
        cases h
        rw [rep_bl] at r1
        rw [r1, blsD_ok e r2]
        rfl
      · cases h
    | _ => simp [blsD] at h
theorem intsD_ok {g : Gh} {φ : Ph} {H : Hp} : ∀ {ds : List D} {bs : List Int} {vs : List V}, intsD ds = some bs → RepL g φ H ds vs → vs = bs.map V.int
  | [], bs, vs, h, r => by simp [intsD] at h; subst h; exact r.nil_inv
  | d :: ds, bs, vs, h, r => by
    obtain ⟨v, t, rfl, r1, r2⟩ := r.cons_inv
    cases d with
    | int b =>
      rw [intsD] at h
      split at h
      · rename_i q e
        cases h
        rw [rep_int] at r1
        rw [r1, intsD_ok e r2]
        rfl
      · cases h
    | _ => simp [intsD] at h
def allO : List D → O D := fun as μ => match as with
  | [d] => match lstOf μ d with
    | some ds => match blsD ds with
      | some bs => some (.bl (bs.all id), μ)
      | none => none
    | none => none
  | _ => none
def anyO : List D → O D := fun as μ => match as with
  | [d] => match lstOf μ d with
    | some ds => match blsD ds with
      | some bs => some (.bl (bs.any id), μ)
      | none => none
    | none => none
  | _ => none
def sumO : List D → O D := fun as μ => match as with
  | [d] => match lstOf μ d with
    | some ds => match intsD ds with
      | some bs => some (.int bs.sum, μ)
      | none => none
    | none => none
  | _ => none
theorem list_ok {cell : Bool} : CallR X (.type "list") (rOL (Gx X ca) (listO cell)) := by
  intro pins s σ H xs us Q I rv h
  obtain ⟨φ, μ, as, m, ra, q⟩ := h
  unfold listO at q
  split at q
  · obtain ⟨v, rfl, r1⟩ := repL_one ra
    split at q
    · rename_i ds e
      obtain ⟨p, vs, rfl, h1, r2⟩ := seqOf_ok m r1 e
      exact call_list_of pins s σ H _ us Q I rv ⟨p, vs, rfl, h1, new_lst m r2 q⟩
    · exact q.elim
  · exact q.elim
theorem tuple_ok : CallR X (.type "tuple") (rOL (Gx X ca) tupleO) := by
  intro pins s σ H xs us Q I rv h
  obtain ⟨φ, μ, as, m, ra, q⟩ := h
  unfold tupleO at q
  split at q
  · obtain ⟨v, rfl, r1⟩ := repL_one ra
    split at q
    · rename_i d _ ds e
      by_cases ht : ∃ es, d = .tup es
      · obtain ⟨es, rfl⟩ := ht
        have e' : es = ds := by
          have : seqOf μ (.tup es) = some es := rfl
          rw [this] at e; exact Option.some.inj e
        subst e'
        obtain ⟨p, vs, rfl, h1, r2⟩ := tup_ok r1
        exact call_tuple_of pins s σ H _ us Q I rv ⟨p, vs, rfl, .inr ⟨.of h1, q.here m r1⟩⟩
      · have e2 : lstOfS μ d = some ds := by
          unfold seqOf at e
          split at e
          · exact absurd ⟨_, rfl⟩ ht
          · exact e
        obtain ⟨p, vs, rfl, h1, r2⟩ := lstOfS_ok m r1 e2
        exact call_tuple_of pins s σ H _ us Q I rv ⟨p, vs, rfl, .inl ⟨h1, new_tup m r2 q⟩⟩
    · exact q.elim
  · exact q.elim
theorem int_ok : CallR X (.type "int") (rOL (Gx X ca) intO) := by
  intro pins s σ H xs us Q I rv h
  obtain ⟨φ, μ, as, m, ra, q⟩ := h
  unfold intO at q
  split at q
  · obtain ⟨v, rfl, r1⟩ := repL_one ra
    rw [rep_int] at r1
    subst r1
    exact call_int1 pins s σ H _ us Q I rv (.inl ⟨_, rfl, q.here m (rep_int.mpr rfl)⟩)
  · obtain ⟨v, rfl, r1⟩ := repL_one ra
    rw [rep_bl] at r1
    subst r1
    exact call_int1 pins s σ H _ us Q I rv (.inr ⟨_, rfl, q.here m (rep_int.mpr rfl)⟩)
  · exact q.elim
theorem abs_ok : CallR X (.builtin "abs") (rOL (Gx X ca) absO) := by
  intro pins s σ H xs us Q I rv h
  obtain ⟨φ, μ, as, m, ra, q⟩ := h
  unfold absO at q
  split at q
  · obtain ⟨v, rfl, r1⟩ := repL_one ra
    rw [rep_int] at r1
    subst r1
    exact call_abs pins s σ H _ us Q I rv ⟨_, rfl, q.here m (rep_int.mpr rfl)⟩
  · exact q.elim
theorem min_ok (hc : X.calm = true) : CallR X (.builtin "min") (rOL (Gx X ca) minO) := by
  intro pins s σ H xs us Q I rv h
  obtain ⟨φ, μ, as, m, ra, q⟩ := h
  unfold minO at q
  split at q
  · obtain ⟨v, u, rfl, r1, r2⟩ := repL_two ra
    rw [rep_int] at r1 r2
    subst r1; subst r2
    exact call_min2 hc pins s σ H _ us Q I rv ⟨_, _, rfl, q.here m (rep_int.mpr rfl)⟩
  · exact q.elim
theorem max_ok (hc : X.calm = true) : CallR X (.builtin "max") (rOL (Gx X ca) maxO) := by
  intro pins s σ H xs us Q I rv h
  obtain ⟨φ, μ, as, m, ra, q⟩ := h
  unfold maxO at q
  split at q
  · obtain ⟨v, u, rfl, r1, r2⟩ := repL_two ra
    rw [rep_int] at r1 r2
    subst r1; subst r2
    exact call_max2 hc pins s σ H _ us Q I rv ⟨_, _, rfl, q.here m (rep_int.mpr rfl)⟩
  · exact q.elim
theorem all_ok (hc : X.calm = true) : CallR X (.builtin "all") (rOL (Gx X ca) allO) := by
  intro pins s σ H xs us Q I rv h
  obtain ⟨φ, μ, as, m, ra, q⟩ := h
  unfold allO at q
  split at q
  · obtain ⟨v, rfl, r1⟩ := repL_one ra
    split at q
    · rename_i ds e
      split at q
      · rename_i bs e2
        obtain ⟨p, vs, rfl, h1, r2⟩ := lstOf_ok m r1 e
        have := blsD_ok e2 r2
        subst this
        exact cr_all hc pins s σ H _ us Q I rv ⟨p, bs, rfl, .of h1, q.here m (rep_bl.mpr rfl)⟩
      · exact q.elim
    · exact q.elim
  · exact q.elim
theorem any_ok (hc : X.calm = true) : CallR X (.builtin "any") (rOL (Gx X ca) anyO) := by
  intro pins s σ H xs us Q I rv h
  obtain ⟨φ, μ, as, m, ra, q⟩ := h
  unfold anyO at q
  split at q
  · obtain ⟨v, rfl, r1⟩ := repL_one ra
    split at q
    · rename_i ds e
      split at q
      · rename_i bs e2
        obtain ⟨p, vs, rfl, h1, r2⟩ := lstOf_ok m r1 e
        have := blsD_ok e2 r2
        subst this
        exact cr_any hc pins s σ H _ us Q I rv ⟨p, bs, rfl, .of h1, q.here m (rep_bl.mpr rfl)⟩
      · exact q.elim
    · exact q.elim
  · exact q.elim
theorem sum_ok (hc : X.calm = true) : CallR X (.builtin "sum") (rOL (Gx X ca) sumO) := by
  intro pins s σ H xs us Q I rv h
  obtain ⟨φ, μ, as, m, ra, q⟩ := h
  unfold sumO at q
  split at q
  · obtain ⟨v, rfl, r1⟩ := repL_one ra
    split at q
    · rename_i ds e
      split at q
      · rename_i bs e2
        obtain ⟨p, vs, rfl, h1, r2⟩ := lstOf_ok m r1 e
        have := intsD_ok e2 r2
        subst this
        exact cr_sum hc pins s σ H _ us Q I rv ⟨p, bs, rfl, .of h1, q.here m (rep_int.mpr rfl)⟩
      · exact q.elim
    · exact q.elim
  · exact q.elim
end

/-! ### a in b, a not in b -/
def flatD : D → Bool
  | .non => true
  | .bl _ => true
  | .int _ => true
  | .str _ => true
  | _ => false
theorem flat_eq {g : Gh} {φ : Ph} {H : Hp} {a b : D} {x y : V} (ra : Rep g φ H a x) (rb : Rep g φ H b y) (fa : flatD a = true) (fb : flatD b = true) : flatV x = true ∧ eqV y x = eqD b a := by
  cases a <;> cases fa <;> cases b <;> cases fb <;> simp only [rep_non, rep_bl, rep_int, rep_str] at ra rb <;> subst ra <;> subst rb <;> exact ⟨rfl, by simp [eqV, eqD]⟩
theorem flat_any {g : Gh} {φ : Ph} {H : Hp} {a : D} {x : V} (ra : Rep g φ H a x) (fa : flatD a = true) : ∀ {ds : List D} {vs : List V}, RepL g φ H ds vs → ds.all flatD = true → vs.all flatV = true ∧ inV x vs = ds.any (fun b => eqD b a)
  | [], _, r, _ => by rw [r.nil_inv]; exact ⟨rfl, rfl⟩
  | d :: ds, _, r, f => by
    obtain ⟨v, t, rfl, r1, r2⟩ := r.cons_inv
    rw [List.all_cons, Bool.and_eq_true] at f
    obtain ⟨i1, i2⟩ := flat_any ra fa r2 f.2
    have k1 := (flat_eq r1 r1 f.1 f.1).1
    have k2 := (flat_eq ra r1 fa f.1).2
    unfold inV at i2 ⊢
    rw [List.all_cons, k1, i1, List.any_cons, i2, List.any_cons, k2]
    exact ⟨rfl, rfl⟩
theorem eqv_any {a : D} {k j : Nat} (ha : shp k a = true) : ∀ {ds : List D}, shpL j ds = true → ((pdL ds).any fun z => PyData.eqv z (pd a)) = ds.any fun b => eqD b a
  | [], _ => by rw [pdL_nil]; rfl
  | d :: ds, h => by
    rw [shpL_cons, Bool.and_eq_true] at h
    rw [pdL_cons, List.any_cons, List.any_cons, eqv_any ha h.2, eqv_pd d a j k h.1 ha]
/-- one sign -/
def oneSign (x : Str) : Option Nat := match x.cps.toList with
  | [c] => some c
  | _ => none
theorem oneSign_ok {x : Str} {c : Nat} (h : oneSign x = some c) : x = ⟨#[c]⟩ := by
  unfold oneSign at h
  split at h
  · rename_i c' e
    cases h
    cases x
    rename_i cps
    congr
    exact Array.toList_inj.mp e
  · cases h
def inO (neg : Bool) (a b : D) : O D := fun μ => match a, b with
  | .str x, .str z => match oneSign x with
    | some c => some (.bl (if neg then !decide (c ∈ z.cps.toList) else decide (c ∈ z.cps.toList)), μ)
    | none => none
  | a, b => match seqOf μ b with
    | some ds => if flatD a = true ∧ ds.all flatD = true then some (.bl (if neg then !ds.any (fun y => eqD y a) else ds.any (fun y => eqD y a)), μ)
      else match lstOf μ b with
        | some es => if shp DEEP a = true ∧ shpL DEEP es = true then some (.bl (if neg then !es.any (fun y => eqD y a) else es.any (fun y => eqD y a)), μ) else none
        | none => none
    | none => match getD? μ b a with
      | some o => some (.bl (if neg then !o.isSome else o.isSome), μ)
      | none => none
section
variable {X : Cx} {ca : Nat → Addr}
theorem in_ok (hu : X.A.units + 65 < cLine) : OpR X (compareOp .In) (rO2 (Gx X ca) (inO false)) := by
  intro pins s σ H x y v u Q I rx ry h
  obtain ⟨φ, μ, a, b, m, ra, rb, q⟩ := h
  unfold inO at q
  split at q
  · split at q
    · rename_i c hc
      rw [rep_str] at ra rb
      rw [oneSign_ok hc] at ra
      exact op_in_sign pins s σ H x y v u Q I rx ry ⟨c, _, ra, rb, q.here m (rep_bl.mpr rfl)⟩
    · exact q.elim
  · split at q
    · rename_i ds e
      split at q
      · rename_i hf
        obtain ⟨p, vs, rfl, h1, r1⟩ := seqOf_ok m rb e
        obtain ⟨k1, k2⟩ := flat_any ra hf.1 r1 hf.2
        refine op_in_seq pins s σ H x _ v u Q I rx ry ⟨p, vs, rfl, h1, (flat_eq ra ra hf.1 hf.1).1, k1, ?_⟩
        rw [k2]
        exact q.here m (rep_bl.mpr rfl)
      · split at q
        · rename_i es e2
          split at q
          · rename_i hs
            obtain ⟨p, vs, rfl, h1, r1⟩ := lstOf_ok m rb e2
            have sh : shp (DEEP + 1) (.lst es) = true := by rw [shp_lst]; exact hs.2
            refine op_inD hu pins s σ H x _ v u Q I rx ry ⟨_, _, shp_dp a _ x hs.1 ra, .lst (.of h1) (shp_dpL es _ vs hs.2 r1), shp_shaped hs.1 (by decide), by rw [← pd_lst]; exact shp_shaped sh (by decide), ?_⟩
            rw [eqv_any hs.1 hs.2]
            exact q.here m (rep_bl.mpr rfl)
          · exact q.elim
        · exact q.elim
    · split at q
      · rename_i o e
        obtain ⟨p, o', rfl, h1, h2, h3⟩ := getD_ok m rb ra e
        obtain rfl : u = Value.ref p := ry
        refine d_in (by omega) I h1 rx fun s' I' => ⟨.bl _, H, I', rfl, ?_⟩
        have eo : o'.isSome = o.isSome := by
          cases o with
          | none => rw [h3 rfl]; rfl
          | some d => obtain ⟨z, e1, _⟩ := h2 d rfl; rw [e1]; rfl
        rw [eo]
        exact q.here m (rep_bl.mpr rfl)
      · exact q.elim
theorem notIn_ok (hu : X.A.units + 65 < cLine) : OpR X (compareOp .NotIn) (rO2 (Gx X ca) (inO true)) := by
  intro pins s σ H x y v u Q I rx ry h
  obtain ⟨φ, μ, a, b, m, ra, rb, q⟩ := h
  unfold inO at q
  split at q
  · split at q
    · rename_i c hc
      rw [rep_str] at ra rb
      rw [oneSign_ok hc] at ra
      exact op_notIn_sign pins s σ H x y v u Q I rx ry ⟨c, _, ra, rb, q.here m (rep_bl.mpr rfl)⟩
    · exact q.elim
  · split at q
    · rename_i ds e
      split at q
      · rename_i hf
        obtain ⟨p, vs, rfl, h1, r1⟩ := seqOf_ok m rb e
        obtain ⟨k1, k2⟩ := flat_any ra hf.1 r1 hf.2
        refine op_notIn_seq pins s σ H x _ v u Q I rx ry ⟨p, vs, rfl, h1, (flat_eq ra ra hf.1 hf.1).1, k1, ?_⟩
        rw [k2]
        exact q.here m (rep_bl.mpr rfl)
      · split at q
        · rename_i es e2
          split at q
          · rename_i hs
            obtain ⟨p, vs, rfl, h1, r1⟩ := lstOf_ok m rb e2
            have sh : shp (DEEP + 1) (.lst es) = true := by rw [shp_lst]; exact hs.2
            refine op_notInD hu pins s σ H x _ v u Q I rx ry ⟨_, _, shp_dp a _ x hs.1 ra, .lst (.of h1) (shp_dpL es _ vs hs.2 r1), shp_shaped hs.1 (by decide), by rw [← pd_lst]; exact shp_shaped sh (by decide), ?_⟩
            rw [eqv_any hs.1 hs.2]
            exact q.here m (rep_bl.mpr rfl)
          · exact q.elim
        · exact q.elim
    · split at q
      · rename_i o e
        obtain ⟨p, o', rfl, h1, h2, h3⟩ := getD_ok m rb ra e
        obtain rfl : u = Value.ref p := ry
        refine d_notIn (by omega) I h1 rx fun s' I' => ⟨.bl _, H, I', rfl, ?_⟩
        have eo : o'.isSome = o.isSome := by
          cases o with
          | none => rw [h3 rfl]; rfl
          | some d => obtain ⟨z, e1, _⟩ := h2 d rfl; rw [e1]; rfl
        rw [eo]
        exact q.here m (rep_bl.mpr rfl)
      · exact q.elim

/-! ### is, is not: None, True, False -/
def isNonD : D → Bool
  | .non => true
  | _ => false
def isO (neg : Bool) (a b : D) : O D := fun μ => match a, b with
  | .bl i, .bl j => some (.bl (if neg then !decide (i = j) else decide (i = j)), μ)
  | .cell _, .non => none
  | a, .non => some (.bl (if neg then !isNonD a else isNonD a), μ)
  | _, _ => none
theorem rep_isN {g : Gh} {φ : Ph} {H : Hp} {a : D} {x : V} (hn : ∀ n, a ≠ .cell n) (r : Rep g φ H a x) : decide (x = .non) = isNonD a := by
  cases a with
  | non => rw [rep_non] at r; subst r; rfl
  | cell n => exact absurd rfl (hn n)
  | bl b => rw [rep_bl] at r; subst r; rfl
  | int b => rw [rep_int] at r; subst r; rfl
  | str b => rw [rep_str] at r; subst r; rfl
  | ty b => rw [rep_ty] at r; subst r; rfl
  | cls b => rw [rep_cls] at r; subst r; rfl
  | tup ds => obtain ⟨p, vs, rfl, _⟩ := tup_ok r; rfl
  | lst ds => unfold Rep at r; obtain ⟨p, vs, rfl, _⟩ := r; rfl
  | obj C ns ds => unfold Rep at r; obtain ⟨p, dx, vs, rfl, _⟩ := r; rfl
  | dK ks ds => unfold Rep at r; obtain ⟨p, vs, rfl, _⟩ := r; rfl
  | dT ks ds => unfold Rep at r; obtain ⟨p, vs, rfl, _⟩ := r; rfl
  | script ns => unfold Rep at r; obtain ⟨p, rfl, _⟩ := r; rfl
theorem is_ok : OpR X (compareOp .Is) (rO2 (Gx X ca) (isO false)) := by
  intro pins s σ H x y v u Q I rx ry h
  obtain ⟨φ, μ, a, b, m, ra, rb, q⟩ := h
  unfold isO at q
  split at q
  · rw [rep_bl] at ra rb
    exact op_isBl pins s σ H x y v u Q I rx ry ⟨_, _, ra, rb, q.here m (rep_bl.mpr rfl)⟩
  · exact q.elim
  · rename_i hb hn
    rw [rep_non] at rb
    refine op_isN pins s σ H x y v u Q I rx ry ⟨rb, ?_⟩
    rw [rep_isN (fun n z => hn n z) ra]
    exact q.here m (rep_bl.mpr rfl)
  · exact q.elim
theorem isNot_ok : OpR X (compareOp .IsNot) (rO2 (Gx X ca) (isO true)) := by
  intro pins s σ H x y v u Q I rx ry h
  obtain ⟨φ, μ, a, b, m, ra, rb, q⟩ := h
  unfold isO at q
  split at q
  · rw [rep_bl] at ra rb
    exact op_notBl pins s σ H x y v u Q I rx ry ⟨_, _, ra, rb, q.here m (rep_bl.mpr rfl)⟩
  · exact q.elim
  · rename_i hb hn
    rw [rep_non] at rb
    refine op_notN pins s σ H x y v u Q I rx ry ⟨rb, ?_⟩
    rw [rep_isN (fun n z => hn n z) ra]
    exact q.here m (rep_bl.mpr rfl)
  · exact q.elim
end
end Iv
end
section
set_option Elab.async false
set_option linter.all false
set_option maxRecDepth 100000
set_option maxHeartbeats 4000000
/-! IvMeth: methods and stores, isinstance, len(set(..)). -/
namespace Iv
open PySem PySem.Spec L2

/-! ### a cell's list changed -/
def lstCell (μ : Mu) : D → Option (Nat × List D)
  | .cell n => match μ[n]? with
    | some (.lst ds) => some (n, ds)
    | _ => none
  | _ => none
theorem cell_lst {g : Gh} {φ : Ph} {H : Hp} {μ : Mu} {d : D} {v : V} {n : Nat} {ds : List D} (m : RepMu g φ H μ) (r : Rep g φ H d v) (h : lstCell μ d = some (n, ds)) :
    ∃ a vs, v = .ref a ∧ H a = some (.lst vs) ∧ RepL g φ H ds vs ∧ ∀ ds' vs', RepL g φ H ds' vs' → Ext φ H φ (upd H a (.lst vs')) ∧ RepMu g φ (upd H a (.lst vs')) (μ.set n (.lst ds')) := by
  unfold lstCell at h
  split at h
  · split at h <;> cases h
    rename_i e
    obtain ⟨a, ha, rfl, vs, h1, h2⟩ := cell_at m r e (by intro z; cases z)
    refine ⟨a, vs, rfl, h1, h2, fun ds' vs' r' => ?_⟩
    have x := Ext.write (o := .lst vs') m ha e
    exact ⟨x, m.write ha e ⟨vs', upd_same, r'.ext x⟩⟩
  · cases h
def appendO (a : D) (as : List D) : O D := fun μ => match as with
  | [d] => match lstCell μ a with
    | some (n, ds) => if ds.length < LIM then some (.non, μ.set n (.lst (ds ++ [d]))) else none
    | none => none
  | _ => none
def extendO (a : D) (as : List D) : O D := fun μ => match as with
  | [d] => match lstCell μ a, lstOf μ d with
    | some (n, ds), some es => if ds.length + es.length ≤ LIM then some (.non, μ.set n (.lst (ds ++ es))) else none
    | _, _ => none
  | _ => none
def popO (a : D) (as : List D) : O D := fun μ => match as with
  | [] => match lstCell μ a with
    | some (n, ds) => match ds[ds.length - 1]? with
      | some d => some (d, μ.set n (.lst ds.dropLast))
      | none => none
    | none => none
  | [.int i] => match lstCell μ a with
    | some (n, ds) => if 0 ≤ i ∧ i < LIM then match ds[i.toNat]? with
      | some d => some (d, μ.set n (.lst (ds.eraseIdx i.toNat)))
      | none => none
      else none
    | none => none
  | _ => none
def insertO (a : D) (as : List D) : O D := fun μ => match as with
  | [.int i, d] => match lstCell μ a with
    | some (n, ds) => if 0 ≤ i ∧ i ≤ LIM ∧ ds.length < LIM then some (.non, μ.set n (.lst (ds.take i.toNat ++ d :: ds.drop i.toNat))) else none
    | none => none
  | _ => none
def reverseO (a : D) (as : List D) : O D := fun μ => match as with
  | [] => match lstCell μ a with
    | some (n, ds) => some (.non, μ.set n (.lst ds.reverse))
    | none => none
  | _ => none
section
variable {X : Cx} {ca : Nat → Addr}
theorem append_ok : MtR X "list.append" (rOM (Gx X ca) appendO) := by
  intro pins s σ H x xs v us Q I rx rv h
  obtain ⟨φ, μ, a, as, m, ra, rs, q⟩ := h
  unfold appendO at q
  split at q
  · rename_i d
    split at q
    · rename_i n ds e
      split at q
      · rename_i hz
        obtain ⟨p, vs, rfl, h1, r1, w⟩ := cell_lst m ra e
        obtain ⟨u, rfl, r2⟩ := repL_one rs
        refine mt_append pins s σ H _ _ v us Q I rx rv ⟨p, vs, u, rfl, rfl, h1, by rw [← r1.length]; exact lim_lt hz, ?_⟩
        obtain ⟨x1, m1⟩ := w _ _ (r1.append (.cons r2 .nil))
        exact q φ _ _ x1 m1 (rep_non.mpr rfl)
      · exact q.elim
    · exact q.elim
  · exact q.elim
theorem extend_ok : MtR X "list.extend" (rOM (Gx X ca) extendO) := by
  intro pins s σ H x xs v us Q I rx rv h
  obtain ⟨φ, μ, a, as, m, ra, rs, q⟩ := h
  unfold extendO at q
  split at q
  · rename_i d
    split at q
    · rename_i n ds es e e2
      split at q
      · rename_i hz
        obtain ⟨p, vs, rfl, h1, r1, w⟩ := cell_lst m ra e
        obtain ⟨u, rfl, r2⟩ := repL_one rs
        obtain ⟨p2, us2, rfl, h2, r3⟩ := lstOf_ok m r2 e2
        refine mt_extend pins s σ H _ _ v us Q I rx rv ⟨p, p2, vs, us2, rfl, rfl, h1, h2, by rw [← r1.length, ← r3.length]; exact lim_size hz, ?_⟩
        obtain ⟨x1, m1⟩ := w _ _ (r1.append r3)
        exact q φ _ _ x1 m1 (rep_non.mpr rfl)
      · exact q.elim
    · exact q.elim
  · exact q.elim
theorem pop_ok : MtR X "list.pop" (rOM (Gx X ca) popO) := by
  intro pins s σ H x xs v us Q I rx rv h
  obtain ⟨φ, μ, a, as, m, ra, rs, q⟩ := h
  unfold popO at q
  split at q
  · split at q
    · rename_i n ds e
      split at q
      · rename_i d hd
        obtain ⟨p, vs, rfl, h1, r1, w⟩ := cell_lst m ra e
        rw [r1.length] at hd
        obtain ⟨y, h2, r2⟩ := r1.get hd
        have e0 := rs.nil_inv
        subst e0
        refine mt_pop pins s σ H _ _ v us Q I rx rv ⟨p, vs, y, rfl, rfl, h1, h2, ?_⟩
        obtain ⟨x1, m1⟩ := w _ _ r1.dropLast
        exact q φ _ _ x1 m1 (r2.ext x1)
      · exact q.elim
    · exact q.elim
  · rename_i i
    split at q
    · rename_i n ds e
      split at q
      · rename_i hz
        split at q
        · rename_i d hd
          obtain ⟨p, vs, rfl, h1, r1, w⟩ := cell_lst m ra e
          obtain ⟨y, h2, r2⟩ := r1.get hd
          obtain ⟨u, rfl, r3⟩ := repL_one rs
          rw [rep_int] at r3
          subst r3
          have hl : ((LIM : Nat) : Int) = 1000000 := rfl
          have hlt := (List.getElem?_eq_some_iff.mp h2).1
          refine mt_popAt pins s σ H _ _ v us Q I rx rv ⟨p, vs, i, i.toNat, y, rfl, rfl, h1, by omega, by omega, seqIndex_of hz.1 (by omega), h2, ?_⟩
          obtain ⟨x1, m1⟩ := w _ _ (r1.eraseIdx i.toNat)
          exact q φ _ _ x1 m1 (r2.ext x1)
        · exact q.elim
      · exact q.elim
    · exact q.elim
  · exact q.elim
theorem insert_ok : MtR X "list.insert" (rOM (Gx X ca) insertO) := by
  intro pins s σ H x xs v us Q I rx rv h
  obtain ⟨φ, μ, a, as, m, ra, rs, q⟩ := h
  unfold insertO at q
  split at q
  · rename_i i d
    split at q
    · rename_i n ds e
      split at q
      · rename_i hz
        obtain ⟨p, vs, rfl, h1, r1, w⟩ := cell_lst m ra e
        obtain ⟨u, y, rfl, r3, r4⟩ := repL_two rs
        rw [rep_int] at r3
        subst r3
        have hl : ((LIM : Nat) : Int) = 1000000 := rfl
        refine mt_insert pins s σ H _ _ v us Q I rx rv ⟨p, vs, i, y, rfl, rfl, h1, by rw [← r1.length]; exact lim_lt hz.2.2, hz.1, by omega, ?_⟩
        obtain ⟨x1, m1⟩ := w _ _ (r1.insert r4 i.toNat)
        rw [List.append_assoc, List.singleton_append]
        exact q φ _ _ x1 m1 (rep_non.mpr rfl)
      · exact q.elim
    · exact q.elim
  · exact q.elim
theorem reverse_ok : MtR X "list.reverse" (rOM (Gx X ca) reverseO) := by
  intro pins s σ H x xs v us Q I rx rv h
  obtain ⟨φ, μ, a, as, m, ra, rs, q⟩ := h
  unfold reverseO at q
  split at q
  · split at q
    · rename_i n ds e
      obtain ⟨p, vs, rfl, h1, r1, w⟩ := cell_lst m ra e
      have e0 := rs.nil_inv
      subst e0
      refine mt_reverse pins s σ H _ _ v us Q I rx rv ⟨p, vs, rfl, rfl, h1, ?_⟩
      obtain ⟨x1, m1⟩ := w _ _ r1.reverse
      exact q φ _ _ x1 m1 (rep_non.mpr rfl)
    · exact q.elim
  · exact q.elim
end

/-! ### texts joined -/
def strsD : List D → Option (List Str)
  | [] => some []
  | .str x :: ds => match strsD ds with
    | some r => some (x :: r)
    | none => none
  | _ :: _ => none
theorem strsD_ok {g : Gh} {φ : Ph} {H : Hp} : ∀ {ds : List D} {bs : List Str} {vs : List V}, strsD ds = some bs → RepL g φ H ds vs → vs = bs.map V.str
  | [], bs, vs, h, r => by simp [strsD] at h; subst h; exact r.nil_inv
  | d :: ds, bs, vs, h, r => by
    obtain ⟨v, t, rfl, r1, r2⟩ := r.cons_inv
    cases d with
    | str b =>
      rw [strsD] at h
      split at h
      · rename_i q e
        cases h
        rw [rep_str] at r1
        rw [r1, strsD_ok e r2]
        rfl
      · cases h
    | _ => simp [strsD] at h
def joinO (a : D) (as : List D) : O D := fun μ => match a, as with
  | .str z, [d] => match seqOf μ d with
    | some ds => match strsD ds with
      | some ys => if (ys.map (·.length)).sum + ys.length * z.length ≤ LIM then some (.str (Txt.join z ys), μ) else none
      | none => none
    | none => none
  | _, _ => none
section
variable {X : Cx} {ca : Nat → Addr}
theorem join_ok : MtR X "str.join" (rOM (Gx X ca) joinO) := by
  intro pins s σ H x xs v us Q I rx rv h
  obtain ⟨φ, μ, a, as, m, ra, rs, q⟩ := h
  unfold joinO at q
  split at q
  · rename_i z d
    split at q
    · rename_i ds e
      split at q
      · rename_i ys e2
        split at q
        · rename_i hz
          obtain ⟨u, rfl, r1⟩ := repL_one rs
          obtain ⟨p, vs, rfl, h1, r2⟩ := seqOf_ok m r1 e
          have := strsD_ok e2 r2
          subst this
          rw [rep_str] at ra
          subst ra
          exact mt_join pins s σ H _ _ v us Q I rx rv ⟨z, p, ys, rfl, rfl, h1, Nat.le_trans hz (by decide), q.here m (rep_str.mpr rfl)⟩
        · exact q.elim
      · exact q.elim
    · exact q.elim
  · exact q.elim
end

/-! ### o[i] = v -/
def setO (o i d : D) : Mu → Option Mu := fun μ => match lstCell μ o with
  | some (n, ds) => (match i with
    | .int k => match ixN ds.length k with
      | some j => some (μ.set n (.lst (ds.set j d)))
      | none => none
    | _ => none)
  | none => match o with
    | .cell n => match μ[n]? with
      | some (.dK ks ds) => match keyD i with
        | some k => if ks.length < LIM then some (μ.set n (.dK (putKs ks k) (putVs ks ds k d))) else none
        | none => none
      | some (.dT ks ds) => match tkeyD i with
        | some k => if ks.length < LIM then some (μ.set n (.dT (putKs ks k) (putVs ks ds k d))) else none
        | none => none
      | _ => none
    | _ => none
/-- what follows a store -/
def EndU (g : Gh) (φ : Ph) (H : Hp) (Q : Hp → Prop) : Option Mu → Prop
  | none => False
  | some μ' => ∀ φ' H', Ext φ H φ' H' → RepMu g φ' H' μ' → Q H'
def rO3 (g : Gh) (f : D → D → D → Mu → Option Mu) : TSet := fun o i v H Q => ∃ φ μ a b c, RepMu g φ H μ ∧ Rep g φ H a o ∧ Rep g φ H b i ∧ Rep g φ H c v ∧ EndU g φ H Q (f a b c μ)
section
variable {X : Cx} {ca : Nat → Addr}
theorem set_ok (hu : X.A.units + 1 < cLine) : PSet X (rO3 (Gx X ca) setO) := by
  intro pins s σ H o i v ov iv u Q I ro ri rv h
  obtain ⟨φ, μ, a, b, c, m, ra, rb, rc, q⟩ := h
  unfold setO at q
  split at q
  · rename_i n ds e
    split at q
    · rename_i k
      split at q
      · rename_i j hj
        obtain ⟨p, vs, rfl, h1, r1, w⟩ := cell_lst m ra e
        rw [rep_int] at rb
        subst rb
        refine set_list pins s σ H _ _ v ov iv u Q I ro ri rv ⟨p, vs, k, j, rfl, rfl, h1, by rw [← r1.length]; exact hj, ?_⟩
        obtain ⟨x1, m1⟩ := w _ _ (RepL.set rc j r1)
        exact q φ _ x1 m1
      · exact q.elim
    · exact q.elim
  · split at q
    · rename_i n
      split at q
      · rename_i ks ds e
        split at q
        · rename_i k hk
          split at q
          · rename_i hz
            obtain ⟨p, hp, rfl, vs, h1, h2, h3⟩ := cell_at m ra e (by intro z; cases z)
            have ek := keyD_ok hk rb
            subst ek
            obtain rfl : ov = Value.ref p := ro
            refine d_setItem hu I (DPut.k h1 (by rw [List.length_zip, ← h2, Nat.min_self]; exact lim_lt hz)) ri rv fun s' I' => ⟨_, I', ?_⟩
            rw [put_zip ks vs k v h2]
            have x := Ext.write (o := .dK ((putKs ks k).zip (putVs ks vs k v))) m hp e
            exact q φ _ x (m.write hp e ⟨putVs ks vs k v, upd_same, put_len ks vs k v h2, (RepL.put rc h3 h2).ext x⟩)
          · exact q.elim
        · exact q.elim
      · rename_i ks ds e
        split at q
        · rename_i k hk
          split at q
          · rename_i hz
            obtain ⟨p, hp, rfl, vs, h1, h2, h3⟩ := cell_at m ra e (by intro z; cases z)
            unfold tkeyD at hk
            split at hk
            · rename_i es
              obtain ⟨b', us, rfl, hb, rb'⟩ := tup_ok rb
              have ek := keysD_ok hk rb'
              subst ek
              obtain rfl : ov = Value.ref p := ro
              refine d_setItem hu I (DPut.t h1 hb (by rw [List.length_zip, ← h2, Nat.min_self]; exact lim_lt hz)) ri rv fun s' I' => ⟨_, I', ?_⟩
              rw [put_zip ks vs k v h2]
              have x := Ext.write (o := .dT ((putKs ks k).zip (putVs ks vs k v))) m hp e
              exact q φ _ x (m.write hp e ⟨putVs ks vs k v, upd_same, put_len ks vs k v h2, (RepL.put rc h3 h2).ext x⟩)
            · cases hk
          · exact q.elim
        · exact q.elim
      · exact q.elim
    · exact q.elim
end

/-! ### isinstance -/
/-- the built-in types' names that are asked -/
def kinds : List String := ["NoneType", "bool", "int", "str", "list", "tuple", "dict"]
def asked : List String := ["bool", "int", "str", "list", "tuple", "dict"]
def kitS (a b : String) : Bool := a == b || (a == "bool" && b == "int")
theorem kitS_ok : ∀ a ∈ kinds, ∀ b ∈ asked, kitB a b = some (kitS a b) := by decide +kernel
/-- a datum's type: a built-in's name, or an own class -/
def tagD (μ : Mu) : D → Option (String ⊕ Nat)
  | .non => some (.inl "NoneType")
  | .bl _ => some (.inl "bool")
  | .int _ => some (.inl "int")
  | .str _ => some (.inl "str")
  | .tup _ => some (.inl "tuple")
  | .lst _ => some (.inl "list")
  | .dK _ _ => some (.inl "dict")
  | .dT _ _ => some (.inl "dict")
  | .obj C _ _ => some (.inr C)
  | .cell n => match μ[n]? with
    | some (.lst _) => some (.inl "list")
    | some (.dK _ _) => some (.inl "dict")
    | some (.dT _ _) => some (.inl "dict")
    | some (.obj C _ _) => some (.inr C)
    | _ => none
  | _ => none
/-- what the top tells of the own classes: n of them may be asked -/
structure Kit (g : Gh) (n : Nat) : Prop where
  ty : ∀ i, i < n → ∀ H a dx fs, H a = some (.ins (g.ca i) dx fs) → TyX g.K H (.ref a) (.ref (g.ca i))
  ob : ∀ i, i < n → ∀ b ∈ asked, PySem.W.kitOne g.K (.ref (g.ca i)) (.type b) = some false
  bo : ∀ i, i < n → ∀ a ∈ kinds, PySem.W.kitOne g.K (.type a) (.ref (g.ca i)) = some false
  oo : ∀ i j, i < n → j < n → PySem.W.kitOne g.K (.ref (g.ca i)) (.ref (g.ca j)) = some (decide (i = j))
def isi1 (n : Nat) (t : String ⊕ Nat) (c : D) : Option Bool := match t, c with
  | .inl a, .ty b => if a ∈ kinds ∧ b ∈ asked then some (kitS a b) else none
  | .inl a, .cls j => if a ∈ kinds ∧ j < n then some false else none
  | .inr i, .ty b => if i < n ∧ b ∈ asked then some false else none
  | .inr i, .cls j => if i < n ∧ j < n then some (decide (i = j)) else none
  | _, _ => none
def isiL (n : Nat) (t : String ⊕ Nat) : List D → Option Bool
  | [] => some false
  | c :: cs => match isi1 n t c with
    | some true => if (isiL n t cs).isSome then some true else none
    | some false => isiL n t cs
    | none => none
def isiO (n : Nat) : List D → O D := fun as μ => match as with
  | [x, .tup (c :: cs)] => match tagD μ x with
    | some t => match isiL n t (c :: cs) with
      | some b => some (.bl b, μ)
      | none => none
    | none => none
  | [x, c] => match tagD μ x with
    | some t => match isi1 n t c with
      | some b => some (.bl b, μ)
      | none => none
    | none => none
  | _ => none
def tagV (g : Gh) : String ⊕ Nat → Value
  | .inl a => .type a
  | .inr i => .ref (g.ca i)
section
variable {g : Gh} {φ : Ph} {H : Hp} {μ : Mu}
theorem isi1_ok {n : Nat} (k : Kit g n) {t : String ⊕ Nat} {c : D} {b : Bool} {y : V} (h : isi1 n t c = some b) (r : Rep g φ H c y) : ∃ u, ClsV y u ∧ PySem.W.kitOne g.K (tagV g t) u = some b := by
  unfold isi1 at h
  split at h
  · split at h
    · rename_i hh
      cases h
      rw [rep_ty] at r; subst r
      exact ⟨_, .ty _, kit_ty (kitS_ok _ hh.1 _ hh.2)⟩
    · cases h
  · split at h
    · rename_i hh
      cases h
      rw [rep_cls] at r; subst r
      exact ⟨_, .own _, k.bo _ hh.2 _ hh.1⟩
    · cases h
  · split at h
    · rename_i hh
      cases h
      rw [rep_ty] at r; subst r
      exact ⟨_, .ty _, k.ob _ hh.1 _ hh.2⟩
    · cases h
  · split at h
    · rename_i hh
      cases h
      rw [rep_cls] at r; subst r
      exact ⟨_, .own _, k.oo _ _ hh.1 hh.2⟩
    · cases h
  · cases h
theorem isiL_ok {n : Nat} (k : Kit g n) {t : String ⊕ Nat} : ∀ {cs : List D} {b : Bool} {ys : List V}, isiL n t cs = some b → RepL g φ H cs ys → ∃ us, Paired ClsV ys us ∧ PySem.W.kitAny g.K (tagV g t) us = some b
  | [], b, ys, h, r => by
    simp [isiL] at h
    subst h
    rw [r.nil_inv]
    exact ⟨[], .nil, kitAny_nil⟩
  | c :: cs, b, ys, h, r => by
    obtain ⟨y, ys', rfl, r1, r2⟩ := r.cons_inv
    rw [isiL] at h
    split at h
    · rename_i e
      split at h
      · rename_i hs
        cases h
        obtain ⟨u, k1, k2⟩ := isi1_ok k e r1
        obtain ⟨b', hb'⟩ := Option.isSome_iff_exists.mp hs
        obtain ⟨us, p, _⟩ := isiL_ok k hb' r2
        exact ⟨u :: us, .cons k1 p, kitAny_cons k2 (fun z => by cases z) fun _ => rfl⟩
      · cases h
    · rename_i e
      obtain ⟨u, k1, k2⟩ := isi1_ok k e r1
      obtain ⟨us, p, k3⟩ := isiL_ok k h r2
      exact ⟨u :: us, .cons k1 p, kitAny_cons k2 (fun _ => k3) fun z => by cases z⟩
    · cases h
theorem tag_ok {n : Nat} (k : Kit g n) (m : RepMu g φ H μ) {d : D} {x : V} {t : String ⊕ Nat} (r : Rep g φ H d x) (h : tagD μ d = some t) (hn : ∀ i, t = .inr i → i < n) : TyX g.K H x (tagV g t) := by
  cases d with
  | non => cases h; rw [rep_non] at r; subst r; exact .base .non
  | bl b => cases h; rw [rep_bl] at r; subst r; exact .base (.bl b)
  | int i => cases h; rw [rep_int] at r; subst r; exact .base (.int i)
  | str z => cases h; rw [rep_str] at r; subst r; exact .base (.str z)
  | tup ds => cases h; obtain ⟨p, vs, rfl, h1, _⟩ := tup_ok r; exact .base (.tup h1)
  | lst ds => cases h; unfold Rep at r; obtain ⟨p, vs, rfl, _, h1, _⟩ := r; exact .base (.lst h1)
  | dK ks ds => cases h; unfold Rep at r; obtain ⟨p, vs, rfl, _, h1, _⟩ := r; exact .base (.dK h1)
  | dT ks ds => cases h; unfold Rep at r; obtain ⟨p, vs, rfl, _, h1, _⟩ := r; exact .base (.dT h1)
  | obj C ns ds => cases h; unfold Rep at r; obtain ⟨p, dx, vs, rfl, _, h1, _⟩ := r; exact k.ty _ (hn _ rfl) _ _ _ _ h1
  | cell c =>
    simp only [tagD] at h
    split at h <;> cases h
    · rename_i e
      obtain ⟨a, _, rfl, vs, h1, _⟩ := cell_at m r e (by intro z; cases z)
      exact .base (.lst h1)
    · rename_i e
      obtain ⟨a, _, rfl, vs, h1, _⟩ := cell_at m r e (by intro z; cases z)
      exact .base (.dK h1)
    · rename_i e
      obtain ⟨a, _, rfl, vs, h1, _⟩ := cell_at m r e (by intro z; cases z)
      exact .base (.dT h1)
    · rename_i e
      obtain ⟨a, _, rfl, dx, vs, h1, _⟩ := cell_at m r e (by intro z; cases z)
      exact k.ty _ (hn _ rfl) _ _ _ _ h1
  | _ => cases h
theorem isi1_lt {n : Nat} {t : String ⊕ Nat} {c : D} {b : Bool} (h : isi1 n t c = some b) : ∀ i, t = .inr i → i < n := fun i e => by
  subst e
  unfold isi1 at h
  split at h
  · rename_i e1; cases e1
  · rename_i e1; cases e1
  · rename_i e1
    cases e1
    split at h
    · rename_i hh; exact hh.1
    · cases h
  · rename_i e1
    cases e1
    split at h
    · rename_i hh; exact hh.1
    · cases h
  · cases h
end
section
variable {X : Cx} {ca : Nat → Addr}
theorem isi_ok {n : Nat} (k : Kit (Gx X ca) n) : CallR X (.builtin "isinstance") (rOL (Gx X ca) (isiO n)) := by
  intro pins s σ H xs us Q I rv h
  obtain ⟨φ, μ, as, m, ra, q⟩ := h
  unfold isiO at q
  split at q
  · rename_i x c cs
    split at q
    · rename_i t et
      split at q
      · rename_i b eb
        obtain ⟨y, z, rfl, r1, r2⟩ := repL_two ra
        obtain ⟨p, ys, rfl, h1, r3⟩ := tup_ok r2
        obtain ⟨us', p1, p2⟩ := isiL_ok k eb r3
        have hn : ∀ i, t = .inr i → i < n := by
          rw [isiL] at eb
          split at eb
          · rename_i e; exact isi1_lt e
          · rename_i e; exact isi1_lt e
          · cases eb
        exact call_isiT pins s σ H _ us Q I rv ⟨y, p, ys, tagV _ t, us', b, rfl, h1, p1, tag_ok k m r1 et hn, p2, q.here m (rep_bl.mpr rfl)⟩
      · exact q.elim
    · exact q.elim
  · rename_i x c _
    split at q
    · rename_i t et
      split at q
      · rename_i b eb
        obtain ⟨y, z, rfl, r1, r2⟩ := repL_two ra
        obtain ⟨u, p1, p2⟩ := isi1_ok k eb r2
        exact call_isi pins s σ H _ us Q I rv ⟨y, z, tagV _ t, u, b, rfl, p1, tag_ok k m r1 et (isi1_lt eb), p2, q.here m (rep_bl.mpr rfl)⟩
      · exact q.elim
    · exact q.elim
  · exact q.elim
end
end Iv
end
section
set_option Elab.async false
set_option linter.all false
set_option maxRecDepth 100000
set_option maxHeartbeats 4000000
/-! IvExpr: the rules for expressions, a run for each construct. -/
namespace Iv
open PySem PySem.Spec L2

/-! ### forms -/
def notStar : Expr → Bool
  | .Starred _ _ => false
  | _ => true
def notStars (es : List Expr) : Bool := es.all notStar
theorem star_cons {e : Expr} {es : List Expr} {env : Env} (h : notStar e = true) : starEach (e :: es) env = (false, eval e env) :: starEach es env := by
  cases e <;> first | rfl | cases h
theorem star_any {env : Env} {pos : Pos} : ∀ {es : List Expr}, notStars es = true → (backTo pos (starEach es env)).any (·.1) = false
  | [], _ => rfl
  | e :: es, h => by
    unfold notStars at h
    rw [List.all_cons, Bool.and_eq_true] at h
    rw [star_cons h.1]
    show (false || (backTo pos (starEach es env)).any (·.1)) = false
    rw [star_any (es := es) h.2]
    rfl
theorem star_all {env : Env} {pos : Pos} : ∀ {es : List Expr}, notStars es = true → (backTo pos (starEach es env)).all (fun x => !x.1) = true
  | [], _ => rfl
  | e :: es, h => by
    unfold notStars at h
    rw [List.all_cons, Bool.and_eq_true] at h
    rw [star_cons h.1]
    show (true && (backTo pos (starEach es env)).all (fun x => !x.1)) = true
    rw [star_all (es := es) h.2]
    rfl
theorem star_len {env : Env} : ∀ {es : List Expr}, (starEach es env).length = es.length
  | [] => rfl
  | e :: es => by
    cases e <;> (show (starEach es env).length + 1 = es.length + 1; rw [star_len (es := es)])
/-- no slice -/
def notSlice : Expr → Bool
  | .Slice _ _ _ _ => false
  | _ => true
theorem plain_ix {b : Expr} (h : notSlice b = true) : PlainIx b := by
  intro o i
  cases b <;> first | rfl | cases h
/-- an expression whose test is its value's truth -/
def byTruth : Expr → Bool
  | .UnaryOp .Not _ _ => false
  | .BoolOp _ _ _ => false
  | .IfExp _ _ _ _ => false
  | .Compare _ _ _ _ => false
  | _ => true
theorem truth_form {e : Expr} {env : Env} (h : byTruth e = true) : ∀ whole, isTrue e env whole = (do let v ← whole; standAt e.pos; holding [v] (truthy v)) := by
  intro whole
  cases e with
  | UnaryOp op a pos => cases op <;> first | rfl | cases h
  | BoolOp _ _ _ => cases h
  | IfExp _ _ _ _ => cases h
  | Compare _ _ _ _ => cases h
  | _ => rfl
/-- no call without arguments of a name -/
def plainBase : Expr → Bool
  | .Call (.Name _ _) [] [] _ => false
  | _ => true
theorem base_form {e : Expr} {f : Str} {env : Env} (h : plainBase e = true) : attributeBase e f env (eval e env) = eval e env := by
  unfold attributeBase
  split
  · exact nomatch h
  · rfl
def notSet : Expr → Bool
  | .Set _ _ _ => false
  | _ => true
theorem mark_form {op : CmpOp} {b : Expr} (h : notSet b = true) : behindInMarks op b = false := by
  cases b <;> first | rfl | cases h
theorem folded_form {e : Expr} {env : Env} (h : notSet e = true) : ∀ x, foldedSetIterable e env x = pure x := by
  intro x
  cases e <;> first | rfl | cases h
def notComp : Expr → Bool
  | .ListComp _ _ _ _ => false
  | .SetComp _ _ _ _ => false
  | .DictComp _ _ _ _ _ => false
  | _ => true
theorem swaps_form {e : Expr} {t : Option Expr} {l : Nat} {env : Env} (h : notComp e = true) : swapsWith e t l env = pure false := by
  cases e <;> first | rfl | cases h

/-! ### the rules -/
structure Here (X : Cx) (W : WX) (k : Nat) : Prop where
  nd : X.N.Nodup
  calm : X.calm = true
  room : Room k X.A
  tk : Takes X W
theorem Here.u64 {X : Cx} {W : WX} {k : Nat} (h : Here X W k) : X.A.units + 64 < cLine := h.room.units
theorem Here.u65 {X : Cx} {W : WX} {k : Nat} (h : Here X W k) : X.A.units + 65 < cLine := by have := h.room.un; omega
theorem Here.u1 {X : Cx} {W : WX} {k : Nat} (h : Here X W k) : X.A.units + 1 < cLine := by have := h.room.un; omega

def mVar (i : Nat) (δ : Sg) : M D := fun μ => match δ[i]? with
  | some (some d) => some (.ok d, μ)
  | _ => none
section
variable {X : Cx} {ca : Nat → Addr} {W : WX}
abbrev DEx (X : Cx) (ca : Nat → Addr) (W : WX) (e : Expr) (m : Sg → M D) : Prop := DE (Gx X ca) X W e m
abbrev DTx (X : Cx) (ca : Nat → Addr) (W : WX) (e : Expr) (m : Sg → M Bool) : Prop := DT (Gx X ca) X W e m
abbrev DAx (X : Cx) (ca : Nat → Addr) (W : WX) (es : List Expr) (m : Sg → M (List D)) : Prop := DA (Gx X ca) X W es m
theorem endG_ok {α β : Type} {g : Gh} {rel : Rl α β} {σ : St} {φ : Ph} {H : Hp} {Q : β → Hp → Prop} {a : α} {μ : Mu} {b : β} (h : EndG g rel W σ φ H Q ((pure a : M α) μ)) (m : RepMu g φ H μ) (r : rel φ H a b) : Q b H :=
  EndG.here (W := W) (σ := σ) (φ := φ) (μ := μ) (a := a) h m r

theorem de_var {i : Nat} {x : Str} {pos : Pos} (hN : X.N[i]? = some x) (hv : Vis X.env.scope x) (hd : (x == ("__debug__" : Str)) = false) (hcd : (x == ("__classdict__" : Str)) = false) : DEx X ca W (.Name x pos) (mVar i) := by
  refine PE.imp (pe_var hN hv hd hcd) fun σ H Q ⟨φ, μ, δ, a, q⟩ => ?_
  unfold mVar at q
  split at q
  · rename_i d e
    obtain ⟨v, h1, h2⟩ := a.s.2 i d e
    exact ⟨v, h1, EndG.here (W := W) (σ := σ) q a.m h2⟩
  · exact q.elim
theorem de_int {i : Int} {j : Nat} {pos : Pos} : DEx X ca W (.Constant (.int i) j pos) (fun _ => pure (.int i)) :=
  PE.imp pe_int fun σ H Q ⟨φ, μ, δ, a, q⟩ => endG_ok (W := W) (σ := σ) q a.m (rep_int.mpr rfl)
theorem de_bl {b : Bool} {j : Nat} {pos : Pos} : DEx X ca W (.Constant (.bool b) j pos) (fun _ => pure (.bl b)) :=
  PE.imp pe_bl fun σ H Q ⟨φ, μ, δ, a, q⟩ => endG_ok (W := W) (σ := σ) q a.m (rep_bl.mpr rfl)
theorem de_non {j : Nat} {pos : Pos} : DEx X ca W (.Constant .none j pos) (fun _ => pure .non) :=
  PE.imp pe_non fun σ H Q ⟨φ, μ, δ, a, q⟩ => endG_ok (W := W) (σ := σ) q a.m (rep_non.mpr rfl)
theorem de_str {x : Str} {j : Nat} {pos : Pos} : DEx X ca W (.Constant (.str x) j pos) (fun _ => pure (.str x)) :=
  PE.imp pe_str fun σ H Q ⟨φ, μ, δ, a, q⟩ => endG_ok (W := W) (σ := σ) q a.m (rep_str.mpr rfl)
/-- a module's constant: a text or an int; a class -/
def cstV : D → Option (Tok → Value)
  | .int i => some fun t => .int i t
  | .str x => some fun t => .str x t
  | _ => none
theorem de_cst {x : Str} {d : D} {f : Tok → Value} {t : Tok} {pos : Pos} (hg : Gl X x) (hc : cstV d = some f) (hm : X.mg x = some (f t)) (hd : (x == ("__debug__" : Str)) = false) : DEx X ca W (.Name x pos) (fun _ => pure d) := by
  cases d with
  | int i =>
    cases hc
    exact PE.imp (pe_glob (v := .int i) hg hm ⟨t, rfl⟩ hd) fun σ H Q ⟨φ, μ, δ, a, q⟩ => endG_ok (W := W) (σ := σ) q a.m (rep_int.mpr rfl)
  | str y =>
    cases hc
    exact PE.imp (pe_glob (v := .str y) hg hm ⟨t, rfl⟩ hd) fun σ H Q ⟨φ, μ, δ, a, q⟩ => endG_ok (W := W) (σ := σ) q a.m (rep_str.mpr rfl)
  | _ => cases hc
theorem de_cls {x : Str} {i : Nat} {pos : Pos} (hg : Gl X x) (hm : X.mg x = some (.ref (ca i))) (hd : (x == ("__debug__" : Str)) = false) : DEx X ca W (.Name x pos) (fun _ => pure (.cls i)) :=
  PE.imp (pe_glob (v := .ref (ca i)) hg hm rfl hd) fun σ H Q ⟨φ, μ, δ, a, q⟩ => endG_ok (W := W) (σ := σ) q a.m (rep_cls.mpr rfl)
theorem de_ty {x : Str} {n : String} {pos : Pos} (hg : Gl X x) (hm : X.mg x = none) (hv : bootBuiltins x = some (.type n)) (hn : x ≠ "__name__") (hd : (x == ("__debug__" : Str)) = false) : DEx X ca W (.Name x pos) (fun _ => pure (.ty n)) :=
  PE.imp (pe_bltn (v := .ty n) hg hm hv rfl hn hd) fun σ H Q ⟨φ, μ, δ, a, q⟩ => endG_ok (W := W) (σ := σ) q a.m (rep_ty.mpr rfl)

/-! two operands -/
def mOp2 (f : D → D → O D) (ma mb : Sg → M D) (δ : Sg) : M D := do
  let x ← ma δ
  let y ← mb δ
  M.op (f x y)
theorem t_op2 {f : D → D → O D} {ma mb : Sg → M D} {σ : St} {H : Hp} {Q : VK} {g : Gh} (h : tG g (rD g) W (mOp2 f ma mb) σ H Q) : tOp (rO2 g f) (tG g (rD g) W ma) (tG g (rD g) W mb) σ H Q := by
  obtain ⟨φ, μ, δ, a, q⟩ := h
  refine tG_bind (k := fun δ x => do
    let y ← mb δ
    M.op (f x y)) a q fun φ1 H1 μ1 x b e1 a1 r1 q1 => ?_
  refine tG_bind (k := fun δ y => M.op (f x y)) a1 q1 fun φ2 H2 μ2 y c e2 a2 r2 q2 => ?_
  exact ⟨φ2, μ2, x, y, a2.m, r1.ext e2, r2, EndO.of q2⟩
theorem de_bin {op : Operator} {f : D → D → O D} {a b : Expr} {ma mb : Sg → M D} {pos : Pos} (ho : OpR X (binaryOp op) (rO2 (Gx X ca) f)) (ha : DEx X ca W a ma) (hb : DEx X ca W b mb) : DEx X ca W (.BinOp a op b pos) (mOp2 f ma mb) :=
  PE.imp (pe_op ho ha hb) fun _ _ _ h => t_op2 h
theorem de_cmp {op : CmpOp} {f : D → D → O D} {a b : Expr} {ma mb : Sg → M D} {pos : Pos} (ho : OpR X (compareOp op) (rO2 (Gx X ca) f)) (ha : DEx X ca W a ma) (hb : DEx X ca W b mb) (hm : notSet b = true) : DEx X ca W (.Compare a [op] [b] pos) (mOp2 f ma mb) :=
  PE.imp (pe_cmpR ho ha hb (mark_form hm)) fun _ _ _ h => t_op2 h
theorem de_ix {f : D → D → O D} {a b : Expr} {ma mb : Sg → M D} {pos : Pos} (ho : IxR X (rO2 (Gx X ca) f)) (ha : DEx X ca W a ma) (hb : DEx X ca W b mb) (hs : notSlice b = true) : DEx X ca W (.Subscript a b pos) (mOp2 f ma mb) :=
  PE.imp (pe_ix ho ha hb (plain_ix hs)) fun _ _ _ h => t_op2 h
def mOp1 (f : D → O D) (ma : Sg → M D) (δ : Sg) : M D := do
  let x ← ma δ
  M.op (f x)
theorem de_un {op : UnaryOp} {f : D → O D} {a : Expr} {ma : Sg → M D} {pos : Pos} (ho : UnR X (unaryOp op) (rO1 (Gx X ca) f)) (ha : DEx X ca W a ma) : DEx X ca W (.UnaryOp op a pos) (mOp1 f ma) := by
  refine PE.imp (pe_un ho ha) fun σ H Q ⟨φ, μ, δ, a, q⟩ => ?_
  refine tG_bind (k := fun δ x => M.op (f x)) a q fun φ1 H1 μ1 x b e1 a1 r1 q1 => ?_
  exact ⟨φ1, μ1, x, a1.m, r1, EndO.of q1⟩

/-! truth -/
def asB : D → M Bool
  | .bl b => pure b
  | _ => M.fail
def mTest (m : Sg → M D) (δ : Sg) : M Bool := do
  let x ← m δ
  asB x
theorem t_test {m : Sg → M D} {σ : St} {H : Hp} {Q : Bool → Hp → Prop} {g : Gh} (h : tG g rB W (mTest m) σ H Q) : tTest (tG g (rD g) W m) σ H Q := by
  obtain ⟨φ, μ, δ, a, q⟩ := h
  refine tG_bind (k := fun δ x => asB x) a q fun φ1 H1 μ1 x b e1 a1 r1 q1 => ?_
  cases x with
  | bl c => have r1 := rep_bl.mp r1; subst r1; exact ⟨c, rfl, endG_ok (W := W) (σ := σ) q1 a1.m rfl⟩
  | _ => exact q1.elim
theorem dt_cmp {op : CmpOp} {f : D → D → O D} {a b : Expr} {ma mb : Sg → M D} {pos : Pos} (ho : OpR X (compareOp op) (rO2 (Gx X ca) f)) (ha : DEx X ca W a ma) (hb : DEx X ca W b mb) (hm : notSet b = true) : DTx X ca W (.Compare a [op] [b] pos) (mTest (mOp2 f ma mb)) :=
  PT.imp (pt_cmpR ho ha hb (mark_form hm)) fun σ H Q h => by
    obtain ⟨φ, μ, δ, a, q⟩ := h
    have q' : EndG (Gx X ca) rB W σ φ H Q (((do
      let x ← ma δ
      let y ← mb δ
      let z ← M.op (f x y)
      asB z) : M Bool) μ) := by
      refine Eq.mp ?_ q
      congr 1
      show M.bind (M.bind (ma δ) _) _ μ = M.bind (ma δ) _ μ
      unfold M.bind
      cases ma δ μ with
      | none => rfl
      | some p =>
        obtain ⟨r, μ1⟩ := p
        cases r with
        | err i ns vs => rfl
        | ok x =>
          show M.bind (M.bind (mb δ) _) _ μ1 = M.bind (mb δ) _ μ1
          unfold M.bind
          cases mb δ μ1 with
          | none => rfl
          | some p =>
            obtain ⟨r, μ2⟩ := p
            cases r <;> rfl
    refine tG_bind (k := fun δ x => do
      let y ← mb δ
      let z ← M.op (f x y)
      asB z) a q' fun φ1 H1 μ1 x b e1 a1 r1 q1 => ?_
    refine tG_bind (k := fun δ y => do
      let z ← M.op (f x y)
      asB z) a1 q1 fun φ2 H2 μ2 y c e2 a2 r2 q2 => ?_
    refine ⟨φ2, μ2, x, y, a2.m, r1.ext e2, r2, ?_⟩
    have q3 : EndG (Gx X ca) rB W σ φ2 H2 Q (M.bind (M.op (f x y)) (fun z => asB z) μ2) := q2
    unfold M.bind M.op at q3
    cases e : f x y μ2 with
    | none => rw [e] at q3; exact q3
    | some p =>
      obtain ⟨z, μ3⟩ := p
      rw [e] at q3
      intro φ3 H3 v e3 m3 r3
      cases z with
      | bl c => have r3 := rep_bl.mp r3; subst r3; exact ⟨c, rfl, q3 φ3 H3 c e3 m3 rfl⟩
      | _ => exact q3.elim
def mTru (m : Sg → M D) (δ : Sg) : M Bool := do
  let x ← m δ
  fun μ => match truO x μ with
    | some b => some (.ok b, μ)
    | none => none
theorem dt_truth {e : Expr} {m : Sg → M D} (he : DEx X ca W e m) (hf : byTruth e = true) : DTx X ca W e (mTru m) := by
  refine PT.imp (pt_truth he (truth_form hf)) fun σ H Q ⟨φ, μ, δ, a, q⟩ => ?_
  refine tG_bind (k := fun δ x => fun μ => match truO x μ with
    | some b => some (.ok b, μ)
    | none => none) a q fun φ1 H1 μ1 x b e1 a1 r1 q1 => ?_
  cases e : truO x μ1 with
  | none => simp only [e] at q1; exact q1.elim
  | some k =>
    simp only [e] at q1
    exact ⟨k, tru_of a1.m r1 e, EndG.here (W := W) (σ := σ) q1 a1.m rfl⟩
def mNot (m : Sg → M Bool) (δ : Sg) : M Bool := do
  let b ← m δ
  pure !b
theorem dt_not {e : Expr} {m : Sg → M Bool} {pos : Pos} (h : DTx X ca W e m) : DTx X ca W (.UnaryOp .Not e pos) (mNot m) := by
  refine PT.imp (pt_not h) fun σ H Q ⟨φ, μ, δ, a, q⟩ => ?_
  refine tG_bind (k := fun δ x => pure !x) a q fun φ1 H1 μ1 x b e1 a1 r1 q1 => ?_
  cases r1
  exact endG_ok (W := W) (σ := σ) q1 a1.m rfl
def mAnd (m n : Sg → M Bool) (δ : Sg) : M Bool := do
  let b ← m δ
  if b then n δ else pure false
def mOr (m n : Sg → M Bool) (δ : Sg) : M Bool := do
  let b ← m δ
  if b then pure true else n δ
abbrev DWx (X : Cx) (ca : Nat → Addr) (W : WX) (e : Expr) (m : Sg → M Bool) : Prop := PW X e (tG (Gx X ca) rB W m)
theorem dw_and1 {a : Expr} {m : Sg → M Bool} {pos : Pos} (h : DTx X ca W a m) : DWx X ca W (.BoolOp .And [a] pos) m := pw_and1 h
theorem dw_or1 {a : Expr} {m : Sg → M Bool} {pos : Pos} (h : DTx X ca W a m) : DWx X ca W (.BoolOp .Or [a] pos) m := pw_or1 h
theorem dw_and {a b : Expr} {rest : List Expr} {m n : Sg → M Bool} {pos : Pos} (h : DTx X ca W a m) (k : DWx X ca W (.BoolOp .And (b :: rest) pos) n) : DWx X ca W (.BoolOp .And (a :: b :: rest) pos) (mAnd m n) := by
  refine PW.imp (pw_and h k) fun σ H Q ⟨φ, μ, δ, a, q⟩ => ?_
  refine tG_bind (k := fun δ x => if x then n δ else pure false) a q fun φ1 H1 μ1 x b e1 a1 r1 q1 => ?_
  cases r1
  cases x with
  | true => exact ⟨φ1, μ1, δ, a1, q1⟩
  | false => exact endG_ok (W := W) (σ := σ) q1 a1.m rfl
theorem dw_or {a b : Expr} {rest : List Expr} {m n : Sg → M Bool} {pos : Pos} (h : DTx X ca W a m) (k : DWx X ca W (.BoolOp .Or (b :: rest) pos) n) : DWx X ca W (.BoolOp .Or (a :: b :: rest) pos) (mOr m n) := by
  refine PW.imp (pw_or h k) fun σ H Q ⟨φ, μ, δ, a, q⟩ => ?_
  refine tG_bind (k := fun δ x => if x then pure true else n δ) a q fun φ1 H1 μ1 x b e1 a1 r1 q1 => ?_
  cases r1
  cases x with
  | true => exact endG_ok (W := W) (σ := σ) q1 a1.m rfl
  | false => exact ⟨φ1, μ1, δ, a1, q1⟩
theorem dw_pt {e : Expr} {m : Sg → M Bool} (h : DWx X ca W e m) : DTx X ca W e m := PW.pt h
/-- .. as values -/
def mAndV (m n : Sg → M D) (δ : Sg) : M D := do
  let x ← m δ
  let b ← asB x
  if b then n δ else pure (.bl false)
def mOrV (m n : Sg → M D) (δ : Sg) : M D := do
  let x ← m δ
  let b ← asB x
  if b then pure (.bl true) else n δ
theorem de_and1 {op : BoolOp} {a : Expr} {m : Sg → M D} {pos : Pos} (h : DEx X ca W a m) : DEx X ca W (.BoolOp op [a] pos) m := pe_one h
theorem de_and {a b : Expr} {rest : List Expr} {m n : Sg → M D} {pos : Pos} (h : DEx X ca W a m) (k : DEx X ca W (.BoolOp .And (b :: rest) pos) n) : DEx X ca W (.BoolOp .And (a :: b :: rest) pos) (mAndV m n) := by
  refine PE.imp (pe_and h k) fun σ H Q ⟨φ, μ, δ, a, q⟩ => ?_
  refine tG_bind (k := fun δ x => do
    let b ← asB x
    if b then n δ else pure (.bl false)) a q fun φ1 H1 μ1 x b e1 a1 r1 q1 => ?_
  cases x with
  | bl c =>
    have r1 := rep_bl.mp r1; subst r1
    refine ⟨c, rfl, ?_⟩
    cases c with
    | true => exact ⟨φ1, μ1, δ, a1, q1⟩
    | false => exact endG_ok (W := W) (σ := σ) (a := D.bl false) q1 a1.m (rep_bl.mpr rfl)
  | _ => exact q1.elim
theorem de_or {a b : Expr} {rest : List Expr} {m n : Sg → M D} {pos : Pos} (h : DEx X ca W a m) (k : DEx X ca W (.BoolOp .Or (b :: rest) pos) n) : DEx X ca W (.BoolOp .Or (a :: b :: rest) pos) (mOrV m n) := by
  refine PE.imp (pe_or h k) fun σ H Q ⟨φ, μ, δ, a, q⟩ => ?_
  refine tG_bind (k := fun δ x => do
    let b ← asB x
    if b then pure (.bl true) else n δ) a q fun φ1 H1 μ1 x b e1 a1 r1 q1 => ?_
  cases x with
  | bl c =>
    have r1 := rep_bl.mp r1; subst r1
    refine ⟨c, rfl, ?_⟩
    cases c with
    | true => exact endG_ok (W := W) (σ := σ) (a := D.bl true) q1 a1.m (rep_bl.mpr rfl)
    | false => exact ⟨φ1, μ1, δ, a1, q1⟩
  | _ => exact q1.elim
def mNotV (m : Sg → M D) (δ : Sg) : M D := do
  let x ← m δ
  let b ← asB x
  pure (.bl !b)
theorem de_not {a : Expr} {m : Sg → M D} {pos : Pos} (h : DEx X ca W a m) : DEx X ca W (.UnaryOp .Not a pos) (mNotV m) := by
  refine PE.imp (pe_not h) fun σ H Q ⟨φ, μ, δ, a, q⟩ => ?_
  refine tG_bind (k := fun δ x => do
    let b ← asB x
    pure (D.bl !b)) a q fun φ1 H1 μ1 x b e1 a1 r1 q1 => ?_
  cases x with
  | bl c =>
    have r1 := rep_bl.mp r1; subst r1
    exact ⟨c, rfl, endG_ok (W := W) (σ := σ) (a := D.bl !c) q1 a1.m (rep_bl.mpr rfl)⟩
  | _ => exact q1.elim
def mIf {α : Type} (t : Sg → M Bool) (m n : Sg → M α) (δ : Sg) : M α := do
  let b ← t δ
  if b then m δ else n δ
theorem de_if {c a b : Expr} {t : Sg → M Bool} {m n : Sg → M D} {pos : Pos} (hc : DTx X ca W c t) (ha : DEx X ca W a m) (hb : DEx X ca W b n) : DEx X ca W (.IfExp c a b pos) (mIf t m n) := by
  refine PE.imp (pe_ifExp hc ha hb) fun σ H Q ⟨φ, μ, δ, a, q⟩ => ?_
  refine tG_bind (k := fun δ x => if x then m δ else n δ) a q fun φ1 H1 μ1 x b e1 a1 r1 q1 => ?_
  cases r1
  cases x with
  | true => exact ⟨φ1, μ1, δ, a1, q1⟩
  | false => exact ⟨φ1, μ1, δ, a1, q1⟩
/-- a < b < c -/
def mChain (f f' : D → D → O D) (ma mb mc : Sg → M D) (δ : Sg) : M D := do
  let x ← ma δ
  let y ← mb δ
  let z ← M.op (f x y)
  let b ← asB z
  if b then do
    let w ← mc δ
    M.op (f' y w)
  else pure (.bl false)
theorem t_opO {g : Gh} {φ : Ph} {H : Hp} {μ : Mu} {o : O D} {rel : Rl D V} {σ : St} {Q Q' : VK} {k : D → M D} (h : EndG g (rD g) W σ φ H Q ((M.op o >>= k) μ))
    (step : ∀ φ1 H1 μ1 d v, Ext φ H φ1 H1 → RepMu g φ1 H1 μ1 → Rep g φ1 H1 d v → EndG g (rD g) W σ φ1 H1 Q (k d μ1) → Q' v H1) : EndO g φ H Q' (o μ) := by
  have h' : EndG g (rD g) W σ φ H Q (M.bind (M.op o) k μ) := h
  unfold M.bind M.op at h'
  cases e : o μ with
  | none => rw [e] at h'; exact h'
  | some p =>
    obtain ⟨d, μ1⟩ := p
    rw [e] at h'
    exact fun φ1 H1 v x m r => step φ1 H1 μ1 d v x m r (EndG.mono x h')
theorem t_chain {g : Gh} {f f' : D → D → O D} {ma mb mc : Sg → M D} {σ : St} {H : Hp} {Q : VK} (h : tG g (rD g) W (mChain f f' ma mb mc) σ H Q) : tChain (rO2 g f) (rO2 g f') (tG g (rD g) W ma) (tG g (rD g) W mb) (tG g (rD g) W mc) σ H Q := by
  obtain ⟨φ, μ, δ, a, q⟩ := h
  refine tG_bind (k := fun δ x => do
    let y ← mb δ
    let z ← M.op (f x y)
    let b ← asB z
    if b then do
      let w ← mc δ
      M.op (f' y w)
    else pure (.bl false)) a q fun φ1 H1 μ1 x b e1 a1 r1 q1 => ?_
  refine tG_bind (k := fun δ y => do
    let z ← M.op (f x y)
    let b ← asB z
    if b then do
      let w ← mc δ
      M.op (f' y w)
    else pure (.bl false)) a1 q1 fun φ2 H2 μ2 y c e2 a2 r2 q2 => ?_
  refine ⟨φ2, μ2, x, y, a2.m, r1.ext e2, r2, t_opO (W := W) (σ := σ) (rel := rD g) q2 fun φ3 H3 μ3 z v e3 m3 r3 q3 => ?_⟩
  cases z with
  | bl k =>
    have r3 := rep_bl.mp r3; subst r3
    refine ⟨k, rfl, ?_⟩
    cases k with
    | false => exact endG_ok (W := W) (σ := σ) (a := D.bl false) q3 m3 (rep_bl.mpr rfl)
    | true =>
      refine tG_bind (k := fun δ w => M.op (f' y w)) ⟨a2.s.ext e3, m3⟩ q3 fun φ4 H4 μ4 w u e4 a4 r4 q4 => ?_
      exact ⟨φ4, μ4, y, w, a4.m, (r2.ext e3).ext e4, r4, EndO.of q4⟩
  | _ => exact q3.elim
end
end Iv
end
section
set_option Elab.async false
set_option linter.all false
set_option maxRecDepth 100000
set_option maxHeartbeats 4000000
/-! IvStmt: statements and targets, a run for each. -/
namespace Iv
open PySem PySem.Spec L2

/-- how a block ends -/
inductive Fl where
  | nx | bk | ct | rt (d : D) | xc (i : Nat) (ns : List Str) (ds : List D)
abbrev SM := Sg → Mu → Option (Fl × Sg × Mu)
def EndF (g : Gh) (W : WX) (D : Ends) (φ : Ph) (H : Hp) (σ : St) : Fl → Prop
  | .nx => D.nx σ H
  | .bk => D.bk σ H
  | .ct => D.ct σ H
  | .rt d => ∀ v, Rep g φ H d v → D.rt v H
  | .xc i ns ds => ∀ d, ErrAt g φ H ns ds d → W (.ref (g.ca i)) d σ H
def EndS (g : Gh) (W : WX) (φ : Ph) (H : Hp) (D : Ends) : Option (Fl × Sg × Mu) → Prop
  | none => False
  | some (f, δ', μ') => ∀ φ' H' σ', Ext φ H φ' H' → At g φ' H' μ' δ' σ' → EndF g W D φ' H' σ' f
theorem EndS.mono {g : Gh} {W : WX} {φ φ1 : Ph} {H H1 : Hp} {D : Ends} (e : Ext φ H φ1 H1) : ∀ {r : Option (Fl × Sg × Mu)}, EndS g W φ H D r → EndS g W φ1 H1 D r
  | none, h => h
  | some (_, _, _), h => fun φ' H' σ' e' => h φ' H' σ' (e.trans e')
theorem EndS.here {g : Gh} {W : WX} {φ : Ph} {H : Hp} {D : Ends} {f : Fl} {δ : Sg} {μ : Mu} {σ : St} (h : EndS g W φ H D (some (f, δ, μ))) (a : At g φ H μ δ σ) : EndF g W D φ H σ f := h φ H σ (Ext.refl _ _) a
def tS (g : Gh) (W : WX) (m : SM) : TS := fun D σ H => ∃ φ μ δ, At g φ H μ δ σ ∧ EndS g W φ H D (m δ μ)
/-- other ends, at each way out -/
theorem EndS.ends {g : Gh} {W : WX} {φ : Ph} {H : Hp} {D D' : Ends} {k : Fl → Sg → Mu → Option (Fl × Sg × Mu)} {r : Option (Fl × Sg × Mu)}
    (h : EndS g W φ H D (match r with | none => none | some (f, δ, μ) => k f δ μ))
    (st : ∀ f δ' μ' φ' H' σ', Ext φ H φ' H' → At g φ' H' μ' δ' σ' → EndS g W φ' H' D (k f δ' μ') → EndF g W D' φ' H' σ' f) : EndS g W φ H D' r := by
  cases r with
  | none => exact h
  | some p =>
    obtain ⟨f, δ', μ'⟩ := p
    exact fun φ' H' σ' e a => st f δ' μ' φ' H' σ' e a (EndS.mono e h)

def bindE {α : Type} (m : Sg → M α) (k : α → SM) : SM := fun δ μ => match m δ μ with
  | none => none
  | some (.ok a, μ') => k a δ μ'
  | some (.err i ns ds, μ') => some (.xc i ns ds, δ, μ')
theorem tS_bindE {α β : Type} {g : Gh} {rel : Rl α β} {W : WX} {σ : St} {φ : Ph} {H : Hp} {μ : Mu} {δ : Sg} {D : Ends} {m : Sg → M α} {k : α → SM} {Rr : β → Hp → Prop}
    (a : At g φ H μ δ σ) (h : EndS g W φ H D (bindE m k δ μ))
    (step : ∀ φ1 H1 μ1 x b, Ext φ H φ1 H1 → At g φ1 H1 μ1 δ σ → rel φ1 H1 x b → EndS g W φ1 H1 D (k x δ μ1) → Rr b H1) : tG g rel W m σ H Rr := by
  refine ⟨φ, μ, δ, a, ?_⟩
  unfold bindE at h
  cases e : m δ μ with
  | none => rw [e] at h; exact h
  | some p =>
    obtain ⟨r, μ1⟩ := p
    rw [e] at h
    cases r with
    | ok x => exact fun φ1 H1 b x1 m1 rl => step φ1 H1 μ1 x b x1 ⟨a.s.ext x1, m1⟩ rl (EndS.mono x1 h)
    | err i ns vs => exact fun φ1 H1 d x1 m1 er => h φ1 H1 σ x1 ⟨a.s.ext x1, m1⟩ d er

def sNext : SM := fun δ μ => some (.nx, δ, μ)
def sBreak : SM := fun δ μ => some (.bk, δ, μ)
def sCont : SM := fun δ μ => some (.ct, δ, μ)
def sNever : SM := fun _ _ => none
def sSeq (m n : SM) : SM := fun δ μ => match m δ μ with
  | none => none
  | some (f, δ', μ') => match f with
    | .nx => n δ' μ'
    | f => some (f, δ', μ')
def sDrop (m : Sg → M D) : SM := bindE m fun _ => sNext
def sRet (m : Sg → M D) : SM := bindE m fun d δ μ => some (.rt d, δ, μ)
def sRetN : SM := fun δ μ => some (.rt .non, δ, μ)
def sIf (t : Sg → M Bool) (m n : SM) : SM := bindE t fun b => if b then m else n

section
variable {X : Cx} {ca : Nat → Addr} {W : WX} {pos : Pos}
abbrev DSx (X : Cx) (ca : Nat → Addr) (W : WX) (st : Stmt) (m : SM) : Prop := PS X st (tS (Gx X ca) W m)
abbrev DBx (X : Cx) (ca : Nat → Addr) (W : WX) (sts : List Stmt) (m : SM) : Prop := PSs X sts (tS (Gx X ca) W m)
theorem ds_nil : DBx X ca W [] sNext := PSs.imp pss_nil fun D σ H ⟨φ, μ, δ, a, q⟩ => EndS.here (W := W) q a
theorem ds_cons {st : Stmt} {rest : List Stmt} {m n : SM} (h : DSx X ca W st m) (k : DBx X ca W rest n) : DBx X ca W (st :: rest) (sSeq m n) := by
  refine PSs.imp (pss_cons h k) fun D σ H ⟨φ, μ, δ, a, q⟩ => ⟨φ, μ, δ, a, ?_⟩
  refine EndS.ends (D' := { D with nx := tS (Gx X ca) W n D }) (k := fun f δ' μ' => match f with
    | .nx => n δ' μ'
    | f => some (f, δ', μ')) q fun f δ' μ' φ' H' σ' e a' z => ?_
  cases f with
  | nx => exact ⟨φ', μ', δ', a', z⟩
  | bk => exact EndS.here (W := W) z a'
  | ct => exact EndS.here (W := W) z a'
  | rt d => exact EndS.here (W := W) z a'
  | xc i ns ds => exact EndS.here (W := W) z a'
theorem ds_one {st : Stmt} {m : SM} (h : DSx X ca W st m) : DBx X ca W [st] m := pss_one h
theorem ds_pass : DSx X ca W (.Pass pos) sNext := PS.imp ps_pass fun D σ H ⟨φ, μ, δ, a, q⟩ => EndS.here (W := W) q a
theorem ds_break : DSx X ca W (.Break pos) sBreak := PS.imp ps_break fun D σ H ⟨φ, μ, δ, a, q⟩ => EndS.here (W := W) q a
theorem ds_cont : DSx X ca W (.Continue pos) sCont := PS.imp ps_continue fun D σ H ⟨φ, μ, δ, a, q⟩ => EndS.here (W := W) q a
theorem ds_doc {x j pos pos'} : DSx X ca W (.Expr (.Constant (.str x) j pos) pos') sNext := PS.imp ps_doc fun D σ H ⟨φ, μ, δ, a, q⟩ => EndS.here (W := W) q a
theorem ds_never {st : Stmt} : DSx X ca W st sNever := PS.imp ps_never fun D σ H ⟨φ, μ, δ, a, q⟩ => q
theorem ds_expr {e : Expr} {m : Sg → M D} (h : DEx X ca W e m) (hs : notComp e = true) : DSx X ca W (.Expr e pos) (sDrop m) := by
  refine PS.imp (ps_expr h (swaps_form hs)) fun D σ H ⟨φ, μ, δ, a, q⟩ => ?_
  exact tS_bindE (k := fun _ => sNext) a q fun φ1 H1 μ1 x b e1 a1 r1 q1 => EndS.here (W := W) q1 a1
theorem ds_ret {e : Expr} {m : Sg → M D} (h : DEx X ca W e m) : DSx X ca W (.Return (some e) pos) (sRet m) := by
  refine PS.imp (ps_ret h) fun D σ H ⟨φ, μ, δ, a, q⟩ => ?_
  exact tS_bindE (k := fun d δ μ => some (.rt d, δ, μ)) a q fun φ1 H1 μ1 x b e1 a1 r1 q1 => EndS.here (W := W) q1 a1 b r1
theorem ds_retN : DSx X ca W (.Return none pos) sRetN := PS.imp ps_retN fun D σ H ⟨φ, μ, δ, a, q⟩ => EndS.here (W := W) q a .non (rep_non.mpr rfl)
theorem ds_if {c : Expr} {p r : List Stmt} {t : Sg → M Bool} {m n : SM} (hc : DTx X ca W c t) (hp : DBx X ca W p m) (hr : DBx X ca W r n) : DSx X ca W (.If c p r pos) (sIf t m n) := by
  refine PS.imp (ps_if hc hp hr) fun D σ H ⟨φ, μ, δ, a, q⟩ => ?_
  refine tS_bindE (k := fun b => if b then m else n) a q fun φ1 H1 μ1 x b e1 a1 r1 q1 => ?_
  cases r1
  cases x with
  | true => exact ⟨φ1, μ1, δ, a1, q1⟩
  | false => exact ⟨φ1, μ1, δ, a1, q1⟩

/-! ### while -/
def sLoop (k : Option (Fl × Sg × Mu)) (again : SM) : Option (Fl × Sg × Mu) := match k with
  | none => none
  | some (f, δ', μ') => match f with
    | .nx => again δ' μ'
    | .ct => again δ' μ'
    | .bk => some (.nx, δ', μ')
    | f => some (f, δ', μ')
def sWhile (t : Sg → M Bool) (b : SM) : Nat → SM
  | 0 => sNever
  | n + 1 => bindE t fun c => if c then fun δ μ => sLoop (b δ μ) (sWhile t b n) else sNext
theorem EndS.loop {g : Gh} {W : WX} {φ : Ph} {H : Hp} {D : Ends} {r : Option (Fl × Sg × Mu)} {n : SM} {N : St → Hp → Prop} (h : EndS g W φ H D (sLoop r n)) (hn : ∀ σ' H', tS g W n D σ' H' → N σ' H') : EndS g W φ H { D with nx := N, ct := N, bk := D.nx } r := by
  refine EndS.ends (D' := { D with nx := N, ct := N, bk := D.nx }) (k := fun f δ' μ' => match f with
    | .nx => n δ' μ'
    | .ct => n δ' μ'
    | .bk => some (.nx, δ', μ')
    | f => some (f, δ', μ')) h fun f δ' μ' φ' H' σ' e a' z => ?_
  cases f with
  | nx => exact hn _ _ ⟨φ', μ', δ', a', z⟩
  | ct => exact hn _ _ ⟨φ', μ', δ', a', z⟩
  | bk => exact EndS.here (W := W) z a'
  | rt d => exact EndS.here (W := W) z a'
  | xc i ns ds => exact EndS.here (W := W) z a'
theorem ds_while {c : Expr} {body : List Stmt} {t : Sg → M Bool} {b : SM} (hp : PassesOwn (model X.prog X.w) X.A X.env X.xe) (hc : DTx X ca W c t) (hb : DBx X ca W body b) (fuel : Nat) : DSx X ca W (.While c body [] pos) (sWhile t b fuel) := by
  refine PS.imp (ps_while hp hc hb) fun D σ H h => ?_
  refine ⟨fun m σ H => tS (Gx X ca) W (sWhile t b m) D σ H, ⟨fuel, h⟩, fun m σ H ⟨φ, μ, δ, a, q⟩ => ?_⟩
  cases m with
  | zero => exact q.elim
  | succ m =>
    refine tS_bindE (k := fun c => if c then fun δ μ => sLoop (b δ μ) (sWhile t b m) else sNext) a q fun φ1 H1 μ1 x y e1 a1 r1 q1 => ?_
    cases r1
    cases x with
    | false => exact EndS.here (W := W) q1 a1
    | true => exact ⟨fun σ' H' => tS (Gx X ca) W (sWhile t b m) D σ' H', fun σ' H' h => ⟨m, Nat.lt_succ_self m, h⟩, φ1, μ1, δ, a1, EndS.loop (W := W) q1 fun _ _ h => h⟩

/-! ### targets -/
abbrev GM := D → Sg → Mu → Option (Sg × Mu)
abbrev GMs := List D → Sg → Mu → Option (Sg × Mu)
def EndT (g : Gh) (own : List Nat) (σ : St) (φ : Ph) (H : Hp) (Q : St → Hp → Prop) : Option (Sg × Mu) → Prop
  | none => False
  | some (δ', μ') => ∀ φ' H' σ', Ext φ H φ' H' → At g φ' H' μ' δ' σ' → (∀ vs : List Nat, (∀ i ∈ own, i ∈ vs) → wipe σ' vs = wipe σ vs) → Q σ' H'
def tT (g : Gh) (own : List Nat) (m : GM) : TG := fun v σ H Q => ∃ φ μ δ d, At g φ H μ δ σ ∧ Rep g φ H d v ∧ EndT g own σ φ H Q (m d δ μ)
def tTs (g : Gh) (own : List Nat) (m : GMs) : TGs := fun vs σ H Q => ∃ φ μ δ ds, At g φ H μ δ σ ∧ RepL g φ H ds vs ∧ EndT g own σ φ H Q (m ds δ μ)
abbrev DGx (X : Cx) (ca : Nat → Addr) (tg : Expr) (own : List Nat) (m : GM) : Prop := PG X tg (tT (Gx X ca) own m)
abbrev DGsx (X : Cx) (ca : Nat → Addr) (tg : List Expr) (own : List Nat) (m : GMs) : Prop := PGs X tg (tTs (Gx X ca) own m)
theorem PG.imp {tg : Expr} {t t' : TG} (h : PG X tg t) (k : ∀ v σ H Q, t' v σ H Q → t v σ H Q) : PG X tg t' := ⟨fun pins s σ H v u Q I r q => h.run pins s σ H v u Q I r (k v σ H Q q)⟩
theorem PGs.imp {tg : List Expr} {t t' : TGs} (h : PGs X tg t) (k : ∀ v σ H Q, t' v σ H Q → t v σ H Q) : PGs X tg t' := ⟨fun pins s σ H v u Q I r q => h.run pins s σ H v u Q I r (k v σ H Q q)⟩
theorem wipe_at : ∀ (vs : List Nat) (σ : St) (i : Nat), (wipe σ vs)[i]? = if i ∈ vs then (σ[i]?).map (fun _ => none) else σ[i]?
  | [], σ, i => by simp [wipe]
  | k :: vs, σ, i => by
    have ih := wipe_at vs σ
    have e : wipe σ (k :: vs) = (wipe σ vs).set k none := rfl
    rw [e, List.getElem?_set, ih i, wipe_length]
    by_cases h1 : i ∈ vs <;> by_cases h2 : k = i
    · subst h2
      by_cases h3 : k < σ.length
      · simp [h1, h3]
      · simp [h1, h3]
    · simp [h1, h2]
    · subst h2
      by_cases h3 : k < σ.length
      · simp [h1, h3]
      · simp [h1, h3]
    · simp [h1, h2, Ne.symm h2]
theorem wipe_set {σ : St} {i : Nat} {v : Option V} {vs : List Nat} (h : i ∈ vs) : wipe (σ.set i v) vs = wipe σ vs := by
  refine List.ext_getElem? fun j => ?_
  rw [wipe_at, wipe_at, List.getElem?_set]
  by_cases h1 : j ∈ vs <;> by_cases h2 : i = j
  · subst h2
    by_cases h3 : i < σ.length
    · simp [h1, h3]
    · simp [h1, h3]
  · simp [h1, h2]
  · subst h2; exact absurd h h1
  · simp [h1, h2]
def gmName (i : Nat) : GM := fun d δ μ => some (δ.set i (some d), μ)
theorem dg_name {i : Nat} {x : Str} (hN : X.N.Nodup) (hi : X.N[i]? = some x) (hx : Loc X.env.scope x) (hf : X.fn x = true ∨ X.env.scope.names.lookup x = some .local) : DGx X ca (.Name x pos) [i] (gmName i) := by
  refine PG.imp (pg_name hN hi hx hf) fun v σ H Q ⟨φ, μ, δ, d, a, r, q⟩ => ?_
  exact q φ H _ (Ext.refl _ _) ⟨a.s.set i r, a.m⟩ fun vs hv => wipe_set (hv i (by simp))
def gmNil : GMs := fun ds δ μ => match ds with
  | [] => some (δ, μ)
  | _ => none
def gmCons (m : GM) (n : GMs) : GMs := fun ds δ μ => match ds with
  | d :: r => match m d δ μ with
    | some (δ', μ') => n r δ' μ'
    | none => none
  | [] => none
theorem dgs_nil : DGsx X ca [] [] gmNil := by
  refine PGs.imp pgs_nil fun vs σ H Q ⟨φ, μ, δ, ds, a, r, q⟩ => ?_
  cases ds with
  | nil => exact ⟨r.nil_inv, q φ H σ (Ext.refl _ _) a fun _ _ => rfl⟩
  | cons d r => exact q.elim
theorem dgs_cons {e : Expr} {es : List Expr} {o o' : List Nat} {m : GM} {n : GMs} (h : DGx X ca e o m) (k : DGsx X ca es o' n)
    (hs : (assignEach (e :: es) X.env).map (·.2) = assign e X.env :: (assignEach es X.env).map (·.2)) : DGsx X ca (e :: es) (o ++ o') (gmCons m n) := by
  refine PGs.imp (pgs_cons h k hs) fun vs σ H Q ⟨φ, μ, δ, ds, a, r, q⟩ => ?_
  cases ds with
  | nil => exact q.elim
  | cons d rest =>
    obtain ⟨v, r', rfl, h1, h2⟩ := r.cons_inv
    refine ⟨v, r', rfl, φ, μ, δ, d, a, h1, ?_⟩
    unfold gmCons at q
    simp only at q
    cases e : m d δ μ with
    | none => rw [e] at q; exact q
    | some p =>
      obtain ⟨δ1, μ1⟩ := p
      rw [e] at q
      refine fun φ1 H1 σ1 e1 a1 w1 => ⟨φ1, μ1, δ1, rest, a1, h2.ext e1, ?_⟩
      simp only at q
      cases e' : n rest δ1 μ1 with
      | none => rw [e'] at q; exact q
      | some p =>
        obtain ⟨δ2, μ2⟩ := p
        rw [e'] at q
        exact fun φ2 H2 σ2 e2 a2 w2 => q φ2 H2 σ2 (e1.trans e2) a2 fun vs hv => (w2 vs fun i hi => hv i (List.mem_append_right _ hi)).trans (w1 vs fun i hi => hv i (List.mem_append_left _ hi))
def gmTup (n : Nat) (m : GMs) : GM := fun d δ μ => match d with
  | .tup ds => if ds.length = n then m ds δ μ else none
  | _ => none
theorem dg_tup {es : List Expr} {k : Nat} {o : List Nat} {m : GMs} {n : Nat} (hc : X.calm = true) (h : DGsx X ca es o m)
    (hn : (assignEach es X.env).length = n) (hst : (assignEach es X.env).findIdx? (·.1) = none) : DGx X ca (.Tuple es k pos) o (gmTup n m) := by
  refine PG.imp (pg_tup hc h hn hst) fun v σ H Q ⟨φ, μ, δ, d, a, r, q⟩ => ?_
  unfold gmTup at q
  split at q
  · rename_i ds
    split at q
    · rename_i hl
      unfold Rep at r
      obtain ⟨p, vs, rfl, h1, h2⟩ := r
      exact ⟨p, vs, rfl, SqT.of h1, by rw [← h2.length]; exact hl, φ, μ, δ, ds, a, h2, q⟩
    · exact q.elim
  · exact q.elim
/-- .. of a list -/
def gmUnl (n : Nat) (m : GMs) : GM := fun d δ μ => match lstOfS μ d with
  | some ds => if ds.length = n then m ds δ μ else none
  | none => none
theorem dg_unl {es : List Expr} {k : Nat} {o : List Nat} {m : GMs} {n : Nat} (hc : X.calm = true) (h : DGsx X ca es o m)
    (hn : (assignEach es X.env).length = n) (hst : (assignEach es X.env).findIdx? (·.1) = none) : DGx X ca (.Tuple es k pos) o (gmUnl n m) := by
  refine PG.imp (pg_unl hc h hn hst) fun v σ H Q ⟨φ, μ, δ, d, a, r, q⟩ => ?_
  unfold gmUnl at q
  split at q
  · rename_i ds e
    split at q
    · rename_i hl
      obtain ⟨p, vs, h0, h1, h2⟩ := lstOfS_ok a.m r e
      exact ⟨p, vs, h0, h1, by rw [← h2.length]; exact hl, φ, μ, δ, ds, a, h2, q⟩
    · exact q.elim
  · exact q.elim
/-- o[i] = .. -/
def gmSub (mo mi : Sg → M D) : GM := fun d δ μ => match mo δ μ with
  | some (.ok o, μ1) => match mi δ μ1 with
    | some (.ok i, μ2) => match setO o i d μ2 with
      | some μ3 => some (δ, μ3)
      | none => none
    | _ => none
  | _ => none
theorem dg_sub {o i : Expr} {mo mi : Sg → M D} {k : Nat} (hh : Here X W k) (ho : DEx X ca W o mo) (hi : DEx X ca W i mi)
    (ha : ∀ v, assign (.Subscript o i pos) X.env v = (do
      let ov ← holding [v] (eval o X.env)
      let iv ← holding [v, ov] (eval i X.env)
      standAt pos
      holding [v, ov, iv] (setItem ov iv v)
      release [v, ov, iv] [])) : DGx X ca (.Subscript o i pos) [] (gmSub mo mi) := by
  refine PG.imp (pg_sub ho hi (set_ok (ca := ca) hh.u1) ha) fun v σ H Q ⟨φ, μ, δ, d, a, r, q⟩ => ?_
  refine ⟨φ, μ, δ, a, ?_⟩
  unfold gmSub at q
  split at q
  · rename_i x μ1 e1
    rw [e1]
    intro φ1 H1 vo x1 m1 r1
    refine ⟨φ1, μ1, δ, ⟨a.s.ext x1, m1⟩, ?_⟩
    split at q
    · rename_i y μ2 e2
      rw [e2]
      intro φ2 H2 vi x2 m2 r2
      refine ⟨φ2, μ2, x, y, d, m2, r1.ext x2, r2, (r.ext x1).ext x2, ?_⟩
      cases e3 : setO x y d μ2 with
      | none => rw [e3] at q; exact q
      | some μ3 =>
        rw [e3] at q
        exact fun φ3 H3 x3 m3 => q φ3 H3 σ ((x1.trans x2).trans x3) ⟨a.s.ext ((x1.trans x2).trans x3), m3⟩ fun _ _ => rfl
    · exact q.elim
  · exact q.elim

/-! ### assignments -/
def sAsg (m : Sg → M D) (t : GM) : SM := bindE m fun d δ μ => match t d δ μ with
  | some (δ', μ') => some (.nx, δ', μ')
  | none => none
theorem ds_asg {tg e : Expr} {m : Sg → M D} {o : List Nat} {t : GM} (he : DEx X ca W e m) (hg : DGx X ca tg o t) (hs : swapsWithSole [tg] e pos.line X.env = pure false) (hw : swappedStores [tg] e X.env = pure none)
    (h1 : (assignEach [tg] X.env).map (·.2) = [assign tg X.env]) : DSx X ca W (.Assign [tg] e pos) (sAsg m t) := by
  refine PS.imp (ps_asg he hg hs hw h1) fun D σ H ⟨φ, μ, δ, a, q⟩ => ?_
  refine tS_bindE (k := fun d δ μ => match t d δ μ with
    | some (δ', μ') => some (.nx, δ', μ')
    | none => none) a q fun φ1 H1 μ1 x b e1 a1 r1 q1 => ?_
  refine ⟨φ1, μ1, δ, x, a1, r1, ?_⟩
  cases e : t x δ μ1 with
  | none => simp only [e] at q1; exact q1
  | some p =>
    obtain ⟨δ', μ'⟩ := p
    simp only [e] at q1
    exact fun φ' H' σ' x' a' _ => q1 φ' H' σ' x' a'
theorem ds_set {i : Nat} {x : Str} {e : Expr} {m : Sg → M D} {pos' : Pos} (hN : X.N.Nodup) (hi : X.N[i]? = some x) (hx : Loc X.env.scope x) (he : DEx X ca W e m) (hs : swapsWith e (some (.Name x pos')) pos.line X.env = pure false) (hf : X.fn x = true ∨ X.env.scope.names.lookup x = some .local) :
    DSx X ca W (.Assign [.Name x pos'] e pos) (sAsg m (gmName i)) := by
  refine PS.imp (ps_set hN hi hx he hs hf) fun D σ H ⟨φ, μ, δ, a, q⟩ => ?_
  refine tS_bindE (k := fun d δ μ => match gmName i d δ μ with
    | some (δ', μ') => some (.nx, δ', μ')
    | none => none) a q fun φ1 H1 μ1 x b e1 a1 r1 q1 => ?_
  exact q1 φ1 H1 _ (Ext.refl _ _) ⟨a1.s.set i r1, a1.m⟩
/-- a, b = x, y -/
def sPar (i j : Nat) (m : Sg → M (List D)) : SM := bindE m fun ds δ μ => match ds with
  | [d, e] => some (.nx, (δ.set i (some d)).set j (some e), μ)
  | _ => none
theorem ds_par {i j : Nat} {x y : Str} {e1 e2 : Expr} {m : Sg → M (List D)} {px py pt : Pos} {kt k2 pt2} (hc : X.calm = true) (hN : X.N.Nodup) (hi : X.N[i]? = some x) (hj : X.N[j]? = some y) (hij : i ≠ j)
    (hx : X.env.scope.names.lookup x = some .local) (hy : X.env.scope.names.lookup y = some .local) (ha : DAx X ca W [e1, e2] m)
    (hw : swappedStores [.Tuple [.Name x px, .Name y py] kt pt] (.Tuple [e1, e2] k2 pt2) X.env = pure (some [x, y]))
    (hs : swapsWithSole [.Tuple [.Name x px, .Name y py] kt pt] (.Tuple [e1, e2] k2 pt2) pos.line X.env = pure false) :
    DSx X ca W (.Assign [.Tuple [.Name x px, .Name y py] kt pt] (.Tuple [e1, e2] k2 pt2) pos) (sPar i j m) := by
  refine PS.imp (ps_par hc hN hi hj hij hx hy ha hw hs) fun D σ H ⟨φ, μ, δ, a, q⟩ => ?_
  refine tS_bindE (k := fun ds δ μ => match ds with
    | [d, e] => some (.nx, (δ.set i (some d)).set j (some e), μ)
    | _ => none) a q fun φ1 H1 μ1 x b e1 a1 r1 q1 => ?_
  cases x with
  | nil => exact q1.elim
  | cons d1 x =>
    cases x with
    | nil => exact q1.elim
    | cons d2 x =>
      cases x with
      | cons d3 x => exact q1.elim
      | nil =>
        obtain ⟨v1, r, rfl, h1, r⟩ := RepL.cons_inv r1
        obtain ⟨v2, r', rfl, h2, r⟩ := RepL.cons_inv r
        have := r.nil_inv
        subst this
        exact ⟨v1, v2, rfl, q1 φ1 H1 _ (Ext.refl _ _) ⟨(a1.s.set i h1).set j h2, a1.m⟩⟩
/-- x op= e -/
def sAug (i : Nat) (f : D → D → O D) (m : Sg → M D) : SM := fun δ μ => match δ[i]? with
  | some (some d) => bindE m (fun e δ μ => match f d e μ with
    | some (r, μ') => some (.nx, δ.set i (some r), μ')
    | none => none) δ μ
  | _ => none
theorem ds_aug {i : Nat} {x : Str} {e : Expr} {m : Sg → M D} {f : D → D → O D} {op : Operator} {pos' : Pos} (hN : X.N.Nodup) (hi : X.N[i]? = some x) (hx : Loc X.env.scope x) (he : DEx X ca W e m) (ho : PIp X op (rO2 (Gx X ca) f)) (hf : X.fn x = true ∨ X.env.scope.names.lookup x = some .local) :
    DSx X ca W (.AugAssign (.Name x pos') op e pos) (sAug i f m) := by
  refine PS.imp (ps_aug hN hi hx he ho hf) fun D σ H ⟨φ, μ, δ, a, q⟩ => ?_
  unfold sAug at q
  split at q
  · rename_i d e0
    obtain ⟨v, h1, h2⟩ := a.s.2 i d e0
    refine ⟨v, h1, ?_⟩
    refine tS_bindE (k := fun e δ μ => match f d e μ with
      | some (r, μ') => some (.nx, δ.set i (some r), μ')
      | none => none) a q fun φ1 H1 μ1 y b e1 a1 r1 q1 => ?_
    refine ⟨φ1, μ1, d, y, a1.m, h2.ext e1, r1, ?_⟩
    cases e2 : f d y μ1 with
    | none => simp only [e2] at q1; exact q1
    | some p =>
      obtain ⟨r, μ'⟩ := p
      simp only [e2] at q1
      exact fun φ' H' w x' m' r' => q1 φ' H' _ x' ⟨(a1.s.ext x').set i r', m'⟩
  · exact q.elim
end
end Iv
end
section
set_option Elab.async false
set_option linter.all false
set_option maxRecDepth 100000
set_option maxHeartbeats 4000000
/-! IvEnum: enumerate of a tuple. -/
namespace Iv
open PySem PySem.Spec PyProof.Rows L2

/-- the heap's records behind an enumerate over a tuple -/
abbrev itO (q : Addr) : Obj := { cls := .type "tuple_iterator", data := .fields #[.ref q, .int 0 0] }
abbrev enO (k : Addr) : Obj := { cls := .type "enumerate", data := .fields #[.none, .bool false, .ref k, rawInt 0, .none, .none] }
theorem enumT_new (q : Addr) (xs : Array Value) (m : Nat) (dd : Option Addr) (ss : Array (Option Value)) :
    Meets (Builtin.«enumerate.__new__» ⟨[.type "enumerate", .ref q], []⟩) (fun _ R u => u.heap.get? q = some { cls := .type "tuple", dict := dd, data := .seq xs m, slots := ss } ∧
      R (.ok (.ret (.ref (u.heap.push (itO q)).objs.size))) { u with heap := (u.heap.push (itO q)).push (enO u.heap.objs.size) }) := by
  refine Meets.of_wp fun pg wd Ar Rr u h => ?_
  obtain ⟨hp, gg, dp, tt, oss⟩ := u
  obtain ⟨hq, h⟩ := h
  have sub := sub_enumerate
  have T : Heap.IsTuple (Shared.heap ⟨hp, gg, dp, tt, oss⟩) q xs := ⟨_, hq, rfl, m, rfl⟩
  wp_walk using AutoSeq1.wpAny_loadPart' hq
  refine wpAny_stack_any fun stk => wpAny_pure ?_
  split
  · rename_i cc _ _ _ _ _
    cases (cc == Value.type "enumerate") <;> (wp_walk using AutoSeq1.wpAny_loadPart' hq, wpAny_pyIter_tuple T; exact ⟨_, rfl, h⟩)
  · wp_walk using AutoSeq1.wpAny_loadPart' hq, wpAny_pyIter_tuple T
    exact ⟨_, rfl, h⟩
section
variable {prog : Program} {w : World} {A : Around} {E : Value → Shared → Prop} {s : Shared}
theorem enumT_call {q : Addr} {xs : Array Value} {Q : Value → Shared → Prop} (T : s.heap.IsTuple q xs)
    (h : ∀ hh, IsEnum hh (s.heap.objs.size + 1) s.heap.objs.size 0 .none → hh.IsTupleIter s.heap.objs.size q 0 → (∀ b o, s.heap.get? b = some o → hh.get? b = some o) → Q (.ref (s.heap.objs.size + 1)) { s with heap := hh }) :
    wpAny (model prog w) A (call (.type "enumerate") [.ref q]) Q E s := by
  obtain ⟨⟨kc, dd, dt, ss⟩, hq, e1, m, e2⟩ := T
  have e1' : kc = .type "tuple" := e1
  have e2' : dt = .seq xs m := e2
  subst e1' e2'
  have mt := enumT_new q xs m dd ss
  refine callType_new F.called_enumerate (by decide) (F.typeCall_enumerate_1 _) (F.newCall_enumerate_1 _) (fun obj => F.args_object_init_2 obj _) F.entry_enumerate_new mt ⟨hq, ?_⟩
  have z : (s.heap.push (itO q)).objs.size = s.heap.objs.size + 1 := Heap.size_push ..
  show _ ∧ _
  rw [z]
  have en : IsEnum ((s.heap.push (itO q)).push (enO s.heap.objs.size)) (s.heap.objs.size + 1) s.heap.objs.size 0 .none := by
    have t := Heap.get?_push_size (s.heap.push (itO q)) (o := enO s.heap.objs.size) rfl
    rw [z] at t
    exact t
  exact ⟨⟨_, en, rfl⟩, h _ en ⟨_, Heap.get?_push_of_some _ (Heap.get?_push_size _ rfl), rfl, rfl⟩ fun b o x => Heap.get?_push_of_some _ (Heap.get?_push_of_some _ x)⟩
end

/-- a tuple's items, each with its place -/
def ItEt (K : PySem.W.Frag) (a : Addr) : It :=
  ⟨fun i H => ∃ (xs : List V) (x : V), SqT K H a xs ∧ xs[i]? = some x, fun i H v H' => ∃ T x, v = .ref T ∧ H T = none ∧ H' = upd H T (.tup [.int (i : Nat), x]) ∧ ∀ xs, SqT K H a xs → xs[i]? = some x,
    fun i H => ∃ xs : List V, SqT K H a xs ∧ xs.length ≤ i⟩
theorem turn_enumT {P : Program} {w : World} {K : PySem.W.Frag} {elts : List Expr} {kk : Nat} {tpos : Pos} (a e it : Addr) (n1 : e ≠ it) (n2 : e ≠ a) (n3 : a ≠ it) :
    Turn P w K (.Tuple elts kk tpos) (ItEt K a) [e, it] e (fun i h => (∃ old, IsEnum h e it ((i : Nat) : Int) old) ∧ h.IsTupleIter it a i) where
  mem := List.mem_cons_self
  obj := fun i h st b hb => by
    obtain ⟨⟨old, he⟩, ⟨o, ho, hc, hd⟩⟩ := st
    rcases List.mem_cons.mp hb with z | z
    · exact ⟨_, by rw [z]; exact he, fun v q => by cases (show Data.fields _ = Data.cell v from q)⟩
    · exact ⟨o, by rw [List.mem_singleton.mp z]; exact ho, fun v q => by rw [hd] at q; cases q⟩
  keep := fun i h h' st k => let ⟨⟨old, he⟩, hi⟩ := st; ⟨⟨old, k e (by simp) _ he⟩, hi.at fun o q => k it (by simp) o q⟩
  item := by
    intro Y y1 y2 y3 yc i pins s σ H E I hf ⟨⟨old, he⟩, hit⟩ ⟨xs, x, hq, hx⟩
    subst y1 y2 y3
    obtain ⟨us, rv, p, hz⟩ := I.tuple hq
    obtain ⟨u, hu, ru⟩ := rv.get hx
    have le : e < s.heap.objs.size := Heap.lt_size he
    have li : it < s.heap.objs.size := by obtain ⟨_, q, _⟩ := hit; exact Heap.lt_size q
    have D := Draws.tuple (prog := Y.prog) (w := Y.w) (A := Y.A.in1) (I.ok.hd yc) it a n3 us.toArray
    have hlt : i < us.toArray.size := by
      have := (List.getElem?_eq_some_iff.mp hu).1
      simpa using this
    refine wpAny_pyNext_enum_itemD D he ⟨hit, p⟩ hlt n1 (by simp [n1, n2]) fun y h1 tk py out st1 hT hsz hk => ?_
    have ey : y = u := by
      have q : us.toArray[i]? = some y := py
      rw [List.getElem?_toArray, hu] at q
      exact (Option.some.inj q).symm
    subst ey
    refine ⟨_, rfl, wpAny_letOwnedTupleGo_enum (s := { s with heap := h1, toks := tk + 1 }) out fun h2 he2 sb => ?_⟩
    have hT2 : h2.get? s.heap.objs.size = some { cls := .type "tuple", data := .seq #[.int i tk, y] } := (sb.2 _ (Nat.ne_of_gt le)).trans hT
    have nw : ObjOk Y.prog Y.w (upd H s.heap.objs.size (.tup [.int (i : Nat), x])) h2 s.heap.objs.size (.tup [.int (i : Nat), x]) :=
      ⟨by show 2 ≤ sizeLine; decide, [.int i tk, y], .cons ⟨_, rfl⟩ (.cons ru .nil), ⟨_, hT2, rfl, _, rfl⟩⟩
    have J : Inv Y pins σ (upd H s.heap.objs.size (.tup [.int (i : Nat), x])) { s with heap := h2, toks := tk + 1 } := by
      refine I.turnedNew (ch := [e, it]) (fun b ob hb q => ?_) hf (Nat.le_refl _) nw
      have b1 : b ≠ e := fun z => hb (by simp [z])
      have b2 : b ≠ it := fun z => hb (by simp [z])
      exact (sb.2 b b1).trans (hk b ob b1 b2 q)
    refine ⟨.ref s.heap.objs.size, _, J, rfl, ⟨_, x, rfl, I.hok.fresh (Nat.le_refl _), rfl, fun ys hy => by rw [I.tuple_inj hy hq]; exact hx⟩, ⟨⟨y, ?_⟩, st1.1.at fun o q => (sb.2 it (Ne.symm n1)).trans q⟩, fun b hb => ?_⟩
    · rw [show ((i + 1 : Nat) : Int) = (i : Int) + 1 by omega]
      exact he2
    · have lb : b < s.heap.objs.size := by
        rcases List.mem_cons.mp hb with z | z
        · rw [z]; exact le
        · rw [List.mem_singleton.mp z]; exact li
      rw [upd_ne (Nat.ne_of_lt lb)]
      exact (hf b hb).1
  done := by
    intro Y y1 y2 y3 yc i pins s σ H E I hf ⟨⟨old, he⟩, hit⟩ ⟨xs, hq, hx⟩
    subst y1 y2 y3
    obtain ⟨us, rv, p, hz⟩ := I.tuple hq
    obtain ⟨f0, f1, f2, f3, f4, f5⟩ := hf it (by simp)
    have hl := rv.length
    have hT : s.TypeIs (.ref e) "enumerate" := ⟨_, he, rfl⟩
    have hn : us.toArray[i]? = none := by simp; omega
    unfold pyNext
    refine wpAny_bind (wpAny_attempt (wpAny_callSpecial?_slot (name := Str.ofString "__next__") hT F.slot_enumerate_next (wpAny_call_entry F.slot_enumerate_next hT F.entry_enumerate_next ?_ (F.args_enumerate_next_1 _))))
    show wpAny _ _ (field (.ref e) 2 >>= _) _ _ _
    refine wpAny_bind (wpAny_field he rfl (x := .ref it) rfl (wpAny_bind (wpAny_nextOf_tuple_end (I.ok.hd yc) hit p hn fun h1 x1 eb hx1 => ?_)))
    obtain ⟨o1, ho1, hc1⟩ := hx1
    refine wpAny_bind (wpAny_isInstance (T := "StopIteration") (b := true) ⟨o1, ho1, hc1⟩ isSubtype_stop (wpAny_pure ⟨rfl, ?_⟩))
    exact I.turned (t' := s.toks) (fun b o hb q => eb b o hb q) f0 f1 f3 f4 f5
  self := fun A i s Q E st h => wpAny_pyIter_enum st.1.choose_spec h
/-- enumerate of a list or a tuple -/
def iEnA (K : PySem.W.Frag) (ta : TA) : TI := fun σ H R => ta σ H fun vs H1 => ∃ a xs, vs = [.ref a] ∧ ((SqL K H1 a xs ∧ R (Ite K a) H1) ∨ (SqT K H1 a xs ∧ R (ItEt K a) H1))
theorem pi_enA {X : Cx} {e : Expr} {ta : TA} {p pos tpos : Pos} {elts : List Expr} {kk : Nat} (hg : Gl X "enumerate") (hm : X.mg "enumerate" = none) (ha : PA X [e] ta) (hs : starEach [e] X.env = [(false, eval e X.env)]) :
    PI X (.Tuple elts kk tpos) (.Call (.Name "enumerate" p) [e] [] pos) (iEnA X.K ta) := by
  refine ⟨fun pins s σ H R I h => Call_ (ld_blt I hg hm boot_enumerate (PyProof.Rows.callWith_type1 (thn (ha.run pos pins s σ H _ I h) fun us s1 ⟨vs, H1, J, r, a, xs, ex, q⟩ => ?_) hs rfl))⟩
  subst ex
  cases r with
  | cons ra rr =>
    cases rr
    cases ra
    have old : ∀ b ∈ [s1.heap.objs.size + 1, s1.heap.objs.size], FpOk X pins H1 b := fun b hb => by
      have le : s1.heap.objs.size ≤ b := by
        rcases List.mem_cons.mp hb with z | z
        · rw [z]; exact Nat.le_succ _
        · rw [List.mem_singleton.mp z]; exact Nat.le_refl _
      exact J.fpOk le (J.hok.fresh le)
    rcases q with ⟨hq, q⟩ | ⟨hq, q⟩
    · obtain ⟨us, rv, pl, hz⟩ := J.list hq
      refine call_enumerate_list pl.isList fun h1 he hit _ hk => wpAny_pyIter_enum he ?_
      exact ⟨s1.heap.objs.size + 1, [s1.heap.objs.size + 1, s1.heap.objs.size], _, _, H1, rfl, J.kept (t' := s1.toks) hk, turn_enum a _ _, ⟨⟨.none, he⟩, hit, Nat.succ_ne_self _⟩, old, q⟩
    · obtain ⟨us, rv, pl, hz⟩ := J.tuple hq
      have la : a < s1.heap.objs.size := by obtain ⟨o, ho, _⟩ := pl; exact Heap.lt_size ho
      refine enumT_call (show s1.heap.IsTuple a us.toArray from pl) fun h1 he hit hk => wpAny_pyIter_enum he ?_
      exact ⟨s1.heap.objs.size + 1, [s1.heap.objs.size + 1, s1.heap.objs.size], _, _, H1, rfl, J.kept (t' := s1.toks) hk, turn_enumT a _ _ (Nat.succ_ne_self _) (Nat.ne_of_gt (Nat.lt_succ_of_lt la)) (Nat.ne_of_lt la), ⟨⟨.none, he⟩, hit⟩, old, q⟩
end Iv
end
section
set_option Elab.async false
set_option linter.all false
set_option maxRecDepth 100000
set_option maxHeartbeats 4000000
/-! IvRev: a tuple backwards. -/
namespace Iv
open PySem PySem.Spec PyProof.Rows L2

theorem back_adjust (n : Nat) : Builtin.Slice.sliceAdjust none none (-1) (n : Int) = ((n : Int) - 1, -1) := by
  unfold Builtin.Slice.sliceAdjust
  simp
theorem back_places (n : Nat) : Builtin.Slice.slicePlaces ((n : Int) - 1) (-1) (-1) = n := by
  unfold Builtin.Slice.slicePlaces
  have h1 : ¬ ((-1 : Int) > 0) := by omega
  simp only [h1, if_false]
  split
  · have : (-(-1) : Int) = 1 := by omega
    rw [this, Int.ediv_one]
    omega
  · omega
theorem back_pick (us : List Value) : ((List.range us.length).filterMap fun (m : Nat) => us.toArray[(((us.length : Int) - 1) + (m : Int) * (-1)).toNat]?).toArray = us.reverse.toArray := by
  congr 1
  have key : ∀ n, n ≤ us.length → ((List.range n).filterMap fun (m : Nat) => us.toArray[(((us.length : Int) - 1) + (m : Int) * (-1)).toNat]?) = (us.drop (us.length - n)).reverse := by
    intro n
    induction n with
    | zero => intro _; simp
    | succ n ih =>
      intro hn
      rw [List.range_succ, List.filterMap_append, ih (by omega)]
      have e : (((us.length : Int) - 1) + (n : Int) * (-1)).toNat = us.length - 1 - n := by omega
      have hlt : us.length - 1 - n < us.length := by omega
      have e2 : us.toArray[(((us.length : Int) - 1) + (n : Int) * (-1)).toNat]? = some us[us.length - 1 - n] := by
        rw [e, List.getElem?_toArray, List.getElem?_eq_getElem hlt]
      simp only [List.filterMap_cons, e2, List.filterMap_nil]
      have e3 : us.drop (us.length - (n + 1)) = us[us.length - 1 - n] :: us.drop (us.length - n) := by
        have e4 : us.length - (n + 1) = us.length - 1 - n := by omega
        have e5 : us.length - n = us.length - 1 - n + 1 := by omega
        rw [e4, e5]
        exact List.drop_eq_getElem_cons hlt
      rw [e3, List.reverse_cons]
  rw [key us.length (Nat.le_refl _), Nat.sub_self, List.drop_zero]
section
variable {prog : Program} {w : World} {A : Around} {E : Value → Shared → Prop} {s : Shared}
theorem back_applied {sl : Addr} {va vb vc : Value} {n : Nat} {Q : Int × Int × Nat → Shared → Prop} (hs : s.heap.IsSliceOf sl va vb vc) (pa : IsPart va none) (pb : IsPart vb none) (pc : IsPart vc (some (-1)))
    (h : Q ((n : Int) - 1, -1, n) s) : wpAny (model prog w) A (Builtin.Slice.sliceApplied (.ref sl) (pure (n : Int))) Q E s := by
  obtain ⟨ob, h1, h2, h3⟩ := hs
  unfold Builtin.Slice.sliceApplied Builtin.Slice.sliceFields
  refine wpAny_bind (wpAny_bind (wpAny_field h1 h3 (x := va) rfl (wpAny_bind (wpAny_field h1 h3 (x := vb) rfl (wpAny_bind (wpAny_field h1 h3 (x := vc) rfl (wpAny_pure ?_)))))))
  refine wpAny_bind (HT.slicePart_ pc ?_)
  show wpAny _ _ (if ((-1 : Int) == 0) = true then _ else _) _ _ s
  rw [if_neg (by decide)]
  refine wpAny_bind (HT.slicePart_ pa (wpAny_bind (HT.slicePart_ pb (wpAny_bind (wpAny_pure ?_)))))
  show wpAny _ _ (match Builtin.Slice.sliceAdjust none none (-1) (n : Int) with | (p, q) => pure (p, (-1 : Int), Builtin.Slice.slicePlaces p q (-1))) _ _ s
  rw [back_adjust n]
  show wpAny _ _ (pure ((n : Int) - 1, (-1 : Int), Builtin.Slice.slicePlaces ((n : Int) - 1) (-1) (-1))) _ _ s
  rw [back_places]
  exact wpAny_pure h
theorem back_item {q sl : Addr} {us : List Value} {va vb vc : Value} {Q : Value → Shared → Prop} (T : IsTup s.heap q us.toArray) (hs : s.heap.IsSliceOf sl va vb vc) (pa : IsPart va none) (pb : IsPart vb none) (pc : IsPart vc (some (-1)))
    (h : Q (.ref s.heap.objs.size) { s with heap := s.heap.push { cls := .type "tuple", data := .seq us.reverse.toArray } })
    (hz : us.length ≤ sizeLine) : wpAny (model prog w) A (getItem (.ref q) (.ref sl)) Q E s := by
  have fit : sizeOk (.seq us.reverse.toArray) := by
    show us.reverse.toArray.size ≤ sizeLine
    rw [List.size_toArray, List.length_reverse]
    exact hz
  have Ts : s.TypeIs (.ref sl) "slice" := let ⟨ob, k1, k2, _⟩ := hs; ⟨ob, k1, k2⟩
  unfold getItem
  try with_reducible refine wpAny_holding ?_
  first | refine wpAny_bind (wpAny_pure ?_) | skip
  refine wpAny_bind (wpAny_sequenceKey T.typeIs (by decide) (wpAny_bind (wpAny_callSpecial?_slot (name := Str.ofString "__getitem__") T.typeIs PyProof.Rows.slot_tuple_getitem (wpAny_call_entry PyProof.Rows.slot_tuple_getitem T.typeIs entry_tuple_getitem ?_ (args_tuple_getitem _ _)))))
  show wpAny _ _ (Builtin.Tuple.tupleItemsOf (.ref q) >>= _) _ _ s
  refine wpAny_bind (tupleItemsOf_ T (wpAny_bind (wpAny_typeOf Ts ?_)))
  rw [if_pos (by decide)]
  have hn : (us.toArray.size : Int) = (us.length : Int) := by simp
  rw [hn]
  refine wpAny_bind (back_applied (n := us.length) hs pa pb pc ?_)
  have no : ¬ ((((us.length : Int) - 1) == 0 && (-1 : Int) == 1 && us.length == us.toArray.size) = true) := by
    rw [show ((-1 : Int) == 1) = false from rfl, Bool.and_false, Bool.false_and]
    exact Bool.false_ne_true
  show wpAny _ _ (if (((us.length : Int) - 1) == 0 && (-1 : Int) == 1 && us.length == us.toArray.size) = true then _ else _) _ _ s
  rw [if_neg no, back_pick]
  first
    | exact wpAny_bind (m := Builtin.Tuple.tupleExact _) (wpAny_newObj_type (wpAny_pure ⟨_, rfl, wpAny_pure h⟩) fit)
    | exact wpAny_bind (m := Builtin.Tuple.tupleExact _) (wpAny_newObj_type (wpAny_bind (wpAny_pure (wpAny_pure ⟨_, rfl, wpAny_pure h⟩))) fit)
    | exact wpAny_bind (wpAny_bind (m := Builtin.Tuple.tupleExact _) (wpAny_newObj_type (wpAny_pure (wpAny_pure ⟨_, rfl, wpAny_pure h⟩)) fit))
    | exact wpAny_bind (wpAny_bind (m := Builtin.Tuple.tupleExact _) (wpAny_newObj_type (wpAny_pure ⟨_, rfl, wpAny_pure h⟩) fit))
end
abbrev backE (e : Expr) (k : Nat) (p1 p2 p3 pos : Pos) : Expr := .Subscript e (.Slice none none (some (.UnaryOp .USub (.Constant (.int 1) k p1) p2)) p3) pos
def tBackT (K : PySem.W.Frag) (te : TE) : TE := fun σ H Q => te σ H fun x H1 => ∃ a xs, x = .ref a ∧ SqT K H1 a xs ∧ ∀ p, H1 p = none → Q (.ref p) (upd H1 p (.tup xs.reverse))
theorem pe_backT {X : Cx} {e : Expr} {te : TE} {k : Nat} {p1 p2 p3 pos : Pos} (he : PE X e te) : PE X (backE e k p1 p2 p3 pos) (tBackT X.K te) := by
  refine ⟨fun pins s σ H Q I h => Subscript_ (thn (he.run pins s σ H _ I h) fun v s1 ⟨x, H1, I1, r1, a, xs, ex, hx, q⟩ => ?_)⟩
  subst ex
  cases r1
  have st : PO X (some (.UnaryOp .USub (.Constant (.int 1) k p1) p2)) (tPart (tUn (rU fun i => .int (-i)) (tC (.int 1)))) := po_some (pe_un un_neg pe_int)
  refine wpAny_Slice (thn (po_none.run pins s1 σ H1 (fun o J => o = none ∧ J = H1) I1 ⟨rfl, rfl⟩) fun va s2 ⟨oa, J2, I2, pa, ea, ja⟩ => ?_)
  subst ea ja
  refine thn (po_none.run pins s2 σ J2 (fun o J => o = none ∧ J = J2) I2 ⟨rfl, rfl⟩) fun vb s3 ⟨ob, J3, I3, pb, eb, jb⟩ => ?_
  subst eb jb
  refine thn (st.run pins s3 σ J3 (fun o J => o = some (-1) ∧ J = J3) I3 ⟨1, rfl, -1, rfl, rfl, rfl⟩) fun vc s4 ⟨oc, J4, I4, pc, ec, jc⟩ => ?_
  subst ec jc
  generalize hs5 : ({ s4 with heap := s4.heap.push { cls := .type "slice", data := .fields #[va, vb, vc] } } : Shared) = s5
  have I5 : Inv X pins σ J4 s5 := by
    rw [← hs5]
    exact I4.kept (t' := s4.toks) fun b ob q => Heap.get?_push_of_some _ q
  have sl : s5.heap.IsSliceOf s4.heap.objs.size va vb vc := by
    rw [← hs5]
    exact Heap.IsSliceOf.new _ va vb vc
  obtain ⟨us, r, T, hz⟩ := I5.tuple hx
  have hl := r.length
  show wpAny (model X.prog X.w) X.A (subscriptTail e (.Slice none none (some (.UnaryOp .USub (.Constant (.int 1) k p1) p2)) p3) (.ref a) (.ref s4.heap.objs.size)) (EP X pins σ Q) X.xe s5
  refine tail_any (ops := [.ref a, .ref s4.heap.objs.size]) T.typeIs PyProof.Rows.slot_tuple_getitem.lookup ?_ (by with_unfolding_all rfl)
  refine back_item T sl pa pb pc ?_ (by omega)
  refine ⟨.ref _, _, I5.laid (t' := s5.toks) (o := .tup xs.reverse) (fun b ob q => Heap.get?_push_of_some _ q) (Nat.le_refl _) ?_, rfl, q _ (I5.hok.fresh (Nat.le_refl _))⟩
  exact ⟨by rw [List.length_reverse]; exact hz, us.reverse, r.reverse, ⟨_, Heap.get?_push_size _ rfl, rfl, _, rfl⟩⟩

theorem PE.or {X : Cx} {e : Expr} {t u : TE} (h : PE X e t) (k : PE X e u) : PE X e (fun σ H Q => t σ H Q ∨ u σ H Q) := ⟨fun pins s σ H Q I q => q.elim (h.run pins s σ H Q I) (k.run pins s σ H Q I)⟩
theorem PI.or {X : Cx} {tg e : Expr} {t u : TI} (h : PI X tg e t) (k : PI X tg e u) : PI X tg e (fun σ H Q => t σ H Q ∨ u σ H Q) := ⟨fun pins s σ H Q I q => q.elim (h.run pins s σ H Q I) (k.run pins s σ H Q I)⟩
/-- ONE STEP, with the run's answer told -/
theorem tG_run {α β γ ε : Type} {g : Gh} {rel : Rl α β} {rel' : Rl γ ε} {W : WX} {σ : L2.St} {φ : Ph} {H : Hp} {μ : Mu} {δ : Sg} {Q : ε → Hp → Prop} {ma : Sg → M α} {k : Sg → α → M γ} {Rr : β → Hp → Prop}
    (a : At g φ H μ δ σ) (h : EndG g rel' W σ φ H Q ((ma δ >>= k δ) μ))
    (step : ∀ φ1 H1 μ1 x b, ma δ μ = some (.ok x, μ1) → Ext φ H φ1 H1 → At g φ1 H1 μ1 δ σ → rel φ1 H1 x b → EndG g rel' W σ φ1 H1 Q (k δ x μ1) → Rr b H1) : tG g rel W ma σ H Rr := by
  refine ⟨φ, μ, δ, a, ?_⟩
  have h' : EndG g rel' W σ φ H Q (M.bind (ma δ) (k δ) μ) := h
  unfold M.bind at h'
  cases e : ma δ μ with
  | none => rw [e] at h'; exact h'
  | some p =>
    obtain ⟨r, μ1⟩ := p
    rw [e] at h'
    cases r with
    | ok x => exact fun φ1 H1 b x1 m1 rl => step φ1 H1 μ1 x b e x1 ⟨a.s.ext x1, m1⟩ rl (EndG.mono x1 h')
    | err i ns vs => exact h'
/-- a list, a tuple backwards -/
def revO (cell : Bool) (d : D) : O D := fun μ => match d with
  | .tup ds => some (.tup ds.reverse, μ)
  | d => match lstOfS μ d with
    | some ds => mkL cell ds.reverse μ
    | none => none
theorem de_rev {X : Cx} {ca : Nat → Addr} {W : WX} {cell : Bool} {e : Expr} {m : Sg → M D} {k : Nat} {p1 p2 p3 pos : Pos} (he : DEx X ca W e m) : DEx X ca W (backE e k p1 p2 p3 pos) (mOp1 (revO cell) m) := by
  refine PE.imp (PE.or (pe_backT he) (pe_revL he)) fun σ H Q ⟨φ, μ, δ, a, q⟩ => ?_
  by_cases ht : ∃ ds μ1, m δ μ = some (.ok (.tup ds), μ1)
  · refine .inl (tG_run (k := fun δ x => M.op (revO cell x)) a q fun φ1 H1 μ1 x b e0 e1 a1 r1 q1 => ?_)
    obtain ⟨ds, μ2, e2⟩ := ht
    rw [e2] at e0
    cases e0
    obtain ⟨p, vs, rfl, h1, h2⟩ := tup_ok r1
    exact ⟨p, vs, rfl, SqT.of h1, new_tup a1.m h2.reverse (EndO.of q1)⟩
  · refine .inr (tG_run (k := fun δ x => M.op (revO cell x)) a q fun φ1 H1 μ1 x b e0 e1 a1 r1 q1 => ?_)
    have q2 := EndO.of q1
    unfold revO at q2
    split at q2
    · exact absurd ⟨_, _, e0⟩ ht
    · split at q2
      · rename_i ds el
        obtain ⟨p, vs, rfl, h1, h2⟩ := lstOfS_ok a1.m r1 el
        exact ⟨p, vs, rfl, h1, new_lst a1.m h2.reverse q2⟩
      · exact q2.elim
end Iv
end
section
set_option Elab.async false
set_option linter.all false
set_option maxRecDepth 100000
set_option maxHeartbeats 4000000
/-! IvLoop: iterators, for, comprehensions; cells that end. -/
namespace Iv
open PySem PySem.Spec L2

/-! ### cells that end -/
mutual
/-- no cell from b on -/
def bnd (b : Nat) : D → Bool
  | .cell n => decide (n < b)
  | .tup ds => bndL b ds
  | .lst ds => bndL b ds
  | .obj _ _ ds => bndL b ds
  | .dK _ ds => bndL b ds
  | .dT _ ds => bndL b ds
  | _ => true
def bndL (b : Nat) : List D → Bool
  | [] => true
  | d :: ds => bnd b d && bndL b ds
end
section
variable {g : Gh} {φ φ' : Ph} {H H' : Hp} {b : Nat}
theorem take_notIn {p : Addr} (h : some p ∉ φ) : some p ∉ φ.take b := fun z => h (List.mem_of_mem_take z)
mutual
theorem Rep.trim : ∀ (d : D) (v : V), bnd b d = true → Rep g φ H d v → Rep g (φ.take b) H d v
  | .non, v, _, h => by unfold Rep at h ⊢; exact h
  | .bl _, v, _, h => by unfold Rep at h ⊢; exact h
  | .int i, v, _, h => by unfold Rep at h ⊢; exact h
  | .str x, v, _, h => by unfold Rep at h ⊢; exact h
  | .ty n, v, _, h => by unfold Rep at h ⊢; exact h
  | .cls i, v, _, h => by unfold Rep at h ⊢; exact h
  | .script ns, v, _, h => by unfold Rep at h ⊢; exact h
  | .tup ds, v, k, h => by
    unfold Rep at h ⊢
    unfold bnd at k
    obtain ⟨p, vs, h1, h2, h3⟩ := h
    exact ⟨p, vs, h1, h2, RepL.trim ds vs k h3⟩
  | .lst ds, v, k, h => by
    unfold Rep at h ⊢
    unfold bnd at k
    obtain ⟨p, vs, h1, h2, h3, h4⟩ := h
    exact ⟨p, vs, h1, take_notIn h2, h3, RepL.trim ds vs k h4⟩
  | .obj C ns ds, v, k, h => by
    unfold Rep at h ⊢
    unfold bnd at k
    obtain ⟨p, dx, vs, h1, h2, h3, h4, h5⟩ := h
    exact ⟨p, dx, vs, h1, take_notIn h2, h3, h4, RepL.trim ds vs k h5⟩
  | .dK ks ds, v, k, h => by
    unfold Rep at h ⊢
    unfold bnd at k
    obtain ⟨p, vs, h1, h2, h3, h4, h5⟩ := h
    exact ⟨p, vs, h1, take_notIn h2, h3, h4, RepL.trim ds vs k h5⟩
  | .dT ks ds, v, k, h => by
    unfold Rep at h ⊢
    unfold bnd at k
    obtain ⟨p, vs, h1, h2, h3, h4, h5⟩ := h
    exact ⟨p, vs, h1, take_notIn h2, h3, h4, RepL.trim ds vs k h5⟩
  | .cell n, v, k, h => by
    unfold Rep at h ⊢
    unfold bnd at k
    rw [List.getElem?_take_of_lt (of_decide_eq_true k)]
    exact h
theorem RepL.trim : ∀ (ds : List D) (vs : List V), bndL b ds = true → RepL g φ H ds vs → RepL g (φ.take b) H ds vs
  | [], vs, _, h => by unfold RepL at h ⊢; exact h
  | d :: ds, vs, k, h => by
    unfold RepL at h ⊢
    unfold bndL at k
    rw [Bool.and_eq_true] at k
    obtain ⟨v, r, h1, h2, h3⟩ := h
    exact ⟨v, r, h1, Rep.trim d v k.1 h2, RepL.trim ds r k.2 h3⟩
end
theorem RepC.trim {d : D} {a : Addr} (k : bnd b d = true) (h : RepC g φ H d a) : RepC g (φ.take b) H d a := by
  cases d with
  | lst ds =>
    obtain ⟨vs, h1, h2⟩ := h
    unfold bnd at k
    exact ⟨vs, h1, RepL.trim _ _ k h2⟩
  | obj C ns ds =>
    obtain ⟨dx, vs, h1, h2, h3⟩ := h
    unfold bnd at k
    exact ⟨dx, vs, h1, h2, RepL.trim _ _ k h3⟩
  | dK ks ds =>
    obtain ⟨vs, h1, h2, h3⟩ := h
    unfold bnd at k
    exact ⟨vs, h1, h2, RepL.trim _ _ k h3⟩
  | dT ks ds =>
    obtain ⟨vs, h1, h2, h3⟩ := h
    unfold bnd at k
    exact ⟨vs, h1, h2, RepL.trim _ _ k h3⟩
  | _ => exact (show False from h).elim
theorem RepMu.trim {μ : Mu} (m : RepMu g φ H μ) (k : bndL b (μ.take b) = true) : RepMu g (φ.take b) H (μ.take b) where
  len := by rw [List.length_take, List.length_take, m.len]
  nd := fun i j a h1 h2 => by
    have lt : ∀ {l : Nat} {o : Option Addr}, (φ.take b)[l]? = some o → l < b ∧ φ[l]? = some o := fun {l o} h => by
      have h0 := (List.getElem?_eq_some_iff.mp h).1
      rw [List.length_take] at h0
      have h1 : l < b := by omega
      rw [List.getElem?_take_of_lt h1] at h
      exact ⟨h1, h⟩
    exact m.nd i j a (lt h1).2 (lt h2).2
  at_ := fun n a d h1 h2 => by
    have h0 := (List.getElem?_eq_some_iff.mp h2).1
    rw [List.length_take] at h0
    have hb : n < b := by omega
    have all : ∀ {l : List D}, bndL b l = true → ∀ {i : Nat} {x : D}, l[i]? = some x → bnd b x = true := fun {l} => by
      induction l with
      | nil => intro _ i x e; simp at e
      | cons y l ih =>
        intro h i x e
        unfold bndL at h
        rw [Bool.and_eq_true] at h
        cases i with
        | zero => simp at e; rw [← e]; exact h.1
        | succ i => exact ih h.2 (by simpa using e)
    have kd := all k h2
    rw [List.getElem?_take_of_lt hb] at h1 h2
    exact (m.at_ n a d h1 h2).trim kd
  dead := fun n h1 => by
    have h0 := (List.getElem?_eq_some_iff.mp h1).1
    rw [List.length_take] at h0
    have hb : n < b := by omega
    rw [List.getElem?_take_of_lt hb] at h1 ⊢
    exact m.dead n h1
theorem Ext.trim (e : Ext φ H φ' H') (h : φ.length ≤ b) : Ext φ H (φ'.take b) H' where
  pre := fun n o q => by
    have h0 := (List.getElem?_eq_some_iff.mp q).1
    rw [List.getElem?_take_of_lt (by omega)]
    exact e.pre n o q
  keep := e.keep
  new := fun a q => e.new a (List.mem_of_mem_take q)
  frz := e.frz
  tup := e.tup
end
/-- each of a list, if each is there -/
def mapO (f : D → Option D) : List D → Option (List D)
  | [] => some []
  | d :: ds => match f d with
    | some e => match mapO f ds with
      | some es => some (e :: es)
      | none => none
    | none => none
/-- the cells from b on are data from now on -/
def frz : Nat → Nat → Mu → D → Option D
  | 0, _, _, _ => none
  | n + 1, b, μ, d => match d with
    | .cell k => if k < b then some (.cell k) else match μ[k]? with
      | some (.lst ds) => (mapO (frz n b μ) ds).map .lst
      | some (.obj C ns ds) => (mapO (frz n b μ) ds).map (.obj C ns)
      | some (.dK ks ds) => (mapO (frz n b μ) ds).map (.dK ks)
      | some (.dT ks ds) => (mapO (frz n b μ) ds).map (.dT ks)
      | _ => none
    | .tup ds => (mapO (frz n b μ) ds).map .tup
    | .lst ds => (mapO (frz n b μ) ds).map .lst
    | .obj C ns ds => (mapO (frz n b μ) ds).map (.obj C ns)
    | .dK ks ds => (mapO (frz n b μ) ds).map (.dK ks)
    | .dT ks ds => (mapO (frz n b μ) ds).map (.dT ks)
    | d => some d
section
variable {g : Gh} {φ : Ph} {H : Hp} {b : Nat} {μ : Mu}
theorem mapO_ok {f : D → Option D} (hf : ∀ d e v, f d = some e → Rep g φ H d v → Rep g (φ.take b) H e v) : ∀ {ds es : List D} {vs : List V}, mapO f ds = some es → RepL g φ H ds vs → RepL g (φ.take b) H es vs
  | [], es, vs, h, r => by
    cases h
    rw [r.nil_inv]
    exact .nil
  | d :: ds, es, vs, h, r => by
    unfold mapO at h
    obtain ⟨v, vs', rfl, r1, r2⟩ := r.cons_inv
    split at h
    · rename_i e he
      split at h
      · rename_i es' hes
        cases h
        exact .cons (hf d e v he r1) (mapO_ok hf hes r2)
      · cases h
    · cases h
theorem frz_ok (m : RepMu g φ H μ) : ∀ (n : Nat) (d e : D) (v : V), frz n b μ d = some e → Rep g φ H d v → Rep g (φ.take b) H e v
  | 0, d, e, v, h, _ => by cases h
  | n + 1, d, e, v, h, r => by
    have ih : ∀ d e v, frz n b μ d = some e → Rep g φ H d v → Rep g (φ.take b) H e v := frz_ok m n
    have outP : ∀ {k : Nat} {a : Addr}, b ≤ k → φ[k]? = some (some a) → some a ∉ φ.take b := fun {k a} hk hp z => by
      obtain ⟨j, hj⟩ := List.mem_iff_getElem?.mp z
      have h0 := (List.getElem?_eq_some_iff.mp hj).1
      rw [List.length_take] at h0
      rw [List.getElem?_take_of_lt (by omega)] at hj
      have := m.nd j k a hj hp
      omega
    unfold frz at h
    split at h
    · rename_i k
      split at h
      · rename_i hk
        cases h
        exact Rep.trim _ _ (by unfold bnd; exact decide_eq_true hk) r
      · rename_i hk
        split at h
        · rename_i ds e0
          obtain ⟨a, hp, rfl, vs, h1, h2⟩ := cell_at m r e0 (by intro z; cases z)
          cases q : mapO (frz n b μ) ds with
          | none => rw [q] at h; cases h
          | some es =>
            rw [q] at h; cases h
            unfold Rep
            exact ⟨a, vs, rfl, outP (by omega) hp, h1, mapO_ok ih q h2⟩
        · rename_i C ns ds e0
          obtain ⟨a, hp, rfl, dx, vs, h1, h2, h3⟩ := cell_at m r e0 (by intro z; cases z)
          cases q : mapO (frz n b μ) ds with
          | none => rw [q] at h; cases h
          | some es =>
            rw [q] at h; cases h
            unfold Rep
            exact ⟨a, dx, vs, rfl, outP (by omega) hp, h1, h2, mapO_ok ih q h3⟩
        · rename_i ks ds e0
          obtain ⟨a, hp, rfl, vs, h1, h2, h3⟩ := cell_at m r e0 (by intro z; cases z)
          cases q : mapO (frz n b μ) ds with
          | none => rw [q] at h; cases h
          | some es =>
            rw [q] at h; cases h
            unfold Rep
            exact ⟨a, vs, rfl, outP (by omega) hp, h1, h2, mapO_ok ih q h3⟩
        · rename_i ks ds e0
          obtain ⟨a, hp, rfl, vs, h1, h2, h3⟩ := cell_at m r e0 (by intro z; cases z)
          cases q : mapO (frz n b μ) ds with
          | none => rw [q] at h; cases h
          | some es =>
            rw [q] at h; cases h
            unfold Rep
            exact ⟨a, vs, rfl, outP (by omega) hp, h1, h2, mapO_ok ih q h3⟩
        · cases h
    · rename_i ds
      cases q : mapO (frz n b μ) ds with
      | none => rw [q] at h; cases h
      | some es =>
        rw [q] at h; cases h
        unfold Rep at r ⊢
        obtain ⟨p, vs, h1, h2, h3⟩ := r
        exact ⟨p, vs, h1, h2, mapO_ok ih q h3⟩
    · rename_i ds
      cases q : mapO (frz n b μ) ds with
      | none => rw [q] at h; cases h
      | some es =>
        rw [q] at h; cases h
        unfold Rep at r ⊢
        obtain ⟨p, vs, h1, h2, h3, h4⟩ := r
        exact ⟨p, vs, h1, take_notIn h2, h3, mapO_ok ih q h4⟩
    · rename_i C ns ds
      cases q : mapO (frz n b μ) ds with
      | none => rw [q] at h; cases h
      | some es =>
        rw [q] at h; cases h
        unfold Rep at r ⊢
        obtain ⟨p, dx, vs, h1, h2, h3, h4, h5⟩ := r
        exact ⟨p, dx, vs, h1, take_notIn h2, h3, h4, mapO_ok ih q h5⟩
    · rename_i ks ds
      cases q : mapO (frz n b μ) ds with
      | none => rw [q] at h; cases h
      | some es =>
        rw [q] at h; cases h
        unfold Rep at r ⊢
        obtain ⟨p, vs, h1, h2, h3, h4, h5⟩ := r
        exact ⟨p, vs, h1, take_notIn h2, h3, h4, mapO_ok ih q h5⟩
    · rename_i ks ds
      cases q : mapO (frz n b μ) ds with
      | none => rw [q] at h; cases h
      | some es =>
        rw [q] at h; cases h
        unfold Rep at r ⊢
        obtain ⟨p, vs, h1, h2, h3, h4, h5⟩ := r
        exact ⟨p, vs, h1, take_notIn h2, h3, h4, mapO_ok ih q h5⟩
    · rename_i h1 h2 h3 h4 h5 h6
      cases h
      refine Rep.trim _ _ ?_ r
      unfold bnd
      split <;> first | rfl | (first | exact absurd rfl (h1 _) | exact absurd rfl (h2 _) | exact absurd rfl (h3 _) | exact absurd rfl (h4 _ _ _) | exact absurd rfl (h5 _ _) | exact absurd rfl (h6 _ _))
end

/-! ### iterators -/
inductive Src where
  | stat (ds : List D) | dyn (n : Nat)
/-- its i-th item: none: no telling; some none: the end -/
def srcAt (s : Src) (i : Nat) (μ : Mu) : Option (Option D) := match s with
  | .stat ds => some ds[i]?
  | .dyn n => match μ[n]? with
    | some (.lst ds) => some ds[i]?
    | _ => none
def Walks (g : Gh) (φ : Ph) (H : Hp) (s : Src) (J : It) : Prop := ∀ (i : Nat) (φ' : Ph) (H' : Hp) (μ' : Mu), Ext φ H φ' H' → RepMu g φ' H' μ' →
  match srcAt s i μ' with
  | none => True
  | some none => J.stop i H'
  | some (some d) => J.go i H' ∧ ∀ x H'', J.yld i H' x H'' → Ext φ' H' φ' H'' ∧ RepMu g φ' H'' μ' ∧ Rep g φ' H'' d x
abbrev rI (g : Gh) : Rl Src It := fun φ H s J => Walks g φ H s J
abbrev DIx (X : Cx) (ca : Nat → Addr) (W : WX) (tg e : Expr) (m : Sg → M Src) : Prop := PI X tg e (tG (Gx X ca) (rI (Gx X ca)) W m)
theorem PI.imp {X : Cx} {tg e : Expr} {t t' : TI} (h : PI X tg e t) (k : ∀ σ H R, t' σ H R → t σ H R) : PI X tg e t' := ⟨fun pins s σ H R I q => h.run pins s σ H R I (k σ H R q)⟩

section
variable {g : Gh} {φ : Ph} {H : Hp} {μ : Mu}
theorem walks_lst {d : D} {p : Addr} {ds : List D} (hd : ∀ μ', lstOfS μ' d = some ds) (r : Rep g φ H d (.ref p)) : Walks g φ H (.stat ds) (Itl g.K p) := by
  intro i φ' H' μ' e m
  obtain ⟨p', vs, e1, h1, h2⟩ := lstOfS_ok m (r.ext e) (hd μ')
  cases e1
  show match some ds[i]? with
    | none => True
    | some none => (Itl g.K p).stop i H'
    | some (some d) => (Itl g.K p).go i H' ∧ ∀ x H'', (Itl g.K p).yld i H' x H'' → Ext φ' H' φ' H'' ∧ RepMu g φ' H'' μ' ∧ Rep g φ' H'' d x
  cases q : ds[i]? with
  | none =>
    refine ⟨vs, h1, ?_⟩
    rw [← h2.length]
    exact List.getElem?_eq_none_iff.mp q
  | some d =>
    obtain ⟨v, hv, rv⟩ := h2.get q
    refine ⟨⟨vs, v, h1, hv⟩, fun x H'' y => ?_⟩
    obtain ⟨rfl, y⟩ := y
    have := y vs h1
    rw [hv] at this; cases this
    exact ⟨Ext.refl _ _, m, rv⟩
theorem walks_cell {n : Nat} {p : Addr} (r : Rep g φ H (.cell n) (.ref p)) : Walks g φ H (.dyn n) (Itl g.K p) := by
  intro i φ' H' μ' e m
  show match (match μ'[n]? with
    | some (.lst ds) => some ds[i]?
    | _ => none) with
    | none => True
    | some none => (Itl g.K p).stop i H'
    | some (some d) => (Itl g.K p).go i H' ∧ ∀ x H'', (Itl g.K p).yld i H' x H'' → Ext φ' H' φ' H'' ∧ RepMu g φ' H'' μ' ∧ Rep g φ' H'' d x
  split
  · trivial
  · rename_i q
    split at q
    · rename_i ds e0
      obtain ⟨a, hp, e1, vs, h1, h2⟩ := cell_at m (r.ext e) e0 (by intro z; cases z)
      cases e1
      have q' : ds[i]? = none := Option.some.inj q
      refine ⟨vs, .of h1, ?_⟩
      rw [← h2.length]
      exact List.getElem?_eq_none_iff.mp q'
    · cases q
  · rename_i d q
    split at q
    · rename_i ds e0
      obtain ⟨a, hp, e1, vs, h1, h2⟩ := cell_at m (r.ext e) e0 (by intro z; cases z)
      cases e1
      have q' : ds[i]? = some d := Option.some.inj q
      obtain ⟨v, hv, rv⟩ := h2.get q'
      refine ⟨⟨vs, v, .of h1, hv⟩, fun x H'' y => ?_⟩
      obtain ⟨rfl, y⟩ := y
      have := y vs (.of h1)
      rw [hv] at this; cases this
      exact ⟨Ext.refl _ _, m, rv⟩
    · cases q
theorem walks_tup {p : Addr} {ds : List D} (r : Rep g φ H (.tup ds) (.ref p)) : Walks g φ H (.stat ds) (Itt g.K p) := by
  intro i φ' H' μ' e m
  obtain ⟨p', vs, e1, h1, h2⟩ := tup_ok (r.ext e)
  cases e1
  show match some ds[i]? with
    | none => True
    | some none => (Itt g.K p).stop i H'
    | some (some d) => (Itt g.K p).go i H' ∧ ∀ x H'', (Itt g.K p).yld i H' x H'' → Ext φ' H' φ' H'' ∧ RepMu g φ' H'' μ' ∧ Rep g φ' H'' d x
  cases q : ds[i]? with
  | none =>
    refine ⟨vs, .of h1, ?_⟩
    rw [← h2.length]
    exact List.getElem?_eq_none_iff.mp q
  | some d =>
    obtain ⟨v, hv, rv⟩ := h2.get q
    refine ⟨⟨vs, v, .of h1, hv⟩, fun x H'' y => ?_⟩
    obtain ⟨rfl, y⟩ := y
    have := y vs (.of h1)
    rw [hv] at this; cases this
    exact ⟨Ext.refl _ _, m, rv⟩
/-- the ints lo, lo + 1, .. -/
def rngD (lo : Int) (n : Nat) : List D := (List.range n).map fun k => .int (lo + (k : Nat))
theorem walks_rng {lo : Int} {n : Nat} : Walks g φ H (.stat (rngD lo n)) (Itr lo n) := by
  intro i φ' H' μ' e m
  show match some (rngD lo n)[i]? with
    | none => True
    | some none => (Itr lo n).stop i H'
    | some (some d) => (Itr lo n).go i H' ∧ ∀ x H'', (Itr lo n).yld i H' x H'' → Ext φ' H' φ' H'' ∧ RepMu g φ' H'' μ' ∧ Rep g φ' H'' d x
  unfold rngD
  rw [List.getElem?_map]
  by_cases hi : i < n
  · rw [List.getElem?_range hi]
    refine ⟨hi, fun x H'' y => ?_⟩
    obtain ⟨rfl, rfl⟩ := y
    exact ⟨Ext.refl _ _, m, rep_int.mpr rfl⟩
  · rw [List.getElem?_eq_none (by simpa using hi)]
    exact Nat.not_lt.mp hi
def signsD (x : Str) : List D := x.cps.toList.map fun c => .str ⟨#[c]⟩
theorem walks_str {x : Str} : Walks g φ H (.stat (signsD x)) (Its x) := by
  intro i φ' H' μ' e m
  show match some (signsD x)[i]? with
    | none => True
    | some none => (Its x).stop i H'
    | some (some d) => (Its x).go i H' ∧ ∀ y H'', (Its x).yld i H' y H'' → Ext φ' H' φ' H'' ∧ RepMu g φ' H'' μ' ∧ Rep g φ' H'' d y
  unfold signsD
  rw [List.getElem?_map]
  cases q : x.cps.toList[i]? with
  | none => exact (show x.cps.size ≤ i by simpa using q)
  | some c =>
    have hi : i < x.cps.size := by simpa using (List.getElem?_eq_some_iff.mp q).1
    have q' : x.cps[i]? = some c := by simpa using q
    refine ⟨hi, fun y H'' z => ?_⟩
    obtain ⟨rfl, c', h1, rfl⟩ := z
    rw [q'] at h1; cases h1
    exact ⟨Ext.refl _ _, m, rep_str.mpr rfl⟩
/-- a new pair at a turn -/
theorem pair_new {T : Addr} {a b : D} {x y : V} (m : RepMu g φ H μ) (hT : H T = none) (ra : Rep g φ H a x) (rb : Rep g φ H b y) :
    Ext φ H φ (upd H T (.tup [x, y])) ∧ RepMu g φ (upd H T (.tup [x, y])) μ ∧ Rep g φ (upd H T (.tup [x, y])) (.tup [a, b]) (.ref T) := by
  have e := Ext.laid (o := .tup [x, y]) m hT
  refine ⟨e, m.laid hT, ?_⟩
  unfold Rep
  exact ⟨T, [x, y], rfl, upd_same, .cons (ra.ext e) (.cons (rb.ext e) .nil)⟩
def enumFrom : Nat → List D → List D
  | _, [] => []
  | k, d :: ds => .tup [.int (k : Nat), d] :: enumFrom (k + 1) ds
theorem enumFrom_get : ∀ (ds : List D) (k i : Nat), (enumFrom k ds)[i]? = (ds[i]?).map fun d => .tup [.int ((k + i : Nat)), d]
  | [], k, i => by simp [enumFrom]
  | d :: ds, k, 0 => by simp [enumFrom]
  | d :: ds, k, i + 1 => by
    have := enumFrom_get ds (k + 1) i
    have e : k + 1 + i = k + (i + 1) := by omega
    rw [e] at this
    simpa [enumFrom] using this
theorem walks_enL {d : D} {p : Addr} {ds : List D} (hd : ∀ μ', lstOfS μ' d = some ds) (r : Rep g φ H d (.ref p)) : Walks g φ H (.stat (enumFrom 0 ds)) (Ite g.K p) := by
  intro i φ' H' μ' e m
  obtain ⟨p', vs, e1, h1, h2⟩ := lstOfS_ok m (r.ext e) (hd μ')
  cases e1
  show match some (enumFrom 0 ds)[i]? with
    | none => True
    | some none => (Ite g.K p).stop i H'
    | some (some d) => (Ite g.K p).go i H' ∧ ∀ x H'', (Ite g.K p).yld i H' x H'' → Ext φ' H' φ' H'' ∧ RepMu g φ' H'' μ' ∧ Rep g φ' H'' d x
  rw [enumFrom_get]
  cases q : ds[i]? with
  | none =>
    refine ⟨vs, h1, ?_⟩
    rw [← h2.length]
    exact List.getElem?_eq_none_iff.mp q
  | some d =>
    obtain ⟨v, hv, rv⟩ := h2.get q
    refine ⟨⟨vs, v, h1, hv⟩, fun x H'' y => ?_⟩
    obtain ⟨T, z, rfl, hT, rfl, y⟩ := y
    have := y vs h1
    rw [hv] at this; cases this
    exact pair_new m hT (rep_int.mpr (by rw [Nat.zero_add])) rv
theorem walks_enT {p : Addr} {ds : List D} (r : Rep g φ H (.tup ds) (.ref p)) : Walks g φ H (.stat (enumFrom 0 ds)) (ItEt g.K p) := by
  intro i φ' H' μ' e m
  obtain ⟨p', vs, e1, h1, h2⟩ := tup_ok (r.ext e)
  cases e1
  show match some (enumFrom 0 ds)[i]? with
    | none => True
    | some none => (ItEt g.K p).stop i H'
    | some (some d) => (ItEt g.K p).go i H' ∧ ∀ x H'', (ItEt g.K p).yld i H' x H'' → Ext φ' H' φ' H'' ∧ RepMu g φ' H'' μ' ∧ Rep g φ' H'' d x
  rw [enumFrom_get]
  cases q : ds[i]? with
  | none =>
    refine ⟨vs, .of h1, ?_⟩
    rw [← h2.length]
    exact List.getElem?_eq_none_iff.mp q
  | some d =>
    obtain ⟨v, hv, rv⟩ := h2.get q
    refine ⟨⟨vs, v, .of h1, hv⟩, fun x H'' y => ?_⟩
    obtain ⟨T, z, rfl, hT, rfl, y⟩ := y
    have := y vs (.of h1)
    rw [hv] at this; cases this
    exact pair_new m hT (rep_int.mpr (by rw [Nat.zero_add])) rv
def zipD (as bs : List D) : List D := List.zipWith (fun a b => .tup [a, b]) as bs
theorem zipD_get (as bs : List D) (i : Nat) : (zipD as bs)[i]? = match as[i]?, bs[i]? with
    | some a, some b => some (.tup [a, b])
    | _, _ => none := by
  unfold zipD
  rw [List.getElem?_zipWith]
  cases as[i]? <;> cases bs[i]? <;> rfl
theorem walks_zipL {d d' : D} {p p' : Addr} {as bs : List D} (hd : ∀ μ', lstOfS μ' d = some as) (hd' : ∀ μ', lstOfS μ' d' = some bs) (r : Rep g φ H d (.ref p)) (r' : Rep g φ H d' (.ref p')) : Walks g φ H (.stat (zipD as bs)) (Itz g.K p p') := by
  intro i φ' H' μ' e m
  obtain ⟨q, vs, e1, h1, h2⟩ := lstOfS_ok m (r.ext e) (hd μ')
  cases e1
  obtain ⟨q', us, e1, k1, k2⟩ := lstOfS_ok m (r'.ext e) (hd' μ')
  cases e1
  show match some (zipD as bs)[i]? with
    | none => True
    | some none => (Itz g.K p p').stop i H'
    | some (some d) => (Itz g.K p p').go i H' ∧ ∀ x H'', (Itz g.K p p').yld i H' x H'' → Ext φ' H' φ' H'' ∧ RepMu g φ' H'' μ' ∧ Rep g φ' H'' d x
  rw [zipD_get]
  cases qa : as[i]? with
  | none => exact ⟨vs, us, h1, k1, .inl (by rw [← h2.length]; exact List.getElem?_eq_none_iff.mp qa)⟩
  | some a =>
    cases qb : bs[i]? with
    | none => exact ⟨vs, us, h1, k1, .inr (by rw [← k2.length]; exact List.getElem?_eq_none_iff.mp qb)⟩
    | some b =>
      obtain ⟨v, hv, rv⟩ := h2.get qa
      obtain ⟨u, hu, ru⟩ := k2.get qb
      refine ⟨⟨vs, us, v, u, h1, k1, hv, hu⟩, fun x H'' y => ?_⟩
      obtain ⟨T, z, z', rfl, hT, rfl, y, y'⟩ := y
      have := y vs h1
      rw [hv] at this; cases this
      have := y' us k1
      rw [hu] at this; cases this
      exact pair_new m hT rv ru
theorem walks_zipT {p p' : Addr} {as bs : List D} (r : Rep g φ H (.tup as) (.ref p)) (r' : Rep g φ H (.tup bs) (.ref p')) : Walks g φ H (.stat (zipD as bs)) (RZ.ItzT g.K p p') := by
  intro i φ' H' μ' e m
  obtain ⟨q, vs, e1, h1, h2⟩ := tup_ok (r.ext e)
  cases e1
  obtain ⟨q', us, e1, k1, k2⟩ := tup_ok (r'.ext e)
  cases e1
  show match some (zipD as bs)[i]? with
    | none => True
    | some none => (RZ.ItzT g.K p p').stop i H'
    | some (some d) => (RZ.ItzT g.K p p').go i H' ∧ ∀ x H'', (RZ.ItzT g.K p p').yld i H' x H'' → Ext φ' H' φ' H'' ∧ RepMu g φ' H'' μ' ∧ Rep g φ' H'' d x
  rw [zipD_get]
  cases qa : as[i]? with
  | none => exact ⟨vs, us, .of h1, .of k1, .inl (by rw [← h2.length]; exact List.getElem?_eq_none_iff.mp qa)⟩
  | some a =>
    cases qb : bs[i]? with
    | none => exact ⟨vs, us, .of h1, .of k1, .inr (by rw [← k2.length]; exact List.getElem?_eq_none_iff.mp qb)⟩
    | some b =>
      obtain ⟨v, hv, rv⟩ := h2.get qa
      obtain ⟨u, hu, ru⟩ := k2.get qb
      refine ⟨⟨vs, us, v, u, .of h1, .of k1, hv, hu⟩, fun x H'' y => ?_⟩
      obtain ⟨T, z, z', rfl, hT, rfl, y, y'⟩ := y
      have := y vs (.of h1)
      rw [hv] at this; cases this
      have := y' us (.of k1)
      rw [hu] at this; cases this
      exact pair_new m hT rv ru
end

/-! what a value gives when walked -/
def srcD (d : D) : M Src := fun μ => match d with
  | .tup ds => some (.ok (.stat ds), μ)
  | .lst ds => some (.ok (.stat ds), μ)
  | .script ns => some (.ok (.stat (ns.map D.int)), μ)
  | .str x => some (.ok (.stat (signsD x)), μ)
  | .cell n => match μ[n]? with
    | some (.lst _) => some (.ok (.dyn n), μ)
    | _ => none
  | _ => none
def mIter (m : Sg → M D) (δ : Sg) : M Src := do
  let d ← m δ
  srcD d
section
variable {X : Cx} {ca : Nat → Addr} {W : WX} {tg : Expr}
theorem endI_ok {g : Gh} {σ : St} {φ : Ph} {H : Hp} {R : It → Hp → Prop} {s : Src} {μ : Mu} {J : It} (h : EndG g (rI g) W σ φ H R (some (.ok s, μ))) (m : RepMu g φ H μ) (w : Walks g φ H s J) : R J H := h φ H J (Ext.refl _ _) m w
theorem di_of {e : Expr} {m : Sg → M D} (he : DEx X ca W e m) : DIx X ca W tg e (mIter m) := by
  refine PI.imp (PI.or (PI.or (pi_tup he) (pi_str he)) (pi_list he)) fun σ H R ⟨φ, μ, δ, a, q⟩ => ?_
  by_cases h1 : ∃ ds μ1, m δ μ = some (.ok (.tup ds), μ1)
  · refine .inl (.inl (tG_run (k := fun δ x => srcD x) a q fun φ1 H1 μ1 x b e0 e1 a1 r1 q1 => ?_))
    obtain ⟨ds, μ2, e2⟩ := h1
    rw [e2] at e0; cases e0
    obtain ⟨p, vs, rfl, k1, k2⟩ := tup_ok r1
    exact ⟨p, rfl, ⟨vs, .of k1⟩, endI_ok (W := W) q1 a1.m (walks_tup r1)⟩
  by_cases h2 : ∃ x μ1, m δ μ = some (.ok (.str x), μ1)
  · refine .inl (.inr (tG_run (k := fun δ x => srcD x) a q fun φ1 H1 μ1 x b e0 e1 a1 r1 q1 => ?_))
    obtain ⟨ds, μ2, e2⟩ := h2
    rw [e2] at e0; cases e0
    have := rep_str.mp r1
    subst this
    exact ⟨ds, rfl, endI_ok (W := W) q1 a1.m walks_str⟩
  · refine .inr (tG_run (k := fun δ x => srcD x) a q fun φ1 H1 μ1 x b e0 e1 a1 r1 q1 => ?_)
    unfold srcD at q1
    split at q1
    · exact absurd ⟨_, _, e0⟩ h1
    · rename_i ds
      obtain ⟨p, vs, rfl, k1, k2⟩ := lstOfS_ok (ds := ds) a1.m r1 rfl
      exact ⟨p, rfl, ⟨vs, k1⟩, endI_ok (W := W) q1 a1.m (walks_lst (fun _ => rfl) r1)⟩
    · rename_i ns
      obtain ⟨p, vs, rfl, k1, k2⟩ := lstOfS_ok (ds := ns.map D.int) a1.m r1 rfl
      exact ⟨p, rfl, ⟨vs, k1⟩, endI_ok (W := W) q1 a1.m (walks_lst (fun _ => rfl) r1)⟩
    · exact absurd ⟨_, _, e0⟩ h2
    · split at q1
      · rename_i n ds e2
        obtain ⟨p, hp, rfl, vs, k1, k2⟩ := cell_at a1.m r1 e2 (by intro z; cases z)
        exact ⟨p, rfl, ⟨vs, .of k1⟩, endI_ok (W := W) q1 a1.m (walks_cell r1)⟩
      · exact q1.elim
    · exact q1.elim
def rng1 : List D → M Src := fun ds μ => match ds with
  | [.int j] => if -LIM ≤ j ∧ j ≤ LIM then some (.ok (.stat (rngD 0 j.toNat)), μ) else none
  | _ => none
def rng2 : List D → M Src := fun ds μ => match ds with
  | [.int i, .int j] => if (-LIM ≤ i ∧ i ≤ LIM) ∧ -LIM ≤ j ∧ j ≤ LIM then some (.ok (.stat (rngD i (j - i).toNat)), μ) else none
  | _ => none
def enmS : List D → M Src := fun ds μ => match ds with
  | [.tup ds] => some (.ok (.stat (enumFrom 0 ds)), μ)
  | [.lst ds] => some (.ok (.stat (enumFrom 0 ds)), μ)
  | _ => none
def zipS : List D → M Src := fun ds μ => match ds with
  | [.tup as, .tup bs] => some (.ok (.stat (zipD as bs)), μ)
  | [.lst as, .lst bs] => some (.ok (.stat (zipD as bs)), μ)
  | _ => none
def mSrc (f : List D → M Src) (m : Sg → M (List D)) (δ : Sg) : M Src := do
  let ds ← m δ
  f ds
theorem di_rng1 {a : Expr} {m : Sg → M (List D)} {p pos : Pos} (hg : Gl X "range") (hm : X.mg "range" = none) (ha : DAx X ca W [a] m) (hs : notStar a = true) : DIx X ca W tg (.Call (.Name "range" p) [a] [] pos) (mSrc rng1 m) := by
  refine PI.imp (pi_range1 hg hm ha (star_cons hs)) fun σ H R ⟨φ, μ, δ, a, q⟩ => ?_
  refine tG_bind (k := fun δ x => rng1 x) a q fun φ1 H1 μ1 x b e1 a1 r1 q1 => ?_
  unfold rng1 at q1
  split at q1
  · rename_i j
    split at q1
    · rename_i hj
      obtain ⟨v, rfl, h⟩ := repL_one r1
      have := rep_int.mp h
      subst this
      unfold LIM at hj
      exact ⟨j, rfl, by omega, by omega, endI_ok (W := W) q1 a1.m walks_rng⟩
    · exact q1.elim
  · exact q1.elim
theorem di_rng2 {a b : Expr} {m : Sg → M (List D)} {p pos : Pos} (hg : Gl X "range") (hm : X.mg "range" = none) (ha : DAx X ca W [a, b] m) (hs : notStar a = true) (hs' : notStar b = true) : DIx X ca W tg (.Call (.Name "range" p) [a, b] [] pos) (mSrc rng2 m) := by
  refine PI.imp (pi_range2 hg hm ha (by rw [star_cons hs, star_cons hs']; rfl) (star_cons hs')) fun σ H R ⟨φ, μ, δ, a, q⟩ => ?_
  refine tG_bind (k := fun δ x => rng2 x) a q fun φ1 H1 μ1 x b e1 a1 r1 q1 => ?_
  unfold rng2 at q1
  split at q1
  · rename_i i j
    split at q1
    · rename_i hj
      obtain ⟨v, u, rfl, h, h'⟩ := repL_two r1
      have := rep_int.mp h
      subst this
      have := rep_int.mp h'
      subst this
      unfold LIM at hj
      exact ⟨i, j, rfl, by omega, endI_ok (W := W) q1 a1.m walks_rng⟩
    · exact q1.elim
  · exact q1.elim
theorem di_enum {e : Expr} {elts : List Expr} {kk : Nat} {tpos : Pos} {m : Sg → M (List D)} {p pos : Pos} (hg : Gl X "enumerate") (hm : X.mg "enumerate" = none) (ha : DAx X ca W [e] m) (hs : notStar e = true) : DIx X ca W (.Tuple elts kk tpos) (.Call (.Name "enumerate" p) [e] [] pos) (mSrc enmS m) := by
  refine PI.imp (pi_enA hg hm ha (star_cons hs)) fun σ H R ⟨φ, μ, δ, a, q⟩ => ?_
  refine tG_bind (k := fun δ x => enmS x) a q fun φ1 H1 μ1 x b e1 a1 r1 q1 => ?_
  unfold enmS at q1
  split at q1
  · rename_i ds
    obtain ⟨v, rfl, h⟩ := repL_one r1
    obtain ⟨p, vs, rfl, k1, k2⟩ := tup_ok h
    exact ⟨p, vs, rfl, .inr ⟨.of k1, endI_ok (W := W) q1 a1.m (walks_enT h)⟩⟩
  · rename_i ds
    obtain ⟨v, rfl, h⟩ := repL_one r1
    obtain ⟨p, vs, rfl, k1, k2⟩ := lstOfS_ok (ds := ds) a1.m h rfl
    exact ⟨p, vs, rfl, .inl ⟨k1, endI_ok (W := W) q1 a1.m (walks_enL (fun _ => rfl) h)⟩⟩
  · exact q1.elim
theorem di_zip {e e2 : Expr} {elts : List Expr} {kk : Nat} {tpos : Pos} {m : Sg → M (List D)} {p pos : Pos} (hg : Gl X "zip") (hm : X.mg "zip" = none) (ha : DAx X ca W [e, e2] m) (hs : notStar e = true) (hs' : notStars [e2] = true) : DIx X ca W (.Tuple elts kk tpos) (.Call (.Name "zip" p) [e, e2] [] pos) (mSrc zipS m) := by
  refine PI.imp (RZ.pi_zipA hg hm ha (star_cons hs) (star_any hs')) fun σ H R ⟨φ, μ, δ, a, q⟩ => ?_
  refine tG_bind (k := fun δ x => zipS x) a q fun φ1 H1 μ1 x b e1 a1 r1 q1 => ?_
  unfold zipS at q1
  split at q1
  · rename_i as bs
    obtain ⟨v, u, rfl, h, h'⟩ := repL_two r1
    obtain ⟨p, vs, rfl, k1, k2⟩ := tup_ok h
    obtain ⟨p', vs', rfl, k1', k2'⟩ := tup_ok h'
    exact ⟨p, p', vs, vs', rfl, .inr ⟨.of k1, .of k1', endI_ok (W := W) q1 a1.m (walks_zipT h h')⟩⟩
  · rename_i as bs
    obtain ⟨v, u, rfl, h, h'⟩ := repL_two r1
    obtain ⟨p, vs, rfl, k1, k2⟩ := lstOfS_ok (ds := as) a1.m h rfl
    obtain ⟨p', vs', rfl, k1', k2'⟩ := lstOfS_ok (ds := bs) a1.m h' rfl
    exact ⟨p, p', vs, vs', rfl, .inl ⟨k1, k1', endI_ok (W := W) q1 a1.m (walks_zipL (fun _ => rfl) (fun _ => rfl) h h')⟩⟩
  · exact q1.elim

/-! ### for -/
def forI (s : Src) (t : GM) (b : SM) : Nat → Nat → SM
  | 0, _ => sNever
  | n + 1, i => fun δ μ => match srcAt s i μ with
    | none => none
    | some none => some (.nx, δ, μ)
    | some (some d) => match t d δ μ with
      | none => none
      | some (δ1, μ1) => sLoop (b δ1 μ1) (forI s t b n (i + 1))
def fuelOf (F : Nat) : Src → Nat
  | .stat ds => ds.length + 1
  | .dyn _ => F
def sFor (F : Nat) (m : Sg → M Src) (t : GM) (b : SM) : SM := bindE m fun s => forI s t b (fuelOf F s) 0
theorem ds_for {iter : Expr} {body : List Stmt} {m : Sg → M Src} {t : GM} {o : List Nat} {b : SM} {pos : Pos} (F : Nat) (hp : PassesOwn (model X.prog X.w) X.A X.env X.xe) (hc : X.calm = true) (hi : DIx X ca W tg iter m) (hg : DGx X ca tg o t) (hb : DBx X ca W body b)
    (hs : notSet iter = true) : DSx X ca W (.For tg iter body [] pos) (sFor F m t b) := by
  refine PS.imp (ps_for hp hc hi hg hb (folded_form hs)) fun D σ H ⟨φ, μ, δ, a, q⟩ => ?_
  refine tS_bindE (k := fun s => forI s t b (fuelOf F s) 0) a q fun φ1 H1 μ1 s J e1 a1 w1 q1 => ?_
  refine ⟨fun i n σ' H' => ∃ φ' μ' δ', Ext φ1 H1 φ' H' ∧ At (Gx X ca) φ' H' μ' δ' σ' ∧ EndS (Gx X ca) W φ' H' D (forI s t b n i δ' μ'), ⟨fuelOf F s, φ1, μ1, δ, Ext.refl _ _, a1, q1⟩, ?_⟩
  rintro i n σ' H' ⟨φ', μ', δ', x', a', q'⟩
  cases n with
  | zero => exact q'.elim
  | succ n =>
    have w := w1 i φ' H' μ' x' a'.m
    unfold forI at q'
    cases e : srcAt s i μ' with
    | none => simp only [e] at q'; exact q'.elim
    | some o =>
      cases o with
      | none =>
        simp only [e] at q' w
        exact .inl ⟨w, EndS.here (W := W) q' a'⟩
      | some d =>
        simp only [e] at q' w
        refine .inr ⟨w.1, fun σ' H' => ∃ φ' μ' δ', Ext φ1 H1 φ' H' ∧ At (Gx X ca) φ' H' μ' δ' σ' ∧ EndS (Gx X ca) W φ' H' D (forI s t b n (i + 1) δ' μ'), fun σ' H' h => ⟨n, Nat.lt_succ_self n, h⟩, fun x H'' y => ?_⟩
        obtain ⟨xe, me, re⟩ := w.2 x H'' y
        refine ⟨φ', μ', δ', d, ⟨a'.s.ext xe, me⟩, re, ?_⟩
        cases e2 : t d δ' μ' with
        | none => simp only [e2] at q'; exact q'.elim
        | some p =>
          obtain ⟨δ1, μ2⟩ := p
          simp only [e2] at q'
          refine fun φ2 H2 σ2 x2 a2 _ => ⟨φ2, μ2, δ1, a2, ?_⟩
          have q2 := EndS.mono (xe.trans x2) q'
          refine EndS.ends (D' := { D with nx := fun σ' H' => ∃ φ' μ' δ', Ext φ1 H1 φ' H' ∧ At (Gx X ca) φ' H' μ' δ' σ' ∧ EndS (Gx X ca) W φ' H' D (forI s t b n (i + 1) δ' μ'), ct := fun σ' H' => ∃ φ' μ' δ', Ext φ1 H1 φ' H' ∧ At (Gx X ca) φ' H' μ' δ' σ' ∧ EndS (Gx X ca) W φ' H' D (forI s t b n (i + 1) δ' μ'), bk := D.nx }) (k := fun f δ' μ' => match f with
            | .nx => forI s t b n (i + 1) δ' μ'
            | .ct => forI s t b n (i + 1) δ' μ'
            | .bk => some (.nx, δ', μ')
            | f => some (f, δ', μ')) q2 fun f δ3 μ3 φ3 H3 σ3 x3 a3 z => ?_
          have xx : Ext φ1 H1 φ3 H3 := x'.trans (xe.trans (x2.trans x3))
          cases f with
          | nx => exact ⟨φ3, μ3, δ3, xx, a3, z⟩
          | ct => exact ⟨φ3, μ3, δ3, xx, a3, z⟩
          | bk => exact EndS.here (W := W) z a3
          | rt d => exact EndS.here (W := W) z a3
          | xc i ns ds => exact EndS.here (W := W) z a3
end
end Iv
end
section
set_option Elab.async false
set_option linter.all false
set_option maxRecDepth 100000
set_option maxHeartbeats 4000000
/-! IvComp: list comprehensions. -/
namespace Iv
open PySem PySem.Spec L2

def wipeG (δ : Sg) : List Nat → Sg
  | [] => δ
  | v :: vs => (wipeG δ vs).set v none
theorem RepS.wipe {g : Gh} {φ : Ph} {H : Hp} {δ : Sg} {σ : St} (h : RepS g φ H δ σ) : ∀ vs : List Nat, RepS g φ H (wipeG δ vs) (L2.wipe σ vs)
  | [] => h
  | v :: vs => by
    have ih := RepS.wipe h vs
    refine ⟨?_, fun i d e => ?_⟩
    · show ((wipeG δ vs).set v none).length = ((L2.wipe σ vs).set v none).length
      rw [List.length_set, List.length_set]
      exact ih.1
    · have e' : ((wipeG δ vs).set v none)[i]? = some (some d) := e
      show ∃ u, ((L2.wipe σ vs).set v none)[i]? = some (some u) ∧ _
      by_cases hi : v = i
      · subst hi
        rw [List.getElem?_set] at e'
        simp only [if_true] at e'
        split at e' <;> cases e'
      · rw [List.getElem?_set_ne hi] at e' ⊢
        exact ih.2 i d e'
theorem wipe_wipe (σ : St) (vs : List Nat) : L2.wipe (L2.wipe σ vs) vs = L2.wipe σ vs := by
  refine List.ext_getElem? fun j => ?_
  rw [wipe_at, wipe_at]
  by_cases h : j ∈ vs
  · rw [if_pos h, if_pos h, Option.map_map]; rfl
  · rw [if_neg h, if_neg h]
/-- the turns: the new list is the cell b -/
def lcI (s : Src) (own : List Nat) (b : Nat) (t : GM) (c : Sg → M Bool) (e : Sg → M D) (δ : Sg) : Nat → Nat → Mu → Option Mu
  | 0, _ => fun _ => none
  | n + 1, i => fun μ => match srcAt s i μ with
    | none => none
    | some none => some μ
    | some (some d) => match t d (wipeG δ own) μ with
      | none => none
      | some (δ1, μ1) => match c δ1 μ1 with
        | some (.ok true, μ2) => (match e δ1 μ2 with
          | some (.ok y, μ3) => (match μ3[b]? with
            | some (.lst acc) => if acc.length < LIM then lcI s own b t c e δ n (i + 1) (μ3.set b (.lst (acc ++ [y]))) else none
            | _ => none)
          | _ => none)
        | some (.ok false, μ2) => lcI s own b t c e δ n (i + 1) μ2
        | _ => none
/-- the list, at the end -/
def endL (cell : Bool) (b : Nat) (μ : Mu) : Option (R D × Mu) := match μ[b]? with
  | some (.lst acc) => if cell then some (.ok (.cell b), μ) else if bndL b (μ.take b) && bndL b acc then some (.ok (.lst acc), μ.take b) else none
  | _ => none
def mLc (F : Nat) (cell : Bool) (m : Sg → M Src) (own : List Nat) (t : GM) (c : Sg → M Bool) (e : Sg → M D) (δ : Sg) : M D := do
  let s ← m δ
  fun μ => match lcI s own μ.length t c e δ (fuelOf F s) 0 (μ ++ [.lst []]) with
    | some μ' => endL cell μ.length μ'
    | none => none
abbrev WF : WX := fun _ _ _ _ => False
def tYesM : Sg → M Bool := fun _ => pure true
abbrev DTsx (X : Cx) (ca : Nat → Addr) (W : WX) (es : List Expr) (m : Sg → M Bool) : Prop := PTs X es (tG (Gx X ca) rB W m)
section
variable {X : Cx} {ca : Nat → Addr} {W : WX}
theorem dts_nil : DTsx X ca W [] tYesM := ⟨fun pins s σ H Q I ⟨φ, μ, δ, a, q⟩ => pts_nil.run pins s σ H Q I (endG_ok (W := W) (σ := σ) q a.m rfl)⟩
theorem dts_one {c : Expr} {m : Sg → M Bool} (h : DTx X ca W c m) : DTsx X ca W [c] m := pts_one h
theorem t_lc {g : Gh} {F : Nat} {cell : Bool} {m : Sg → M Src} {own : List Nat} {o : List Nat} {t : GM} {c : Sg → M Bool} {e : Sg → M D} (ho : ∀ i ∈ o, i ∈ own) {σ : St} {H : Hp} {Q : VK}
    (h : tG g (rD g) W (mLc F cell m own t c e) σ H Q) : tLc (tG g (rI g) W m) (tT g o t) (tG g rB WF c) (tG g (rD g) WF e) own σ H Q := by
  obtain ⟨φ, μ, δ, a, q⟩ := h
  refine tG_bind (k := fun δ s => fun μ => match lcI s own μ.length t c e δ (fuelOf F s) 0 (μ ++ [.lst []]) with
    | some μ' => endL cell μ.length μ'
    | none => none) a q fun φ1 H1 μ1 s J e1 a1 w1 q1 => ?_
  intro Dn hD
  have hl : φ1.length = μ1.length := a1.m.len
  have xD := Ext.cell (o := .lst []) a1.m hD
  have mD := a1.m.cell (d := .lst []) hD ⟨[], upd_same, .nil⟩
  let b := μ1.length
  let KK : Option Mu → Prop := fun r => ∃ μ', r = some μ' ∧ True
  refine ⟨fun i n H' => ∃ φ' μ', Ext (φ1 ++ [some Dn]) (upd H1 Dn (.lst [])) φ' H' ∧ RepMu g φ' H' μ' ∧
    EndG g (rD g) W σ φ1 H1 Q (match lcI s own b t c e δ n i μ' with
      | some μ' => endL cell b μ'
      | none => none), ⟨fuelOf F s, φ1 ++ [some Dn], μ1 ++ [.lst []], Ext.refl _ _, mD, q1⟩, ?_⟩
  rintro i n H' ⟨φ', μ', x', m', q'⟩
  have xx : Ext φ1 H1 φ' H' := xD.trans x'
  have atD : φ'[b]? = some (some Dn) ∨ φ'[b]? = some none := x'.pre b (some Dn) (by
    show (φ1 ++ [some Dn])[μ1.length]? = _
    rw [← hl, List.getElem?_append_right (Nat.le_refl _), Nat.sub_self]
    rfl)
  cases n with
  | zero => exact q'.elim
  | succ n =>
    have w := w1 i φ' H' μ' xx m'
    unfold lcI at q'
    cases e2 : srcAt s i μ' with
    | none => simp only [e2] at q'; exact q'.elim
    | some od =>
      cases od with
      | none =>
        simp only [e2] at q' w
        refine .inl ⟨w, ?_⟩
        unfold endL at q'
        split at q'
        · rename_i acc e3
          have hb : φ'[b]? = some (some Dn) := by
            rcases atD with z | z
            · exact z
            · have := m'.dead b z
              rw [e3] at this; cases this
          obtain ⟨vs, k1, k2⟩ := m'.at_ b Dn (.lst acc) hb e3
          split at q'
          · exact q' φ' H' _ xx m' (by
              show Rep g φ' H' (.cell b) (.ref Dn)
              unfold Rep
              rw [hb])
          · split at q'
            · rename_i hc
              rw [Bool.and_eq_true] at hc
              refine q' (φ'.take b) H' _ (xx.trim (by rw [hl]; exact Nat.le_refl _)) (m'.trim hc.1) ?_
              show Rep g (φ'.take b) H' (.lst acc) (.ref Dn)
              unfold Rep
              refine ⟨Dn, vs, rfl, fun z => ?_, k1, RepL.trim _ _ hc.2 k2⟩
              obtain ⟨j, hj⟩ := List.mem_iff_getElem?.mp z
              have h0 := (List.getElem?_eq_some_iff.mp hj).1
              rw [List.length_take] at h0
              rw [List.getElem?_take_of_lt (by omega)] at hj
              have := m'.nd j b Dn hj hb
              omega
            · exact q'.elim
        · exact q'.elim
      | some d =>
        simp only [e2] at q' w
        refine .inr ⟨w.1, fun H' => ∃ φ' μ', Ext (φ1 ++ [some Dn]) (upd H1 Dn (.lst [])) φ' H' ∧ RepMu g φ' H' μ' ∧
          EndG g (rD g) W σ φ1 H1 Q (match lcI s own b t c e δ n (i + 1) μ' with
            | some μ' => endL cell b μ'
            | none => none), fun H' h => ⟨n, Nat.lt_succ_self n, h⟩, fun x H'' y => ?_⟩
        obtain ⟨xe, me, re⟩ := w.2 x H'' y
        refine ⟨φ', μ', wipeG δ own, d, ⟨((a1.s.ext (xx.trans xe))).wipe own, me⟩, re, ?_⟩
        cases e3 : t d (wipeG δ own) μ' with
        | none => simp only [e3] at q'; exact q'.elim
        | some p =>
          obtain ⟨δ1, μ2⟩ := p
          simp only [e3] at q'
          refine fun φ2 H2 σ2 x2 a2 w2 => ⟨(w2 own ho).trans (wipe_wipe σ own), φ2, μ2, δ1, a2, ?_⟩
          cases e4 : c δ1 μ2 with
          | none => simp only [e4] at q'; exact q'.elim
          | some p =>
            obtain ⟨r, μ3⟩ := p
            cases r with
            | err => simp only [e4] at q'; exact q'.elim
            | ok tb =>
              intro φ3 H3 tb' x3 m3 rb
              cases rb
              have x03 : Ext (φ1 ++ [some Dn]) (upd H1 Dn (.lst [])) φ3 H3 := x'.trans (xe.trans (x2.trans x3))
              cases tb with
              | false =>
                simp only [e4] at q'
                rw [if_neg (by decide)]
                exact ⟨φ3, μ3, x03, m3, q'⟩
              | true =>
                simp only [e4] at q'
                rw [if_pos rfl]
                refine ⟨φ3, μ3, δ1, ⟨a2.s.ext x3, m3⟩, ?_⟩
                cases e5 : e δ1 μ3 with
                | none => simp only [e5] at q'; exact q'.elim
                | some p =>
                  obtain ⟨r, μ4⟩ := p
                  cases r with
                  | err => simp only [e5] at q'; exact q'.elim
                  | ok yd =>
                    intro φ4 H4 yv x4 m4 r4
                    simp only [e5] at q'
                    cases e6 : μ4[b]? with
                    | none => simp only [e6] at q'; exact q'.elim
                    | some cd =>
                      cases cd with
                      | lst acc =>
                        simp only [e6] at q'
                        have x04 := x03.trans x4
                        have atD4 : φ4[b]? = some (some Dn) := by
                          rcases x04.pre b (some Dn) (by
                            show (φ1 ++ [some Dn])[μ1.length]? = _
                            rw [← hl, List.getElem?_append_right (Nat.le_refl _), Nat.sub_self]
                            rfl) with z | z
                          · exact z
                          · have := m4.dead b z
                            rw [e6] at this; cases this
                        obtain ⟨vs, k1, k2⟩ := m4.at_ b Dn (.lst acc) atD4 e6
                        by_cases hlim : acc.length < LIM
                        · rw [if_pos hlim] at q'
                          have wx := Ext.write (o := .lst (vs ++ [yv])) m4 atD4 e6
                          refine ⟨vs, k1, ?_, φ4, μ4.set b (.lst (acc ++ [yd])), x04.trans wx, m4.write atD4 e6 ⟨vs ++ [yv], upd_same, (k2.append (.cons r4 .nil)).ext wx⟩, q'⟩
                          rw [← k2.length]
                          exact lim_lt hlim
                        · rw [if_neg hlim] at q'
                          exact q'.elim
                      | _ => simp only [e6] at q'; exact q'.elim
theorem de_lc {elt tg iter : Expr} {ifs : List Expr} {scope : Scope} {own : List (Str × Nat)} {pos : Pos} {m : Sg → M Src} {t : GM} {o : List Nat} {c : Sg → M Bool} {e : Sg → M D} (F : Nat) (cell : Bool) (hc : X.calm = true) (hN : X.N.Nodup) (hi : DIx X ca W tg iter m) (ok : blkC X.N X.env.scope scope own = true)
    (ho : ∀ i ∈ o, i ∈ own.map (·.2))
    (hg : ∀ (s : Shared) (H : Hp) (C : Addr) (cl : List (Str × Addr)) (fp : List Addr), DGx (X.blk s H scope (compEnvC scope cl C X.env) fp) ca tg o t) (ht : ∀ (s : Shared) (H : Hp) (C : Addr) (cl : List (Str × Addr)) (fp : List Addr), DTsx (X.blk s H scope (compEnvC scope cl C X.env) fp) ca WF ifs c)
    (he : ∀ (s : Shared) (H : Hp) (C : Addr) (cl : List (Str × Addr)) (fp : List Addr), DEx (X.blk s H scope (compEnvC scope cl C X.env) fp) ca WF elt e) (hs : notSet iter = true) :
    DEx X ca W (.ListComp elt [⟨tg, iter, ifs, 0⟩] scope pos) (mLc F cell m (own.map (·.2)) t c e) :=
  PE.imp (pe_lc (g := tT (Gx X ca) o t) (tt := tG (Gx X ca) rB WF c) (te := tG (Gx X ca) (rD (Gx X ca)) WF e) hc hN hi (blkOk_by ok) hg ht he (folded_form hs)) fun σ H Q h => t_lc (g := Gx X ca) ho h
theorem ds_setLc {i : Nat} {y : Str} {py : Pos} {elt tg iter : Expr} {ifs : List Expr} {scope : Scope} {own : List (Str × Nat)} {pos spos : Pos} {m : Sg → M Src} {t : GM} {o : List Nat} {c : Sg → M Bool} {e : Sg → M D} (F : Nat) (cell : Bool) (hc : X.calm = true) (hN : X.N.Nodup) (hy : X.N[i]? = some y) (hyl : X.env.scope.names.lookup y = some .local)
    (hsw : swapsWith (.ListComp elt [⟨tg, iter, ifs, 0⟩] scope pos) (some (.Name y py)) spos.line X.env = pure true) (hi : DIx X ca W tg iter m) (ok : blkC X.N X.env.scope scope own = true)
    (ho : ∀ i ∈ o, i ∈ own.map (·.2))
    (hg : ∀ (s : Shared) (H : Hp) (C : Addr) (cl : List (Str × Addr)) (fp : List Addr), DGx (X.blk s H scope (compEnvC scope cl C X.env) fp) ca tg o t) (ht : ∀ (s : Shared) (H : Hp) (C : Addr) (cl : List (Str × Addr)) (fp : List Addr), DTsx (X.blk s H scope (compEnvC scope cl C X.env) fp) ca WF ifs c)
    (he : ∀ (s : Shared) (H : Hp) (C : Addr) (cl : List (Str × Addr)) (fp : List Addr), DEx (X.blk s H scope (compEnvC scope cl C X.env) fp) ca WF elt e) (hs : notSet iter = true) :
    DSx X ca W (.Assign [.Name y py] (.ListComp elt [⟨tg, iter, ifs, 0⟩] scope pos) spos) (sAsg (mLc F cell m (own.map (·.2)) t c e) (gmName i)) := by
  refine PS.imp (ps_setLc (g := tT (Gx X ca) o t) (tt := tG (Gx X ca) rB WF c) (te := tG (Gx X ca) (rD (Gx X ca)) WF e) hc hN hy hyl hsw hi (blkOk_by ok) hg ht he (folded_form hs)) fun D σ H ⟨φ, μ, δ, a, q⟩ => ?_
  have hh : tG (Gx X ca) (rD (Gx X ca)) W (mLc F cell m (own.map (·.2)) t c e) σ H (fun x H1 => gName i x σ H1 D.nx) := by
    refine tS_bindE (k := fun d δ μ => match gmName i d δ μ with
      | some (δ', μ') => some (.nx, δ', μ')
      | none => none) a q fun φ1 H1 μ1 x b e1 a1 r1 q1 => ?_
    exact q1 φ1 H1 _ (Ext.refl _ _) ⟨a1.s.set i r1, a1.m⟩
  exact t_lc (g := Gx X ca) ho hh
end
end Iv
end
section
set_option Elab.async false
set_option linter.all false
set_option maxRecDepth 100000
set_option maxHeartbeats 4000000
/-! IvCall: displays, slices, fields, calls. -/
namespace Iv
open PySem PySem.Spec L2

theorem Here.blk {X : Cx} {W : WX} {k : Nat} (h : Here X W k) (s : Shared) (H : Hp) (scope : Scope) (cenv : Env) (fp : List Addr) : Here (X.blk s H scope cenv fp) WF k := ⟨h.nd, h.calm, h.room, takes0⟩

def mNil : Sg → M (List D) := fun _ => pure []
def mCons (m : Sg → M D) (n : Sg → M (List D)) (δ : Sg) : M (List D) := do
  let x ← m δ
  let xs ← n δ
  pure (x :: xs)
section
variable {X : Cx} {ca : Nat → Addr} {W : WX} {pos : Pos}
theorem da_nil : DAx X ca W [] mNil := PA.imp pa_nil fun σ H Q ⟨φ, μ, δ, a, q⟩ => endG_ok (W := W) (σ := σ) (rel := rDs (Gx X ca)) q a.m RepL.nil
theorem da_cons {e : Expr} {es : List Expr} {m : Sg → M D} {n : Sg → M (List D)} (h : DEx X ca W e m) (k : DAx X ca W es n) (hs : notStar e = true) : DAx X ca W (e :: es) (mCons m n) := by
  refine PA.imp (pa_cons h k (star_cons hs)) fun σ H Q ⟨φ, μ, δ, a, q⟩ => ?_
  refine tG_bind (k := fun δ x => do
    let xs ← n δ
    pure (x :: xs)) a q fun φ1 H1 μ1 x b e1 a1 r1 q1 => ?_
  refine tG_bind (k := fun δ xs => pure (x :: xs)) a1 q1 fun φ2 H2 μ2 xs bs e2 a2 r2 q2 => ?_
  exact endG_ok (W := W) (σ := σ) (rel := rDs (Gx X ca)) q2 a2.m (RepL.cons (r1.ext e2) r2)
/-- an operation on the arguments -/
def mOpL (f : List D → O D) (m : Sg → M (List D)) (δ : Sg) : M D := do
  let ds ← m δ
  M.op (f ds)
def tupMk : List D → O D := fun ds μ => if ds.length ≤ LIM then some (.tup ds, μ) else none
def lstMk (cell : Bool) : List D → O D := fun ds μ => if ds.length ≤ LIM then mkL cell ds μ else none
theorem de_tup {es : List Expr} {x1} {m : Sg → M (List D)} (h : DAx X ca W es m) : DEx X ca W (.Tuple es x1 pos) (mOpL tupMk m) := by
  refine PE.imp (pe_tup h) fun σ H Q ⟨φ, μ, δ, a, q⟩ => ?_
  refine tG_bind (k := fun δ x => M.op (tupMk x)) a q fun φ1 H1 μ1 x b e1 a1 r1 q1 => ?_
  have q2 := EndO.of q1
  unfold tupMk at q2
  split at q2
  · rename_i hl
    exact ⟨by rw [← RepL.length r1]; exact lim_size hl, new_tup a1.m r1 q2⟩
  · exact q2.elim
theorem de_lst {es : List Expr} {m : Sg → M (List D)} (cell : Bool) (h : DAx X ca W es m) : DEx X ca W (.List es pos) (mOpL (lstMk cell) m) := by
  refine PE.imp (pe_lst h) fun σ H Q ⟨φ, μ, δ, a, q⟩ => ?_
  refine tG_bind (k := fun δ x => M.op (lstMk cell x)) a q fun φ1 H1 μ1 x b e1 a1 r1 q1 => ?_
  have q2 := EndO.of q1
  unfold lstMk at q2
  split at q2
  · rename_i hl
    exact ⟨by rw [← RepL.length r1]; exact lim_size hl, new_lst a1.m r1 q2⟩
  · exact q2.elim
/-! slices -/
abbrev rQ {α : Type} : Rl α α := fun _ _ a b => a = b
abbrev DOx (X : Cx) (ca : Nat → Addr) (W : WX) (e : Option Expr) (m : Sg → M (Option Int)) : Prop := PO X e (tG (Gx X ca) rQ W m)
theorem PO.imp {e : Option Expr} {t t' : L2.TO} (h : PO X e t) (k : ∀ σ H Q, t' σ H Q → t σ H Q) : PO X e t' := ⟨fun pins s σ H Q I q => h.run pins s σ H Q I (k σ H Q q)⟩
def mNoPart : Sg → M (Option Int) := fun _ => pure none
def mPart (m : Sg → M D) (δ : Sg) : M (Option Int) := do
  let d ← m δ
  match d with
  | .int i => pure (some i)
  | _ => M.fail
theorem do_none : DOx X ca W none mNoPart := PO.imp po_none fun σ H Q ⟨φ, μ, δ, a, q⟩ => endG_ok (W := W) (σ := σ) (rel := rQ) q a.m rfl
theorem do_some {e : Expr} {m : Sg → M D} (h : DEx X ca W e m) : DOx X ca W (some e) (mPart m) := by
  refine PO.imp (po_some h) fun σ H Q ⟨φ, μ, δ, a, q⟩ => ?_
  refine tG_bind (k := fun δ d => match d with
    | .int i => pure (some i)
    | _ => M.fail) a q fun φ1 H1 μ1 x b e1 a1 r1 q1 => ?_
  cases x with
  | int i => exact ⟨i, rep_int.mp r1, endG_ok (W := W) (σ := σ) (rel := rQ) q1 a1.m rfl⟩
  | _ => exact q1.elim
def mSl (f : D → Option Int → Option Int → O D) (m : Sg → M D) (l u : Sg → M (Option Int)) (δ : Sg) : M D := do
  let d ← m δ
  let a ← l δ
  let b ← u δ
  M.op (f d a b)
theorem de_sl {e : Expr} {lo hi : Option Expr} {m : Sg → M D} {l u : Sg → M (Option Int)} {p2 : Pos} (cell : Bool) (h : DEx X ca W e m) (hl : DOx X ca W lo l) (hu : DOx X ca W hi u) : DEx X ca W (.Subscript e (.Slice lo hi none p2) pos) (mSl (slO cell) m l u) := by
  refine PE.imp (pe_slice (sl_ok (ca := ca) (cell := cell)) h hl hu) fun σ H Q ⟨φ, μ, δ, a, q⟩ => ?_
  refine tG_bind (k := fun δ d => do
    let a ← l δ
    let b ← u δ
    M.op (slO cell d a b)) a q fun φ1 H1 μ1 x b e1 a1 r1 q1 => ?_
  refine tG_bind (k := fun δ a => do
    let b ← u δ
    M.op (slO cell x a b)) a1 q1 fun φ2 H2 μ2 xl bl e2 a2 r2 q2 => ?_
  refine tG_bind (k := fun δ b => M.op (slO cell x xl b)) a2 q2 fun φ3 H3 μ3 xu bu e3 a3 r3 q3 => ?_
  cases r2
  cases r3
  exact ⟨φ3, μ3, x, a3.m, (r1.ext e2).ext e3, EndO.of q3⟩
/-! built-in calls -/
theorem t_cb {g : Gh} {f : List D → O D} {m : Sg → M (List D)} {σ : St} {H : Hp} {Q : VK} (h : tG g (rD g) W (mOpL f m) σ H Q) : tCB (rOL g f) (tG g (rDs g) W m) σ H Q := by
  obtain ⟨φ, μ, δ, a, q⟩ := h
  refine tG_bind (k := fun δ x => M.op (f x)) a q fun φ1 H1 μ1 x b e1 a1 r1 q1 => ?_
  exact ⟨φ1, μ1, x, a1.m, r1, EndO.of q1⟩
theorem de_callB {x : Str} {id : String} {p : Pos} {e : Expr} {es : List Expr} {f : List D → O D} {m : Sg → M (List D)} (hc : CallR X (.builtin id) (rOL (Gx X ca) f)) (hg : Gl X x) (hm : X.mg x = none) (hv : bootBuiltins x = some (.builtin id)) (ha : DAx X ca W (e :: es) m) (hn : x ≠ "__name__") (hdb : (x == ("__debug__" : Str)) = false)
    (hs : notStar e = true) (hs' : notStars es = true) : DEx X ca W (.Call (.Name x p) (e :: es) [] pos) (mOpL f m) :=
  PE.imp (pe_callB hc hg hm hv ha hn hdb (star_cons hs) (star_any hs')) fun _ _ _ h => t_cb h
theorem de_callTy {x : Str} {T : String} {p : Pos} {e : Expr} {es : List Expr} {f : List D → O D} {m : Sg → M (List D)} (hc : CallR X (.type T) (rOL (Gx X ca) f)) (hg : Gl X x) (hm : X.mg x = none) (hv : bootBuiltins x = some (.type T)) (ha : DAx X ca W (e :: es) m) (hn : x ≠ "__name__") (hdb : (x == ("__debug__" : Str)) = false)
    (hs : notStar e = true) (hs' : notStars es = true) : DEx X ca W (.Call (.Name x p) (e :: es) [] pos) (mOpL f m) :=
  PE.imp (pe_callTy hc hg hm hv ha hn hdb (star_cons hs) (star_any hs')) fun _ _ _ h => t_cb h
/-! built-in methods -/
def hasTy (T : String) (d : D) (μ : Mu) : Bool := match d with
  | .str _ => T == "str"
  | .lst _ => T == "list"
  | .cell n => match μ[n]? with
    | some (.lst _) => T == "list"
    | some (.dK _ _) => T == "dict"
    | some (.dT _ _) => T == "dict"
    | _ => false
  | .dK _ _ => T == "dict"
  | .dT _ _ => T == "dict"
  | _ => false
theorem hasTy_ok {g : Gh} {φ : Ph} {H : Hp} {μ : Mu} {d : D} {v : V} {T : String} (m : RepMu g φ H μ) (r : Rep g φ H d v) (h : hasTy T d μ = true) : tyV g.K T v H := by
  unfold hasTy at h
  split at h
  · have := rep_str.mp r
    subst this
    exact eq_of_beq h
  · rename_i ds
    obtain ⟨p, vs, rfl, k1, k2⟩ := lstOfS_ok (ds := ds) m r rfl
    exact .inl ⟨eq_of_beq h, vs, k1⟩
  · split at h
    · rename_i ds e
      obtain ⟨p, hp, rfl, vs, k1, k2⟩ := cell_at m r e (by intro z; cases z)
      exact .inl ⟨eq_of_beq h, vs, .of k1⟩
    · rename_i ks ds e
      obtain ⟨p, hp, rfl, vs, k1, k2⟩ := cell_at m r e (by intro z; cases z)
      exact .inr (.inr (.inl ⟨eq_of_beq h, .inl ⟨_, k1⟩⟩))
    · rename_i ks ds e
      obtain ⟨p, hp, rfl, vs, k1, k2⟩ := cell_at m r e (by intro z; cases z)
      exact .inr (.inr (.inl ⟨eq_of_beq h, .inr ⟨_, k1⟩⟩))
    · cases h
  · unfold Rep at r
    obtain ⟨p, vs, rfl, _, k1, _⟩ := r
    exact .inr (.inr (.inl ⟨eq_of_beq h, .inl ⟨_, k1⟩⟩))
  · unfold Rep at r
    obtain ⟨p, vs, rfl, _, k1, _⟩ := r
    exact .inr (.inr (.inl ⟨eq_of_beq h, .inr ⟨_, k1⟩⟩))
  · cases h
def ckTy (T : String) (d : D) : M Unit := fun μ => if hasTy T d μ then some (.ok (), μ) else none
def mBM (T : String) (f : D → List D → O D) (mo : Sg → M D) (ma : Sg → M (List D)) (δ : Sg) : M D := do
  let o ← mo δ
  ckTy T o
  let as ← ma δ
  M.op (f o as)
theorem ckTy_bind {α β : Type} {g : Gh} {rel : Rl α β} {σ : St} {φ : Ph} {H : Hp} {Q : β → Hp → Prop} {T : String} {d : D} {k : Unit → M α} {μ : Mu} (h : EndG g rel W σ φ H Q ((ckTy T d >>= k) μ)) : hasTy T d μ = true ∧ EndG g rel W σ φ H Q (k () μ) := by
  have h' : EndG g rel W σ φ H Q (M.bind (ckTy T d) k μ) := h
  unfold M.bind ckTy at h'
  by_cases c : hasTy T d μ = true
  · rw [if_pos c] at h'
    exact ⟨c, h'⟩
  · rw [if_neg c] at h'
    exact h'.elim
theorem de_bm {T id : String} {name : Str} {o e : Expr} {es : List Expr} {apos : Pos} {f : D → List D → O D} {mo : Sg → M D} {ma : Sg → M (List D)} (pa : PlainAttrs T) (slot : Slot T name id) (hty : typeOf (.builtin id) = pure (.type "method_descriptor")) (hm : MtR X id (rOM (Gx X ca) f)) (ho : DEx X ca W o mo) (ha : DAx X ca W (e :: es) ma)
    (hb : plainBase o = true)
    (hfew : ((backTo pos (starEach (e :: es) X.env)).all (fun x => !x.1) && (backToKw pos (keywordEach [] X.env)).all (fun x => x.1.isSome)
      && decide ((e :: es).length + ([] : List Keyword).length + (if ([] : List Keyword).isEmpty then 0 else 1) < 30)) = true)
    (hline : (apos.endLine == pos.line) = true) (hs : notStar e = true) (hs' : notStars es = true) :
    DEx X ca W (.Call (.Attribute o name apos) (e :: es) [] pos) (mBM T f mo ma) := by
  refine PE.imp (pe_bm pa slot hty hm ho ha (base_form hb) hfew hline (star_cons hs) (star_any hs')) fun σ H Q ⟨φ, μ, δ, a, q⟩ => ?_
  refine tG_bind (k := fun δ o => do
    ckTy T o
    let as ← ma δ
    M.op (f o as)) a q fun φ1 H1 μ1 x b e1 a1 r1 q1 => ?_
  obtain ⟨c, q2⟩ := ckTy_bind q1
  refine ⟨hasTy_ok a1.m r1 c, ?_⟩
  refine tG_bind (k := fun δ as => M.op (f x as)) a1 q2 fun φ2 H2 μ2 y bs e2 a2 r2 q3 => ?_
  exact ⟨φ2, μ2, x, y, a2.m, r1.ext e2, r2, EndO.of q3⟩
def mBM0 (T : String) (f : D → List D → O D) (mo : Sg → M D) (δ : Sg) : M D := do
  let o ← mo δ
  ckTy T o
  M.op (f o [])
theorem de_bm0 {T id : String} {name : Str} {o : Expr} {apos : Pos} {f : D → List D → O D} {mo : Sg → M D} (pa : PlainAttrs T) (slot : Slot T name id) (hty : typeOf (.builtin id) = pure (.type "method_descriptor")) (hm : MtR X id (rOM (Gx X ca) f)) (ho : DEx X ca W o mo)
    (hb : plainBase o = true) (hline : (apos.endLine == pos.line) = true) : DEx X ca W (.Call (.Attribute o name apos) [] [] pos) (mBM0 T f mo) := by
  refine PE.imp (pe_bm0 pa slot hty hm ho (base_form hb) hline) fun σ H Q ⟨φ, μ, δ, a, q⟩ => ?_
  refine tG_bind (k := fun δ o => do
    ckTy T o
    M.op (f o [])) a q fun φ1 H1 μ1 x b e1 a1 r1 q1 => ?_
  obtain ⟨c, q2⟩ := ckTy_bind q1
  exact ⟨hasTy_ok a1.m r1 c, φ1, μ1, x, [], a1.m, r1, RepL.nil, EndO.of q2⟩
/-! len(set(..)) of different ints -/
def intsOf : List D → Option (List Int)
  | [] => some []
  | .int i :: ds => match intsOf ds with
    | some is => some (i :: is)
    | none => none
  | _ => none
theorem intsOf_eq : ∀ {ds : List D} {is : List Int}, intsOf ds = some is → ds = is.map D.int
  | [], is, h => by cases h; rfl
  | d :: ds, is, h => by
    cases d with
    | int i =>
      unfold intsOf at h
      split at h
      · rename_i js e
        cases h
        rw [intsOf_eq e]
        rfl
      · cases h
    | _ => cases h
end
end Iv
end
section
set_option Elab.async false
set_option linter.all false
set_option maxRecDepth 100000
set_option maxHeartbeats 4000000
/-! IvSet: len(set(..)) of different ints, from a list or a tuple; dict displays; fields. -/
namespace Iv
open PySem PySem.Spec PyProof.Rows L2

theorem perm_len {as bs : List Int} (ha : as.Nodup) (hb : bs.Nodup) (h : ∀ k, k ∈ as ↔ k ∈ bs) : as.length = bs.length :=
  ((List.perm_ext_iff_of_nodup ha hb).mpr h).length_eq
def tLenT (K : PySem.W.Frag) (ta : TE) : TE := fun σ H Q => ta σ H fun x H1 => ∃ (l : Addr) (ns : List Int), x = .ref l ∧ SqT K H1 l (ns.map V.int) ∧ ns.Nodup ∧ ns.length ≤ 4000 ∧ Q (.int (ns.length : Nat)) H1
theorem pe_lenT {X : Cx} {a : Expr} {ta : TE} {p p2 q pos : Pos} (hg : Gl X "len") (hm : X.mg "len" = none) (hg2 : Gl X "set") (hm2 : X.mg "set" = none) (ha : PE X a ta) (hc : X.calm = true) (na : notStar a = true) :
    PE X (.Call (.Name "len" p) [.Call (.Name "set" p2) [a] [] q] [] pos) (tLenT X.K ta) := by
  have na' : starEach [a] X.env = (false, eval a X.env) :: starEach [] X.env := star_cons na
  refine ⟨fun pins s σ H Q I h => Call_ (ld_blt I hg hm boot_len (PyProof.Rows.callWith_builtin1 (PyProof.Rows.args_cons (Call_ (ld_blt I hg2 hm2 boot_set ?_)) rfl) rfl rfl))⟩
  refine PyProof.Rows.callWith_type1 (PyProof.Rows.args_cons (thn (ha.run pins s σ H _ I h) fun v s1 ⟨x, H1, J, r1, l, ns, ex, hq, nd, hl, z⟩ => PyProof.Rows.args_nil ?_) na') na' rfl
  subst ex
  cases r1
  obtain ⟨us, r, T, _⟩ := J.tuple hq
  refine call_set_tupI ns (J.ok.hd hc) (show s1.heap.IsTuple l us.toArray from T) (by simpa using RZ.intsAre_vals r) (by unfold scanBound; omega) fun h1 tk c R _ k => PyProof.Rows.args_nil ?_
  obtain ⟨o, es, ep, t, ho, hex, hd, _, nk, mk, hb, hf, hn, _, _⟩ := R
  have e : es.size = ns.length := by
    have := perm_len nk nd fun j => by rw [← mk j, decide_eq_true_eq]
    rw [List.length_map] at this
    simpa using this
  have J2 : Inv X pins σ H1 { s1 with heap := h1, toks := tk } := J.kept k
  exact call_len_set ho hex hd hf (by rw [e]; omega) ⟨.int ns.length, H1, J2.tok _, ⟨_, by rw [e]⟩, z⟩
def lenSetO (d : D) : O D := fun μ => match seqOf μ d with
  | some ds => match intsOf ds with
    | some ns => if ns.Nodup ∧ ns.length ≤ 4000 then some (.int (ns.length : Nat), μ) else none
    | none => none
  | none => none
theorem de_lenSet {X : Cx} {ca : Nat → Addr} {W : WX} {a : Expr} {m : Sg → M D} {p p2 q pos : Pos} (hg : Gl X "len") (hm : X.mg "len" = none) (hg2 : Gl X "set") (hm2 : X.mg "set" = none) (ha : DEx X ca W a m) (hc : X.calm = true) (na : notStar a = true) :
    DEx X ca W (.Call (.Name "len" p) [.Call (.Name "set" p2) [a] [] q] [] pos) (mOp1 lenSetO m) := by
  refine PE.imp (PE.or (pe_lenT hg hm hg2 hm2 ha hc na) (RZ.pe_lenSetI hg hm hg2 hm2 ha hc (star_cons na))) fun σ H Q ⟨φ, μ, δ, a, q⟩ => ?_
  by_cases ht : ∃ ds μ1, m δ μ = some (.ok (.tup ds), μ1)
  · refine .inl (tG_run (k := fun δ x => M.op (lenSetO x)) a q fun φ1 H1 μ1 x b e0 e1 a1 r1 q1 => ?_)
    obtain ⟨ds, μ2, e2⟩ := ht
    rw [e2] at e0
    cases e0
    have q2 := EndO.of q1
    unfold lenSetO at q2
    obtain ⟨p, vs, rfl, h1, h2⟩ := tup_ok r1
    show ∃ (l : Addr) (ns : List Int), _
    have es : seqOf μ1 (.tup ds) = some ds := rfl
    rw [es] at q2
    simp only at q2
    split at q2
    · rename_i ns en
      have := intsOf_eq en
      subst this
      split at q2
      · rename_i hc
        have := h2.of_ints
        subst this
        exact ⟨p, ns, rfl, SqT.of h1, hc.1, hc.2, q2.here a1.m (rep_int.mpr rfl)⟩
      · exact q2.elim
    · exact q2.elim
  · refine .inr (tG_run (k := fun δ x => M.op (lenSetO x)) a q fun φ1 H1 μ1 x b e0 e1 a1 r1 q1 => ?_)
    have q2 := EndO.of q1
    unfold lenSetO at q2
    split at q2
    · rename_i ds es
      have es' : lstOfS μ1 x = some ds := by
        cases x with
        | tup ds => exact absurd ⟨_, _, e0⟩ ht
        | _ => exact es
      obtain ⟨p, vs, rfl, h1, h2⟩ := lstOfS_ok a1.m r1 es'
      split at q2
      · rename_i ns en
        have := intsOf_eq en
        subst this
        split at q2
        · rename_i hc
          have := h2.of_ints
          subst this
          exact ⟨p, ns, rfl, h1, hc.1, hc.2, q2.here a1.m (rep_int.mpr rfl)⟩
        · exact q2.elim
      · exact q2.elim
    · exact q2.elim

/-! ### dict displays -/
/-- {} with keys that are ints or texts (false), tuples (true) -/
def newDK (cell : Bool) : O D := fun μ => if cell then some (.cell μ.length, μ ++ [.dK [] []]) else some (.dK [] [], μ)
def newDT (cell : Bool) : O D := fun μ => if cell then some (.cell μ.length, μ ++ [.dT [] []]) else some (.dT [] [], μ)
theorem de_dictK {X : Cx} {ca : Nat → Addr} {W : WX} {pos : Pos} (cell : Bool) : DEx X ca W (.Dict [] [] pos) (fun _ => M.op (newDK cell)) := by
  refine PE.imp pe_dnewK fun σ H Q ⟨φ, μ, δ, a, q⟩ => ?_
  have q2 := EndO.of q
  intro p hp
  cases cell with
  | false =>
    have e := Ext.laid (o := .dK []) a.m hp
    refine q2 φ _ (.ref p) e (a.m.laid hp) ?_
    unfold Rep
    exact ⟨p, [], rfl, a.m.notIn hp, upd_same, rfl, RepL.nil⟩
  | true =>
    have e := Ext.cell (o := .dK []) a.m hp
    refine q2 (φ ++ [some p]) _ (.ref p) e (a.m.cell hp ⟨[], upd_same, rfl, RepL.nil⟩) ?_
    unfold Rep
    rw [← a.m.len, List.getElem?_append_right (Nat.le_refl _), Nat.sub_self]
    rfl
theorem de_dictT {X : Cx} {ca : Nat → Addr} {W : WX} {pos : Pos} (cell : Bool) : DEx X ca W (.Dict [] [] pos) (fun _ => M.op (newDT cell)) := by
  refine PE.imp pe_dnewT fun σ H Q ⟨φ, μ, δ, a, q⟩ => ?_
  have q2 := EndO.of q
  intro p hp
  cases cell with
  | false =>
    have e := Ext.laid (o := .dT []) a.m hp
    refine q2 φ _ (.ref p) e (a.m.laid hp) ?_
    unfold Rep
    exact ⟨p, [], rfl, a.m.notIn hp, upd_same, rfl, RepL.nil⟩
  | true =>
    have e := Ext.cell (o := .dT []) a.m hp
    refine q2 (φ ++ [some p]) _ (.ref p) e (a.m.cell hp ⟨[], upd_same, rfl, RepL.nil⟩) ?_
    unfold Rep
    rw [← a.m.len, List.getElem?_append_right (Nat.le_refl _), Nat.sub_self]
    rfl
end Iv
end
section
set_option Elab.async false
set_option linter.all false
set_option maxRecDepth 100000
set_option maxHeartbeats 4000000
/-! IvOwn: fields; the program's own defs, methods, classes. -/
namespace Iv
open PySem PySem.Spec L2

/-! ### {k: v} of two ints -/
def oneDict (i j : Int) : O D := fun μ => some (.dK [.inl i] [.int j], μ)
section
variable {X : Cx} {ca : Nat → Addr} {W : WX} {pos : Pos}
theorem de_dict1 {i j : Int} {a b : Nat} {p1 p2 : Pos} : DEx X ca W (.Dict [some (.Constant (.int i) a p1)] [.Constant (.int j) b p2] pos) (fun _ => M.op (oneDict i j)) := by
  refine PE.imp (pe_disp (pps_cons pe_int pe_int pps_nil) rfl rfl (by intro z; cases z) (Nat.le_add_left 1 14)) fun σ H Q ⟨φ, μ, δ, a, q⟩ => ?_
  intro p hp
  show upd H p (.dK []) p = some (.dK []) ∧ _
  refine ⟨upd_same, [(.inl i, .int j)], rfl, Nat.le_add_left 1 14, ?_⟩
  have e1 : upd (upd H p (.dK [])) p (.dK (mergeK [] [(Sum.inl i, V.int j)])) = upd H p (.dK [(Sum.inl i, V.int j)]) := by
    funext b
    by_cases hb : b = p
    · subst hb; rw [upd_same, upd_same]; rfl
    · rw [upd_ne hb, upd_ne hb, upd_ne hb]
  rw [e1]
  have e := Ext.laid (o := .dK [(Sum.inl i, V.int j)]) a.m hp
  refine (EndO.of q) φ _ (.ref p) e (a.m.laid hp) ?_
  unfold Rep
  exact ⟨p, [.int j], rfl, a.m.notIn hp, upd_same, rfl, .cons (rep_int.mpr rfl) .nil⟩

/-! ### fields -/
def getN (f : Str) : List Str → List D → Option D
  | g :: ns, d :: ds => if g = f then some d else getN f ns ds
  | _, _ => none
def putN (f : Str) : List Str → List Str
  | [] => [f]
  | g :: ns => if g = f then g :: ns else g :: putN f ns
def putD {α : Type} (f : Str) (d : α) : List Str → List α → List α
  | [], _ => [d]
  | _ :: _, [] => []
  | g :: ns, x :: xs => if g = f then d :: xs else x :: putD f d ns xs
theorem getN_ok {g : Gh} {φ : Ph} {H : Hp} {f : Str} : ∀ {ns : List Str} {ds : List D} {vs : List V} {d : D}, getN f ns ds = some d → RepL g φ H ds vs → ∃ v, (ns.zip vs).lookup f = some v ∧ Rep g φ H d v
  | [], _, _, _, h, _ => by cases h
  | _ :: _, [], _, _, h, _ => by cases h
  | k :: ns, x :: ds, vs, d, h, r => by
    obtain ⟨v, t, rfl, r1, r2⟩ := r.cons_inv
    unfold getN at h
    rw [List.zip_cons_cons, List.lookup_cons]
    by_cases e : k = f
    · rw [if_pos e] at h
      cases h
      subst e
      exact ⟨v, by simp, r1⟩
    · rw [if_neg e] at h
      obtain ⟨u, h1, h2⟩ := getN_ok h r2
      refine ⟨u, ?_, h2⟩
      have : (f == k) = false := beq_eq_false_iff_ne.mpr fun z => e z.symm
      rw [this]
      exact h1
theorem putN_zip {f : Str} {v : V} : ∀ (ns : List Str) (vs : List V), ns.length = vs.length → putF f v (ns.zip vs) = (putN f ns).zip (putD f v ns vs) ∧ (putN f ns).length = (putD f v ns vs).length
  | [], [], _ => ⟨rfl, rfl⟩
  | [], _ :: _, h => by simp at h
  | _ :: _, [], h => by simp at h
  | k :: ns, x :: vs, h => by
    obtain ⟨i1, i2⟩ := putN_zip (f := f) (v := v) ns vs (by simpa using h)
    unfold putN putD
    rw [List.zip_cons_cons, putF]
    by_cases e : k = f
    · rw [if_pos e, if_pos e, if_pos e]
      exact ⟨rfl, by simpa using h⟩
    · rw [if_neg e, if_neg e, if_neg e, i1]
      exact ⟨rfl, by simp [i2]⟩
theorem RepL.putD {g : Gh} {φ : Ph} {H : Hp} {f : Str} {d : D} {v : V} (r : Rep g φ H d v) : ∀ (ns : List Str) (ds : List D) (vs : List V), ns.length = vs.length → RepL g φ H ds vs → RepL g φ H (putD f d ns ds) (Iv.putD f v ns vs)
  | [], _, _, _, _ => .cons r .nil
  | _ :: _, [], vs, hl, h => by rw [h.nil_inv] at hl; simp at hl
  | k :: ns, x :: ds, vs, hl, h => by
    obtain ⟨u, t, rfl, r1, r2⟩ := h.cons_inv
    unfold Iv.putD
    by_cases e : k = f
    · rw [if_pos e, if_pos e]; exact .cons r r2
    · rw [if_neg e, if_neg e]; exact .cons r1 (RepL.putD r ns ds t (by simpa using hl) r2)
/-- an instance's class and fields -/
def objOf (μ : Mu) : D → Option (Nat × List Str × List D)
  | .obj C ns ds => some (C, ns, ds)
  | .cell n => match μ[n]? with
    | some (.obj C ns ds) => some (C, ns, ds)
    | _ => none
  | _ => none
theorem objOf_ok {g : Gh} {φ : Ph} {H : Hp} {μ : Mu} {d : D} {v : V} {C : Nat} {ns : List Str} {ds : List D} (m : RepMu g φ H μ) (r : Rep g φ H d v) (h : objOf μ d = some (C, ns, ds)) :
    ∃ a dx vs, v = .ref a ∧ H a = some (.ins (g.ca C) dx (ns.zip vs)) ∧ ns.length = vs.length ∧ RepL g φ H ds vs := by
  unfold objOf at h
  split at h
  · cases h
    unfold Rep at r
    obtain ⟨p, dx, vs, h1, _, h2, h3, h4⟩ := r
    exact ⟨p, dx, vs, h1, h2, h3, h4⟩
  · split at h <;> cases h
    rename_i e
    obtain ⟨a, _, rfl, dx, vs, h1, h2, h3⟩ := cell_at m r e (by intro z; cases z)
    exact ⟨a, dx, vs, rfl, h1, h2, h3⟩
  · cases h
/-- the classes cs have no attribute of that name of their own -/
def FldOk (K : PySem.W.Frag) (ca : Nat → Addr) (f : Str) (cs : List Nat) : Prop := ∀ C ∈ cs, Cls K (ca C) ∧ NoAttr K (ca C) f
def fldO (cs : List Nat) (f : Str) (d : D) : O D := fun μ => match objOf μ d with
  | some (C, ns, ds) => if C ∈ cs then match getN f ns ds with
    | some e => some (e, μ)
    | none => none
    else none
  | none => none
theorem de_fld {o : Expr} {f : Str} {m : Sg → M D} {cs : List Nat} (fo : FldOk X.K ca f cs) (h : DEx X ca W o m) (hb : plainBase o = true) : DEx X ca W (.Attribute o f pos) (mOp1 (fldO cs f) m) := by
  refine PE.imp (pe_fld h (base_form hb)) fun σ H Q ⟨φ, μ, δ, a, q⟩ => ?_
  refine tG_bind (k := fun δ x => M.op (fldO cs f x)) a q fun φ1 H1 μ1 x b e1 a1 r1 q1 => ?_
  have q2 := EndO.of q1
  unfold fldO at q2
  split at q2
  · rename_i C ns ds e2
    split at q2
    · rename_i hC
      split at q2
      · rename_i y e3
        obtain ⟨p, dx, vs, rfl, h1, h2, h3⟩ := objOf_ok a1.m r1 e2
        obtain ⟨v, h4, h5⟩ := getN_ok e3 h3
        exact ⟨p, _, dx, _, v, rfl, h1, (fo C hC).1, (fo C hC).2, h4, q2.here a1.m h5⟩
      · exact q2.elim
    · exact q2.elim
  · exact q2.elim
/-- o.f = e, o a cell -/
def sFldM (cs : List Nat) (f : Str) (mo me : Sg → M D) : SM := bindE me fun d => bindE mo fun o δ μ => match o with
  | .cell n => match μ[n]? with
    | some (.obj C ns ds) => if C ∈ cs ∧ ns.length < 1000 then some (.nx, δ, μ.set n (.obj C (putN f ns) (Iv.putD f d ns ds))) else none
    | _ => none
  | _ => none
theorem ds_fld {o e : Expr} {f : Str} {mo me : Sg → M D} {cs : List Nat} {pos' : Pos} (fo : FldOk X.K ca f cs) (ho : DEx X ca W o mo) (he : DEx X ca W e me) (hs : swapsWith e (some (.Attribute o f pos')) pos.line X.env = pure false) : DSx X ca W (.Assign [.Attribute o f pos'] e pos) (sFldM cs f mo me) := by
  refine PS.imp (ps_fld ho he hs) fun D σ H ⟨φ, μ, δ, a, q⟩ => ?_
  refine tS_bindE (k := fun d => bindE mo fun o δ μ => match o with
    | .cell n => match μ[n]? with
      | some (.obj C ns ds) => if C ∈ cs ∧ ns.length < 1000 then some (.nx, δ, μ.set n (.obj C (putN f ns) (Iv.putD f d ns ds))) else none
      | _ => none
    | _ => none) a q fun φ1 H1 μ1 x b e1 a1 r1 q1 => ?_
  refine tS_bindE (k := fun o δ μ => match o with
    | .cell n => match μ[n]? with
      | some (.obj C ns ds) => if C ∈ cs ∧ ns.length < 1000 then some (.nx, δ, μ.set n (.obj C (putN f ns) (Iv.putD f x ns ds))) else none
      | _ => none
    | _ => none) a1 q1 fun φ2 H2 μ2 y c e2 a2 r2 q2 => ?_
  cases y with
  | cell n =>
    cases e3 : μ2[n]? with
    | none => simp only [e3] at q2; exact q2.elim
    | some cd =>
      cases cd with
      | obj C ns ds =>
        simp only [e3] at q2
        split at q2
        · rename_i hC
          obtain ⟨p, hp, rfl, dx, vs, h1, h2, h3⟩ := cell_at a2.m r2 e3 (by intro z; cases z)
          have hz : (ns.zip vs).length < 1000 := by rw [List.length_zip]; omega
          refine ⟨p, _, dx, _, rfl, h1, (fo C hC.1).1, (fo C hC.1).2, hz, ?_⟩
          obtain ⟨z1, z2⟩ := putN_zip (f := f) (v := b) ns vs h2
          rw [z1]
          have w := Ext.write (o := .ins (ca C) dx ((putN f ns).zip (Iv.putD f b ns vs))) a2.m hp e3
          refine q2 φ2 _ σ w ⟨a2.s.ext w, a2.m.write hp e3 ⟨dx, Iv.putD f b ns vs, upd_same, z2, ?_⟩⟩
          exact (RepL.putD (r1.ext e2) ns ds vs h2 h3).ext w
        · exact q2.elim
      | _ => simp only [e3] at q2; exact q2.elim
  | _ => exact q2.elim
end

/-! ### a def's promise -/
def EndX (g : Gh) (E : XK) (φ : Ph) (H : Hp) (Q : VK) : Option (R D × Mu) → Prop
  | none => False
  | some (.ok d, μ') => ∀ φ' H' v, Ext φ H φ' H' → RepMu g φ' H' μ' → Rep g φ' H' d v → Q v H'
  | some (.err i ns ds, μ') => ∀ φ' H' d, Ext φ H φ' H' → RepMu g φ' H' μ' → ErrAt g φ' H' ns ds d → E (.ref (g.ca i)) d H'
theorem EndX.of {g : Gh} {W : WX} {σ : St} {φ : Ph} {H : Hp} {Q : VK} : ∀ {r : Option (R D × Mu)}, EndG g (rD g) W σ φ H Q r → EndX g (WE W σ) φ H Q r
  | none, h => h
  | some (.ok _, _), h => h
  | some (.err _ _ _, _), h => h
def spF (g : Gh) (n : Nat) (f : List D → M D) : Sp := fun vs H Q E => ∃ φ μ ds, RepMu g φ H μ ∧ RepL g φ H ds vs ∧ ds.length = n ∧ EndX g E φ H Q (f ds μ)
/-- a def that may be called by a name -/
structure Own (P : Program) (w : World) (K : PySem.W.Frag) (mg : Str → Option Value) (base : Heap) (ca : Nat → Addr) (k : Nat) (x : Str) (n : Nat) (f : List D → M D) : Prop where
  ex : ∃ (a : Addr) (fd : FuncData) (ps : List Str), FnOk P w K mg base (L2.CX P w) k a fd ps (spF ⟨K, ca⟩ n f) ∧ mg x = some (.ref a) ∧ PySem.W.keepIn K (.ref a) = true ∧ Binds K fd ps []
def mCall (n : Nat) (f : List D → M D) (m : Sg → M (List D)) (δ : Sg) : M D := do
  let ds ← m δ
  if ds.length = n then f ds else M.fail
section
variable {X : Cx} {ca : Nat → Addr} {W : WX} {pos p : Pos} {j k n : Nat} {f : List D → M D} {m : Sg → M (List D)} {x : Str} {e : Expr} {es : List Expr}
theorem t_call {m : Sg → M (List D)} {σ : St} {H : Hp} {Q : VK} {g : Gh} (h : tG g (rD g) W (mCall n f m) σ H Q) : tG g (rDs g) W m σ H fun vs H1 => spF g n f vs H1 Q (WE W σ) := by
  obtain ⟨φ, μ, δ, a, q⟩ := h
  refine tG_bind (k := fun δ ds => if ds.length = n then f ds else M.fail) a q fun φ1 H1 μ1 x b e1 a1 r1 q1 => ?_
  by_cases hl : x.length = n
  · rw [if_pos hl] at q1
    exact ⟨φ1, μ1, x, a1.m, r1, hl, EndX.of q1⟩
  · rw [if_neg hl] at q1
    exact q1.elim
theorem de_own (c : Own X.prog X.w X.K X.mg X.base ca k x n f) (hh : Here X W j) (hk : k ≤ j) (hg : Gl X x) (ha : DAx X ca W (e :: es) m) (hdb : (x == ("__debug__" : Str)) = false) (hs : notStar e = true) (hs' : notStars es = true) :
    DEx X ca W (.Call (.Name x p) (e :: es) [] pos) (mCall n f m) := by
  obtain ⟨a, fd, ps, F, hm, kp, b⟩ := c.ex
  exact PE.imp (pe_callS (sp := spF (Gx X ca) n f) (E := WE W) F (hh.room.mono hk) hg hm kp b (passAt hh.tk) ha hdb (star_cons hs) (star_any hs')) fun σ H Q h => t_call h
end

/-! ### methods -/
structure OwnM (P : Program) (w : World) (K : PySem.W.Frag) (mg : Str → Option Value) (base : Heap) (ca : Nat → Addr) (k : Nat) (C : Nat) (x : Str) (n : Nat) (f : List D → M D) : Prop where
  ex : ∃ (a : Addr) (fd : FuncData) (ps : List Str), FnOk P w K mg base (L2.CX P w) k a fd ps (spF ⟨K, ca⟩ n f) ∧ Cls K (ca C) ∧ Meth K (ca C) x a ∧ Binds K fd ps []
def tMethS (C : Addr) (m : Str) (sp : Sp) (E : St → XK) (ta : TE) (t : TA) : TE := fun σ H Q => ta σ H fun x H1 => ∃ a dx fs, x = .ref a ∧ H1 a = some (.ins C dx fs) ∧ fs.lookup m = none ∧
  t σ H1 fun vs H2 => sp (x :: vs) H2 Q (E σ)
section
variable {X : Cx} {CX : CXT} {k : Nat} {f C : Addr} {fd : FuncData} {ps : List Str} {sp : Sp} {E : St → XK} {m : Str} {pos apos : Pos} {o : Expr} {es : List Expr} {ta : TE} {t : TA}
theorem pe_methA {pl : Sem Bool} (he : PE X o ta) (c : Cls X.K C) (hm : Meth X.K C m f) (F : FnOk X.prog X.w X.K X.mg X.base CX k f fd ps sp) (hr : Room k X.A) (hb : Binds X.K fd ps []) (hx : ∀ σ, PassesAt CX X σ (E σ)) {e : Expr} (ha : PA X (e :: es) t)
    (hst : starEach (e :: es) X.env = (false, eval e X.env) :: starEach es X.env) (hpl : (backTo pos (starEach es X.env)).any (·.1) = false)
    (ht : eval (.Call (.Attribute o m apos) (e :: es) [] pos) X.env = (do
      let ov ← eval o X.env
      standAt apos.atName
      let (f, first) ← holding [ov] (getMethod ov m pl)
      callWith pos f first (backTo pos (starEach (e :: es) X.env)) (backToKw pos (keywordEach [] X.env)))) : PE X (.Call (.Attribute o m apos) (e :: es) [] pos) (tMethS C m sp E ta t) := by
  refine ⟨fun pins s σ H Q I h => PySem.W.methodCall_KW (pl := pl) (thn (he.run pins s σ H _ I h) fun u s1 ⟨x, H1, I1, rx, a, dx, fs, ex, ea, l, q⟩ => ?_) ht⟩
  subst ex
  obtain rfl : u = Value.ref a := rx
  refine getmeth_ok I1 ea c hm l (PySem.W.callWith_K (first := [.ref a]) (h₀ := X.base) I1.ok.mod.kin hm.kp (thn (ha.run pos pins s1 σ H1 _ I1 q) fun us s2 ⟨vs, H2, I2, r, q2⟩ => ⟨I2.kIn, ?_⟩) hst hpl)
  exact run_fnS (us := .ref a :: us) (vs := .ref a :: vs) F hr hb (hx σ) I2 (.cons rfl r) q2
theorem pe_methA0 {pl : Sem Bool} (he : PE X o ta) (c : Cls X.K C) (hm : Meth X.K C m f) (F : FnOk X.prog X.w X.K X.mg X.base CX k f fd ps sp) (hr : Room k X.A) (hb : Binds X.K fd ps []) (hx : ∀ σ, PassesAt CX X σ (E σ))
    (ht : eval (.Call (.Attribute o m apos) [] [] pos) X.env = (do
      let ov ← eval o X.env
      standAt apos.atName
      let (f, first) ← holding [ov] (getMethod ov m pl)
      callWith pos f first (backTo pos (starEach [] X.env)) (backToKw pos (keywordEach [] X.env)))) : PE X (.Call (.Attribute o m apos) [] [] pos) (tMethS C m sp E ta tNil) := by
  refine ⟨fun pins s σ H Q I h => PySem.W.methodCall_KW (pl := pl) (thn (he.run pins s σ H _ I h) fun u s1 ⟨x, H1, I1, rx, a, dx, fs, ex, ea, l, q⟩ => ?_) ht⟩
  subst ex
  obtain rfl : u = Value.ref a := rx
  exact getmeth_ok I1 ea c hm l (PySem.W.callWith_K0 (first := [.ref a]) I1.kIn hm.kp (run_fnS (us := [.ref a]) (vs := [.ref a]) F hr hb (hx σ) I1 (.cons rfl .nil) q))
end
/-- o is an instance of C, without a field of the name -/
def ckIns (C : Nat) (x : Str) (d : D) : M Unit := fun μ => match objOf μ d with
  | some (C', ns, ds) => if C' = C ∧ x ∉ ns then some (.ok (), μ) else none
  | none => none
def mMeth (C : Nat) (x : Str) (n : Nat) (f : List D → M D) (mo : Sg → M D) (ma : Sg → M (List D)) (δ : Sg) : M D := do
  let o ← mo δ
  ckIns C x o
  let as ← ma δ
  if as.length + 1 = n then f (o :: as) else M.fail
section
variable {X : Cx} {ca : Nat → Addr} {W : WX} {pos apos : Pos} {j k n C : Nat} {f : List D → M D} {mo : Sg → M D} {ma : Sg → M (List D)} {x : Str} {o e : Expr} {es : List Expr}
theorem no_look {x : Str} : ∀ {ns : List Str} {vs : List V}, x ∉ ns → (ns.zip vs).lookup x = none
  | [], _, _ => rfl
  | _ :: _, [], _ => rfl
  | y :: ns, v :: vs, h => by
    rw [List.zip_cons_cons, List.lookup_cons]
    have : (x == y) = false := beq_eq_false_iff_ne.mpr fun z => h (by rw [z]; exact List.mem_cons_self)
    rw [this]
    exact no_look fun z => h (List.mem_cons_of_mem _ z)
theorem t_meth {g : Gh} {σ : St} {H : Hp} {Q : VK} (h : tG g (rD g) W (mMeth C x n f mo ma) σ H Q) : tMethS (g.ca C) x (spF g n f) (WE W) (tG g (rD g) W mo) (tG g (rDs g) W ma) σ H Q := by
  obtain ⟨φ, μ, δ, a, q⟩ := h
  refine tG_bind (k := fun δ o => do
    ckIns C x o
    let as ← ma δ
    if as.length + 1 = n then f (o :: as) else M.fail) a q fun φ1 H1 μ1 d b e1 a1 r1 q1 => ?_
  have q1' : EndG g (rD g) W σ φ1 H1 Q (M.bind (ckIns C x d) (fun _ => do
    let as ← ma δ
    if as.length + 1 = n then f (d :: as) else M.fail) μ1) := q1
  unfold M.bind ckIns at q1'
  cases e2 : objOf μ1 d with
  | none => rw [e2] at q1'; exact q1'.elim
  | some p =>
    obtain ⟨C', ns, ds⟩ := p
    rw [e2] at q1'
    simp only at q1'
    by_cases hc : C' = C ∧ x ∉ ns
    · rw [if_pos hc] at q1'
      obtain ⟨rfl, hx⟩ := hc
      obtain ⟨p, dx, vs, rfl, h1, h2, h3⟩ := objOf_ok a1.m r1 e2
      refine ⟨p, dx, _, rfl, h1, no_look hx, ?_⟩
      refine tG_bind (k := fun δ as => if as.length + 1 = n then f (d :: as) else M.fail) a1 q1' fun φ2 H2 μ2 y bs e3 a2 r2 q2 => ?_
      by_cases hl : y.length + 1 = n
      · rw [if_pos hl] at q2
        exact ⟨φ2, μ2, d :: y, a2.m, .cons (r1.ext e3) r2, hl, EndX.of q2⟩
      · rw [if_neg hl] at q2
        exact q2.elim
    · rw [if_neg hc] at q1'
      exact q1'.elim
theorem de_meth {pl : Sem Bool} (c : OwnM X.prog X.w X.K X.mg X.base ca k C x n f) (hh : Here X W j) (hk : k ≤ j) (ho : DEx X ca W o mo) (ha : DAx X ca W (e :: es) ma) (hs : notStar e = true) (hs' : notStars es = true)
    (ht : eval (.Call (.Attribute o x apos) (e :: es) [] pos) X.env = (do
      let ov ← eval o X.env
      standAt apos.atName
      let (f, first) ← holding [ov] (getMethod ov x pl)
      callWith pos f first (backTo pos (starEach (e :: es) X.env)) (backToKw pos (keywordEach [] X.env)))) : DEx X ca W (.Call (.Attribute o x apos) (e :: es) [] pos) (mMeth C x n f mo ma) := by
  obtain ⟨a, fd, ps, F, hC, hm, b⟩ := c.ex
  exact PE.imp (pe_methA (pl := pl) (sp := spF (Gx X ca) n f) (E := WE W) ho hC hm F (hh.room.mono hk) b (passAt hh.tk) ha (star_cons hs) (star_any hs') ht) fun σ H Q h => t_meth (g := Gx X ca) h
theorem de_meth0 {pl : Sem Bool} (c : OwnM X.prog X.w X.K X.mg X.base ca k C x n f) (hh : Here X W j) (hk : k ≤ j) (ho : DEx X ca W o mo)
    (ht : eval (.Call (.Attribute o x apos) [] [] pos) X.env = (do
      let ov ← eval o X.env
      standAt apos.atName
      let (f, first) ← holding [ov] (getMethod ov x pl)
      callWith pos f first (backTo pos (starEach [] X.env)) (backToKw pos (keywordEach [] X.env)))) : DEx X ca W (.Call (.Attribute o x apos) [] [] pos) (mMeth C x n f mo mNil) := by
  obtain ⟨a, fd, ps, F, hC, hm, b⟩ := c.ex
  refine PE.imp (pe_methA0 (pl := pl) (sp := spF (Gx X ca) n f) (E := WE W) ho hC hm F (hh.room.mono hk) b (passAt hh.tk) ht) fun σ H Q h => ?_
  obtain ⟨φ, μ, δ, a, q⟩ := t_meth (g := Gx X ca) h
  have key : EndG (Gx X ca) (rD (Gx X ca)) W σ φ H (fun x1 H1 => ∃ a dx fs, x1 = V.ref a ∧ H1 a = some (HO.ins (ca C) dx fs) ∧ fs.lookup x = none ∧ tNil σ H1 fun vs H2 => spF (Gx X ca) n f (x1 :: vs) H2 Q (WE W σ)) (mo δ μ) := by
    cases e : mo δ μ with
    | none => rw [e] at q; exact q
    | some p =>
      obtain ⟨r, μ'⟩ := p
      rw [e] at q
      cases r with
      | err => exact q
      | ok d =>
        intro φ' H' v x1 m1 r1
        obtain ⟨p, dx, fs, h1, h2, h3, h4⟩ := q φ' H' v x1 m1 r1
        obtain ⟨φ2, μ2, δ2, a2, q2⟩ := h4
        exact ⟨p, dx, fs, h1, h2, h3, endG_ok (W := W) (σ := σ) (rel := rDs (Gx X ca)) q2 a2.m RepL.nil⟩
  exact ⟨φ, μ, δ, a, key⟩
end
end Iv
end
section
set_option Elab.async false
set_option linter.all false
set_option maxRecDepth 100000
set_option maxHeartbeats 4000000
/-! IvFn: a def by its body; a class made. -/
namespace Iv
open PySem PySem.Spec L2

def DEPTH : Nat := 12
/-- a def's value, its own cells at an end (keep: the value is one of them) -/
def finD (keep : Bool) (b : Nat) (d : D) (μ : Mu) : Option (D × Mu) :=
  if keep then match d with
    | .cell k => match μ[k]? with
      | some (.lst ds) => if b ≤ k ∧ bndL b ds = true ∧ bndL b (μ.take b) = true then some (.cell b, μ.take b ++ [.lst ds]) else none
      | _ => none
    | _ => none
  else if μ.length ≤ b then some (d, μ)
  else match frz DEPTH b μ d with
    | some e => if bndL b (μ.take b) then some (e, μ.take b) else none
    | none => none
def finL (b : Nat) (ds : List D) (μ : Mu) : Option (List D × Mu) :=
  if μ.length ≤ b then some (ds, μ)
  else match mapO (frz DEPTH b μ) ds with
    | some es => if bndL b (μ.take b) then some (es, μ.take b) else none
    | none => none
section
variable {g : Gh} {φ ψ : Ph} {H : Hp} {b : Nat}
mutual
theorem Rep.up (ag : ∀ n, n < b → ψ[n]? = φ[n]?) (no : ∀ p : Addr, some p ∉ φ → some p ∉ ψ) : ∀ (d : D) (v : V), bnd b d = true → Rep g φ H d v → Rep g ψ H d v
  | .non, v, _, h => by unfold Rep at h ⊢; exact h
  | .bl _, v, _, h => by unfold Rep at h ⊢; exact h
  | .int i, v, _, h => by unfold Rep at h ⊢; exact h
  | .str x, v, _, h => by unfold Rep at h ⊢; exact h
  | .ty n, v, _, h => by unfold Rep at h ⊢; exact h
  | .cls i, v, _, h => by unfold Rep at h ⊢; exact h
  | .script ns, v, _, h => by unfold Rep at h ⊢; exact h
  | .tup ds, v, k, h => by
    unfold Rep at h ⊢
    unfold bnd at k
    obtain ⟨p, vs, h1, h2, h3⟩ := h
    exact ⟨p, vs, h1, h2, RepL.up ag no ds vs k h3⟩
  | .lst ds, v, k, h => by
    unfold Rep at h ⊢
    unfold bnd at k
    obtain ⟨p, vs, h1, h2, h3, h4⟩ := h
    exact ⟨p, vs, h1, no _ h2, h3, RepL.up ag no ds vs k h4⟩
  | .obj C ns ds, v, k, h => by
    unfold Rep at h ⊢
    unfold bnd at k
    obtain ⟨p, dx, vs, h1, h2, h3, h4, h5⟩ := h
    exact ⟨p, dx, vs, h1, no _ h2, h3, h4, RepL.up ag no ds vs k h5⟩
  | .dK ks ds, v, k, h => by
    unfold Rep at h ⊢
    unfold bnd at k
    obtain ⟨p, vs, h1, h2, h3, h4, h5⟩ := h
    exact ⟨p, vs, h1, no _ h2, h3, h4, RepL.up ag no ds vs k h5⟩
  | .dT ks ds, v, k, h => by
    unfold Rep at h ⊢
    unfold bnd at k
    obtain ⟨p, vs, h1, h2, h3, h4, h5⟩ := h
    exact ⟨p, vs, h1, no _ h2, h3, h4, RepL.up ag no ds vs k h5⟩
  | .cell n, v, k, h => by
    unfold Rep at h ⊢
    unfold bnd at k
    rw [ag n (of_decide_eq_true k)]
    exact h
theorem RepL.up (ag : ∀ n, n < b → ψ[n]? = φ[n]?) (no : ∀ p : Addr, some p ∉ φ → some p ∉ ψ) : ∀ (ds : List D) (vs : List V), bndL b ds = true → RepL g φ H ds vs → RepL g ψ H ds vs
  | [], vs, _, h => by unfold RepL at h ⊢; exact h
  | d :: ds, vs, k, h => by
    unfold RepL at h ⊢
    unfold bndL at k
    rw [Bool.and_eq_true] at k
    obtain ⟨v, r, h1, h2, h3⟩ := h
    exact ⟨v, r, h1, Rep.up ag no d v k.1 h2, RepL.up ag no ds r k.2 h3⟩
end
end
section
variable {g : Gh} {φ φ' : Ph} {H H' : Hp} {b : Nat} {μ μ' : Mu}
theorem RepMu.pick {k : Nat} {a : Addr} {ds : List D} (m : RepMu g φ H μ) (hk : φ[k]? = some (some a)) (hd : μ[k]? = some (.lst ds)) (hb : b ≤ k) (h1 : bndL b ds = true) (h2 : bndL b (μ.take b) = true) : RepMu g (φ.take b ++ [some a]) H (μ.take b ++ [.lst ds]) := by
  have t := m.trim h2
  have lb : (φ.take b).length = b := by
    have := (List.getElem?_eq_some_iff.mp hk).1
    rw [List.length_take]
    omega
  have lm : (μ.take b).length = b := by rw [← t.len, lb]
  have e0 : ∀ (l : Nat), ¬ l < b → ∀ {o : Option Addr}, (φ.take b ++ [some a])[l]? = some o → l = b ∧ o = some a := fun l hl o h => by
    rw [List.getElem?_append_right (by omega), lb] at h
    cases q : l - b with
    | zero => rw [q] at h; simp at h; exact ⟨by omega, h.symm⟩
    | succ j => rw [q] at h; simp at h
  have e1 : ∀ {d : D}, (μ.take b ++ [.lst ds])[b]? = some d → d = .lst ds := fun {d} h => by
    rw [List.getElem?_append_right (by omega), lm, Nat.sub_self] at h
    simp at h
    exact h.symm
  have old : ∀ {l : Nat} {c : Addr}, l < b → (φ.take b)[l]? = some (some c) → c ≠ a := fun {l c} hl h z => by
    subst z
    rw [List.getElem?_take_of_lt hl] at h
    have := m.nd l k c h hk
    omega
  -- what is represented above is represented with one cell more
  have up : ∀ {ds : List D} {vs : List V}, bndL b ds = true → RepL g φ H ds vs → RepL g (φ.take b ++ [some a]) H ds vs := fun {ds vs} hb' r => by
    exact RepL.up (fun n hn => by rw [List.getElem?_append_left (by rw [lb]; exact hn), List.getElem?_take_of_lt hn]) (fun p hp z => by
      rcases List.mem_append.mp z with q | q
      · exact hp (List.mem_of_mem_take q)
      · have : p = a := by simpa using q
        subst this
        exact hp (List.mem_of_getElem? hk)) ds vs hb' r
  refine ⟨by rw [List.length_append, List.length_append, lb, lm]; rfl, fun i j c h3 h4 => ?_, fun n c d h3 h4 => ?_, fun n h3 => ?_⟩
  · by_cases hi : i < b
    · by_cases hj : j < b
      · rw [List.getElem?_append_left (by omega)] at h3 h4
        exact t.nd i j c h3 h4
      · obtain ⟨rfl, z⟩ := e0 j hj h4
        cases z
        rw [List.getElem?_append_left (by omega)] at h3
        exact absurd rfl (old hi h3)
    · obtain ⟨rfl, z⟩ := e0 i hi h3
      cases z
      by_cases hj : j < i
      · rw [List.getElem?_append_left (by omega)] at h4
        exact absurd rfl (old hj h4)
      · exact (e0 j hj h4).1.symm
  · by_cases hn : n < b
    · rw [List.getElem?_append_left (by omega)] at h3 h4
      have kd : bnd b d = true := by
        have all : ∀ {l : List D}, bndL b l = true → ∀ {i : Nat} {x : D}, l[i]? = some x → bnd b x = true := fun {l} => by
          induction l with
          | nil => intro _ i x e; simp at e
          | cons y l ih =>
            intro h i x e
            unfold bndL at h
            rw [Bool.and_eq_true] at h
            cases i with
            | zero => simp at e; rw [← e]; exact h.1
            | succ i => exact ih h.2 (by simpa using e)
        exact all h2 h4
      rw [List.getElem?_take_of_lt hn] at h3 h4
      have c0 := m.at_ n c d h3 h4
      cases d with
      | lst es =>
        obtain ⟨vs, k1, k2⟩ := c0
        unfold bnd at kd
        exact ⟨vs, k1, up kd k2⟩
      | obj C ns es =>
        obtain ⟨dx, vs, k1, k2, k3⟩ := c0
        unfold bnd at kd
        exact ⟨dx, vs, k1, k2, up kd k3⟩
      | dK ks es =>
        obtain ⟨vs, k1, k2, k3⟩ := c0
        unfold bnd at kd
        exact ⟨vs, k1, k2, up kd k3⟩
      | dT ks es =>
        obtain ⟨vs, k1, k2, k3⟩ := c0
        unfold bnd at kd
        exact ⟨vs, k1, k2, up kd k3⟩
      | _ => exact (show False from c0).elim
    · obtain ⟨rfl, z⟩ := e0 n hn h3
      cases z
      have := e1 h4
      subst this
      obtain ⟨vs, k1, k2⟩ := m.at_ k a _ hk hd
      exact ⟨vs, k1, up h1 k2⟩
  · by_cases hn : n < b
    · rw [List.getElem?_append_left (by omega)] at h3 ⊢
      exact t.dead n h3
    · obtain ⟨_, z⟩ := e0 n hn h3
      cases z
theorem finD_ok {keep : Bool} {d e : D} {v : V} (m : RepMu g φ' H' μ) (r : Rep g φ' H' d v) (x : Ext φ H φ' H') (hb : φ.length ≤ b) (h : finD keep b d μ = some (e, μ')) : ∃ φ2, Ext φ H φ2 H' ∧ RepMu g φ2 H' μ' ∧ Rep g φ2 H' e v := by
  unfold finD at h
  cases keep with
  | true =>
    rw [if_pos rfl] at h
    split at h
    · rename_i k
      split at h
      · rename_i ds e0
        split at h
        · rename_i hc
          cases h
          obtain ⟨a, hp, rfl, _⟩ := cell_at m r e0 (by intro z; cases z)
          have lb : (φ'.take b).length = b := by
            have := (List.getElem?_eq_some_iff.mp hp).1
            rw [List.length_take]
            omega
          refine ⟨φ'.take b ++ [some a], ⟨fun n o q => ?_, x.keep, fun c q => ?_, x.frz, x.tup⟩, m.pick hp e0 hc.1 hc.2.1 hc.2.2, ?_⟩
          · have h0 := (List.getElem?_eq_some_iff.mp q).1
            rw [List.getElem?_append_left (by omega), List.getElem?_take_of_lt (by omega)]
            exact x.pre n o q
          · rcases List.mem_append.mp q with z | z
            · exact x.new c (List.mem_of_mem_take z)
            · have : c = a := by simpa using z
              subst this
              exact x.new c (List.mem_of_getElem? hp)
          · unfold Rep
            rw [List.getElem?_append_right (by omega), lb, Nat.sub_self]
            rfl
        · cases h
      · cases h
    · cases h
  | false =>
    rw [if_neg (by decide)] at h
    split at h
    · cases h
      exact ⟨φ', x, m, r⟩
    · split at h
      · rename_i e' e0
        split at h
        · rename_i hc
          cases h
          exact ⟨φ'.take b, x.trim hb, m.trim hc, frz_ok m _ _ _ _ e0 r⟩
        · cases h
      · cases h
theorem finL_ok {ds es : List D} {vs : List V} (m : RepMu g φ' H' μ) (r : RepL g φ' H' ds vs) (x : Ext φ H φ' H') (hb : φ.length ≤ b) (h : finL b ds μ = some (es, μ')) : ∃ φ2, Ext φ H φ2 H' ∧ RepMu g φ2 H' μ' ∧ RepL g φ2 H' es vs := by
  unfold finL at h
  split at h
  · cases h
    exact ⟨φ', x, m, r⟩
  · split at h
    · rename_i e' e0
      split at h
      · rename_i hc
        cases h
        exact ⟨φ'.take b, x.trim hb, m.trim hc, mapO_ok (frz_ok m _) e0 r⟩
      · cases h
    · cases h
theorem finE_ok {ns : List Str} {ds es : List D} {d : Option Addr} (m : RepMu g φ' H' μ) (r : ErrAt g φ' H' ns ds d) (x : Ext φ H φ' H') (hb : φ.length ≤ b) (h : finL b ds μ = some (es, μ')) : ∃ φ2, Ext φ H φ2 H' ∧ RepMu g φ2 H' μ' ∧ ErrAt g φ2 H' ns es d := by
  rcases r with ⟨rfl, rfl⟩ | ⟨dx, vs, rfl, h1, h2, h3⟩
  · obtain ⟨φ2, x2, m2, r2⟩ := finL_ok (vs := []) m RepL.nil x hb h
    refine ⟨φ2, x2, m2, .inl ⟨rfl, ?_⟩⟩
    have := r2.length
    exact List.eq_nil_of_length_eq_zero this
  · obtain ⟨φ2, x2, m2, r2⟩ := finL_ok m h3 x hb h
    exact ⟨φ2, x2, m2, .inr ⟨dx, vs, rfl, h1, h2, r2⟩⟩
end

/-! ### a def -/
def mFn (N n : Nat) (keep : Bool) (body : SM) (ds : List D) : M D := fun μ => match body (ds.map some ++ List.replicate (N - n) none) μ with
  | none => none
  | some (f, _, μ') => match f with
    | .nx => (finD false μ.length .non μ').map fun p => (.ok p.1, p.2)
    | .rt d => (finD keep μ.length d μ').map fun p => (.ok p.1, p.2)
    | .xc i ns es => (finL μ.length es μ').map fun p => (.err i ns p.1, p.2)
    | _ => none
abbrev xW (E : XK) : WX := fun cls d _ H => E cls d H
section
variable {P : Program} {w : World} {K : PySem.W.Frag} {mg : Str → Option Value} {base : Heap} {ca : Nat → Addr}
theorem here_cx {N : List Str} {qual : Str} {scope : Scope} {f : Addr} {cd : Value} {A : Around} {outer : List Env} {s : Shared} {H : Hp} {E : XK} {k : Nat} (nd : N.Nodup) (hr : Room k (A.deeper (PyProof.Rows.envOfC qual scope s.heap.objs.size f cd))) :
    Here (cxOf (L2.CX P w) P w K mg base N qual scope f cd A outer s H E) (xW E) k := ⟨nd, rfl, hr, takes_of rfl rfl rfl rfl⟩
theorem t_fn {N n : Nat} {keep : Bool} {body : SM} {H : Hp} {Q : VK} {E : XK} {vs : List V} {names : List Str} (hN : names.length = N) (h : spF ⟨K, ca⟩ n (mFn N n keep body) vs H Q E) : tS ⟨K, ca⟩ (xW E) body { nx := fun _ H' => Q .non H', rt := Q } (L2.start names vs) H := by
  obtain ⟨φ, μ, ds, m, r, hl, q⟩ := h
  have lv := r.length
  refine ⟨φ, μ, ds.map some ++ List.replicate (N - n) none, ⟨⟨?_, fun i d e => ?_⟩, m⟩, ?_⟩
  · unfold L2.start
    rw [List.length_append, List.length_append, List.length_map, List.length_map, List.length_replicate, List.length_replicate]
    omega
  · by_cases hi : i < ds.length
    · rw [List.getElem?_append_left (by simpa using hi), List.getElem?_map] at e
      cases e1 : ds[i]? with
      | none => rw [e1] at e; cases e
      | some d' =>
        rw [e1] at e; cases e
        obtain ⟨v, h1, h2⟩ := r.get e1
        refine ⟨v, ?_, h2⟩
        unfold L2.start
        rw [List.getElem?_append_left (by rw [List.length_map, ← lv]; exact hi), List.getElem?_map, h1]
        rfl
    · rw [List.getElem?_append_right (by simpa using hi), List.getElem?_replicate] at e
      split at e <;> cases e
  · unfold mFn at q
    cases e : body (ds.map some ++ List.replicate (N - n) none) μ with
    | none => rw [e] at q; exact q
    | some p =>
      obtain ⟨fl, δ', μ'⟩ := p
      rw [e] at q
      intro φ' H' σ' x a'
      cases fl with
      | nx =>
        simp only at q
        cases e2 : finD false μ.length .non μ' with
        | none => rw [e2] at q; exact q.elim
        | some p =>
          obtain ⟨d2, μ2⟩ := p
          rw [e2] at q
          obtain ⟨φ2, x2, m2, r2⟩ := finD_ok (b := μ.length) a'.m (rep_non.mpr rfl) x (Nat.le_of_eq m.len) e2
          exact q φ2 H' .non x2 m2 r2
      | rt d =>
        intro v rv
        simp only at q
        cases e2 : finD keep μ.length d μ' with
        | none => rw [e2] at q; exact q.elim
        | some p =>
          obtain ⟨d2, μ2⟩ := p
          rw [e2] at q
          obtain ⟨φ2, x2, m2, r2⟩ := finD_ok (b := μ.length) a'.m rv x (Nat.le_of_eq m.len) e2
          exact q φ2 H' v x2 m2 r2
      | xc i ns es =>
        intro d rd
        simp only at q
        cases e2 : finL μ.length es μ' with
        | none => rw [e2] at q; exact q.elim
        | some p =>
          obtain ⟨es2, μ2⟩ := p
          rw [e2] at q
          obtain ⟨φ2, x2, m2, r2⟩ := finE_ok (b := μ.length) a'.m rd x (Nat.le_of_eq m.len) e2
          exact q φ2 H' d x2 m2 r2
      | bk => exact q.elim
      | ct => exact q.elim
/-- THE RULE: a def of the text by its body -/
theorem fn_iv {x qual : Str} {st : Stmt} {f : Addr} {fd : FuncData} {names ps : List Str} {k : Nat} {keep : Bool} {body : SM} (F : C8.Fun K x qual st f fd) (S : C8.scC names ps (C8.fnScope st) = true)
    (hb : ∀ (cdv : Value) (A : Around) (outer : List Env) (s : Shared) (H : Hp) (E : XK), Room k (A.deeper (PyProof.Rows.envOfC qual (C8.fnScope st) s.heap.objs.size f cdv)) →
      DBx (cxOf (L2.CX P w) P w K mg base names qual (C8.fnScope st) f cdv A outer s H E) ca (xW E) (C8.fnBody st) body) :
    FnOk P w K mg base (L2.CX P w) (k + 1) f fd ps (spF ⟨K, ca⟩ ps.length (mFn names.length ps.length keep body)) := by
  obtain ⟨oc, od, dV, kV, doc, pm, an, cdv, ct, osl, rfl, lk, hcd⟩ := F.ex
  refine fn_of lk hcd (C8.fnScope_by S) (fun vs H Q E ⟨φ, μ, ds, m, r, hl, q⟩ => by rw [← r.length]; exact hl) fun A outer s H vs Q E hr hsp => ?_
  exact ⟨_, hb cdv A outer s H E hr, t_fn rfl hsp⟩
end
end Iv
end
section
set_option Elab.async false
set_option linter.all false
set_option maxRecDepth 100000
set_option maxHeartbeats 4000000
/-! IvMake: an instance made. -/
namespace Iv
open PySem PySem.Spec L2

structure OwnC (P : Program) (w : World) (K : PySem.W.Frag) (mg : Str → Option Value) (base : Heap) (ca : Nat → Addr) (k : Nat) (x : Str) (C : Nat) (n : Nat) (f : List D → M D) : Prop where
  ex : ∃ (a : Addr) (fd : FuncData) (ps : List Str), Mk K (ca C) a ∧ FnOk P w K mg base (L2.CX P w) k a fd ps (spF ⟨K, ca⟩ n f) ∧ mg x = some (.ref (ca C)) ∧ Binds K fd ps []
section
variable {X : Cx} {CX : CXT} {k : Nat} {f C : Addr} {fd : FuncData} {ps : List Str} {sp : Sp} {E : St → XK} {x : Str} {p pos : Pos} {e : Expr} {es : List Expr} {t : TA}
theorem made_S {pins : List (Addr × Obj)} {σ : St} {H : Hp} {s : Shared} {Q : VK} {us : List Value} {vs : List V} (K : Mk X.K C f) (F : FnOk X.prog X.w X.K X.mg X.base CX k f fd ps sp) (hr : Room (k + 1) X.A) (hb : Binds X.K fd ps [])
    (hx : PassesAt CX X σ (E σ)) (I : Inv X pins σ H s) (r : Vals vs us)
    (h : ∀ o d, H o = none → H d = none → d ≠ o → sp (.ref o :: vs) (upd (upd H d (.own o)) o (.ins C d [])) (fun v H2 => v = .non ∧ Q (.ref o) H2) (E σ)) : wpAny (model X.prog X.w) X.A (call (.ref C) us) (EP X pins σ Q) X.xe s := by
  generalize hn : s.heap.objs.size = n
  have q := h (n + 1) n (I.hok.fresh (by rw [hn]; exact Nat.le_succ _)) (I.hok.fresh (by rw [hn]; exact Nat.le_refl _)) (Nat.ne_of_lt (Nat.lt_succ_self _))
  have J := Inv.made (C := C) I
  rw [hn] at J
  have rr : Vals (V.ref (n + 1) :: vs) (Value.ref (n + 1) :: us) := .cons rfl r
  have hl : (Value.ref (n + 1) :: us ++ []).length = ps.length := by
    have z := rr.length
    rw [F.len _ _ _ _ q] at z
    rw [List.append_nil]
    exact z.symm
  have bb := hb _ (Value.ref (n + 1) :: us) J.kIn hl
  rw [List.append_nil] at bb
  have inner := F.run _ X.stack _ _ ⟨Value.ref (n + 1) :: us, []⟩ (Value.ref (n + 1) :: us) _ _ (E σ) (hr.make C us []) (J.env0.make C us []) bb rr q
  subst hn
  refine wpAny_call (make_map (f := f) I.kIn K.makes K.init (beq_iff_eq.mp K.fn) (codeAny_mono inner fun res u hq => ?_))
  cases res with
  | error z => exact hx pins _ _ z u J hq
  | ok fl =>
    cases fl with
    | ret y =>
      obtain ⟨v, H', I3, rv, ev, q3⟩ := J.after hq
      subst ev
      exact ⟨rv, ⟨V.ref (s.heap.objs.size + 1), H', I3, rfl, q3⟩⟩
    | next => exact False.elim hq
    | brk => exact False.elim hq
    | cont => exact False.elim hq
def tMakeS (C : Addr) (sp : Sp) (E : St → XK) (t : TA) : TE := fun σ H Q => t σ H fun vs H1 => ∀ o d, H1 o = none → H1 d = none → d ≠ o →
  sp (.ref o :: vs) (upd (upd H1 d (.own o)) o (.ins C d [])) (fun v H2 => v = .non ∧ Q (.ref o) H2) (E σ)
theorem pe_makeS (K : Mk X.K C f) (F : FnOk X.prog X.w X.K X.mg X.base CX k f fd ps sp) (hr : Room (k + 1) X.A) (hg : Gl X x) (hm : X.mg x = some (.ref C)) (hb : Binds X.K fd ps []) (hx : ∀ σ, PassesAt CX X σ (E σ))
    (ha : PA X (e :: es) t) (hdb : (x == ("__debug__" : Str)) = false) (he : starEach (e :: es) X.env = (false, eval e X.env) :: starEach es X.env) (hpl : (backTo pos (starEach es X.env)).any (·.1) = false) :
    PE X (.Call (.Name x p) (e :: es) [] pos) (tMakeS C sp E t) := by
  refine ⟨fun pins s σ H Q I h => wpAny_Call_Name_kw (ld_glob I hg hm ?_ hdb)⟩
  exact PySem.W.callWith_K (h₀ := X.base) I.ok.mod.kin K.kp (thn (ha.run pos pins s σ H _ I h) fun us u ⟨vs, H1, J, r, q⟩ => ⟨J.kIn, made_S K F hr hb (hx σ) J r q⟩) he hpl
end
/-- the instance is the cell b at first -/
def mMakeD (cell : Bool) (C n : Nat) (f : List D → M D) (as : List D) : M D := fun μ => if as.length + 1 = n then
    match f (.cell μ.length :: as) (μ ++ [.obj C [] []]) with
    | some (.ok .non, μ') => if cell then some (.ok (.cell μ.length), μ') else (finD false μ.length (.cell μ.length) μ').map fun p => (.ok p.1, p.2)
    | some (.err i ns es, μ') => (finL μ.length es μ').map fun p => (.err i ns p.1, p.2)
    | _ => none
  else none
def mMake (cell : Bool) (C n : Nat) (f : List D → M D) (m : Sg → M (List D)) (δ : Sg) : M D := do
  let as ← m δ
  mMakeD cell C n f as
section
variable {X : Cx} {ca : Nat → Addr} {W : WX} {pos p : Pos} {j k n C : Nat} {f : List D → M D} {m : Sg → M (List D)} {x : Str} {e : Expr} {es : List Expr}
theorem t_make {cell : Bool} {g : Gh} {σ : St} {H : Hp} {Q : VK} (h : tG g (rD g) W (mMake cell C n f m) σ H Q) : tMakeS (g.ca C) (spF g n f) (WE W) (tG g (rDs g) W m) σ H Q := by
  obtain ⟨φ, μ, δ, a, q⟩ := h
  refine tG_bind (k := fun δ as => mMakeD cell C n f as) a q fun φ1 H1 μ1 as b e1 a1 r1 q1 => ?_
  intro o d ho hd hne
  unfold mMakeD at q1
  by_cases hl : as.length + 1 = n
  · rw [if_pos hl] at q1
    have x1 := Ext.laid (o := .own o) a1.m hd
    have m1 := a1.m.laid (o := .own o) hd
    have ho' : upd H1 d (.own o) o = none := by rw [upd_ne (Ne.symm hne)]; exact ho
    have x2 := Ext.cell (o := .ins (g.ca C) d []) m1 ho'
    have m2 := m1.cell (o := .ins (g.ca C) d []) (d := .obj C [] []) ho' ⟨d, [], upd_same, rfl, RepL.nil⟩
    have x12 := x1.trans x2
    have rc : Rep g (φ1 ++ [some o]) (upd (upd H1 d (.own o)) o (.ins (g.ca C) d [])) (.cell μ1.length) (.ref o) := by
      unfold Rep
      rw [← a1.m.len, List.getElem?_append_right (Nat.le_refl _), Nat.sub_self]
      rfl
    refine ⟨φ1 ++ [some o], μ1 ++ [.obj C [] []], .cell μ1.length :: as, m2, .cons rc (RepL.ext x12 as b r1), hl, ?_⟩
    cases e2 : f (.cell μ1.length :: as) (μ1 ++ [.obj C [] []]) with
    | none => rw [e2] at q1; exact q1.elim
    | some p =>
      obtain ⟨rr, μ'⟩ := p
      rw [e2] at q1
      cases rr with
      | ok d' =>
        cases d' with
        | non =>
          intro φ' H' v x3 m3 r3
          have ev := rep_non.mp r3
          subst ev
          refine ⟨rfl, ?_⟩
          have rc' := rc.ext x3
          have xx := x12.trans x3
          cases cell with
          | true => exact q1 φ' H' _ xx m3 rc'
          | false =>
            simp only at q1
            rw [if_neg (by decide)] at q1
            cases e4 : finD false μ1.length (.cell μ1.length) μ' with
            | none => rw [e4] at q1; exact q1.elim
            | some p =>
              obtain ⟨d2, μ2⟩ := p
              rw [e4] at q1
              obtain ⟨φ2, y1, y2, y3⟩ := finD_ok (b := μ1.length) m3 rc' xx (Nat.le_of_eq a1.m.len) e4
              exact q1 φ2 H' _ y1 y2 y3
        | _ => exact q1.elim
      | err i ns es =>
        intro φ' H' dd x3 m3 r3
        simp only at q1
        cases e4 : finL μ1.length es μ' with
        | none => rw [e4] at q1; exact q1.elim
        | some p =>
          obtain ⟨es2, μ2⟩ := p
          rw [e4] at q1
          obtain ⟨φ2, y1, y2, y3⟩ := finE_ok (b := μ1.length) m3 r3 (x12.trans x3) (Nat.le_of_eq a1.m.len) e4
          exact q1 φ2 H' dd y1 y2 y3
  · rw [if_neg hl] at q1
    exact q1.elim
theorem de_make (cell : Bool) (c : OwnC X.prog X.w X.K X.mg X.base ca k x C n f) (hh : Here X W j) (hk : k + 1 ≤ j) (hg : Gl X x) (ha : DAx X ca W (e :: es) m) (hdb : (x == ("__debug__" : Str)) = false) (hs : notStar e = true) (hs' : notStars es = true) :
    DEx X ca W (.Call (.Name x p) (e :: es) [] pos) (mMake cell C n f m) := by
  obtain ⟨a, fd, ps, K, F, hm, b⟩ := c.ex
  exact PE.imp (pe_makeS (sp := spF (Gx X ca) n f) (E := WE W) K F (hh.room.mono hk) hg hm b (passAt hh.tk) ha hdb (star_cons hs) (star_any hs')) fun σ H Q h => t_make (g := Gx X ca) h
end
end Iv
end
section
set_option Elab.async false
set_option linter.all false
set_option maxRecDepth 100000
set_option maxHeartbeats 4000000
/-! IvSort: sorted(..) of tuples whose first item is an int. -/
namespace Iv
open PySem PySem.Spec L2

/-! ### lists of ints, in the dictionary's order -/
def lexI : List Int → List Int → Bool
  | _, [] => false
  | [], _ :: _ => true
  | x :: xs, y :: ys => if x = y then lexI xs ys else decide (x < y)
theorem lexI_irr : ∀ a : List Int, lexI a a = false
  | [] => rfl
  | x :: xs => by unfold lexI; rw [if_pos rfl]; exact lexI_irr xs
theorem lexI_tot : ∀ a b : List Int, lexI a b = false → lexI b a = false → a = b
  | [], [], _, _ => rfl
  | [], _ :: _, h, _ => by cases h
  | _ :: _, [], _, h => by cases h
  | x :: xs, y :: ys, h, k => by
    unfold lexI at h k
    by_cases e : x = y
    · subst e
      rw [if_pos rfl] at h k
      rw [lexI_tot xs ys h k]
    · rw [if_neg e] at h
      rw [if_neg (Ne.symm e)] at k
      have h1 := of_decide_eq_false h
      have h2 := of_decide_eq_false k
      omega
theorem lexI_asym : ∀ a b : List Int, lexI a b = true → lexI b a = false
  | _, [], h => by unfold lexI at h; cases h
  | [], _ :: _, _ => rfl
  | x :: xs, y :: ys, h => by
    unfold lexI at h ⊢
    by_cases e : x = y
    · subst e
      rw [if_pos rfl] at h ⊢
      exact lexI_asym xs ys h
    · rw [if_neg e] at h
      rw [if_neg (Ne.symm e)]
      have := of_decide_eq_true h
      exact decide_eq_false (by omega)
theorem lexI_tr : ∀ a b c : List Int, lexI b a = false → lexI c b = false → lexI c a = false
  | a, b, [], h, k => by
    cases b with
    | nil => exact h
    | cons y b => cases k
  | [], _, _ :: _, _, _ => rfl
  | x :: a, [], z :: c, h, _ => by cases h
  | x :: a, y :: b, z :: c, h, k => by
    unfold lexI at h k ⊢
    by_cases e1 : y = x
    · subst e1
      rw [if_pos rfl] at h
      by_cases e2 : z = y
      · subst e2
        rw [if_pos rfl] at k ⊢
        exact lexI_tr a b c h k
      · rw [if_neg e2] at k ⊢
        exact k
    · rw [if_neg e1] at h
      have h' := of_decide_eq_false h
      by_cases e2 : z = y
      · subst e2
        rw [if_neg e1]
        exact h
      · rw [if_neg e2] at k
        have k' := of_decide_eq_false k
        by_cases e3 : z = x
        · omega
        · rw [if_neg e3]
          exact decide_eq_false (by omega)
theorem lexI_pre : ∀ p a b : List Int, lexI (p ++ a) (p ++ b) = lexI a b
  | [], _, _ => rfl
  | x :: p, a, b => by
    show lexI (x :: (p ++ a)) (x :: (p ++ b)) = _
    rw [lexI, if_pos rfl]
    exact lexI_pre p a b

/-! ### codes -/
mutual
/-- a tuple of ints and of such tuples, as a list of ints -/
def code : PyData → List Int
  | .int i => [i]
  | .tuple ds => codeL ds
  | _ => []
def codeL : List PyData → List Int
  | [] => [0]
  | d :: ds => 1 :: (code d ++ codeL ds)
end
mutual
def srt : D → Bool
  | .int _ => true
  | .tup ds => srtL ds
  | _ => false
def srtL : List D → Bool
  | [] => true
  | d :: ds => srt d && srtL ds
end
mutual
theorem srt_eq : ∀ a b : D, srt a = true → srt b = true → eqD a b = true → a = b
  | .int i, .int j, _, _, h => by
    unfold eqD at h
    rw [of_decide_eq_true h]
  | .int _, .tup _, _, _, h => by unfold eqD at h; cases h
  | .tup _, .int _, _, _, h => by unfold eqD at h; cases h
  | .tup xs, .tup ys, h1, h2, h => by
    unfold srt at h1 h2
    unfold eqD at h
    rw [srtL_eq xs ys h1 h2 h]
theorem srtL_eq : ∀ a b : List D, srtL a = true → srtL b = true → eqL a b = true → a = b
  | [], [], _, _, _ => rfl
  | [], _ :: _, _, _, h => by unfold eqL at h; cases h
  | _ :: _, [], _, _, h => by unfold eqL at h; cases h
  | x :: xs, y :: ys, h1, h2, h => by
    unfold srtL at h1 h2
    unfold eqL at h
    rw [Bool.and_eq_true] at h1 h2 h
    rw [srt_eq x y h1.1 h2.1 h.1, srtL_eq xs ys h1.2 h2.2 h.2]
end
mutual
theorem code_cmp : ∀ (a b : D) (r : Bool) (s t : List Int), srt a = true → srt b = true → cmpD false a b = some r → lexI (code (pd a) ++ s) (code (pd b) ++ t) = if eqD a b = true then lexI s t else r
  | .int i, .int j, r, s, t, _, _, h => by
    simp only [cmpD, Bool.false_eq_true, if_false, Option.some.injEq] at h
    subst h
    have e0 : eqD (.int i) (.int j) = (i == j) := by unfold eqD; rfl
    rw [e0]
    simp only [pd, code]
    show lexI (i :: s) (j :: t) = _
    rw [lexI]
    by_cases e : i = j
    · rw [if_pos e, if_pos (beq_iff_eq.mpr e)]
    · rw [if_neg e, if_neg (by simpa using e)]
  | .int _, .tup _, _, _, _, _, _, h => by simp [cmpD] at h
  | .tup _, .int _, _, _, _, _, _, h => by simp [cmpD] at h
  | .tup xs, .tup ys, r, s, t, h1, h2, h => by
    unfold srt at h1 h2
    rw [cmpD] at h
    have := codeL_cmp xs ys r s t h1 h2 h
    simp only [pd, code, eqD]
    exact this
theorem codeL_cmp : ∀ (a b : List D) (r : Bool) (s t : List Int), srtL a = true → srtL b = true → cmpL false a b = some r → lexI (codeL (pdL a) ++ s) (codeL (pdL b) ++ t) = if eqL a b = true then lexI s t else r
  | [], [], r, s, t, _, _, h => by
    simp only [pdL, codeL, eqL, if_true]
    exact lexI_pre [0] s t
  | [], y :: ys, r, s, t, _, _, h => by
    simp only [cmpL, Option.some.injEq] at h
    subst h
    simp only [pdL, codeL, eqL]
    show lexI (0 :: s) (1 :: _) = _
    rfl
  | x :: xs, [], r, s, t, _, _, h => by
    simp only [cmpL, Option.some.injEq] at h
    subst h
    simp only [pdL, codeL, eqL]
    show lexI (1 :: _) (0 :: t) = _
    rfl
  | x :: xs, y :: ys, r, s, t, h1, h2, h => by
    unfold srtL at h1 h2
    rw [Bool.and_eq_true] at h1 h2
    rw [cmpL] at h
    cases q : cmpL false xs ys with
    | none => rw [q] at h; cases h
    | some r' =>
      rw [q] at h
      simp only at h
      have ih := codeL_cmp xs ys r' s t h1.2 h2.2 q
      rw [pdL_cons, pdL_cons]
      show lexI (1 :: (code (pd x) ++ codeL (pdL xs)) ++ s) (1 :: (code (pd y) ++ codeL (pdL ys)) ++ t) = _
      rw [List.cons_append, List.cons_append, lexI, if_pos rfl, List.append_assoc, List.append_assoc]
      by_cases e : eqD x y = true
      · rw [if_pos e] at h
        cases h
        have := srt_eq x y h1.1 h2.1 e
        subst this
        rw [lexI_pre, ih]
        have e2 : eqL (x :: xs) (x :: ys) = eqL xs ys := by rw [eqL, e, Bool.true_and]
        rw [e2]
      · rw [if_neg e] at h
        rw [code_cmp x y r _ _ h1.1 h2.1 h, if_neg e]
        have e2 : eqL (x :: xs) (y :: ys) = false := by
          have e' : eqD x y = false := by simpa using e
          rw [eqL, e', Bool.false_and]
        rw [e2]
        rfl
end
/-- d's code -/
def codeD (d : D) : List Int := code (pd d)
def insD (d : D) : List D → List D
  | [] => [d]
  | e :: r => if lexI (codeD e) (codeD d) = true then e :: insD d r else d :: e :: r
def isortD : List D → List D
  | [] => []
  | d :: r => insD d (isortD r)
theorem insD_perm (d : D) : ∀ l : List D, (insD d l).Perm (d :: l)
  | [] => List.Perm.refl _
  | e :: r => by
    unfold insD
    split
    · exact ((insD_perm d r).cons e).trans (List.Perm.swap d e r)
    · exact List.Perm.refl _
theorem isortD_perm : ∀ l : List D, (isortD l).Perm l
  | [] => List.Perm.refl _
  | d :: r => (insD_perm d _).trans ((isortD_perm r).cons d)
abbrev SrtdD (l : List D) : Prop := l.Pairwise fun x y => lexI (codeD y) (codeD x) = false
theorem insD_srtd (d : D) : ∀ l : List D, SrtdD l → SrtdD (insD d l)
  | [], _ => List.pairwise_singleton _ _
  | e :: r, h => by
    obtain ⟨h1, h2⟩ := List.pairwise_cons.mp h
    unfold insD
    split
    · rename_i q
      refine List.pairwise_cons.mpr ⟨fun y hy => ?_, insD_srtd d r h2⟩
      rcases List.mem_cons.mp ((insD_perm d r).mem_iff.mp hy) with z | z
      · rw [z]; exact lexI_asym _ _ q
      · exact h1 y z
    · rename_i q
      have q' : lexI (codeD e) (codeD d) = false := by simpa using q
      refine List.pairwise_cons.mpr ⟨fun y hy => ?_, h⟩
      rcases List.mem_cons.mp hy with z | z
      · rw [z]; exact q'
      · exact lexI_tr _ _ _ q' (h1 y z)
theorem isortD_srtd : ∀ l : List D, SrtdD (isortD l)
  | [] => List.Pairwise.nil
  | d :: r => insD_srtd d _ (isortD_srtd r)
/-- one sorted list alone -/
theorem srtd_one : ∀ (a b : List D), (∀ x ∈ a, ∀ y ∈ a, codeD x = codeD y → x = y) → a.Perm b → SrtdD a → SrtdD b → a = b
  | [], b, _, p, _, _ => (List.Perm.nil_eq p)
  | x :: a, [], _, p, _, _ => absurd p.length_eq (by simp)
  | x :: a, y :: b, inj, p, ha, hb => by
    obtain ⟨a1, a2⟩ := List.pairwise_cons.mp ha
    obtain ⟨b1, b2⟩ := List.pairwise_cons.mp hb
    have my : y ∈ x :: a := p.mem_iff.mpr List.mem_cons_self
    have mx : x ∈ y :: b := p.mem_iff.mp List.mem_cons_self
    have e1 : lexI (codeD y) (codeD x) = false := by
      rcases List.mem_cons.mp my with z | z
      · rw [z]; exact lexI_irr _
      · exact a1 y z
    have e2 : lexI (codeD x) (codeD y) = false := by
      rcases List.mem_cons.mp mx with z | z
      · rw [z]; exact lexI_irr _
      · exact b1 x z
    have e : x = y := inj x List.mem_cons_self y my (lexI_tot _ _ e2 e1)
    subst e
    rw [srtd_one a b (fun u hu v hv => inj u (List.mem_cons_of_mem _ hu) v (List.mem_cons_of_mem _ hv)) (List.Perm.cons_inv p) a2 b2]
theorem code_inj {a b : D} {r : Bool} (h1 : srt a = true) (h2 : srt b = true) (h : cmpD false a b = some r) (h' : ∃ r', cmpD false b a = some r') (e : codeD a = codeD b) : a = b := by
  obtain ⟨r', h'⟩ := h'
  by_cases q : eqD a b = true
  · exact srt_eq a b h1 h2 q
  · have k := code_cmp a b r [0] [1] h1 h2 h
    have k' := code_cmp a b r [1] [0] h1 h2 h
    rw [if_neg q] at k k'
    have e' : code (pd a) = code (pd b) := e
    rw [e', lexI_pre] at k k'
    have z1 : lexI [0] [1] = true := by decide
    have z2 : lexI [1] [0] = false := by decide
    rw [z1] at k
    rw [z2] at k'
    rw [← k] at k'
    cases k'

/-! ### sorted -/
/-- a tuple that starts with an int -/
def headI : D → Bool
  | .tup (.int _ :: _) => true
  | _ => false
def okSort (ds : List D) : Bool := ds.all fun a => headI a && srt a && shp DEEP a && ds.all fun b => (cmpD false a b).isSome
def sortedO (cell : Bool) : List D → O D := fun as μ => match as with
  | [d] => match lstOfS μ d with
    | some ds => if okSort ds = true ∧ ds.length ≤ LIM then mkL cell (isortD ds) μ else none
    | none => none
  | _ => none
section
variable {prog : Program} {w : World}
/-- the comparison's inside -/
theorem kat_data {A : Around} {s : Shared} {fin : Bool} {Q : Bool → Shared → Prop} : ∀ (xs ys : List D) (us ws : List Value) (as bs : List Addr) (i : Nat) (r : Bool), srtL xs = true → srtL ys = true → shpL DEEP xs = true → shpL DEEP ys = true →
    (i = 0 → headI (.tup xs) = true ∧ headI (.tup ys) = true) → cmpL false xs ys = some r → ReadsAll s.heap us (pdL xs) as → ReadsAll s.heap ws (pdL ys) bs → fin = decide (xs.length < ys.length) → A.units + 64 < cLine → Q r s → PySem.W.KatLex prog w A true fin Q (us.zip ws) i s
  | [], [], us, ws, as, bs, i, r, _, _, _, _, _, hc, ru, rw', hf, _, q => by
    rw [pdL_nil] at ru
    cases ru
    simp only [cmpL, Option.some.injEq] at hc
    subst hc
    refine PySem.W.kat_nil ?_
    rw [hf]
    exact q
  | [], y :: ys, us, ws, as, bs, i, r, _, _, _, _, _, hc, ru, rw', hf, _, q => by
    rw [pdL_nil] at ru
    cases ru
    simp only [cmpL, Option.some.injEq] at hc
    subst hc
    refine PySem.W.kat_nil ?_
    rw [hf]
    exact q
  | x :: xs, [], us, ws, as, bs, i, r, _, _, _, _, _, hc, ru, rw', hf, _, q => by
    rw [pdL_nil] at rw'
    cases rw'
    simp only [cmpL, Option.some.injEq] at hc
    subst hc
    rw [List.zip_nil_right]
    refine PySem.W.kat_nil ?_
    rw [hf]
    exact q
  | x :: xs, y :: ys, us, ws, as, bs, i, r, h1, h2, p1, p2, h0, hc, ru, rw', hf, hu, q => by
    unfold srtL at h1 h2
    rw [Bool.and_eq_true] at h1 h2
    rw [shpL_cons, Bool.and_eq_true] at p1 p2
    rw [pdL_cons] at ru rw'
    cases ru with
    | @cons u us _ _ a1 _ r1 r2 =>
      cases rw' with
      | @cons v ws _ _ b1 _ q1 q2 =>
        rw [cmpL] at hc
        cases hq : cmpL false xs ys with
        | none => rw [hq] at hc; cases hc
        | some r' =>
          rw [hq] at hc
          simp only at hc
          rw [List.zip_cons_cons]
          obtain ⟨l1, l2⟩ := shp_lay x DEEP p1.1
          obtain ⟨m1, m2⟩ := shp_lay y DEEP p2.1
          have hd : DEEP ≤ 9 := Nat.le_refl _
          have eqA := SeqAt.eqAt_reads _ _ A s _ _ _ _ r1 q1 l1 m1 (by omega)
          rw [eqv_pd x y DEEP DEEP p1.1 p2.1] at eqA
          refine PySem.W.kat_cons (eqA prog w _ _ ?_)
          refine PySem.W.kat_go (fun e => ?_) (fun e => ?_)
          · rw [if_pos e] at hc
            cases hc
            refine PySem.W.kat_yes (kat_data xs ys us ws _ _ (i + 1) r h1.2 h2.2 p1.2 p2.2 (fun z => by omega) hq r2 q2 ?_ hu q)
            rw [hf]
            simp
          · have e' : ¬ eqD x y = true := by rw [e]; decide
            rw [if_neg e'] at hc
            refine PySem.W.kat_no ?_
            by_cases hi : i = 0
            · subst hi
              obtain ⟨g1, g2⟩ := h0 rfl
              cases x with
              | int a =>
                cases y with
                | int b =>
                  simp only [cmpD, Bool.false_eq_true, if_false, Option.some.injEq] at hc
                  subst hc
                  simp only [pd] at r1 q1
                  cases r1
                  cases q1
                  exact PyProof.Rows.oneLt_int q
                | _ => cases g2
              | _ => cases g1
            · have hb : (true && i == 0) = false := by simp [hi]
              rw [hb]
              have R := rc_ok false DEEP x y A s u v _ _ r p1.1 p2.1 hc r1 q1 (by omega)
              exact PySem.W.kat_one _ _ (R prog w _ _ q)
/-- a value's data, in a heap -/
noncomputable def datAt (h : Heap) (v : Value) : PyData := by
  classical
  exact if x : ∃ d as, Reads h v d as then x.choose else .none
theorem datAt_eq {h : Heap} {v : Value} {d : PyData} {as : List Addr} (r : Reads h v d as) (hc : d.canLay0 = true) : datAt h v = d := by
  classical
  have x : ∃ d as, Reads h v d as := ⟨d, as, r⟩
  unfold datAt
  rw [dif_pos x]
  obtain ⟨bs, hr⟩ := x.choose_spec
  exact (SeqAt.Reads.unique d _ v as bs hc r hr).symm
noncomputable def ltAt (h : Heap) (v u : Value) : Bool := lexI (code (datAt h v)) (code (datAt h u))
theorem swo_at (h : Heap) : SrtO.Swo (ltAt h) := ⟨fun _ _ => lexI_asym _ _, fun _ _ _ => lexI_tr _ _ _⟩
theorem perm_lift {α β : Type} {f : α → β} : ∀ {l m : List β}, l.Perm m → ∀ ps : List α, ps.map f = m → ∃ qs : List α, qs.Perm ps ∧ qs.map f = l := by
  intro l m p
  induction p with
  | nil => exact fun ps h => ⟨ps, List.Perm.refl _, h⟩
  | cons x _ ih =>
    intro ps h
    cases ps with
    | nil => cases h
    | cons a ps =>
      rw [List.map_cons] at h
      injection h with h1 h2
      obtain ⟨qs, k1, k2⟩ := ih ps h2
      exact ⟨a :: qs, k1.cons a, by rw [List.map_cons, h1, k2]⟩
  | swap x y l =>
    intro ps h
    match ps, h with
    | a :: b :: ps, h =>
      rw [List.map_cons, List.map_cons] at h
      injection h with h1 h2
      injection h2 with h2 h3
      exact ⟨b :: a :: ps, List.Perm.swap _ _ _, by rw [List.map_cons, List.map_cons, h1, h2, h3]⟩
  | trans _ _ i1 i2 =>
    intro ps h
    obtain ⟨qs, k1, k2⟩ := i2 ps h
    obtain ⟨rs, k3, k4⟩ := i1 qs k2
    exact ⟨rs, k3.trans k1, k4⟩
end
theorem intAt_mem {ds : List D} : ∀ {d : D}, d ∈ ds → okSort ds = true → headI d = true ∧ srt d = true ∧ shp DEEP d = true ∧ ∀ e ∈ ds, ∃ r, cmpD false d e = some r := by
  intro d hd h
  unfold okSort at h
  have := List.all_eq_true.mp h d hd
  simp only [Bool.and_eq_true] at this
  refine ⟨this.1.1.1, this.1.1.2, this.1.2, fun e he => ?_⟩
  have z := List.all_eq_true.mp this.2 e he
  exact Option.isSome_iff_exists.mp z
theorem head_val {ds : List D} {h : Heap} {u : Value} {as : List Addr} (hh : headI (.tup ds) = true) (r : Reads h u (pd (.tup ds)) as) : ∃ a o xs n i t, u = .ref a ∧ h.get? a = some o ∧ o.cls = .type "tuple" ∧ o.data = .seq xs n ∧ xs[0]? = some (.int i t) := by
  match ds, hh with
  | .int i :: r', _ =>
    rw [pd_tup] at r
    cases r with
    | @tuple l o vs n _ _ k1 k2 k3 k4 =>
      rw [pdL_cons] at k4
      generalize hv : vs.toList = vl at k4
      cases k4 with
      | @cons v vr _ _ _ _ r1 _ =>
        simp only [pd] at r1
        cases r1
        rename_i t
        have e : vs[0]? = some (Value.int i t) := by
          rw [← Array.getElem?_toList, hv]
          rfl
        exact ⟨l, o, vs, n, i, t, rfl, k1, k2, k3, e⟩
mutual
theorem eqD_self : ∀ d : D, srt d = true → eqD d d = true
  | .int i, _ => by
    have e0 : eqD (.int i) (.int i) = (i == i) := by unfold eqD; rfl
    rw [e0]; exact beq_self_eq_true i
  | .tup ds, h => by
    unfold srt at h
    have e0 : eqD (.tup ds) (.tup ds) = eqL ds ds := by rw [eqD]
    rw [e0]; exact eqL_self ds h
theorem eqL_self : ∀ ds : List D, srtL ds = true → eqL ds ds = true
  | [], _ => by unfold eqL; rfl
  | d :: ds, h => by
    unfold srtL at h
    rw [Bool.and_eq_true] at h
    rw [eqL, eqD_self d h.1, eqL_self ds h.2]
    rfl
end
theorem cmpL_self : ∀ (ds : List D) (r : Bool), srtL ds = true → cmpL false ds ds = some r → r = false
  | [], r, _, h => by simp only [cmpL, Option.some.injEq] at h; exact h.symm
  | d :: ds, r, hs, h => by
    unfold srtL at hs
    rw [Bool.and_eq_true] at hs
    rw [cmpL] at h
    cases q : cmpL false ds ds with
    | none => rw [q] at h; cases h
    | some r' =>
      rw [q] at h
      simp only at h
      rw [if_pos (eqD_self d hs.1)] at h
      cases h
      exact cmpL_self ds r hs.2 q
theorem shp_up : ∀ (k : Nat) (d : D), shp k d = true → shp (k + 1) d = true
  | k, .tup ds, h => by
    cases k with
    | zero => rw [shp0_tup] at h; cases h
    | succ k =>
      rw [shp_tup] at h ⊢
      rw [shpL_eq_all] at h ⊢
      exact List.all_eq_true.mpr fun x hx => shp_up k x (List.all_eq_true.mp h x hx)
  | k, .lst ds, h => by
    cases k with
    | zero => rw [shp0_lst] at h; cases h
    | succ k =>
      rw [shp_lst] at h ⊢
      rw [shpL_eq_all] at h ⊢
      exact List.all_eq_true.mpr fun x hx => shp_up k x (List.all_eq_true.mp h x hx)
  | k, .int i, h => by cases k <;> (unfold shp at h ⊢; first | exact h | rfl)
  | k, .bl i, h => by cases k <;> (unfold shp at h ⊢; first | exact h | rfl)
  | k, .str i, h => by cases k <;> (unfold shp at h ⊢; first | exact h | rfl)
  | k, .non, h => shp_non
  | k, .ty i, h => by cases k <;> (unfold shp at h ⊢; first | exact h | rfl)
  | k, .cls i, h => by cases k <;> (unfold shp at h ⊢; first | exact h | rfl)
  | k, .obj _ _ _, h => by cases k <;> (unfold shp at h ⊢; first | exact h | rfl)
  | k, .dK _ _, h => by cases k <;> (unfold shp at h ⊢; first | exact h | rfl)
  | k, .dT _ _, h => by cases k <;> (unfold shp at h ⊢; first | exact h | rfl)
  | k, .cell _, h => by cases k <;> (unfold shp at h ⊢; first | exact h | rfl)
  | k, .script _, h => by cases k <;> (unfold shp at h ⊢; first | exact h | rfl)
theorem shpL_up (ds : List D) (h : shp DEEP (.tup ds) = true) : shpL DEEP ds = true := by
  have e : shp DEEP (.tup ds) = shpL 8 ds := shp_tup
  rw [e, shpL_eq_all] at h
  rw [shpL_eq_all]
  exact List.all_eq_true.mpr fun x hx => shp_up 8 x (List.all_eq_true.mp h x hx)
theorem triple {g : Gh} {φ : Ph} {H : Hp} : ∀ {ds : List D} {vs : List V} {us : List Value}, RepL g φ H ds vs → Vals vs us → ∀ t ∈ ds.zip (vs.zip us), t.1 ∈ ds ∧ Rep g φ H t.1 t.2.1 ∧ RelV t.2.1 t.2.2
  | [], _, _, _, _, t, h => by simp at h
  | d :: ds, vs, us, r, v, t, h => by
    obtain ⟨w, wr, rfl, k1, k2⟩ := r.cons_inv
    cases v with
    | cons c1 c2 =>
      rw [List.zip_cons_cons, List.zip_cons_cons] at h
      rcases List.mem_cons.mp h with z | z
      · rw [z]; exact ⟨List.mem_cons_self, k1, c1⟩
      · obtain ⟨z1, z2⟩ := triple k2 c2 t z
        exact ⟨List.mem_cons_of_mem _ z1, z2⟩
theorem back_rep {g : Gh} {φ : Ph} {H : Hp} : ∀ {qs : List (D × V × Value)}, (∀ t ∈ qs, Rep g φ H t.1 t.2.1 ∧ RelV t.2.1 t.2.2) → RepL g φ H (qs.map (·.1)) (qs.map (·.2.1)) ∧ Vals (qs.map (·.2.1)) (qs.map (·.2.2))
  | [], _ => ⟨.nil, .nil⟩
  | t :: qs, h => by
    obtain ⟨h1, h2⟩ := h t List.mem_cons_self
    obtain ⟨k1, k2⟩ := back_rep (qs := qs) fun t ht => h t (List.mem_cons_of_mem _ ht)
    exact ⟨.cons h1 k1, .cons h2 k2⟩
section
variable {X : Cx} {ca : Nat → Addr}
theorem sorted_ok {cell : Bool} (hu : X.A.units + 70 < cLine) : CallR X (.builtin "sorted") (rOL (Gx X ca) (sortedO cell)) := by
  intro pins s σ H xs us Q I rv h
  obtain ⟨φ, μ, as, m, ra, q⟩ := h
  unfold sortedO at q
  split at q
  · rename_i d
    split at q
    · rename_i ds ed
      split at q
      · rename_i hc
        obtain ⟨ok, hl⟩ := hc
        obtain ⟨v, rfl, rd⟩ := repL_one ra
        obtain ⟨p, vs, rfl, hq, rl⟩ := lstOfS_ok m rd ed
        obtain ⟨its, r, pl, hz⟩ := I.list hq
        rw [Vals.ref1 rv]
        have hlen : its.length = ds.length := by rw [← r.length, ← rl.length]
        have vlen : vs.length = its.length := r.length
        have dlen : ds.length = vs.length := rl.length
        -- each value's data
        let ps := ds.zip (vs.zip its)
        have T := triple rl r
        have R : ∀ t ∈ ps, t.1 ∈ ds ∧ ∃ bs, Reads s.heap t.2.2 (pd t.1) bs := fun t ht => by
          obtain ⟨h1, h2, h3⟩ := T t ht
          exact ⟨h1, Dp.reads I _ _ _ (shp_dp t.1 DEEP t.2.1 (intAt_mem h1 ok).2.2.1 h2) h3⟩
        have canL : ∀ a ∈ ds, (pd a).canLay0 = true := fun a ha => (shp_lay a DEEP (intAt_mem ha ok).2.2.1).1
        have D0 : ∀ t ∈ ps, datAt s.heap t.2.2 = pd t.1 := fun t ht => by
          obtain ⟨h1, bs, h2⟩ := R t ht
          exact datAt_eq h2 (canL _ h1)
        have p1 : ps.map (·.1) = ds := List.map_fst_zip (by rw [List.length_zip]; omega)
        have p2 : ps.map (fun t => t.2.2) = its := by
          have e : ps.map (fun t => t.2.2) = (ps.map (·.2)).map (·.2) := by rw [List.map_map]; rfl
          have e2 : ps.map (·.2) = vs.zip its := List.map_snd_zip (by rw [List.length_zip]; omega)
          rw [e, e2]
          exact List.map_snd_zip (by omega)
        have zmem : ∀ {u : Value}, u ∈ its → ∃ t ∈ ps, t.2.2 = u := fun {u} hu => by
          rw [← p2] at hu
          exact List.mem_map.mp hu
        have key : ∀ t ∈ ps, ∀ t' ∈ ps, ∀ c, cmpD false t.1 t'.1 = some c → ltAt s.heap t.2.2 t'.2.2 = c := fun t ht t' ht' c hc => by
          obtain ⟨h1, _⟩ := R t ht
          obtain ⟨h1', _⟩ := R t' ht'
          obtain ⟨a1, a2, a3, a4⟩ := intAt_mem h1 ok
          obtain ⟨b1, b2, b3, b4⟩ := intAt_mem h1' ok
          show lexI (code (datAt s.heap t.2.2)) (code (datAt s.heap t'.2.2)) = c
          rw [D0 t ht, D0 t' ht']
          have := code_cmp t.1 t'.1 c [] [] a2 b2 hc
          rw [List.append_nil, List.append_nil] at this
          rw [this]
          by_cases eq : eqD t.1 t'.1 = true
          · rw [if_pos eq]
            have e3 := srt_eq _ _ a2 b2 eq
            rw [← e3] at hc
            match t.1, a1, a2, hc with
            | .tup xs, _, a2, hc =>
              unfold srt at a2
              rw [cmpD] at hc
              exact (cmpL_self xs c a2 hc).symm
          · rw [if_neg eq]
        refine SrtO.sorted_ord (swo_at s.heap) pl.isList (by rw [hlen]; exact lim_size hl) (fun h2 h₁ a' ha' kk => ?_) fun out hs hb => ?_
        · intro h' keep
          have k' : ∀ b o, s.heap.get? b = some o → h'.get? b = some o := fun b o e => keep b o (kk b o e).1 (kk b o e).2
          refine ⟨PyProof.Rows.tuples' true, fun Q' E' hq' => ?_, fun x y hx hy => ?_⟩
          · have firsts : ∀ (zs : List Value), (∀ z ∈ zs, z ∈ its) → ∃ fs, PySem.W.KatTups h' zs fs ∧ fs.length = zs.length ∧ ∀ f ∈ fs, ∃ i t, f = Value.int i t := by
              intro zs
              induction zs with
              | nil => intro _; exact ⟨[], PySem.W.KatTups.nil, rfl, fun f hf => by simp at hf⟩
              | cons z zs ih =>
                intro hz
                obtain ⟨fs, f1, f2, f3⟩ := ih fun u hu => hz u (List.mem_cons_of_mem _ hu)
                obtain ⟨t, ht, et⟩ := zmem (hz z List.mem_cons_self)
                obtain ⟨ma, bs, rr⟩ := R t ht
                rw [et] at rr
                have hh := (intAt_mem ma ok).1
                match t.1, hh, rr with
                | .tup es, hh, rr =>
                  obtain ⟨b, o, ys, n, i, t, rfl, k1, k2, k3, k4⟩ := head_val hh rr
                  exact ⟨.int i t :: fs, PySem.W.KatTups.cons (k' _ _ k1) k2 k3 k4 f1, by rw [List.length_cons, List.length_cons, f2], fun f hf => by
                    rcases List.mem_cons.mp hf with e | e
                    · exact ⟨i, t, e⟩
                    · exact f3 f e⟩
            obtain ⟨fs, f1, f2, f3⟩ := firsts its fun _ h => h
            refine PySem.W.kat_kind (T := .type "int") f1 (by omega) (fun f hm => ?_) (by rfl) ?_
            · obtain ⟨i, t, rfl⟩ := f3 f hm
              exact PySem.W.Looks.now
            · have e : (Value.type "int" != Value.type "tuple") = true := by first | decide +kernel | rfl | decide
              rw [e]
              exact hq'
          · obtain ⟨t, ht, et⟩ := zmem hx
            obtain ⟨t', ht', et'⟩ := zmem hy
            obtain ⟨h1, as1, r1⟩ := R t ht
            obtain ⟨h1', bs1, r2⟩ := R t' ht'
            obtain ⟨a1, a2, a3, a4⟩ := intAt_mem h1 ok
            obtain ⟨b1, b2, b3, b4⟩ := intAt_mem h1' ok
            obtain ⟨c, hc⟩ := a4 _ h1'
            have kc : SrtO.lt2 (ltAt s.heap) x y = c := by
              show ltAt s.heap x.1 y.1 = c
              rw [← et, ← et']
              exact key t ht t' ht' c hc
            show wpAny _ _ (PyProof.Rows.keyLt' (PyProof.Rows.tuples' true) x.1 y.1) (fun r s' => s' = _ ∧ r = SrtO.lt2 (ltAt s.heap) x y) (fun _ _ => False) _
            rw [kc]
            rw [et] at r1
            rw [et'] at r2
            have r1' := PyProof.Rows.Reads.keeps k' r1
            have r2' := PyProof.Rows.Reads.keeps k' r2
            generalize x.1 = xv at r1' ⊢
            generalize y.1 = yv at r2' ⊢
            match t.1, t'.1, a1, b1, a2, a3, b2, b3, hc, r1', r2' with
            | .tup xs, .tup ys, a1, b1, a2, a3, b2, b3, hc, r1, r2 =>
              have s1 := shp_lay (.tup xs) DEEP a3
              rw [pd_tup] at r1 r2
              unfold srt at a2 b2
              have a3' : shpL DEEP xs = true := shpL_up xs a3
              have b3' : shpL DEEP ys = true := shpL_up ys b3
              rw [cmpD] at hc
              cases r1 with
              | @tuple l o us n _ _ k1 k2 k3 k4 =>
                cases r2 with
                | @tuple l' o' ws n' _ _ j1 j2 j3 j4 =>
                  refine PySem.W.kat_lt (s := { s with heap := h' }) k1 k3 j1 j3 ?_
                  refine kat_data xs ys us.toList ws.toList _ _ 0 c a2 b2 a3' b3' (fun _ => ⟨a1, b1⟩) hc k4 j4 ?_ (by show X.A.units + 2 + 64 < cLine; omega) ⟨rfl, rfl⟩
                  have n1 : us.size = xs.length := by have := readsAll_len k4; rw [pdL_length] at this; simpa using this
                  have n2 : ws.size = ys.length := by have := readsAll_len j4; rw [pdL_length] at this; simpa using this
                  rw [n1, n2]
        · obtain ⟨qs, q1, q2⟩ := perm_lift (f := fun t : D × V × Value => t.2.2) hb.perm ps p2
          have mem : ∀ t ∈ qs, t ∈ ps := fun t ht => q1.mem_iff.mp ht
          obtain ⟨rep, val⟩ := back_rep (g := Gx X ca) (φ := φ) (H := H) (qs := qs) fun t ht => (T t (mem t ht)).2
          have pe : (qs.map (·.1)).Perm ds := by
            have := q1.map (fun t : D × V × Value => t.1)
            rw [p1] at this
            exact this
          have sr : SrtdD (qs.map (·.1)) := by
            have hs' : List.Pairwise (fun x y => ltAt s.heap y x = false) (qs.map fun t => t.2.2) := by rw [q2]; exact hs
            refine List.pairwise_map.mpr ?_
            refine (List.pairwise_map.mp hs').imp_of_mem fun {x y} hx hy hxy => ?_
            have hxy' : lexI (code (datAt s.heap y.2.2)) (code (datAt s.heap x.2.2)) = false := hxy
            rw [D0 y (mem y hy), D0 x (mem x hx)] at hxy'
            exact hxy'
          have es : qs.map (·.1) = isortD ds := by
            refine srtd_one _ _ (fun x hx y hy e => ?_) (pe.trans (isortD_perm ds).symm) sr (isortD_srtd ds)
            have mx := pe.mem_iff.mp hx
            have my := pe.mem_iff.mp hy
            obtain ⟨x1, x2, x3, x4⟩ := intAt_mem mx ok
            obtain ⟨y1, y2, y3, y4⟩ := intAt_mem my ok
            obtain ⟨c, hc⟩ := x4 y my
            exact code_inj x2 y2 hc (y4 x mx) e
          rw [es] at rep
          rw [q2] at val
          obtain ⟨ep, he'⟩ := PyProof.Rows.sortedAll_at s.heap its out.toArray
          have hw : (qs.map (fun t : D × V × Value => t.2.1)).length ≤ sizeLine := by
            rw [← rep.length, (isortD_perm ds).length_eq]
            exact lim_size hl
          have hf := I.hok.fresh (Nat.le_succ s.heap.objs.size)
          refine ⟨.ref (s.heap.objs.size + 1), upd H (s.heap.objs.size + 1) (.lst (qs.map fun t => t.2.1)), I.laid (t' := s.toks) (fun _ _ => PyProof.Rows.sortedAll_old) (Nat.le_succ _) ?_, rfl, ?_⟩
          · exact ⟨hw, out, ep, val, he'⟩
          · exact new_lst m rep q _ hf
      · exact q.elim
    · exact q.elim
  · exact q.elim
end
end Iv
end
section
set_option Elab.async false
set_option linter.all false
set_option maxRecDepth 100000
set_option maxHeartbeats 4000000
/-! IvGen: the rules in the forms that the printed terms use. -/
namespace Iv
open PySem PySem.Spec L2

def visB (sc : Scope) (x : Str) : Bool := match sc.names.lookup x with
  | some .local => true
  | some .cell => true
  | some .free => true
  | _ => false
theorem vis_of {sc : Scope} {x : Str} (h : visB sc x = true) : Vis sc x := by
  unfold visB at h
  split at h
  · exact .inl ‹_›
  · exact .inr (.inl ‹_›)
  · exact .inr (.inr ‹_›)
  · cases h
def locB (sc : Scope) (x : Str) : Bool := match sc.names.lookup x with
  | some .local => true
  | some .cell => true
  | _ => false
theorem loc_of {sc : Scope} {x : Str} (h : locB sc x = true) : Loc sc x := by
  unfold locB at h
  split at h
  · exact .inl ‹_›
  · exact .inr ‹_›
  · cases h
theorem last_form {op op' : CmpOp} {b c : Expr} (h : notSet c = true) : lastMarks [op, op'] [b, c] = false := by
  cases c <;> first | (with_unfolding_all rfl) | cases h
section
variable {X : Cx} {ca : Nat → Addr} {W : WX} {pos : Pos}
theorem de_chain {op op' : CmpOp} {f f' : D → D → O D} {a b c : Expr} {ma mb mc : Sg → M D} (ho : OpR X (compareOp op) (rO2 (Gx X ca) f)) (ho' : OpR X (compareOp op') (rO2 (Gx X ca) f')) (ha : DEx X ca W a ma) (hb : DEx X ca W b mb) (hc : DEx X ca W c mc) (hm : notSet c = true) :
    DEx X ca W (.Compare a [op, op'] [b, c] pos) (mChain f f' ma mb mc) := PE.imp (pe_chain ho ho' ha hb hc (last_form hm)) fun _ _ _ h => t_chain (g := Gx X ca) h
theorem dt_chain {op op' : CmpOp} {f f' : D → D → O D} {a b c : Expr} {ma mb mc : Sg → M D} (ho : OpR X (compareOp op) (rO2 (Gx X ca) f)) (ho' : OpR X (compareOp op') (rO2 (Gx X ca) f')) (ha : DEx X ca W a ma) (hb : DEx X ca W b mb) (hc : DEx X ca W c mc) (hm : notSet c = true) :
    DTx X ca W (.Compare a [op, op'] [b, c] pos) (mTest (mChain f f' ma mb mc)) := PT.imp (pt_chain ho ho' ha hb hc (last_form hm)) fun _ _ _ h => t_chain (g := Gx X ca) (t_test (g := Gx X ca) h)
theorem g_name {i : Nat} {x : Str} {k : Nat} (hh : Here X W k) (hi : X.N[i]? = some x) (hx : locB X.env.scope x = true) (hf : X.fn x = true ∨ X.env.scope.names.lookup x = some .local) : DGx X ca (.Name x pos) [i] (gmName i) := dg_name hh.nd hi (loc_of hx) hf
theorem g_var {i : Nat} {x : Str} (hN : X.N[i]? = some x) (hv : visB X.env.scope x = true) (hd : (x == ("__debug__" : Str)) = false) (hcd : (x == ("__classdict__" : Str)) = false) : DEx X ca W (.Name x pos) (mVar i) := de_var hN (vis_of hv) hd hcd
theorem g_set {i k : Nat} {x : Str} {e : Expr} {m : Sg → M D} {pos' : Pos} (hh : Here X W k) (hi : X.N[i]? = some x) (hx : locB X.env.scope x = true) (he : DEx X ca W e m) (hs : swapsWith e (some (.Name x pos')) pos.line X.env = pure false) (hf : X.fn x = true ∨ X.env.scope.names.lookup x = some .local) :
    DSx X ca W (.Assign [.Name x pos'] e pos) (sAsg m (gmName i)) := ds_set hh.nd hi (loc_of hx) he hs hf
end

/-- a def's facts: its address f -/
structure FnAt (K : PySem.W.Frag) (x qual : Str) (st : Stmt) (ps : List Str) (f : Addr) : Prop where
  ex : ∃ fd, C8.Fun K x qual st f fd ∧ Binds K fd ps [] ∧ ∀ us : List Value, us.length = ps.length → bindArgs fd ⟨us, []⟩ = pure (ps.zip us)
  kp : PySem.W.keepIn K (.ref f) = true
theorem fnAt_mk {K : PySem.W.Frag} {x qual : Str} {st : Stmt} {ps : List Str} {f : Addr} {oc : Value} {od : Option Addr} {kV doc pm : Value} {an : Option Addr} {cdv ct : Value} {osl : Array (Option Value)}
    (l : K.lookup f = some ⟨oc, od, .func (PySem.W.fnOf x qual (C8.fnArgs st) (C8.fnBody st) (C8.fnScope st) .none kV doc pm an cdv ct), osl⟩) (c : PySem.W.codeIn K cdv qual = true) (k : PySem.W.keepIn K (.ref f) = true)
    (b : ∀ (kV doc pm : Value) (an : Option Addr) (cdv ct : Value) (us : List Value), us.length = ps.length → bindArgs (PySem.W.fnOf x qual (C8.fnArgs st) (C8.fnBody st) (C8.fnScope st) .none kV doc pm an cdv ct) ⟨us, []⟩ = pure (ps.zip us)) : FnAt K x qual st ps f := by
  have F : C8.Fun K x qual st f (PySem.W.fnOf x qual (C8.fnArgs st) (C8.fnBody st) (C8.fnScope st) .none kV doc pm an cdv ct) := ⟨⟨oc, od, .none, kV, doc, pm, an, cdv, ct, osl, rfl, l, c⟩⟩
  exact ⟨⟨_, F, F.binds rfl b, b kV doc pm an cdv ct⟩, k⟩
section
variable {P : Program} {w : World} {K : PySem.W.Frag} {mg : Str → Option Value} {base : Heap} {ca : Nat → Addr}
/-- a def's promise at its address -/
structure Prm (P : Program) (w : World) (K : PySem.W.Frag) (mg : Str → Option Value) (base : Heap) (ca : Nat → Addr) (k : Nat) (a : Addr) (ps : List Str) (f : List D → M D) : Prop where
  ex : ∃ (fd : FuncData), (∃ oc od osl, K.lookup a = some ⟨oc, od, .func fd, osl⟩) ∧ FnOk P w K mg base (L2.CX P w) k a fd ps (spF ⟨K, ca⟩ ps.length f) ∧ Binds K fd ps []
  kp : PySem.W.keepIn K (.ref a) = true
theorem fun_look {x qual : Str} {st : Stmt} {f : Addr} {fd : FuncData} (F : C8.Fun K x qual st f fd) : ∃ oc od osl, K.lookup f = some ⟨oc, od, .func fd, osl⟩ := by
  obtain ⟨oc, od, dV, kV, doc, pm, an, cdv, ct, osl, _, h, _⟩ := F.ex
  exact ⟨oc, od, osl, h⟩
theorem prm_fn {x qual : Str} {st : Stmt} {f : Addr} {names ps : List Str} {k : Nat} {keep : Bool} {body : SM} (F : FnAt K x qual st ps f) (S : C8.scC names ps (C8.fnScope st) = true)
    (hb : ∀ (cdv : Value) (A : Around) (outer : List Env) (s : Shared) (H : Hp) (E : XK), Here (cxOf (L2.CX P w) P w K mg base names qual (C8.fnScope st) f cdv A outer s H E) (xW E) k →
      DBx (cxOf (L2.CX P w) P w K mg base names qual (C8.fnScope st) f cdv A outer s H E) ca (xW E) (C8.fnBody st) body) :
    Prm P w K mg base ca (k + 1) f ps (mFn names.length ps.length keep body) := by
  obtain ⟨fd, h, b, _⟩ := F.ex
  exact ⟨⟨fd, fun_look h, fn_iv h S (fun cdv A outer s H E hr => hb cdv A outer s H E (here_cx (C8.fnScope_by S).nd hr)), b⟩, F.kp⟩
/-- a def that is never called: its run fails -/
theorem prm_none {x qual : Str} {st : Stmt} {f : Addr} {ps : List Str} {k : Nat} (F : FnAt K x qual st ps f) : Prm P w K mg base ca k f ps (fun _ => M.fail) := by
  obtain ⟨fd, h, b, _⟩ := F.ex
  exact ⟨⟨fd, fun_look h, ⟨fun vs H Q E ⟨φ, μ, ds, _, _, _, q⟩ => q.elim, fun A outer s H args us vs Q E _ _ _ _ ⟨φ, μ, ds, _, _, _, q⟩ => q.elim⟩, b⟩, F.kp⟩
theorem Prm.own {k : Nat} {a : Addr} {ps : List Str} {f : List D → M D} {x : Str} (p : Prm P w K mg base ca k a ps f) (h : mg x = some (.ref a)) : Own P w K mg base ca k x ps.length f := by
  obtain ⟨fd, _, F, b⟩ := p.ex
  exact ⟨a, fd, ps, F, h, p.kp, b⟩
theorem Prm.meth {k C : Nat} {a : Addr} {ps : List Str} {f : List D → M D} {x : Str} (p : Prm P w K mg base ca k a ps f) (c : Cls K (ca C)) (h : PySem.W.findIn K (.ref (ca C)) x = some (some (.ref a))) (hf : PySem.W.isFn K (.ref a) = true) : OwnM P w K mg base ca k C x ps.length f := by
  obtain ⟨fd, _, F, b⟩ := p.ex
  exact ⟨a, fd, ps, F, c, ⟨h, hf, p.kp⟩, b⟩
theorem Prm.make {k C : Nat} {a : Addr} {ps : List Str} {f : List D → M D} {x : Str} (p : Prm P w K mg base ca k a ps f) (h : mg x = some (.ref (ca C))) (m1 : PySem.W.makesIn K (ca C) = true) (m2 : PySem.W.findIn K (.ref (ca C)) "__init__" = some (some (.ref a))) (m3 : PySem.W.isFn K (.ref a) = true) (m4 : PySem.W.keepIn K (.ref (ca C)) = true) : OwnC P w K mg base ca k x C ps.length f := by
  obtain ⟨fd, _, F, b⟩ := p.ex
  exact ⟨a, fd, ps, ⟨m1, m2, m3, m4⟩, F, h, b⟩
theorem kit0 {g : Gh} : Kit g 0 := ⟨fun _ h => absurd h (Nat.not_lt_zero _), fun _ h => absurd h (Nat.not_lt_zero _), fun _ h => absurd h (Nat.not_lt_zero _), fun _ _ h => absurd h (Nat.not_lt_zero _)⟩
end
end Iv
namespace Iv
open PySem PySem.Spec L2
section
variable {X : Cx} {ca : Nat → Addr} {W : WX} {pos : Pos}
theorem g_cstS {x y : Str} (hm : ∃ t, X.mg x = some (.str y t)) (hg : Gl X x) (hd : (x == ("__debug__" : Str)) = false) : DEx X ca W (.Name x pos) (fun _ => pure (.str y)) := by
  obtain ⟨t, h⟩ := hm
  exact de_cst (d := .str y) hg rfl h hd
theorem g_cstI {x : Str} {i : Int} (hm : ∃ t, X.mg x = some (.int i t)) (hg : Gl X x) (hd : (x == ("__debug__" : Str)) = false) : DEx X ca W (.Name x pos) (fun _ => pure (.int i)) := by
  obtain ⟨t, h⟩ := hm
  exact de_cst (d := .int i) hg rfl h hd
end
end Iv
namespace Iv
open PySem PySem.Spec L2
def lstRg1 (cell : Bool) (d : D) : O D := fun μ => match d with
  | .int j => if -1 ≤ j ∧ j ≤ LIM then mkL cell (rngD 0 j.toNat) μ else none
  | _ => none
def tupRg1 (d : D) : O D := fun μ => match d with
  | .int j => if -1 ≤ j ∧ j ≤ LIM then some (.tup (rngD 0 j.toNat), μ) else none
  | _ => none
def lstRg2 (cell : Bool) (a b : D) : O D := fun μ => match a, b with
  | .int i, .int j => if (0 ≤ i ∧ i ≤ LIM) ∧ -1 ≤ j ∧ j ≤ LIM then mkL cell (rngD i (j - i).toNat) μ else none
  | _, _ => none
theorem rep_rng {g : Gh} {φ : Ph} {H : Hp} (a b : Int) : RepL g φ H (rngD a (b - a).toNat) (rgV a b) := by
  unfold rngD rgV
  generalize List.range (b - a).toNat = l
  induction l with
  | nil => exact .nil
  | cons k l ih => exact .cons (rep_int.mpr rfl) ih
section
variable {X : Cx} {ca : Nat → Addr} {W : WX} {pos : Pos} {m m2 : Sg → M D} {a b : Expr} {p p2 q : Pos}
theorem rgOk {i j : Int} (h1 : 0 ≤ i ∧ i ≤ LIM) (h2 : -1 ≤ j ∧ j ≤ LIM) : RgOk i j := by
  unfold LIM at h1 h2
  exact ⟨by omega, by omega, by omega, by omega, by omega⟩
theorem de_listRg1 (cell : Bool) (hc : X.calm = true) (hg : Gl X "list") (hm : X.mg "list" = none) (hg2 : Gl X "range") (hm2 : X.mg "range" = none) (ha : DEx X ca W a m) (na : notStar a = true) :
    DEx X ca W (.Call (.Name "list" p) [.Call (.Name "range" p2) [a] [] q] [] pos) (mOp1 (lstRg1 cell) m) := by
  refine PE.imp (pe_listRg hc hg hm (prg_1 hg2 hm2 ha (star_cons na)) rfl) fun σ H Q ⟨φ, μ, δ, a, q⟩ => ?_
  refine tG_bind (k := fun δ x => M.op (lstRg1 cell x)) a q fun φ1 H1 μ1 x b e1 a1 r1 q1 => ?_
  have q2 := EndO.of q1
  unfold lstRg1 at q2
  split at q2
  · rename_i j
    split at q2
    · rename_i hj
      have := rep_int.mp r1
      subst this
      refine ⟨j, rfl, rgOk ⟨Int.le_refl _, by decide⟩ hj, new_lst a1.m ?_ q2⟩
      have := rep_rng (g := Gx X ca) (φ := φ1) (H := H1) 0 j
      rwa [Int.sub_zero] at this
    · exact q2.elim
  · exact q2.elim
theorem de_tupRg1 (hc : X.calm = true) (hg : Gl X "tuple") (hm : X.mg "tuple" = none) (hg2 : Gl X "range") (hm2 : X.mg "range" = none) (ha : DEx X ca W a m) (na : notStar a = true) :
    DEx X ca W (.Call (.Name "tuple" p) [.Call (.Name "range" p2) [a] [] q] [] pos) (mOp1 tupRg1 m) := by
  refine PE.imp (pe_tupRg hc hg hm (prg_1 hg2 hm2 ha (star_cons na)) rfl) fun σ H Q ⟨φ, μ, δ, a, q⟩ => ?_
  refine tG_bind (k := fun δ x => M.op (tupRg1 x)) a q fun φ1 H1 μ1 x b e1 a1 r1 q1 => ?_
  have q2 := EndO.of q1
  unfold tupRg1 at q2
  split at q2
  · rename_i j
    split at q2
    · rename_i hj
      have := rep_int.mp r1
      subst this
      refine ⟨j, rfl, rgOk ⟨Int.le_refl _, by decide⟩ hj, new_tup a1.m ?_ q2⟩
      have := rep_rng (g := Gx X ca) (φ := φ1) (H := H1) 0 j
      rwa [Int.sub_zero] at this
    · exact q2.elim
  · exact q2.elim
theorem de_listRg2 (cell : Bool) (hc : X.calm = true) (hg : Gl X "list") (hm : X.mg "list" = none) (hg2 : Gl X "range") (hm2 : X.mg "range" = none) (ha : DEx X ca W a m) (hb : DEx X ca W b m2) (na : notStar a = true) (nb : notStar b = true) :
    DEx X ca W (.Call (.Name "list" p) [.Call (.Name "range" p2) [a, b] [] q] [] pos) (mOp2 (lstRg2 cell) m m2) := by
  refine PE.imp (pe_listRg hc hg hm (prg_2 hg2 hm2 ha hb (by rw [star_cons na, star_cons nb]) (star_cons nb) (star_any (by unfold notStars; rw [List.all_cons, nb]; rfl))) rfl) fun σ H Q ⟨φ, μ, δ, a, q⟩ => ?_
  refine tG_bind (k := fun δ x => do
    let y ← m2 δ
    M.op (lstRg2 cell x y)) a q fun φ1 H1 μ1 x b e1 a1 r1 q1 => ?_
  refine tG_bind (k := fun δ y => M.op (lstRg2 cell x y)) a1 q1 fun φ2 H2 μ2 y c e2 a2 r2 q2 => ?_
  have q3 := EndO.of q2
  unfold lstRg2 at q3
  split at q3
  · rename_i i j
    split at q3
    · rename_i hj
      have := rep_int.mp r1
      subst this
      have := rep_int.mp r2
      subst this
      exact ⟨i, j, rfl, rfl, rgOk hj.1 hj.2, new_lst a2.m (rep_rng i j) q3⟩
    · exact q3.elim
  · exact q3.elim
end
end Iv
namespace Iv
open PySem PySem.Spec L2
section
variable {X : Cx} {ca : Nat → Addr} {W : WX}
theorem g_lc {elt tg iter : Expr} {ifs : List Expr} {scope : Scope} {own : List (Str × Nat)} {pos : Pos} {m : Sg → M Src} {t : GM} {o : List Nat} {c : Sg → M Bool} {e : Sg → M D} {k : Nat} (F : Nat) (cell : Bool) (hh : Here X W k) (hi : DIx X ca W tg iter m) (ok : blkC X.N X.env.scope scope own = true)
    (ho : ∀ i ∈ o, i ∈ own.map (·.2))
    (hg : ∀ (s : Shared) (H : Hp) (C : Addr) (cl : List (Str × Addr)) (fp : List Addr), Here (X.blk s H scope (compEnvC scope cl C X.env) fp) WF k → DGx (X.blk s H scope (compEnvC scope cl C X.env) fp) ca tg o t)
    (ht : ∀ (s : Shared) (H : Hp) (C : Addr) (cl : List (Str × Addr)) (fp : List Addr), Here (X.blk s H scope (compEnvC scope cl C X.env) fp) WF k → DTsx (X.blk s H scope (compEnvC scope cl C X.env) fp) ca WF ifs c)
    (he : ∀ (s : Shared) (H : Hp) (C : Addr) (cl : List (Str × Addr)) (fp : List Addr), Here (X.blk s H scope (compEnvC scope cl C X.env) fp) WF k → DEx (X.blk s H scope (compEnvC scope cl C X.env) fp) ca WF elt e) (hs : notSet iter = true) :
    DEx X ca W (.ListComp elt [⟨tg, iter, ifs, 0⟩] scope pos) (mLc F cell m (own.map (·.2)) t c e) :=
  de_lc F cell hh.calm hh.nd hi ok ho (fun s H C cl fp => hg s H C cl fp (hh.blk ..)) (fun s H C cl fp => ht s H C cl fp (hh.blk ..)) (fun s H C cl fp => he s H C cl fp (hh.blk ..)) hs
theorem g_setLc {i : Nat} {y : Str} {py : Pos} {elt tg iter : Expr} {ifs : List Expr} {scope : Scope} {own : List (Str × Nat)} {pos spos : Pos} {m : Sg → M Src} {t : GM} {o : List Nat} {c : Sg → M Bool} {e : Sg → M D} {k : Nat} (F : Nat) (cell : Bool) (hh : Here X W k) (hy : X.N[i]? = some y) (hyl : X.env.scope.names.lookup y = some .local)
    (hsw : swapsWith (.ListComp elt [⟨tg, iter, ifs, 0⟩] scope pos) (some (.Name y py)) spos.line X.env = pure true) (hi : DIx X ca W tg iter m) (ok : blkC X.N X.env.scope scope own = true)
    (ho : ∀ i ∈ o, i ∈ own.map (·.2))
    (hg : ∀ (s : Shared) (H : Hp) (C : Addr) (cl : List (Str × Addr)) (fp : List Addr), Here (X.blk s H scope (compEnvC scope cl C X.env) fp) WF k → DGx (X.blk s H scope (compEnvC scope cl C X.env) fp) ca tg o t)
    (ht : ∀ (s : Shared) (H : Hp) (C : Addr) (cl : List (Str × Addr)) (fp : List Addr), Here (X.blk s H scope (compEnvC scope cl C X.env) fp) WF k → DTsx (X.blk s H scope (compEnvC scope cl C X.env) fp) ca WF ifs c)
    (he : ∀ (s : Shared) (H : Hp) (C : Addr) (cl : List (Str × Addr)) (fp : List Addr), Here (X.blk s H scope (compEnvC scope cl C X.env) fp) WF k → DEx (X.blk s H scope (compEnvC scope cl C X.env) fp) ca WF elt e) (hs : notSet iter = true) :
    DSx X ca W (.Assign [.Name y py] (.ListComp elt [⟨tg, iter, ifs, 0⟩] scope pos) spos) (sAsg (mLc F cell m (own.map (·.2)) t c e) (gmName i)) :=
  ds_setLc F cell hh.calm hh.nd hy hyl hsw hi ok ho (fun s H C cl fp => hg s H C cl fp (hh.blk ..)) (fun s H C cl fp => ht s H C cl fp (hh.blk ..)) (fun s H C cl fp => he s H C cl fp (hh.blk ..)) hs
end
end Iv
namespace Iv
open PySem PySem.Spec L2
/-- a law's promise: a script is handed in, True comes out -/
def spLaw (K : PySem.W.Frag) (n : Nat) : Sp := fun vs H Q _ => ∃ (a : Addr) (ns : List Int), vs = [.ref a] ∧ Only H ∧ SqL K H a (ns.map V.int) ∧ ns.length ≤ n ∧ ∀ H', Q (.bl true) H'
theorem law_head {l : PySem.W.OpenLaw} {w : World} {K : PySem.W.Frag} {mg : Str → Option Value} {ca : Nat → Addr} {fA : Addr} {x : Str} {qual name : Str} {st : Stmt} {k n : Nat} {r : List D → M D} (F : FnAt K name qual st [x] fA)
    (p : ∀ (P : Program) (w : World) (base : Heap), Prm P w K mg base ca k fA [x] r) (law : ∀ ns : List Int, ns.length ≤ n → ∃ μ, r [.script ns] [] = some (.ok (.bl true), μ)) :
    ∃ fd : FuncData, (∀ (s : Shared) (v : Value), BindsTo s fd ⟨[v], []⟩ [(x, v)]) ∧ ∀ base : Heap, K.In base → base.Ns mainGlobals mg → FnOk l.prog w K mg base (L2.CX l.prog w) k fA fd [x] (spLaw K n) := by
  obtain ⟨fd, h1, h2, h3⟩ := F.ex
  refine ⟨fd, fun s v => .of_eq (h3 [v] rfl), fun base _ _ => ?_⟩
  obtain ⟨fd', ⟨oc, od, osl, e1⟩, F', _⟩ := (p l.prog w base).ex
  obtain ⟨oc', od', osl', e2⟩ := fun_look h1
  rw [e1] at e2
  cases e2
  refine F'.imp fun vs H Q E ⟨a, ns, ev, ho, hs, hl, q⟩ => ?_
  obtain ⟨μ, e⟩ := law ns hl
  refine ⟨[], [], [.script ns], ⟨rfl, fun i j a h => by simp at h, fun i a d h => by simp at h, fun i h => by simp at h⟩, ?_, rfl, ?_⟩
  · rw [ev]
    refine .cons ?_ .nil
    unfold Rep
    refine ⟨a, rfl, ?_⟩
    rcases hs with hs | hs
    · rcases hs with hs | ⟨o, hs⟩
      · rcases ho a with z | ⟨o, xs, z⟩
        · rw [hs] at z; cases z
        · rw [hs] at z; cases z
      · exact .inl ⟨o, hs⟩
    · exact .inr hs
  · rw [e]
    intro φ' H' v x m rv
    have := rep_bl.mp rv
    subst this
    exact q H'
theorem walk_iv {l : PySem.W.OpenLaw} {n k : Nat} {q : Program} {loose : List Str} {XP : (Str → Option Value) → Heap → Prop} {YP : World → Heap → Prop} {d : DefRec} {K : Params → PySem.W.Frag} {x : Str}
    (hn : l.most = some n) (hdf : d.params.defaults = []) (hn2 : n ≤ sizeLine) (hr : Room k callerA) (hY : ∀ (w : World) (h : Heap), YP w h → (K w.params).In h)
    (F : ∀ (w : World) (mg : Str → Option Value) (fa : Addr) (h : Heap), (K w.params).In h → h.Ns mainGlobals mg → mg d.name = some (.ref fa) →
      ∃ fd : FuncData, (∀ (s : Shared) (u : Value), BindsTo s fd ⟨[u], []⟩ [(x, u)]) ∧ ∀ base : Heap, (K w.params).In base → base.Ns mainGlobals mg → FnOk l.prog w (K w.params) mg base (L2.CX l.prog w) k fa fd [x] (spLaw (K w.params) n)) :
    PySem.W.WalkO q loose XP YP l.row.toRowW d [] (fun f vs => PySem.call f vs) := by
  refine L2.walk_of (n := n) (k := k) (x := x) (CX := fun w => L2.CX l.prog w) (sp := fun w => spLaw (K w.params) n) hn hn2 hdf hr hY F (fun w H a ns hl ho hS => ⟨a, ns, rfl, ho, hS, hl, fun _ => rfl⟩) ?_
  rintro w H s e s' ⟨a, B, H', cls, dd, _, _, _, _, _, _, _, z⟩
  exact z
end Iv
end
section
set_option Elab.async false
set_option linter.all false
set_option maxRecDepth 100000
set_option maxHeartbeats 4000000
/-! IvWp: what must hold ahead of a run, for it to end as wished (the continuations printed by wp2.py). -/
namespace Iv
open PySem PySem.Spec L2

def wM {α : Type} (x : Option (R α × Mu)) (Q : R α → Mu → Prop) : Prop := match x with
  | some (r, μ) => Q r μ
  | none => False
def wO {α : Type} (x : Option (α × Mu)) (Q : α → Mu → Prop) : Prop := match x with
  | some (r, μ) => Q r μ
  | none => False
def wS (x : Option (Fl × Sg × Mu)) (Q : Fl → Sg → Mu → Prop) : Prop := match x with
  | some (f, δ, μ) => Q f δ μ
  | none => False
def wT (x : Option (Sg × Mu)) (Q : Sg → Mu → Prop) : Prop := match x with
  | some (δ, μ) => Q δ μ
  | none => False
@[simp] theorem wM_some {α : Type} {r : R α} {μ : Mu} {Q : R α → Mu → Prop} : wM (some (r, μ)) Q = Q r μ := rfl
@[simp] theorem wM_none {α : Type} {Q : R α → Mu → Prop} : wM none Q = False := rfl
@[simp] theorem wO_some {α : Type} {r : α} {μ : Mu} {Q : α → Mu → Prop} : wO (some (r, μ)) Q = Q r μ := rfl
@[simp] theorem wO_none {α : Type} {Q : α → Mu → Prop} : wO none Q = False := rfl
@[simp] theorem wS_some {f : Fl} {δ : Sg} {μ : Mu} {Q : Fl → Sg → Mu → Prop} : wS (some (f, δ, μ)) Q = Q f δ μ := rfl
@[simp] theorem wS_none {Q : Fl → Sg → Mu → Prop} : wS none Q = False := rfl
@[simp] theorem wT_some {δ : Sg} {μ : Mu} {Q : Sg → Mu → Prop} : wT (some (δ, μ)) Q = Q δ μ := rfl
@[simp] theorem wT_none {Q : Sg → Mu → Prop} : wT none Q = False := rfl
theorem wM.mono {α : Type} {x : Option (R α × Mu)} {Q Q' : R α → Mu → Prop} (h : wM x Q) (k : ∀ r μ, Q r μ → Q' r μ) : wM x Q' := by
  cases x with
  | none => exact h
  | some p => exact k _ _ h
theorem wS.mono {x : Option (Fl × Sg × Mu)} {Q Q' : Fl → Sg → Mu → Prop} (h : wS x Q) (k : ∀ f δ μ, Q f δ μ → Q' f δ μ) : wS x Q' := by
  cases x with
  | none => exact h
  | some p => exact k _ _ _ h
theorem wM.ex {α : Type} {x : Option (R α × Mu)} {Q : R α → Mu → Prop} (h : wM x Q) : ∃ r μ, x = some (r, μ) ∧ Q r μ := by
  cases x with
  | none => exact h.elim
  | some p => exact ⟨p.1, p.2, rfl, h⟩
/-! ### the continuations, by name (so that nothing is looked at ahead of its turn) -/
def okQ {α : Type} (Q : R α → Mu → Prop) : α → Mu → Prop := fun d μ => Q (.ok d) μ
@[simp] theorem okQ_at {α : Type} {Q : R α → Mu → Prop} {d : α} {μ : Mu} : okQ Q d μ = Q (.ok d) μ := rfl
def wB (d : D) (Q : R Bool → Mu → Prop) (μ : Mu) : Prop := match d with
  | .bl b => Q (.ok b) μ
  | _ => False
@[simp] theorem wB_bl {b : Bool} {Q : R Bool → Mu → Prop} {μ : Mu} : wB (.bl b) Q μ = Q (.ok b) μ := rfl
def wI (d : D) (Q : R (Option Int) → Mu → Prop) (μ : Mu) : Prop := match d with
  | .int i => Q (.ok (some i)) μ
  | _ => False
@[simp] theorem wI_int {i : Int} {Q : R (Option Int) → Mu → Prop} {μ : Mu} : wI (.int i) Q μ = Q (.ok (some i)) μ := rfl

def k2b (f : D → D → O D) (x : D) (Q : R D → Mu → Prop) : R (D) → Mu → Prop
  | .ok y, μ => wO (f x y μ) (okQ Q)
  | .err i ns vs, μ => Q (.err i ns vs) μ
@[simp] theorem k2b_ok {f : D → D → O D} {x : D} {Q : R D → Mu → Prop} {y : D} {μ : Mu} : k2b f x Q (.ok y) μ = (wO (f x y μ) (okQ Q)) := rfl
@[simp] theorem k2b_err {f : D → D → O D} {x : D} {Q : R D → Mu → Prop} {i ns vs} {μ : Mu} : k2b f x Q (.err i ns vs) μ = Q (.err i ns vs) μ := rfl
def k2 (f : D → D → O D) (b : Sg → M D) (δ : Sg) (Q : R D → Mu → Prop) : R (D) → Mu → Prop
  | .ok x, μ => wM (b δ μ) (k2b f x Q)
  | .err i ns vs, μ => Q (.err i ns vs) μ
@[simp] theorem k2_ok {f : D → D → O D} {b : Sg → M D} {δ : Sg} {Q : R D → Mu → Prop} {x : D} {μ : Mu} : k2 f b δ Q (.ok x) μ = (wM (b δ μ) (k2b f x Q)) := rfl
@[simp] theorem k2_err {f : D → D → O D} {b : Sg → M D} {δ : Sg} {Q : R D → Mu → Prop} {i ns vs} {μ : Mu} : k2 f b δ Q (.err i ns vs) μ = Q (.err i ns vs) μ := rfl
def k1 (f : D → O D) (Q : R D → Mu → Prop) : R (D) → Mu → Prop
  | .ok x, μ => wO (f x μ) (okQ Q)
  | .err i ns vs, μ => Q (.err i ns vs) μ
@[simp] theorem k1_ok {f : D → O D} {Q : R D → Mu → Prop} {x : D} {μ : Mu} : k1 f Q (.ok x) μ = (wO (f x μ) (okQ Q)) := rfl
@[simp] theorem k1_err {f : D → O D} {Q : R D → Mu → Prop} {i ns vs} {μ : Mu} : k1 f Q (.err i ns vs) μ = Q (.err i ns vs) μ := rfl
def kL (f : List D → O D) (Q : R D → Mu → Prop) : R (List D) → Mu → Prop
  | .ok x, μ => wO (f x μ) (okQ Q)
  | .err i ns vs, μ => Q (.err i ns vs) μ
@[simp] theorem kL_ok {f : List D → O D} {Q : R D → Mu → Prop} {x : List D} {μ : Mu} : kL f Q (.ok x) μ = (wO (f x μ) (okQ Q)) := rfl
@[simp] theorem kL_err {f : List D → O D} {Q : R D → Mu → Prop} {i ns vs} {μ : Mu} : kL f Q (.err i ns vs) μ = Q (.err i ns vs) μ := rfl
def kCb (x : D) (Q : R (List D) → Mu → Prop) : R (List D) → Mu → Prop
  | .ok y, μ => Q (.ok (x :: y)) μ
  | .err i ns vs, μ => Q (.err i ns vs) μ
@[simp] theorem kCb_ok {x : D} {Q : R (List D) → Mu → Prop} {y : List D} {μ : Mu} : kCb x Q (.ok y) μ = (Q (.ok (x :: y)) μ) := rfl
@[simp] theorem kCb_err {x : D} {Q : R (List D) → Mu → Prop} {i ns vs} {μ : Mu} : kCb x Q (.err i ns vs) μ = Q (.err i ns vs) μ := rfl
def kC (b : Sg → M (List D)) (δ : Sg) (Q : R (List D) → Mu → Prop) : R (D) → Mu → Prop
  | .ok x, μ => wM (b δ μ) (kCb x Q)
  | .err i ns vs, μ => Q (.err i ns vs) μ
@[simp] theorem kC_ok {b : Sg → M (List D)} {δ : Sg} {Q : R (List D) → Mu → Prop} {x : D} {μ : Mu} : kC b δ Q (.ok x) μ = (wM (b δ μ) (kCb x Q)) := rfl
@[simp] theorem kC_err {b : Sg → M (List D)} {δ : Sg} {Q : R (List D) → Mu → Prop} {i ns vs} {μ : Mu} : kC b δ Q (.err i ns vs) μ = Q (.err i ns vs) μ := rfl
def kTest  (Q : R Bool → Mu → Prop) : R (D) → Mu → Prop
  | .ok x, μ => wB x Q μ
  | .err i ns vs, μ => Q (.err i ns vs) μ
@[simp] theorem kTest_ok {Q : R Bool → Mu → Prop} {x : D} {μ : Mu} : kTest Q (.ok x) μ = (wB x Q μ) := rfl
@[simp] theorem kTest_err {Q : R Bool → Mu → Prop} {i ns vs} {μ : Mu} : kTest  Q (.err i ns vs) μ = Q (.err i ns vs) μ := rfl
def kNot  (Q : R Bool → Mu → Prop) : R (Bool) → Mu → Prop
  | .ok x, μ => Q (.ok !x) μ
  | .err i ns vs, μ => Q (.err i ns vs) μ
@[simp] theorem kNot_ok {Q : R Bool → Mu → Prop} {x : Bool} {μ : Mu} : kNot Q (.ok x) μ = (Q (.ok !x) μ) := rfl
@[simp] theorem kNot_err {Q : R Bool → Mu → Prop} {i ns vs} {μ : Mu} : kNot  Q (.err i ns vs) μ = Q (.err i ns vs) μ := rfl
def kAnd (b : Sg → M Bool) (δ : Sg) (Q : R Bool → Mu → Prop) : R (Bool) → Mu → Prop
  | .ok x, μ => if x = true then wM (b δ μ) Q else Q (.ok false) μ
  | .err i ns vs, μ => Q (.err i ns vs) μ
@[simp] theorem kAnd_ok {b : Sg → M Bool} {δ : Sg} {Q : R Bool → Mu → Prop} {x : Bool} {μ : Mu} : kAnd b δ Q (.ok x) μ = (if x = true then wM (b δ μ) Q else Q (.ok false) μ) := rfl
@[simp] theorem kAnd_err {b : Sg → M Bool} {δ : Sg} {Q : R Bool → Mu → Prop} {i ns vs} {μ : Mu} : kAnd b δ Q (.err i ns vs) μ = Q (.err i ns vs) μ := rfl
def kOr (b : Sg → M Bool) (δ : Sg) (Q : R Bool → Mu → Prop) : R (Bool) → Mu → Prop
  | .ok x, μ => if x = true then Q (.ok true) μ else wM (b δ μ) Q
  | .err i ns vs, μ => Q (.err i ns vs) μ
@[simp] theorem kOr_ok {b : Sg → M Bool} {δ : Sg} {Q : R Bool → Mu → Prop} {x : Bool} {μ : Mu} : kOr b δ Q (.ok x) μ = (if x = true then Q (.ok true) μ else wM (b δ μ) Q) := rfl
@[simp] theorem kOr_err {b : Sg → M Bool} {δ : Sg} {Q : R Bool → Mu → Prop} {i ns vs} {μ : Mu} : kOr b δ Q (.err i ns vs) μ = Q (.err i ns vs) μ := rfl
def kAndV (b : Sg → M D) (δ : Sg) (Q : R D → Mu → Prop) : R (Bool) → Mu → Prop
  | .ok x, μ => if x = true then wM (b δ μ) Q else Q (.ok (.bl false)) μ
  | .err i ns vs, μ => Q (.err i ns vs) μ
@[simp] theorem kAndV_ok {b : Sg → M D} {δ : Sg} {Q : R D → Mu → Prop} {x : Bool} {μ : Mu} : kAndV b δ Q (.ok x) μ = (if x = true then wM (b δ μ) Q else Q (.ok (.bl false)) μ) := rfl
@[simp] theorem kAndV_err {b : Sg → M D} {δ : Sg} {Q : R D → Mu → Prop} {i ns vs} {μ : Mu} : kAndV b δ Q (.err i ns vs) μ = Q (.err i ns vs) μ := rfl
def kOrV (b : Sg → M D) (δ : Sg) (Q : R D → Mu → Prop) : R (Bool) → Mu → Prop
  | .ok x, μ => if x = true then Q (.ok (.bl true)) μ else wM (b δ μ) Q
  | .err i ns vs, μ => Q (.err i ns vs) μ
@[simp] theorem kOrV_ok {b : Sg → M D} {δ : Sg} {Q : R D → Mu → Prop} {x : Bool} {μ : Mu} : kOrV b δ Q (.ok x) μ = (if x = true then Q (.ok (.bl true)) μ else wM (b δ μ) Q) := rfl
@[simp] theorem kOrV_err {b : Sg → M D} {δ : Sg} {Q : R D → Mu → Prop} {i ns vs} {μ : Mu} : kOrV b δ Q (.err i ns vs) μ = Q (.err i ns vs) μ := rfl
def kNotV  (Q : R D → Mu → Prop) : R (Bool) → Mu → Prop
  | .ok x, μ => Q (.ok (.bl !x)) μ
  | .err i ns vs, μ => Q (.err i ns vs) μ
@[simp] theorem kNotV_ok {Q : R D → Mu → Prop} {x : Bool} {μ : Mu} : kNotV Q (.ok x) μ = (Q (.ok (.bl !x)) μ) := rfl
@[simp] theorem kNotV_err {Q : R D → Mu → Prop} {i ns vs} {μ : Mu} : kNotV  Q (.err i ns vs) μ = Q (.err i ns vs) μ := rfl
def kIf {α : Type} (a b : Sg → M α) (δ : Sg) (Q : R α → Mu → Prop) : R Bool → Mu → Prop
  | .ok x, μ => if x = true then wM (a δ μ) Q else wM (b δ μ) Q
  | .err i ns vs, μ => Q (.err i ns vs) μ
@[simp] theorem kIf_ok {α : Type} {a b : Sg → M α} {δ : Sg} {Q : R α → Mu → Prop} {x : Bool} {μ : Mu} : kIf a b δ Q (.ok x) μ = if x = true then wM (a δ μ) Q else wM (b δ μ) Q := rfl
def kBool (K : R Bool → Mu → Prop) : D → Mu → Prop := fun d μ => wB d K μ
@[simp] theorem kBool_at {K : R Bool → Mu → Prop} {d : D} {μ : Mu} : kBool K d μ = wB d K μ := rfl
def kChd (f : D → D → O D) (y : D) (Q : R D → Mu → Prop) : R (D) → Mu → Prop
  | .ok u, μ => wO (f y u μ) (okQ Q)
  | .err i ns vs, μ => Q (.err i ns vs) μ
@[simp] theorem kChd_ok {f : D → D → O D} {y : D} {Q : R D → Mu → Prop} {u : D} {μ : Mu} : kChd f y Q (.ok u) μ = (wO (f y u μ) (okQ Q)) := rfl
@[simp] theorem kChd_err {f : D → D → O D} {y : D} {Q : R D → Mu → Prop} {i ns vs} {μ : Mu} : kChd f y Q (.err i ns vs) μ = Q (.err i ns vs) μ := rfl
def kChc (f : D → D → O D) (y : D) (c : Sg → M D) (δ : Sg) (Q : R D → Mu → Prop) : R (Bool) → Mu → Prop
  | .ok x, μ => if x = true then wM (c δ μ) (kChd f y Q) else Q (.ok (.bl false)) μ
  | .err i ns vs, μ => Q (.err i ns vs) μ
@[simp] theorem kChc_ok {f : D → D → O D} {y : D} {c : Sg → M D} {δ : Sg} {Q : R D → Mu → Prop} {x : Bool} {μ : Mu} : kChc f y c δ Q (.ok x) μ = (if x = true then wM (c δ μ) (kChd f y Q) else Q (.ok (.bl false)) μ) := rfl
@[simp] theorem kChc_err {f : D → D → O D} {y : D} {c : Sg → M D} {δ : Sg} {Q : R D → Mu → Prop} {i ns vs} {μ : Mu} : kChc f y c δ Q (.err i ns vs) μ = Q (.err i ns vs) μ := rfl
def kChb (f g : D → D → O D) (x : D) (c : Sg → M D) (δ : Sg) (Q : R D → Mu → Prop) : R (D) → Mu → Prop
  | .ok y, μ => wO (f x y μ) (kBool (kChc g y c δ Q))
  | .err i ns vs, μ => Q (.err i ns vs) μ
@[simp] theorem kChb_ok {f g : D → D → O D} {x : D} {c : Sg → M D} {δ : Sg} {Q : R D → Mu → Prop} {y : D} {μ : Mu} : kChb f g x c δ Q (.ok y) μ = (wO (f x y μ) (kBool (kChc g y c δ Q))) := rfl
@[simp] theorem kChb_err {f g : D → D → O D} {x : D} {c : Sg → M D} {δ : Sg} {Q : R D → Mu → Prop} {i ns vs} {μ : Mu} : kChb f g x c δ Q (.err i ns vs) μ = Q (.err i ns vs) μ := rfl
def kCh (f g : D → D → O D) (b c : Sg → M D) (δ : Sg) (Q : R D → Mu → Prop) : R (D) → Mu → Prop
  | .ok x, μ => wM (b δ μ) (kChb f g x c δ Q)
  | .err i ns vs, μ => Q (.err i ns vs) μ
@[simp] theorem kCh_ok {f g : D → D → O D} {b c : Sg → M D} {δ : Sg} {Q : R D → Mu → Prop} {x : D} {μ : Mu} : kCh f g b c δ Q (.ok x) μ = (wM (b δ μ) (kChb f g x c δ Q)) := rfl
@[simp] theorem kCh_err {f g : D → D → O D} {b c : Sg → M D} {δ : Sg} {Q : R D → Mu → Prop} {i ns vs} {μ : Mu} : kCh f g b c δ Q (.err i ns vs) μ = Q (.err i ns vs) μ := rfl
def kPart  (Q : R (Option Int) → Mu → Prop) : R (D) → Mu → Prop
  | .ok x, μ => wI x Q μ
  | .err i ns vs, μ => Q (.err i ns vs) μ
@[simp] theorem kPart_ok {Q : R (Option Int) → Mu → Prop} {x : D} {μ : Mu} : kPart Q (.ok x) μ = (wI x Q μ) := rfl
@[simp] theorem kPart_err {Q : R (Option Int) → Mu → Prop} {i ns vs} {μ : Mu} : kPart  Q (.err i ns vs) μ = Q (.err i ns vs) μ := rfl
def kSlc (f : D → Option Int → Option Int → O D) (x : D) (l : Option Int) (Q : R D → Mu → Prop) : R (Option Int) → Mu → Prop
  | .ok u, μ => wO (f x l u μ) (okQ Q)
  | .err i ns vs, μ => Q (.err i ns vs) μ
@[simp] theorem kSlc_ok {f : D → Option Int → Option Int → O D} {x : D} {l : Option Int} {Q : R D → Mu → Prop} {u : Option Int} {μ : Mu} : kSlc f x l Q (.ok u) μ = (wO (f x l u μ) (okQ Q)) := rfl
@[simp] theorem kSlc_err {f : D → Option Int → Option Int → O D} {x : D} {l : Option Int} {Q : R D → Mu → Prop} {i ns vs} {μ : Mu} : kSlc f x l Q (.err i ns vs) μ = Q (.err i ns vs) μ := rfl
def kSlb (f : D → Option Int → Option Int → O D) (x : D) (b : Sg → M (Option Int)) (δ : Sg) (Q : R D → Mu → Prop) : R (Option Int) → Mu → Prop
  | .ok l, μ => wM (b δ μ) (kSlc f x l Q)
  | .err i ns vs, μ => Q (.err i ns vs) μ
@[simp] theorem kSlb_ok {f : D → Option Int → Option Int → O D} {x : D} {b : Sg → M (Option Int)} {δ : Sg} {Q : R D → Mu → Prop} {l : Option Int} {μ : Mu} : kSlb f x b δ Q (.ok l) μ = (wM (b δ μ) (kSlc f x l Q)) := rfl
@[simp] theorem kSlb_err {f : D → Option Int → Option Int → O D} {x : D} {b : Sg → M (Option Int)} {δ : Sg} {Q : R D → Mu → Prop} {i ns vs} {μ : Mu} : kSlb f x b δ Q (.err i ns vs) μ = Q (.err i ns vs) μ := rfl
def kSl (f : D → Option Int → Option Int → O D) (a b : Sg → M (Option Int)) (δ : Sg) (Q : R D → Mu → Prop) : R (D) → Mu → Prop
  | .ok x, μ => wM (a δ μ) (kSlb f x b δ Q)
  | .err i ns vs, μ => Q (.err i ns vs) μ
@[simp] theorem kSl_ok {f : D → Option Int → Option Int → O D} {a b : Sg → M (Option Int)} {δ : Sg} {Q : R D → Mu → Prop} {x : D} {μ : Mu} : kSl f a b δ Q (.ok x) μ = (wM (a δ μ) (kSlb f x b δ Q)) := rfl
@[simp] theorem kSl_err {f : D → Option Int → Option Int → O D} {a b : Sg → M (Option Int)} {δ : Sg} {Q : R D → Mu → Prop} {i ns vs} {μ : Mu} : kSl f a b δ Q (.err i ns vs) μ = Q (.err i ns vs) μ := rfl
def kBMb (f : D → List D → O D) (x : D) (Q : R D → Mu → Prop) : R (List D) → Mu → Prop
  | .ok y, μ => wO (f x y μ) (okQ Q)
  | .err i ns vs, μ => Q (.err i ns vs) μ
@[simp] theorem kBMb_ok {f : D → List D → O D} {x : D} {Q : R D → Mu → Prop} {y : List D} {μ : Mu} : kBMb f x Q (.ok y) μ = (wO (f x y μ) (okQ Q)) := rfl
@[simp] theorem kBMb_err {f : D → List D → O D} {x : D} {Q : R D → Mu → Prop} {i ns vs} {μ : Mu} : kBMb f x Q (.err i ns vs) μ = Q (.err i ns vs) μ := rfl
def kBM (T : String) (f : D → List D → O D) (a : Sg → M (List D)) (δ : Sg) (Q : R D → Mu → Prop) : R (D) → Mu → Prop
  | .ok x, μ => if hasTy T x μ = true then wM (a δ μ) (kBMb f x Q) else False
  | .err i ns vs, μ => Q (.err i ns vs) μ
@[simp] theorem kBM_ok {T : String} {f : D → List D → O D} {a : Sg → M (List D)} {δ : Sg} {Q : R D → Mu → Prop} {x : D} {μ : Mu} : kBM T f a δ Q (.ok x) μ = (if hasTy T x μ = true then wM (a δ μ) (kBMb f x Q) else False) := rfl
@[simp] theorem kBM_err {T : String} {f : D → List D → O D} {a : Sg → M (List D)} {δ : Sg} {Q : R D → Mu → Prop} {i ns vs} {μ : Mu} : kBM T f a δ Q (.err i ns vs) μ = Q (.err i ns vs) μ := rfl
def kBM0 (T : String) (f : D → List D → O D) (Q : R D → Mu → Prop) : R (D) → Mu → Prop
  | .ok x, μ => if hasTy T x μ = true then wO (f x [] μ) (okQ Q) else False
  | .err i ns vs, μ => Q (.err i ns vs) μ
@[simp] theorem kBM0_ok {T : String} {f : D → List D → O D} {Q : R D → Mu → Prop} {x : D} {μ : Mu} : kBM0 T f Q (.ok x) μ = (if hasTy T x μ = true then wO (f x [] μ) (okQ Q) else False) := rfl
@[simp] theorem kBM0_err {T : String} {f : D → List D → O D} {Q : R D → Mu → Prop} {i ns vs} {μ : Mu} : kBM0 T f Q (.err i ns vs) μ = Q (.err i ns vs) μ := rfl
def kCall (n : Nat) (f : List D → M D) (Q : R D → Mu → Prop) : R (List D) → Mu → Prop
  | .ok x, μ => if x.length = n then wM (f x μ) Q else False
  | .err i ns vs, μ => Q (.err i ns vs) μ
@[simp] theorem kCall_ok {n : Nat} {f : List D → M D} {Q : R D → Mu → Prop} {x : List D} {μ : Mu} : kCall n f Q (.ok x) μ = (if x.length = n then wM (f x μ) Q else False) := rfl
@[simp] theorem kCall_err {n : Nat} {f : List D → M D} {Q : R D → Mu → Prop} {i ns vs} {μ : Mu} : kCall n f Q (.err i ns vs) μ = Q (.err i ns vs) μ := rfl
def kMake (c : Bool) (C n : Nat) (f : List D → M D) (Q : R D → Mu → Prop) : R (List D) → Mu → Prop
  | .ok x, μ => wM (mMakeD c C n f x μ) Q
  | .err i ns vs, μ => Q (.err i ns vs) μ
@[simp] theorem kMake_ok {c : Bool} {C n : Nat} {f : List D → M D} {Q : R D → Mu → Prop} {x : List D} {μ : Mu} : kMake c C n f Q (.ok x) μ = (wM (mMakeD c C n f x μ) Q) := rfl
@[simp] theorem kMake_err {c : Bool} {C n : Nat} {f : List D → M D} {Q : R D → Mu → Prop} {i ns vs} {μ : Mu} : kMake c C n f Q (.err i ns vs) μ = Q (.err i ns vs) μ := rfl
def kMetc (n : Nat) (f : List D → M D) (d : D) (Q : R D → Mu → Prop) : R (List D) → Mu → Prop
  | .ok x, μ => if x.length + 1 = n then wM (f (d :: x) μ) Q else False
  | .err i ns vs, μ => Q (.err i ns vs) μ
@[simp] theorem kMetc_ok {n : Nat} {f : List D → M D} {d : D} {Q : R D → Mu → Prop} {x : List D} {μ : Mu} : kMetc n f d Q (.ok x) μ = (if x.length + 1 = n then wM (f (d :: x) μ) Q else False) := rfl
@[simp] theorem kMetc_err {n : Nat} {f : List D → M D} {d : D} {Q : R D → Mu → Prop} {i ns vs} {μ : Mu} : kMetc n f d Q (.err i ns vs) μ = Q (.err i ns vs) μ := rfl
def kMetb (n : Nat) (f : List D → M D) (d : D) (a : Sg → M (List D)) (δ : Sg) (Q : R D → Mu → Prop) : R (Unit) → Mu → Prop
  | .ok u, μ => wM (a δ μ) (kMetc n f d Q)
  | .err i ns vs, μ => Q (.err i ns vs) μ
@[simp] theorem kMetb_ok {n : Nat} {f : List D → M D} {d : D} {a : Sg → M (List D)} {δ : Sg} {Q : R D → Mu → Prop} {u : Unit} {μ : Mu} : kMetb n f d a δ Q (.ok u) μ = (wM (a δ μ) (kMetc n f d Q)) := rfl
@[simp] theorem kMetb_err {n : Nat} {f : List D → M D} {d : D} {a : Sg → M (List D)} {δ : Sg} {Q : R D → Mu → Prop} {i ns vs} {μ : Mu} : kMetb n f d a δ Q (.err i ns vs) μ = Q (.err i ns vs) μ := rfl
def kMet (C n : Nat) (x : Str) (f : List D → M D) (a : Sg → M (List D)) (δ : Sg) (Q : R D → Mu → Prop) : R (D) → Mu → Prop
  | .ok d, μ => wM (ckIns C x d μ) (kMetb n f d a δ Q)
  | .err i ns vs, μ => Q (.err i ns vs) μ
@[simp] theorem kMet_ok {C n : Nat} {x : Str} {f : List D → M D} {a : Sg → M (List D)} {δ : Sg} {Q : R D → Mu → Prop} {d : D} {μ : Mu} : kMet C n x f a δ Q (.ok d) μ = (wM (ckIns C x d μ) (kMetb n f d a δ Q)) := rfl
@[simp] theorem kMet_err {C n : Nat} {x : Str} {f : List D → M D} {a : Sg → M (List D)} {δ : Sg} {Q : R D → Mu → Prop} {i ns vs} {μ : Mu} : kMet C n x f a δ Q (.err i ns vs) μ = Q (.err i ns vs) μ := rfl
def kIter  (Q : R Src → Mu → Prop) : R (D) → Mu → Prop
  | .ok x, μ => wM (srcD x μ) Q
  | .err i ns vs, μ => Q (.err i ns vs) μ
@[simp] theorem kIter_ok {Q : R Src → Mu → Prop} {x : D} {μ : Mu} : kIter Q (.ok x) μ = (wM (srcD x μ) Q) := rfl
@[simp] theorem kIter_err {Q : R Src → Mu → Prop} {i ns vs} {μ : Mu} : kIter  Q (.err i ns vs) μ = Q (.err i ns vs) μ := rfl
def kSrc (f : List D → M Src) (Q : R Src → Mu → Prop) : R (List D) → Mu → Prop
  | .ok x, μ => wM (f x μ) Q
  | .err i ns vs, μ => Q (.err i ns vs) μ
@[simp] theorem kSrc_ok {f : List D → M Src} {Q : R Src → Mu → Prop} {x : List D} {μ : Mu} : kSrc f Q (.ok x) μ = (wM (f x μ) Q) := rfl
@[simp] theorem kSrc_err {f : List D → M Src} {Q : R Src → Mu → Prop} {i ns vs} {μ : Mu} : kSrc f Q (.err i ns vs) μ = Q (.err i ns vs) μ := rfl
theorem wM_bind {α β : Type} {m : M α} {k : α → M β} {μ : Mu} {Q : R β → Mu → Prop} {K : R α → Mu → Prop} (h : ∀ a μ1, wM (k a μ1) Q = K (.ok a) μ1) (e : ∀ i ns vs μ1, K (.err i ns vs) μ1 = Q (.err i ns vs) μ1) : wM ((m >>= k) μ) Q = wM (m μ) K := by
  show wM (M.bind m k μ) Q = _
  unfold M.bind
  cases m μ with
  | none => rfl
  | some p =>
    obtain ⟨r, μ1⟩ := p
    cases r with
    | ok a => exact h a μ1
    | err i ns vs => exact (e i ns vs μ1).symm
theorem ee {α β : Type} {K : R α → Mu → Prop} {Q : R β → Mu → Prop} (h : ∀ i ns vs μ1, K (.err i ns vs) μ1 = Q (.err i ns vs) μ1) : ∀ i ns vs μ1, K (.err i ns vs) μ1 = Q (.err i ns vs) μ1 := h
@[simp] theorem w_pure {α : Type} {a : α} {μ : Mu} {Q : R α → Mu → Prop} : wM ((pure a : M α) μ) Q = Q (.ok a) μ := rfl
@[simp] theorem w_op {o : O D} {μ : Mu} {Q : R D → Mu → Prop} : wM (M.op o μ) Q = wO (o μ) (okQ Q) := by
  unfold M.op
  cases o μ with
  | none => rfl
  | some p => rfl
@[simp] theorem w_fail {α : Type} {μ : Mu} {Q : R α → Mu → Prop} : wM ((M.fail : M α) μ) Q = False := rfl
theorem w_asB {d : D} {μ : Mu} {Q : R Bool → Mu → Prop} : wM (asB d μ) Q = wB d Q μ := by
  cases d <;> rfl
theorem w_asB2 {β : Type} {d : D} {k : Bool → M β} {μ : Mu} {Q : R β → Mu → Prop} {K : R Bool → Mu → Prop} (h : ∀ b μ1, wM (k b μ1) Q = K (.ok b) μ1) (e : ∀ i ns vs μ1, K (.err i ns vs) μ1 = Q (.err i ns vs) μ1) : wM ((asB d >>= k) μ) Q = wB d K μ := by
  rw [wM_bind h e, w_asB]
theorem w_ite {α : Type} {b : Bool} {m n : M α} {μ : Mu} {Q : R α → Mu → Prop} : wM ((if b = true then m else n) μ) Q = if b = true then wM (m μ) Q else wM (n μ) Q := by cases b <;> rfl
theorem w_itep {α : Type} {p : Prop} [Decidable p] {m : M α} {μ : Mu} {Q : R α → Mu → Prop} : wM ((if p then m else M.fail) μ) Q = if p then wM (m μ) Q else False := by
  by_cases h : p
  · rw [if_pos h, if_pos h]
  · rw [if_neg h, if_neg h]; rfl
section
variable {δ : Sg} {μ : Mu}
@[simp] theorem w_var {i : Nat} {Q : R D → Mu → Prop} : wM (mVar i δ μ) Q = match δ[i]? with
  | some (some d) => Q (.ok d) μ
  | _ => False := by
  unfold mVar
  rcases δ[i]? with _ | _ | d <;> rfl
@[simp] theorem w_op2 {f : D → D → O D} {a b : Sg → M D} {Q : R D → Mu → Prop} : wM (mOp2 f a b δ μ) Q = wM (a δ μ) (k2 f b δ Q) := wM_bind (fun x μ1 => wM_bind (fun y μ2 => w_op) fun _ _ _ _ => rfl) fun _ _ _ _ => rfl
@[simp] theorem w_op1 {f : D → O D} {a : Sg → M D} {Q : R D → Mu → Prop} : wM (mOp1 f a δ μ) Q = wM (a δ μ) (k1 f Q) := wM_bind (fun x μ1 => w_op) fun _ _ _ _ => rfl
@[simp] theorem w_opL {f : List D → O D} {a : Sg → M (List D)} {Q : R D → Mu → Prop} : wM (mOpL f a δ μ) Q = wM (a δ μ) (kL f Q) := wM_bind (fun x μ1 => w_op) fun _ _ _ _ => rfl
@[simp] theorem w_nil {Q : R (List D) → Mu → Prop} : wM (mNil δ μ) Q = Q (.ok []) μ := rfl
@[simp] theorem w_cons {a : Sg → M D} {b : Sg → M (List D)} {Q : R (List D) → Mu → Prop} : wM (mCons a b δ μ) Q = wM (a δ μ) (kC b δ Q) := wM_bind (fun x μ1 => wM_bind (fun y μ2 => w_pure) fun _ _ _ _ => rfl) fun _ _ _ _ => rfl
@[simp] theorem w_test {a : Sg → M D} {Q : R Bool → Mu → Prop} : wM (mTest a δ μ) Q = wM (a δ μ) (kTest Q) := wM_bind (fun x μ1 => w_asB) fun _ _ _ _ => rfl
def kTru (Q : R Bool → Mu → Prop) : R D → Mu → Prop
  | .ok x, μ => match truO x μ with
    | some b => Q (.ok b) μ
    | none => False
  | .err i ns vs, μ => Q (.err i ns vs) μ
@[simp] theorem kTru_ok {x : D} {Q : R Bool → Mu → Prop} : kTru Q (.ok x) μ = match truO x μ with
    | some b => Q (.ok b) μ
    | none => False := rfl
@[simp] theorem w_tru {a : Sg → M D} {Q : R Bool → Mu → Prop} : wM (mTru a δ μ) Q = wM (a δ μ) (kTru Q) := wM_bind (fun x μ1 => by rw [kTru_ok]; cases truO x μ1 <;> rfl) fun _ _ _ _ => rfl
@[simp] theorem w_not {a : Sg → M Bool} {Q : R Bool → Mu → Prop} : wM (mNot a δ μ) Q = wM (a δ μ) (kNot Q) := wM_bind (fun x μ1 => w_pure) fun _ _ _ _ => rfl
@[simp] theorem w_and {a b : Sg → M Bool} {Q : R Bool → Mu → Prop} : wM (mAnd a b δ μ) Q = wM (a δ μ) (kAnd b δ Q) := wM_bind (fun x μ1 => by cases x <;> rfl) fun _ _ _ _ => rfl
@[simp] theorem w_or {a b : Sg → M Bool} {Q : R Bool → Mu → Prop} : wM (mOr a b δ μ) Q = wM (a δ μ) (kOr b δ Q) := wM_bind (fun x μ1 => by cases x <;> rfl) fun _ _ _ _ => rfl
def kB (K : R Bool → Mu → Prop) (Q : R D → Mu → Prop) : R D → Mu → Prop
  | .ok x, μ => wB x K μ
  | .err i ns vs, μ => Q (.err i ns vs) μ
@[simp] theorem kB_ok {x : D} {K : R Bool → Mu → Prop} {Q : R D → Mu → Prop} : kB K Q (.ok x) μ = wB x K μ := rfl
@[simp] theorem w_andV {a b : Sg → M D} {Q : R D → Mu → Prop} : wM (mAndV a b δ μ) Q = wM (a δ μ) (kB (kAndV b δ Q) Q) := wM_bind (fun x μ1 => w_asB2 (fun c μ2 => by cases c <;> rfl) fun _ _ _ _ => rfl) fun _ _ _ _ => rfl
@[simp] theorem w_orV {a b : Sg → M D} {Q : R D → Mu → Prop} : wM (mOrV a b δ μ) Q = wM (a δ μ) (kB (kOrV b δ Q) Q) := wM_bind (fun x μ1 => w_asB2 (fun c μ2 => by cases c <;> rfl) fun _ _ _ _ => rfl) fun _ _ _ _ => rfl
@[simp] theorem w_notV {a : Sg → M D} {Q : R D → Mu → Prop} : wM (mNotV a δ μ) Q = wM (a δ μ) (kB (kNotV Q) Q) := wM_bind (fun x μ1 => w_asB2 (fun c μ2 => rfl) fun _ _ _ _ => rfl) fun _ _ _ _ => rfl
@[simp] theorem w_if {α : Type} {t : Sg → M Bool} {a b : Sg → M α} {Q : R α → Mu → Prop} : wM (mIf t a b δ μ) Q = wM (t δ μ) (kIf a b δ Q) := wM_bind (fun x μ1 => by cases x <;> rfl) fun _ _ _ _ => rfl
@[simp] theorem w_chain {f g : D → D → O D} {a b c : Sg → M D} {Q : R D → Mu → Prop} : wM (mChain f g a b c δ μ) Q = wM (a δ μ) (kCh f g b c δ Q) := by
  refine wM_bind (fun x μ1 => wM_bind (fun y μ2 => ?_) fun _ _ _ _ => rfl) fun _ _ _ _ => rfl
  show wM ((M.op (f x y) >>= fun z => asB z >>= fun b => if b = true then (c δ >>= fun w => M.op (g y w)) else pure (D.bl false)) μ2) Q = wO (f x y μ2) (kBool (kChc g y c δ Q))
  show wM (M.bind (M.op (f x y)) _ μ2) Q = _
  unfold M.bind M.op
  cases f x y μ2 with
  | none => rfl
  | some p =>
    obtain ⟨z, μ3⟩ := p
    exact w_asB2 (fun b μ4 => by
      cases b with
      | true => exact wM_bind (fun w μ5 => w_op) fun _ _ _ _ => rfl
      | false => rfl) fun _ _ _ _ => rfl
@[simp] theorem w_noPart {Q : R (Option Int) → Mu → Prop} : wM (mNoPart δ μ) Q = Q (.ok none) μ := rfl
@[simp] theorem w_part {a : Sg → M D} {Q : R (Option Int) → Mu → Prop} : wM (mPart a δ μ) Q = wM (a δ μ) (kPart Q) := wM_bind (fun x μ1 => by cases x <;> rfl) fun _ _ _ _ => rfl
@[simp] theorem w_sl {f : D → Option Int → Option Int → O D} {a : Sg → M D} {l u : Sg → M (Option Int)} {Q : R D → Mu → Prop} : wM (mSl f a l u δ μ) Q = wM (a δ μ) (kSl f l u δ Q) := wM_bind (fun x μ1 => wM_bind (fun i μ2 => wM_bind (fun j μ3 => w_op) fun _ _ _ _ => rfl) fun _ _ _ _ => rfl) fun _ _ _ _ => rfl
theorem w_ck {α : Type} {T : String} {d : D} {k : Unit → M α} {Q : R α → Mu → Prop} : wM ((ckTy T d >>= k) μ) Q = if hasTy T d μ = true then wM (k () μ) Q else False := by
  show wM (M.bind (ckTy T d) k μ) Q = _
  unfold M.bind ckTy
  by_cases h : hasTy T d μ = true
  · rw [if_pos h, if_pos h]
  · rw [if_neg h, if_neg h]; rfl
@[simp] theorem w_bm {T : String} {f : D → List D → O D} {o : Sg → M D} {a : Sg → M (List D)} {Q : R D → Mu → Prop} : wM (mBM T f o a δ μ) Q = wM (o δ μ) (kBM T f a δ Q) := by
  refine wM_bind (fun x μ1 => ?_) fun _ _ _ _ => rfl
  rw [w_ck, kBM_ok]
  by_cases h : hasTy T x μ1 = true
  · rw [if_pos h, if_pos h]
    exact wM_bind (fun y μ2 => w_op) fun _ _ _ _ => rfl
  · rw [if_neg h, if_neg h]
@[simp] theorem w_bm0 {T : String} {f : D → List D → O D} {o : Sg → M D} {Q : R D → Mu → Prop} : wM (mBM0 T f o δ μ) Q = wM (o δ μ) (kBM0 T f Q) := by
  refine wM_bind (fun x μ1 => ?_) fun _ _ _ _ => rfl
  rw [w_ck, kBM0_ok]
  by_cases h : hasTy T x μ1 = true
  · rw [if_pos h, if_pos h]
    exact w_op
  · rw [if_neg h, if_neg h]
@[simp] theorem w_call {n : Nat} {f : List D → M D} {a : Sg → M (List D)} {Q : R D → Mu → Prop} : wM (mCall n f a δ μ) Q = wM (a δ μ) (kCall n f Q) := wM_bind (fun x μ1 => w_itep) fun _ _ _ _ => rfl
@[simp] theorem w_make {c : Bool} {C n : Nat} {f : List D → M D} {a : Sg → M (List D)} {Q : R D → Mu → Prop} : wM (mMake c C n f a δ μ) Q = wM (a δ μ) (kMake c C n f Q) := wM_bind (fun x μ1 => rfl) fun _ _ _ _ => rfl
@[simp] theorem w_meth {C n : Nat} {x : Str} {f : List D → M D} {o : Sg → M D} {a : Sg → M (List D)} {Q : R D → Mu → Prop} : wM (mMeth C x n f o a δ μ) Q = wM (o δ μ) (kMet C n x f a δ Q) := wM_bind (fun d μ1 => wM_bind (fun u μ2 => wM_bind (fun as μ3 => w_itep) fun _ _ _ _ => rfl) fun _ _ _ _ => rfl) fun _ _ _ _ => rfl
@[simp] theorem w_iter {a : Sg → M D} {Q : R Src → Mu → Prop} : wM (mIter a δ μ) Q = wM (a δ μ) (kIter Q) := wM_bind (fun x μ1 => rfl) fun _ _ _ _ => rfl
@[simp] theorem w_src {f : List D → M Src} {a : Sg → M (List D)} {Q : R Src → Mu → Prop} : wM (mSrc f a δ μ) Q = wM (a δ μ) (kSrc f Q) := wM_bind (fun x μ1 => rfl) fun _ _ _ _ => rfl

/-! ### blocks -/
theorem w_bindE {α : Type} {m : Sg → M α} {k : α → SM} {Q : Fl → Sg → Mu → Prop} {K : R α → Mu → Prop} (h : ∀ a μ1, wS (k a δ μ1) Q = K (.ok a) μ1) (e : ∀ i ns vs μ1, K (.err i ns vs) μ1 = Q (.xc i ns vs) δ μ1) : wS (bindE m k δ μ) Q = wM (m δ μ) K := by
  unfold bindE
  cases m δ μ with
  | none => rfl
  | some p =>
    obtain ⟨r, μ1⟩ := p
    cases r with
    | ok a => exact h a μ1
    | err i ns vs => exact (e i ns vs μ1).symm
@[simp] theorem w_next {Q : Fl → Sg → Mu → Prop} : wS (sNext δ μ) Q = Q .nx δ μ := rfl
@[simp] theorem w_break {Q : Fl → Sg → Mu → Prop} : wS (sBreak δ μ) Q = Q .bk δ μ := rfl
@[simp] theorem w_cont {Q : Fl → Sg → Mu → Prop} : wS (sCont δ μ) Q = Q .ct δ μ := rfl
@[simp] theorem w_never {Q : Fl → Sg → Mu → Prop} : wS (sNever δ μ) Q = False := rfl
@[simp] theorem w_retN {Q : Fl → Sg → Mu → Prop} : wS (sRetN δ μ) Q = Q (.rt .non) δ μ := rfl
def seqK (n : SM) (Q : Fl → Sg → Mu → Prop) : Fl → Sg → Mu → Prop := fun f δ μ => match f with
  | .nx => wS (n δ μ) Q
  | f => Q f δ μ
@[simp] theorem seqK_nx {n : SM} {Q : Fl → Sg → Mu → Prop} : seqK n Q .nx δ μ = wS (n δ μ) Q := rfl
@[simp] theorem seqK_bk {n : SM} {Q : Fl → Sg → Mu → Prop} : seqK n Q .bk δ μ = Q .bk δ μ := rfl
@[simp] theorem seqK_ct {n : SM} {Q : Fl → Sg → Mu → Prop} : seqK n Q .ct δ μ = Q .ct δ μ := rfl
@[simp] theorem seqK_rt {n : SM} {Q : Fl → Sg → Mu → Prop} {d : D} : seqK n Q (.rt d) δ μ = Q (.rt d) δ μ := rfl
@[simp] theorem seqK_xc {n : SM} {Q : Fl → Sg → Mu → Prop} {i ns ds} : seqK n Q (.xc i ns ds) δ μ = Q (.xc i ns ds) δ μ := rfl
@[simp] theorem w_seq {m n : SM} {Q : Fl → Sg → Mu → Prop} : wS (sSeq m n δ μ) Q = wS (m δ μ) (seqK n Q) := by
  unfold sSeq
  cases m δ μ with
  | none => rfl
  | some p =>
    obtain ⟨f, δ', μ'⟩ := p
    cases f <;> rfl
def kDrop (δ : Sg) (Q : Fl → Sg → Mu → Prop) : R D → Mu → Prop
  | .ok _, μ => Q .nx δ μ
  | .err i ns vs, μ => Q (.xc i ns vs) δ μ
@[simp] theorem kDrop_ok {d : D} {Q : Fl → Sg → Mu → Prop} : kDrop δ Q (.ok d) μ = Q .nx δ μ := rfl
@[simp] theorem kDrop_err {i ns vs} {Q : Fl → Sg → Mu → Prop} : kDrop δ Q (.err i ns vs) μ = Q (.xc i ns vs) δ μ := rfl
@[simp] theorem w_drop {a : Sg → M D} {Q : Fl → Sg → Mu → Prop} : wS (sDrop a δ μ) Q = wM (a δ μ) (kDrop δ Q) := w_bindE (fun _ _ => rfl) fun _ _ _ _ => rfl
def kRet (δ : Sg) (Q : Fl → Sg → Mu → Prop) : R D → Mu → Prop
  | .ok d, μ => Q (.rt d) δ μ
  | .err i ns vs, μ => Q (.xc i ns vs) δ μ
@[simp] theorem kRet_ok {d : D} {Q : Fl → Sg → Mu → Prop} : kRet δ Q (.ok d) μ = Q (.rt d) δ μ := rfl
@[simp] theorem kRet_err {i ns vs} {Q : Fl → Sg → Mu → Prop} : kRet δ Q (.err i ns vs) μ = Q (.xc i ns vs) δ μ := rfl
@[simp] theorem w_ret {a : Sg → M D} {Q : Fl → Sg → Mu → Prop} : wS (sRet a δ μ) Q = wM (a δ μ) (kRet δ Q) := w_bindE (fun _ _ => rfl) fun _ _ _ _ => rfl
def kSIf (m n : SM) (δ : Sg) (Q : Fl → Sg → Mu → Prop) : R Bool → Mu → Prop
  | .ok b, μ => if b = true then wS (m δ μ) Q else wS (n δ μ) Q
  | .err i ns vs, μ => Q (.xc i ns vs) δ μ
@[simp] theorem kSIf_ok {m n : SM} {b : Bool} {Q : Fl → Sg → Mu → Prop} : kSIf m n δ Q (.ok b) μ = if b = true then wS (m δ μ) Q else wS (n δ μ) Q := rfl
@[simp] theorem w_sIf {t : Sg → M Bool} {m n : SM} {Q : Fl → Sg → Mu → Prop} : wS (sIf t m n δ μ) Q = wM (t δ μ) (kSIf m n δ Q) := w_bindE (fun b _ => by cases b <;> rfl) fun _ _ _ _ => rfl
def nxT (Q : Fl → Sg → Mu → Prop) : Sg → Mu → Prop := fun δ μ => Q .nx δ μ
@[simp] theorem nxT_at {Q : Fl → Sg → Mu → Prop} : nxT Q δ μ = Q .nx δ μ := rfl
def kAsg (t : GM) (δ : Sg) (Q : Fl → Sg → Mu → Prop) : R D → Mu → Prop
  | .ok d, μ => wT (t d δ μ) (nxT Q)
  | .err i ns vs, μ => Q (.xc i ns vs) δ μ
@[simp] theorem kAsg_ok {t : GM} {d : D} {Q : Fl → Sg → Mu → Prop} : kAsg t δ Q (.ok d) μ = wT (t d δ μ) (nxT Q) := rfl
@[simp] theorem kAsg_err {t : GM} {i ns vs} {Q : Fl → Sg → Mu → Prop} : kAsg t δ Q (.err i ns vs) μ = Q (.xc i ns vs) δ μ := rfl
@[simp] theorem w_asg {a : Sg → M D} {t : GM} {Q : Fl → Sg → Mu → Prop} : wS (sAsg a t δ μ) Q = wM (a δ μ) (kAsg t δ Q) := w_bindE (fun d μ1 => by rw [kAsg_ok]; cases t d δ μ1 <;> rfl) fun _ _ _ _ => rfl
@[simp] theorem w_gname {i : Nat} {d : D} {Q : Sg → Mu → Prop} : wT (gmName i d δ μ) Q = Q (δ.set i (some d)) μ := rfl
def kPar (i j : Nat) (δ : Sg) (Q : Fl → Sg → Mu → Prop) : R (List D) → Mu → Prop
  | .ok ds, μ => match ds with
    | [d, e] => Q .nx ((δ.set i (some d)).set j (some e)) μ
    | _ => False
  | .err i ns vs, μ => Q (.xc i ns vs) δ μ
@[simp] theorem kPar_ok {i j : Nat} {d e : D} {Q : Fl → Sg → Mu → Prop} : kPar i j δ Q (.ok [d, e]) μ = Q .nx ((δ.set i (some d)).set j (some e)) μ := rfl
@[simp] theorem w_par {i j : Nat} {m : Sg → M (List D)} {Q : Fl → Sg → Mu → Prop} : wS (sPar i j m δ μ) Q = wM (m δ μ) (kPar i j δ Q) := w_bindE (fun ds μ1 => by
  show wS (match ds with
    | [d, e] => some (.nx, (δ.set i (some d)).set j (some e), μ1)
    | _ => none) Q = match ds with
    | [d, e] => Q .nx ((δ.set i (some d)).set j (some e)) μ1
    | _ => False
  split <;> rfl) fun _ _ _ _ => rfl
@[simp] theorem w_tup {n : Nat} {m : GMs} {ds : List D} {Q : Sg → Mu → Prop} : wT (gmTup n m (.tup ds) δ μ) Q = if ds.length = n then wT (m ds δ μ) Q else False := by
  show wT (if ds.length = n then m ds δ μ else none) Q = _
  split <;> rfl
@[simp] theorem w_unl {n : Nat} {m : GMs} {ds : List D} {Q : Sg → Mu → Prop} : wT (gmUnl n m (.lst ds) δ μ) Q = if ds.length = n then wT (m ds δ μ) Q else False := by
  show wT (if ds.length = n then m ds δ μ else none) Q = _
  split <;> rfl
@[simp] theorem w_gnil {Q : Sg → Mu → Prop} : wT (gmNil [] δ μ) Q = Q δ μ := rfl
def kGc (n : GMs) (r : List D) (Q : Sg → Mu → Prop) : Sg → Mu → Prop := fun δ μ => wT (n r δ μ) Q
@[simp] theorem kGc_at {n : GMs} {r : List D} {Q : Sg → Mu → Prop} : kGc n r Q δ μ = wT (n r δ μ) Q := rfl
@[simp] theorem w_gcons {m : GM} {n : GMs} {d : D} {r : List D} {Q : Sg → Mu → Prop} : wT (gmCons m n (d :: r) δ μ) Q = wT (m d δ μ) (kGc n r Q) := by
  show wT (match m d δ μ with
    | some (δ', μ') => n r δ' μ'
    | none => none) Q = _
  cases m d δ μ <;> rfl
def wU (x : Option Mu) (Q : Sg → Mu → Prop) (δ : Sg) : Prop := match x with
  | some μ => Q δ μ
  | none => False
@[simp] theorem wU_some {Q : Sg → Mu → Prop} : wU (some μ) Q δ = Q δ μ := rfl
def kGb (o d : D) (δ : Sg) (Q : Sg → Mu → Prop) : R D → Mu → Prop
  | .ok i, μ => wU (setO o i d μ) Q δ
  | .err .., _ => False
@[simp] theorem kGb_ok {o d i : D} {Q : Sg → Mu → Prop} : kGb o d δ Q (.ok i) μ = wU (setO o i d μ) Q δ := rfl
def kGa (mi : Sg → M D) (d : D) (δ : Sg) (Q : Sg → Mu → Prop) : R D → Mu → Prop
  | .ok o, μ => wM (mi δ μ) (kGb o d δ Q)
  | .err .., _ => False
@[simp] theorem kGa_ok {mi : Sg → M D} {o d : D} {Q : Sg → Mu → Prop} : kGa mi d δ Q (.ok o) μ = wM (mi δ μ) (kGb o d δ Q) := rfl
@[simp] theorem w_gsub {mo mi : Sg → M D} {d : D} {Q : Sg → Mu → Prop} : wT (gmSub mo mi d δ μ) Q = wM (mo δ μ) (kGa mi d δ Q) := by
  unfold gmSub
  cases mo δ μ with
  | none => rfl
  | some p =>
    obtain ⟨r, μ1⟩ := p
    cases r with
    | err => rfl
    | ok o =>
      rw [wM_some, kGa_ok]
      show wT (match mi δ μ1 with
        | some (.ok i, μ2) => match setO o i d μ2 with
          | some μ3 => some (δ, μ3)
          | none => none
        | _ => none) Q = _
      cases mi δ μ1 with
      | none => rfl
      | some p =>
        obtain ⟨r, μ2⟩ := p
        cases r with
        | err => rfl
        | ok i =>
          rw [wM_some, kGb_ok]
          show wT (match setO o i d μ2 with
            | some μ3 => some (δ, μ3)
            | none => none) Q = _
          cases setO o i d μ2 <;> rfl
def kFb (cs : List Nat) (f : Str) (d : D) (δ : Sg) (Q : Fl → Sg → Mu → Prop) : R D → Mu → Prop
  | .ok o, μ => (match o with
    | .cell n => match μ[n]? with
      | some (.obj C ns ds) => if C ∈ cs ∧ ns.length < 1000 then Q .nx δ (μ.set n (.obj C (putN f ns) (Iv.putD f d ns ds))) else False
      | _ => False
    | _ => False)
  | .err i ns vs, μ => Q (.xc i ns vs) δ μ
@[simp] theorem kFb_ok {cs : List Nat} {f : Str} {d : D} {n : Nat} {Q : Fl → Sg → Mu → Prop} : kFb cs f d δ Q (.ok (.cell n)) μ = match μ[n]? with
      | some (.obj C ns ds) => if C ∈ cs ∧ ns.length < 1000 then Q .nx δ (μ.set n (.obj C (putN f ns) (Iv.putD f d ns ds))) else False
      | _ => False := rfl
def kFa (cs : List Nat) (f : Str) (mo : Sg → M D) (δ : Sg) (Q : Fl → Sg → Mu → Prop) : R D → Mu → Prop
  | .ok d, μ => wM (mo δ μ) (kFb cs f d δ Q)
  | .err i ns vs, μ => Q (.xc i ns vs) δ μ
@[simp] theorem kFa_ok {cs : List Nat} {f : Str} {d : D} {mo : Sg → M D} {Q : Fl → Sg → Mu → Prop} : kFa cs f mo δ Q (.ok d) μ = wM (mo δ μ) (kFb cs f d δ Q) := rfl
@[simp] theorem w_fldM {cs : List Nat} {f : Str} {mo me : Sg → M D} {Q : Fl → Sg → Mu → Prop} : wS (sFldM cs f mo me δ μ) Q = wM (me δ μ) (kFa cs f mo δ Q) := by
  refine w_bindE (fun d μ1 => w_bindE (fun o μ2 => ?_) fun _ _ _ _ => rfl) fun _ _ _ _ => rfl
  cases o with
  | cell n =>
    rw [kFb_ok]
    show wS (match μ2[n]? with
      | some (.obj C ns ds) => if C ∈ cs ∧ ns.length < 1000 then some (.nx, δ, μ2.set n (.obj C (putN f ns) (Iv.putD f d ns ds))) else none
      | _ => none) Q = _
    cases μ2[n]? with
    | none => rfl
    | some c =>
      cases c with
      | obj C ns ds =>
        show wS (if C ∈ cs ∧ ns.length < 1000 then some (.nx, δ, μ2.set n (.obj C (putN f ns) (Iv.putD f d ns ds))) else none) Q = if C ∈ cs ∧ ns.length < 1000 then Q .nx δ (μ2.set n (.obj C (putN f ns) (Iv.putD f d ns ds))) else False
        split <;> rfl
      | _ => rfl
  | _ => rfl
end

/-! ### a def -/
def fnK (keep : Bool) (b : Nat) (Q : R D → Mu → Prop) : Fl → Sg → Mu → Prop := fun f _ μ => match f with
  | .nx => wO (finD false b .non μ) (okQ Q)
  | .rt d => wO (finD keep b d μ) (okQ Q)
  | .xc i ns es => wO (finL b es μ) fun es μ' => Q (.err i ns es) μ'
  | _ => False
@[simp] theorem fnK_nx {keep : Bool} {b : Nat} {Q : R D → Mu → Prop} {δ : Sg} {μ : Mu} : fnK keep b Q .nx δ μ = wO (finD false b .non μ) (okQ Q) := rfl
@[simp] theorem fnK_rt {keep : Bool} {b : Nat} {d : D} {Q : R D → Mu → Prop} {δ : Sg} {μ : Mu} : fnK keep b Q (.rt d) δ μ = wO (finD keep b d μ) (okQ Q) := rfl
@[simp] theorem w_fn {N n : Nat} {keep : Bool} {body : SM} {ds : List D} {μ : Mu} {Q : R D → Mu → Prop} : wM (mFn N n keep body ds μ) Q = wS (body (ds.map some ++ List.replicate (N - n) none) μ) (fnK keep μ.length Q) := by
  unfold mFn
  cases body (ds.map some ++ List.replicate (N - n) none) μ with
  | none => rfl
  | some p =>
    obtain ⟨f, δ', μ'⟩ := p
    cases f with
    | nx =>
      show wM ((finD false μ.length .non μ').map fun p => (.ok p.1, p.2)) Q = wO (finD false μ.length .non μ') (okQ Q)
      cases finD false μ.length .non μ' <;> rfl
    | rt d =>
      show wM ((finD keep μ.length d μ').map fun p => (.ok p.1, p.2)) Q = wO (finD keep μ.length d μ') (okQ Q)
      cases finD keep μ.length d μ' <;> rfl
    | xc i ns es =>
      show wM ((finL μ.length es μ').map fun p => (.err i ns p.1, p.2)) Q = wO (finL μ.length es μ') fun es μ' => Q (.err i ns es) μ'
      cases finL μ.length es μ' <;> rfl
    | bk => rfl
    | ct => rfl
end Iv
end
section
set_option Elab.async false
set_option linter.all false
set_option maxRecDepth 100000
set_option maxHeartbeats 4000000
/-! IvLaw: operations on known data; loops by what stays true. -/
namespace Iv
open PySem PySem.Spec L2

section
variable {μ : Mu} {c : Bool} {i j : Int} {ds es : List D}
@[simp] theorem o_mkL : mkL false ds μ = some (.lst ds, μ) := rfl
@[simp] theorem o_mkC : mkL true ds μ = some (.cell μ.length, μ ++ [.lst ds]) := rfl
@[simp] theorem o_add : addO c (.int i) (.int j) μ = some (.int (i + j), μ) := rfl
theorem o_addT (h : ds.length + es.length ≤ LIM) : addO c (.tup ds) (.tup es) μ = some (.tup (ds ++ es), μ) := by
  show (if ds.length + es.length ≤ LIM then some (D.tup (ds ++ es), μ) else none) = _
  rw [if_pos h]
theorem o_addLL (h : ds.length + es.length ≤ LIM) : addO c (.lst ds) (.lst es) μ = mkL c (ds ++ es) μ := if_pos h
theorem o_addLC {n : Nat} (hn : μ[n]? = some (.lst es)) (h : ds.length + es.length ≤ LIM) : addO c (.lst ds) (.cell n) μ = mkL c (ds ++ es) μ := by
  have e : lstOf μ (.cell n) = some es := by simp [lstOf, hn]
  show (match lstOf μ (.lst ds), lstOf μ (.cell n) with
    | some x, some y => if x.length + y.length ≤ LIM then mkL c (x ++ y) μ else none
    | _, _ => none) = _
  rw [e]
  exact if_pos h
@[simp] theorem o_sub : subO (.int i) (.int j) μ = some (.int (i - j), μ) := rfl
theorem o_mul (h : (-(2 ^ 64) < i ∧ i < 2 ^ 64) ∨ (-(2 ^ 64) < j ∧ j < 2 ^ 64)) : mulO c (.int i) (.int j) μ = some (.int (i * j), μ) := if_pos h
theorem o_fdiv (h : 0 < j ∧ j < 1073741824) : fdivO (.int i) (.int j) μ = some (.int (i / j), μ) := if_pos h
theorem o_mod (h : 0 < j) : modO (.int i) (.int j) μ = some (.int (i % j), μ) := if_pos h
@[simp] theorem o_neg : negO (.int i) μ = some (.int (-i), μ) := rfl
@[simp] theorem o_intI : intO [.int i] μ = some (.int i, μ) := rfl
@[simp] theorem o_abs : absO [.int i] μ = some (.int (if i < 0 then -i else i), μ) := rfl
@[simp] theorem o_min : minO [.int i, .int j] μ = some (.int (if j < i then j else i), μ) := rfl
@[simp] theorem o_eqI : eqO false (.int i) (.int j) μ = some (.bl (decide (i = j)), μ) := by
  have e : eqD (.int i) (.int j) = decide (i = j) := by unfold eqD; by_cases h : i = j <;> simp [h]
  unfold eqO
  simp [derf, shp, e]
@[simp] theorem o_neI : eqO true (.int i) (.int j) μ = some (.bl (!decide (i = j)), μ) := by
  have e : eqD (.int i) (.int j) = decide (i = j) := by unfold eqD; by_cases h : i = j <;> simp [h]
  unfold eqO
  simp [derf, shp, e]
@[simp] theorem o_lt : ordO false (.int i) (.int j) μ = some (.bl (decide (i < j)), μ) := by
  unfold ordO
  simp [shp, cmpD]
@[simp] theorem o_le : ordO true (.int i) (.int j) μ = some (.bl (decide (i ≤ j)), μ) := by
  unfold ordO
  simp [shp, cmpD]
@[simp] theorem o_gt : gtO false (.int i) (.int j) μ = some (.bl (decide (j < i)), μ) := rfl
@[simp] theorem o_ge : gtO true (.int i) (.int j) μ = some (.bl (decide (j ≤ i)), μ) := rfl
@[simp] theorem o_lenL : lenO [.lst ds] μ = some (.int ds.length, μ) := rfl
@[simp] theorem o_lenT : lenO [.tup ds] μ = some (.int ds.length, μ) := rfl
theorem o_lenS {x : Str} (h : x.length ≤ LIM) : lenO [.str x] μ = some (.int x.length, μ) := if_pos h
theorem o_lenC {n : Nat} (h : μ[n]? = some (.lst ds)) : lenO [.cell n] μ = some (.int ds.length, μ) := by
  show (match seqOf μ (.cell n) with
    | some ds => some (D.int ds.length, μ)
    | none => match dictOf μ (.cell n) with
      | some (.dK ks _) => some (.int ks.length, μ)
      | _ => none) = _
  simp [seqOf, lstOfS, lstOf, h]
@[simp] theorem o_listL : listO c [.lst ds] μ = mkL c ds μ := rfl
@[simp] theorem o_listT : listO c [.tup ds] μ = mkL c ds μ := rfl
@[simp] theorem o_listS {ns : List Int} : listO c [.script ns] μ = mkL c (ns.map D.int) μ := rfl
@[simp] theorem o_tupL : tupleO [.lst ds] μ = some (.tup ds, μ) := rfl
@[simp] theorem o_tupT : tupleO [.tup ds] μ = some (.tup ds, μ) := rfl
theorem o_idxL {d : D} (h : atD ds i = some d) : idxO (.lst ds) (.int i) μ = some (d, μ) := by
  show (match atD ds i with
    | some d => some (d, μ)
    | none => none) = _
  rw [h]
theorem o_idxT {d : D} (h : atD ds i = some d) : idxO (.tup ds) (.int i) μ = some (d, μ) := by
  show (match atD ds i with
    | some d => some (d, μ)
    | none => none) = _
  rw [h]
theorem o_idxC {n : Nat} {d : D} (hn : μ[n]? = some (.lst ds)) (h : atD ds i = some d) : idxO (.cell n) (.int i) μ = some (d, μ) := by
  show (match seqOf μ (.cell n) with
    | some ds => (match atD ds i with
        | some d => some (d, μ)
        | none => none)
    | none => match getD? μ (.cell n) (.int i) with
      | some (some d) => some (d, μ)
      | _ => none) = _
  have e : seqOf μ (.cell n) = some ds := by simp [seqOf, lstOfS, lstOf, hn]
  rw [e]
  simp only
  rw [h]
theorem atD_nat {k : Nat} {d : D} (h : ds[k]? = some d) : atD ds (k : Int) = some d := by
  have hk := (List.getElem?_eq_some_iff.mp h).1
  have e : ixN ds.length (k : Int) = some k := by
    unfold ixN
    rw [if_pos (by omega), if_pos (by omega)]
    simp
  unfold atD atI
  rw [e]
  exact h
theorem atD_pos {d : D} (h0 : 0 ≤ i) (h : ds[i.toNat]? = some d) : atD ds i = some d := by
  have := atD_nat h
  rwa [Int.toNat_of_nonneg h0] at this
theorem o_setC {n k : Nat} {d : D} (hn : μ[n]? = some (.lst ds)) (hk : k < ds.length) : setO (.cell n) (.int (k : Int)) d μ = some (μ.set n (.lst (ds.set k d))) := by
  have e : lstCell μ (.cell n) = some (n, ds) := by simp [lstCell, hn]
  unfold setO
  rw [e]
  simp only
  have e2 : ixN ds.length (k : Int) = some k := by
    unfold ixN
    rw [if_pos (by omega), if_pos (by omega)]
    simp
  rw [e2]
theorem o_app {n : Nat} {d : D} (hn : μ[n]? = some (.lst ds)) (h : ds.length < LIM) : appendO (.cell n) [d] μ = some (.non, μ.set n (.lst (ds ++ [d]))) := by
  have e : lstCell μ (.cell n) = some (n, ds) := by simp [lstCell, hn]
  unfold appendO
  simp only
  rw [e]
  simp only
  rw [if_pos h]
theorem o_pop {n : Nat} {d : D} (hn : μ[n]? = some (.lst ds)) (h0 : 0 ≤ i) (h1 : i < LIM) (h : ds[i.toNat]? = some d) : popO (.cell n) [.int i] μ = some (d, μ.set n (.lst (ds.eraseIdx i.toNat))) := by
  have e : lstCell μ (.cell n) = some (n, ds) := by simp [lstCell, hn]
  unfold popO
  simp only
  rw [e]
  simp only
  rw [if_pos ⟨h0, h1⟩, h]
@[simp] theorem ty_lst : hasTy "list" (.lst ds) μ = true := rfl
@[simp] theorem ty_str {x : Str} : hasTy "str" (.str x) μ = true := rfl
theorem ty_cell {n : Nat} (h : μ[n]? = some (.lst ds)) : hasTy "list" (.cell n) μ = true := by
  unfold hasTy
  simp only
  rw [h]
  rfl
@[simp] theorem s_lst : srcD (.lst ds) μ = some (.ok (.stat ds), μ) := rfl
@[simp] theorem s_tup : srcD (.tup ds) μ = some (.ok (.stat ds), μ) := rfl
@[simp] theorem s_scr {ns : List Int} : srcD (.script ns) μ = some (.ok (.stat (ns.map D.int)), μ) := rfl
@[simp] theorem s_str {x : Str} : srcD (.str x) μ = some (.ok (.stat (signsD x)), μ) := rfl
theorem s_rng1 (h : -LIM ≤ j ∧ j ≤ LIM) : rng1 [.int j] μ = some (.ok (.stat (rngD 0 j.toNat)), μ) := if_pos h
theorem tup_mk (h : ds.length ≤ LIM) : tupMk ds μ = some (.tup ds, μ) := if_pos h
theorem lst_mk (h : ds.length ≤ LIM) : lstMk c ds μ = mkL c ds μ := if_pos h
end

/-! ### loops -/
def loopK (I : Sg → Mu → Prop) (Q : Fl → Sg → Mu → Prop) : Fl → Sg → Mu → Prop := fun f δ μ => match f with
  | .nx => I δ μ
  | .ct => I δ μ
  | .bk => Q .nx δ μ
  | f => Q f δ μ
section
variable {I : Sg → Mu → Prop} {Q : Fl → Sg → Mu → Prop} {δ : Sg} {μ : Mu}
@[simp] theorem loopK_nx : loopK I Q .nx δ μ = I δ μ := rfl
@[simp] theorem loopK_ct : loopK I Q .ct δ μ = I δ μ := rfl
@[simp] theorem loopK_bk : loopK I Q .bk δ μ = Q .nx δ μ := rfl
@[simp] theorem loopK_rt {d : D} : loopK I Q (.rt d) δ μ = Q (.rt d) δ μ := rfl
@[simp] theorem loopK_xc {i ns ds} : loopK I Q (.xc i ns ds) δ μ = Q (.xc i ns ds) δ μ := rfl
theorem w_loop {k : Option (Fl × Sg × Mu)} {again : SM} (h : wS k (loopK (fun δ μ => wS (again δ μ) Q) Q)) : wS (sLoop k again) Q := by
  cases k with
  | none => exact h
  | some p =>
    obtain ⟨f, δ', μ'⟩ := p
    cases f <;> exact h
def bodyK (b : SM) (K : Fl → Sg → Mu → Prop) : Sg → Mu → Prop := fun δ μ => wS (b δ μ) K
@[simp] theorem bodyK_at {b : SM} {K : Fl → Sg → Mu → Prop} : bodyK b K δ μ = wS (b δ μ) K := rfl
def forK (F : Nat) (t : GM) (b : SM) (δ : Sg) (Q : Fl → Sg → Mu → Prop) : R Src → Mu → Prop
  | .ok s, μ => wS (forI s t b (fuelOf F s) 0 δ μ) Q
  | .err i ns vs, μ => Q (.xc i ns vs) δ μ
@[simp] theorem forK_ok {F : Nat} {t : GM} {b : SM} {s : Src} : forK F t b δ Q (.ok s) μ = wS (forI s t b (fuelOf F s) 0 δ μ) Q := rfl
theorem w_forI {t : GM} {b : SM} (ds : List D) (Inv : Nat → Sg → Mu → Prop)
    (step : ∀ i d δ μ, ds[i]? = some d → Inv i δ μ → wT (t d δ μ) (bodyK b (loopK (Inv (i + 1)) Q))) (hd : ∀ δ μ, Inv ds.length δ μ → Q .nx δ μ) :
    ∀ (n i : Nat) (δ : Sg) (μ : Mu), i + n = ds.length + 1 → i ≤ ds.length → Inv i δ μ → wS (forI (.stat ds) t b n i δ μ) Q
  | 0, i, δ, μ, hn, hi, h => by omega
  | n + 1, i, δ, μ, hn, hi, h => by
    unfold forI
    show wS (match some ds[i]? with
      | none => none
      | some none => some (.nx, δ, μ)
      | some (some d) => match t d δ μ with
        | none => none
        | some (δ1, μ1) => sLoop (b δ1 μ1) (forI (.stat ds) t b n (i + 1))) Q
    cases e : ds[i]? with
    | none =>
      have hi' : ds.length ≤ i := List.getElem?_eq_none_iff.mp e
      have : i = ds.length := by omega
      subst this
      exact hd δ μ h
    | some d =>
      have hlt := (List.getElem?_eq_some_iff.mp e).1
      have s := step i d δ μ e h
      show wS (match t d δ μ with
        | none => none
        | some (δ1, μ1) => sLoop (b δ1 μ1) (forI (.stat ds) t b n (i + 1))) Q
      cases e2 : t d δ μ with
      | none => rw [e2] at s; exact s
      | some p =>
        obtain ⟨δ1, μ1⟩ := p
        rw [e2] at s
        show wS (sLoop (b δ1 μ1) (forI (.stat ds) t b n (i + 1))) Q
        have s' : wS (b δ1 μ1) (loopK (Inv (i + 1)) Q) := s
        refine w_loop (wS.mono s' fun f δ2 μ2 k => ?_)
        cases f with
        | nx => exact w_forI ds Inv step hd n (i + 1) δ2 μ2 (by omega) (by omega) k
        | ct => exact w_forI ds Inv step hd n (i + 1) δ2 μ2 (by omega) (by omega) k
        | bk => exact k
        | rt d => exact k
        | xc i ns ds => exact k
@[simp] theorem w_for {F : Nat} {m : Sg → M Src} {t : GM} {b : SM} : wS (sFor F m t b δ μ) Q = wM (m δ μ) (forK F t b δ Q) := w_bindE (fun _ _ => rfl) fun _ _ _ _ => rfl
/-- a for over known things -/
theorem w_forS {F : Nat} {t : GM} {b : SM} {ds : List D} (Inv : Nat → Sg → Mu → Prop) (h0 : Inv 0 δ μ)
    (step : ∀ i d δ μ, ds[i]? = some d → Inv i δ μ → wT (t d δ μ) (bodyK b (loopK (Inv (i + 1)) Q))) (hd : ∀ δ μ, Inv ds.length δ μ → Q .nx δ μ) : wS (forI (.stat ds) t b (fuelOf F (.stat ds)) 0 δ μ) Q :=
  w_forI ds Inv step hd _ 0 δ μ (by show 0 + (ds.length + 1) = _; omega) (Nat.zero_le _) h0
def wlK (b : SM) (I : Sg → Mu → Prop) (δ : Sg) (Q : Fl → Sg → Mu → Prop) : R Bool → Mu → Prop
  | .ok x, μ => if x = true then wS (b δ μ) (loopK I Q) else Q .nx δ μ
  | .err i ns vs, μ => Q (.xc i ns vs) δ μ
@[simp] theorem wlK_ok {b : SM} {x : Bool} : wlK b I δ Q (.ok x) μ = if x = true then wS (b δ μ) (loopK I Q) else Q .nx δ μ := rfl
/-- a while by its measure -/
theorem w_whileI {t : Sg → M Bool} {b : SM} (Inv : Nat → Sg → Mu → Prop) (step : ∀ m δ μ, Inv m δ μ → wM (t δ μ) (wlK b (fun δ μ => ∃ k, k < m ∧ Inv k δ μ) δ Q)) : ∀ (n m : Nat) (δ : Sg) (μ : Mu), m < n → Inv m δ μ → wS (sWhile t b n δ μ) Q
  | 0, m, δ, μ, hm, _ => absurd hm (Nat.not_lt_zero _)
  | n + 1, m, δ, μ, hm, h => by
    have s := step m δ μ h
    unfold sWhile bindE
    cases e : t δ μ with
    | none => rw [e] at s; exact s
    | some p =>
      obtain ⟨r, μ1⟩ := p
      rw [e] at s
      cases r with
      | err i ns vs => exact s
      | ok x =>
        cases x with
        | false => exact s
        | true =>
          show wS (sLoop (b δ μ1) (sWhile t b n)) Q
          have s' : wS (b δ μ1) (loopK (fun δ μ => ∃ k, k < m ∧ Inv k δ μ) Q) := s
          refine w_loop (wS.mono s' fun f δ2 μ2 k => ?_)
          cases f with
          | nx => obtain ⟨j, hj, hi⟩ := k; exact w_whileI Inv step n j δ2 μ2 (by omega) hi
          | ct => obtain ⟨j, hj, hi⟩ := k; exact w_whileI Inv step n j δ2 μ2 (by omega) hi
          | bk => exact k
          | rt d => exact k
          | xc i ns ds => exact k
end

/-! ### comprehensions -/
def lcE (I : List D → Mu → Prop) (acc : List D) (b : Nat) : R D → Mu → Prop
  | .ok y, μ => acc.length < LIM ∧ ∃ ν, μ = ν ++ [.lst acc] ∧ ν.length = b ∧ I (acc ++ [y]) ν
  | .err .., _ => False
@[simp] theorem lcE_ok {I : List D → Mu → Prop} {acc : List D} {b : Nat} {y : D} {μ : Mu} : lcE I acc b (.ok y) μ = (acc.length < LIM ∧ ∃ ν, μ = ν ++ [.lst acc] ∧ ν.length = b ∧ I (acc ++ [y]) ν) := rfl
def lcC (e : Sg → M D) (I : List D → Mu → Prop) (acc : List D) (b : Nat) (δ : Sg) : R Bool → Mu → Prop
  | .ok x, μ => if x = true then wM (e δ μ) (lcE I acc b) else ∃ ν, μ = ν ++ [.lst acc] ∧ ν.length = b ∧ I acc ν
  | .err .., _ => False
@[simp] theorem lcC_ok {e : Sg → M D} {I : List D → Mu → Prop} {acc : List D} {b : Nat} {δ : Sg} {x : Bool} {μ : Mu} : lcC e I acc b δ (.ok x) μ = if x = true then wM (e δ μ) (lcE I acc b) else ∃ ν, μ = ν ++ [.lst acc] ∧ ν.length = b ∧ I acc ν := rfl
def lcT (c : Sg → M Bool) (e : Sg → M D) (I : List D → Mu → Prop) (acc : List D) (b : Nat) : Sg → Mu → Prop := fun δ μ => wM (c δ μ) (lcC e I acc b δ)
@[simp] theorem lcT_at {c : Sg → M Bool} {e : Sg → M D} {I : List D → Mu → Prop} {acc : List D} {b : Nat} {δ : Sg} {μ : Mu} : lcT c e I acc b δ μ = wM (c δ μ) (lcC e I acc b δ) := rfl
@[simp] theorem w_yes {δ : Sg} {μ : Mu} {Q : R Bool → Mu → Prop} : wM (tYesM δ μ) Q = Q (.ok true) μ := rfl
def lcK (F : Nat) (cell : Bool) (own : List Nat) (t : GM) (c : Sg → M Bool) (e : Sg → M D) (δ : Sg) (Q : R D → Mu → Prop) : R Src → Mu → Prop
  | .ok s, μ => match lcI s own μ.length t c e δ (fuelOf F s) 0 (μ ++ [.lst []]) with
    | some μ' => wM (endL cell μ.length μ') Q
    | none => False
  | .err i ns vs, μ => Q (.err i ns vs) μ
@[simp] theorem w_lc {F : Nat} {cell : Bool} {m : Sg → M Src} {own : List Nat} {t : GM} {c : Sg → M Bool} {e : Sg → M D} {δ : Sg} {μ : Mu} {Q : R D → Mu → Prop} : wM (mLc F cell m own t c e δ μ) Q = wM (m δ μ) (lcK F cell own t c e δ Q) :=
  wM_bind (fun s μ1 => by
    show wM (match lcI s own μ1.length t c e δ (fuelOf F s) 0 (μ1 ++ [.lst []]) with
      | some μ' => endL cell μ1.length μ'
      | none => none) Q = match lcI s own μ1.length t c e δ (fuelOf F s) 0 (μ1 ++ [.lst []]) with
      | some μ' => wM (endL cell μ1.length μ') Q
      | none => False
    cases lcI s own μ1.length t c e δ (fuelOf F s) 0 (μ1 ++ [.lst []]) <;> rfl) fun _ _ _ _ => rfl
section
variable {own : List Nat} {t : GM} {c : Sg → M Bool} {e : Sg → M D} {δ : Sg} {b : Nat}
theorem w_lcI (ds : List D) (Inv : Nat → List D → Mu → Prop) (step : ∀ i d acc ν, ds[i]? = some d → Inv i acc ν → ν.length = b → wT (t d (wipeG δ own) (ν ++ [.lst acc])) (lcT c e (Inv (i + 1)) acc b)) :
    ∀ (n i : Nat) (acc : List D) (ν : Mu), i + n = ds.length + 1 → i ≤ ds.length → ν.length = b → Inv i acc ν → ∃ acc' ν', lcI (.stat ds) own b t c e δ n i (ν ++ [.lst acc]) = some (ν' ++ [.lst acc']) ∧ ν'.length = b ∧ Inv ds.length acc' ν'
  | 0, i, acc, ν, hn, hi, hl, h => by omega
  | n + 1, i, acc, ν, hn, hi, hl, h => by
    unfold lcI
    show ∃ acc' ν', (match some ds[i]? with
      | none => none
      | some none => some (ν ++ [.lst acc])
      | some (some d) => match t d (wipeG δ own) (ν ++ [.lst acc]) with
        | none => none
        | some (δ1, μ1) => match c δ1 μ1 with
          | some (.ok true, μ2) => (match e δ1 μ2 with
            | some (.ok y, μ3) => (match μ3[b]? with
              | some (.lst acc) => if acc.length < LIM then lcI (.stat ds) own b t c e δ n (i + 1) (μ3.set b (.lst (acc ++ [y]))) else none
              | _ => none)
            | _ => none)
          | some (.ok false, μ2) => lcI (.stat ds) own b t c e δ n (i + 1) μ2
          | _ => none) = some (ν' ++ [.lst acc']) ∧ ν'.length = b ∧ Inv ds.length acc' ν'
    cases q : ds[i]? with
    | none =>
      have hi' : ds.length ≤ i := List.getElem?_eq_none_iff.mp q
      have : i = ds.length := by omega
      subst this
      exact ⟨acc, ν, rfl, hl, h⟩
    | some d =>
      have hlt := (List.getElem?_eq_some_iff.mp q).1
      have s := step i d acc ν q h hl
      simp only
      cases e1 : t d (wipeG δ own) (ν ++ [.lst acc]) with
      | none => rw [e1] at s; exact s.elim
      | some p =>
        obtain ⟨δ1, μ1⟩ := p
        rw [e1] at s
        have s1 : wM (c δ1 μ1) (lcC e (Inv (i + 1)) acc b δ1) := s
        simp only
        cases e2 : c δ1 μ1 with
        | none => rw [e2] at s1; exact s1.elim
        | some p =>
          obtain ⟨r, μ2⟩ := p
          rw [e2] at s1
          cases r with
          | err => exact s1.elim
          | ok x =>
            cases x with
            | false =>
              obtain ⟨ν2, rfl, h2, h3⟩ := s1
              exact w_lcI ds Inv step n (i + 1) acc ν2 (by omega) (by omega) h2 h3
            | true =>
              have s2 : wM (e δ1 μ2) (lcE (Inv (i + 1)) acc b) := s1
              simp only
              cases e3 : e δ1 μ2 with
              | none => rw [e3] at s2; exact s2.elim
              | some p =>
                obtain ⟨r, μ3⟩ := p
                rw [e3] at s2
                cases r with
                | err => exact s2.elim
                | ok y =>
                  obtain ⟨hz, ν3, rfl, h2, h3⟩ := s2
                  have g : (ν3 ++ [D.lst acc])[b]? = some (.lst acc) := by
                    rw [List.getElem?_append_right (by omega), h2, Nat.sub_self]; rfl
                  simp only [g]
                  rw [if_pos hz]
                  have g2 : (ν3 ++ [D.lst acc]).set b (.lst (acc ++ [y])) = ν3 ++ [.lst (acc ++ [y])] := by
                    rw [List.set_append_right _ _ (by omega), h2, Nat.sub_self]; rfl
                  rw [g2]
                  exact w_lcI ds Inv step n (i + 1) (acc ++ [y]) ν3 (by omega) (by omega) h2 h3
theorem w_lcS {F : Nat} {ds : List D} {μ : Mu} {Q : R D → Mu → Prop} (Inv : Nat → List D → Mu → Prop) (h0 : Inv 0 [] μ)
    (step : ∀ i d acc ν, ds[i]? = some d → Inv i acc ν → ν.length = μ.length → wT (t d (wipeG δ own) (ν ++ [.lst acc])) (lcT c e (Inv (i + 1)) acc μ.length))
    (hd : ∀ acc ν, Inv ds.length acc ν → ν.length = μ.length → bndL μ.length ν = true ∧ bndL μ.length acc = true ∧ Q (.ok (.lst acc)) ν) : lcK F false own t c e δ Q (.ok (.stat ds)) μ := by
  obtain ⟨acc, ν, h1, h2, h3⟩ := w_lcI (b := μ.length) ds Inv step (ds.length + 1) 0 [] μ (by omega) (Nat.zero_le _) rfl h0
  show match lcI (.stat ds) own μ.length t c e δ (ds.length + 1) 0 (μ ++ [.lst []]) with
    | some μ' => wM (endL false μ.length μ') Q
    | none => False
  rw [h1]
  obtain ⟨k1, k2, k3⟩ := hd acc ν h3 h2
  show wM (endL false μ.length (ν ++ [.lst acc])) Q
  unfold endL
  have g : (ν ++ [D.lst acc])[μ.length]? = some (.lst acc) := by
    rw [List.getElem?_append_right (by omega), h2, Nat.sub_self]; rfl
  have g2 : (ν ++ [D.lst acc]).take μ.length = ν := by rw [← h2]; simp
  rw [g]
  simp only
  rw [if_neg (by decide), g2, k1, k2]
  exact k3
theorem w_lcC {F : Nat} {ds : List D} {μ : Mu} {Q : R D → Mu → Prop} (Inv : Nat → List D → Mu → Prop) (h0 : Inv 0 [] μ)
    (step : ∀ i d acc ν, ds[i]? = some d → Inv i acc ν → ν.length = μ.length → wT (t d (wipeG δ own) (ν ++ [.lst acc])) (lcT c e (Inv (i + 1)) acc μ.length))
    (hd : ∀ acc ν, Inv ds.length acc ν → ν.length = μ.length → Q (.ok (.cell μ.length)) (ν ++ [.lst acc])) : lcK F true own t c e δ Q (.ok (.stat ds)) μ := by
  obtain ⟨acc, ν, h1, h2, h3⟩ := w_lcI (b := μ.length) ds Inv step (ds.length + 1) 0 [] μ (by omega) (Nat.zero_le _) rfl h0
  show match lcI (.stat ds) own μ.length t c e δ (ds.length + 1) 0 (μ ++ [.lst []]) with
    | some μ' => wM (endL true μ.length μ') Q
    | none => False
  rw [h1]
  show wM (endL true μ.length (ν ++ [.lst acc])) Q
  unfold endL
  have g : (ν ++ [D.lst acc])[μ.length]? = some (.lst acc) := by
    rw [List.getElem?_append_right (by omega), h2, Nat.sub_self]; rfl
  rw [g]
  exact hd acc ν h3 h2
/-- each of ds by f, nothing else changed -/
theorem w_lcM {F : Nat} {ds : List D} {μ : Mu} {Q : R D → Mu → Prop} (f : D → D) (hl : ds.length ≤ LIM)
    (step : ∀ d acc (K : R D → Mu → Prop), d ∈ ds → K (.ok (f d)) (μ ++ [.lst acc]) → wT (t d (wipeG δ own) (μ ++ [.lst acc])) (fun δ1 μ1 => wM (c δ1 μ1) (fun r μ2 => r = .ok true ∧ wM (e δ1 μ2) K)))
    (hb : bndL μ.length μ = true) (hf : bndL μ.length (ds.map f) = true) (hd : Q (.ok (.lst (ds.map f))) μ) : lcK F false own t c e δ Q (.ok (.stat ds)) μ := by
  refine w_lcS (fun i acc ν => ν = μ ∧ acc = (ds.take i).map f) ⟨rfl, rfl⟩ ?_ ?_
  · rintro i d acc ν hi ⟨rfl, rfl⟩ _
    have hlt := (List.getElem?_eq_some_iff.mp hi).1
    have s := step d ((ds.take i).map f) (lcE (fun acc ν' => ν' = ν ∧ acc = (ds.take (i + 1)).map f) ((ds.take i).map f) ν.length) (List.mem_of_getElem? hi) (by
      refine ⟨?_, ν, rfl, rfl, rfl, ?_⟩
      · rw [List.length_map, List.length_take]; omega
      · rw [List.take_add_one, hi, List.map_append]; rfl)
    cases e1 : t d (wipeG δ own) (ν ++ [.lst ((ds.take i).map f)]) with
    | none => rw [e1] at s; exact s.elim
    | some p =>
      obtain ⟨δ1, μ1⟩ := p
      rw [e1] at s
      show wM (c δ1 μ1) _
      have s1 : wM (c δ1 μ1) (fun r μ2 => r = .ok true ∧ wM (e δ1 μ2) _) := s
      refine wM.mono s1 fun r μ2 ⟨h1, h2⟩ => ?_
      subst h1
      exact h2
  · rintro acc ν ⟨rfl, rfl⟩ _
    rw [List.take_length]
    exact ⟨hb, hf, hd⟩
end
end Iv
namespace Iv
open PySem PySem.Spec L2
/-! ### plain data -/
def pln : Nat → D → Bool
  | 0, _ => false
  | n + 1, d => match d with
    | .cell _ => false
    | .tup ds => ds.all (pln n)
    | .lst ds => ds.all (pln n)
    | .obj _ _ ds => ds.all (pln n)
    | .dK _ ds => ds.all (pln n)
    | .dT _ ds => ds.all (pln n)
    | _ => true
theorem mapO_pln {f : D → Option D} {n : Nat} (hf : ∀ d, pln n d = true → f d = some d) : ∀ ds : List D, ds.all (pln n) = true → mapO f ds = some ds
  | [], _ => rfl
  | d :: ds, h => by
    rw [List.all_cons, Bool.and_eq_true] at h
    unfold mapO
    rw [hf d h.1]
    simp only
    rw [mapO_pln hf ds h.2]
theorem frz_pln {b : Nat} {μ : Mu} : ∀ (n : Nat) (d : D), pln n d = true → frz n b μ d = some d
  | 0, d, h => by cases h
  | n + 1, d, h => by
    have ih := frz_pln (b := b) (μ := μ) n
    cases d with
    | cell k => cases h
    | tup ds => unfold frz; simp only; rw [mapO_pln ih ds h]; rfl
    | lst ds => unfold frz; simp only; rw [mapO_pln ih ds h]; rfl
    | obj C ns ds => unfold frz; simp only; rw [mapO_pln ih ds h]; rfl
    | dK ks ds => unfold frz; simp only; rw [mapO_pln ih ds h]; rfl
    | dT ks ds => unfold frz; simp only; rw [mapO_pln ih ds h]; rfl
    | _ => rfl
theorem bndL_all {b : Nat} : ∀ {ds : List D}, (∀ d ∈ ds, bnd b d = true) → bndL b ds = true
  | [], _ => by unfold bndL; rfl
  | d :: ds, h => by
    unfold bndL
    rw [h d List.mem_cons_self, bndL_all fun e he => h e (List.mem_cons_of_mem _ he)]
    rfl
theorem bnd_pln {b : Nat} : ∀ (n : Nat) (d : D), pln n d = true → bnd b d = true
  | 0, d, h => by cases h
  | n + 1, d, h => by
    have ih := bnd_pln (b := b) n
    cases d with
    | cell k => cases h
    | tup ds => unfold bnd; exact bndL_all fun e he => ih e (List.all_eq_true.mp h e he)
    | lst ds => unfold bnd; exact bndL_all fun e he => ih e (List.all_eq_true.mp h e he)
    | obj C ns ds => unfold bnd; exact bndL_all fun e he => ih e (List.all_eq_true.mp h e he)
    | dK ks ds => unfold bnd; exact bndL_all fun e he => ih e (List.all_eq_true.mp h e he)
    | dT ks ds => unfold bnd; exact bndL_all fun e he => ih e (List.all_eq_true.mp h e he)
    | _ => unfold bnd; rfl
theorem bndL_pln {b n : Nat} {ds : List D} (h : ds.all (pln n) = true) : bndL b ds = true := bndL_all fun d hd => bnd_pln n d (List.all_eq_true.mp h d hd)
theorem pln_up : ∀ (n m : Nat) (d : D), n ≤ m → pln n d = true → pln m d = true
  | 0, m, d, _, h => by cases h
  | n + 1, 0, d, hm, _ => by omega
  | n + 1, m + 1, d, hm, h => by
    have ih := fun e => pln_up n m e (by omega)
    have all : ∀ ds : List D, ds.all (pln n) = true → ds.all (pln m) = true := fun ds hd => List.all_eq_true.mpr fun e he => ih e (List.all_eq_true.mp hd e he)
    cases d with
    | cell k => cases h
    | tup ds => exact all ds h
    | lst ds => exact all ds h
    | obj C ns ds => exact all ds h
    | dK ks ds => exact all ds h
    | dT ks ds => exact all ds h
    | _ => rfl
theorem fin_same {b : Nat} {d : D} {μ : Mu} (h : μ.length = b) : finD false b d μ = some (d, μ) := by
  unfold finD
  rw [if_neg (by decide), if_pos (by omega)]
theorem fin_cut {b n : Nat} {d : D} {ν ξ : Mu} (h : ν.length = b) (hν : ν.all (pln n) = true) (hd : pln DEPTH d = true) : finD false b d (ν ++ ξ) = some (d, ν) := by
  unfold finD
  rw [if_neg (by decide)]
  have e : (ν ++ ξ).take b = ν := by rw [← h]; simp
  by_cases hx : (ν ++ ξ).length ≤ b
  · rw [if_pos hx]
    have : ξ = [] := by
      rw [List.length_append] at hx
      exact List.eq_nil_of_length_eq_zero (by omega)
    subst this
    rw [List.append_nil]
  · rw [if_neg hx, frz_pln _ _ hd]
    simp only
    rw [e, bndL_pln hν]
    rfl
theorem fin_cell {b n : Nat} {ds : List D} {ν ξ : Mu} {k : Nat} (h : ν.length = b) (hν : ν.all (pln n) = true) (hk : b ≤ k) (hd : (ν ++ ξ)[k]? = some (.lst ds)) (hp : ds.all (pln 11) = true) : finD false b (.cell k) (ν ++ ξ) = some (.lst ds, ν) := by
  unfold finD
  rw [if_neg (by decide)]
  have e : (ν ++ ξ).take b = ν := by rw [← h]; simp
  have hx : ¬ (ν ++ ξ).length ≤ b := by
    have := (List.getElem?_eq_some_iff.mp hd).1
    omega
  rw [if_neg hx]
  have f : frz DEPTH b (ν ++ ξ) (.cell k) = some (.lst ds) := by
    show (if k < b then some (D.cell k) else match (ν ++ ξ)[k]? with
      | some (.lst ds) => (mapO (frz 11 b (ν ++ ξ)) ds).map D.lst
      | some (.obj C ns ds) => (mapO (frz 11 b (ν ++ ξ)) ds).map (D.obj C ns)
      | some (.dK ks ds) => (mapO (frz 11 b (ν ++ ξ)) ds).map (D.dK ks)
      | some (.dT ks ds) => (mapO (frz 11 b (ν ++ ξ)) ds).map (D.dT ks)
      | _ => none) = _
    rw [if_neg (by omega), hd]
    simp only
    rw [mapO_pln (frz_pln 11) ds hp]
    rfl
  rw [f]
  simp only
  rw [e, bndL_pln hν]
  rfl
theorem fin_keep {b n : Nat} {ds : List D} {ν ξ : Mu} {k : Nat} (h : ν.length = b) (hν : ν.all (pln n) = true) (hk : b ≤ k) (hd : (ν ++ ξ)[k]? = some (.lst ds)) (hp : ds.all (pln n) = true) : finD true b (.cell k) (ν ++ ξ) = some (.cell b, ν ++ [.lst ds]) := by
  unfold finD
  rw [if_pos rfl]
  have e : (ν ++ ξ).take b = ν := by rw [← h]; simp
  simp only
  rw [hd]
  simp only
  rw [e, if_pos ⟨hk, bndL_pln hp, bndL_pln hν⟩]
end Iv
namespace Iv
open PySem PySem.Spec L2
section
variable {μ ν : Mu} {c : Bool} {i j : Int} {ds es : List D} {d : D}
def wA (o : Option D) (μ : Mu) : Option (D × Mu) := match o with
  | some d => some (d, μ)
  | none => none
@[simp] theorem wA_some : wA (some d) μ = some (d, μ) := rfl
@[simp] theorem i_cell0 : idxO (.cell 0) (.int i) (.lst ds :: ν) = wA (atD ds i) (.lst ds :: ν) := rfl
@[simp] theorem i_lst : idxO (.lst ds) (.int i) μ = wA (atD ds i) μ := rfl
@[simp] theorem i_tup : idxO (.tup ds) (.int i) μ = wA (atD ds i) μ := rfl
def wX (o : Option Nat) (ds : List D) (d : D) (ν : Mu) : Option Mu := match o with
  | some j => some (.lst (ds.set j d) :: ν)
  | none => none
@[simp] theorem wX_some {k : Nat} : wX (some k) ds d ν = some (.lst (ds.set k d) :: ν) := rfl
@[simp] theorem set_cell0 : setO (.cell 0) (.int i) d (.lst ds :: ν) = wX (ixN ds.length i) ds d ν := rfl
@[simp] theorem o_mulI : mulO c (.int i) (.int j) μ = if (-(2 ^ 64) < i ∧ i < 2 ^ 64) ∨ (-(2 ^ 64) < j ∧ j < 2 ^ 64) then some (.int (i * j), μ) else none := rfl
@[simp] theorem o_modI : modO (.int i) (.int j) μ = if 0 < j then some (.int (i % j), μ) else none := rfl
@[simp] theorem o_divI : fdivO (.int i) (.int j) μ = if 0 < j ∧ j < 1073741824 then some (.int (i / j), μ) else none := rfl
@[simp] theorem o_powI : powO (.int i) (.int j) μ = if 0 ≤ j ∧ j ≤ 1000000 ∧ i.natAbs < 2 ^ 64 then some (.int (i ^ j.toNat), μ) else none := rfl
@[simp] theorem at0 {l : List D} : atD (d :: l) 0 = some d := by simp [atD, atI, ixN]
theorem ixN_pos {n : Nat} (h0 : 0 ≤ i) (h : i < n) : ixN n i = some i.toNat := by
  unfold ixN
  rw [if_pos h0, if_pos h]
theorem at_pos (h0 : 0 ≤ i) (h : i < ds.length) : atD ds i = some (ds[i.toNat]'(by omega)) := by
  unfold atD atI
  rw [ixN_pos h0 h]
  exact List.getElem?_eq_getElem (by omega)
theorem at_last (h : ds ≠ []) : atD ds (-1) = some (ds.getLast h) := by
  have hl : 0 < ds.length := List.length_pos_iff.mpr h
  have e : ixN ds.length (-1) = some (ds.length - 1) := by
    unfold ixN
    rw [if_neg (by omega), if_pos (by omega)]
    congr 1
    omega
  unfold atD atI
  rw [e]
  show ds[ds.length - 1]? = _
  rw [List.getLast_eq_getElem]
  exact List.getElem?_eq_getElem (by omega)
end
end Iv
namespace Iv
open PySem PySem.Spec L2
section
variable {a b c d e f : D} {l : List D}
@[simp] theorem at1 : atD (a :: b :: l) 1 = some b := atD_nat (k := 1) rfl
@[simp] theorem at2 : atD (a :: b :: c :: l) 2 = some c := atD_nat (k := 2) rfl
@[simp] theorem at3 : atD (a :: b :: c :: d :: l) 3 = some d := atD_nat (k := 3) rfl
@[simp] theorem at4 : atD (a :: b :: c :: d :: e :: l) 4 = some e := atD_nat (k := 4) rfl
@[simp] theorem at5 : atD (a :: b :: c :: d :: e :: f :: l) 5 = some f := atD_nat (k := 5) rfl
end
end Iv
end
section
set_option Elab.async false
set_option linter.all false
set_option maxRecDepth 1000000
set_option maxHeartbeats 0
/-! K80: the reached defs as runs, each with its proof (printed by gen.py). -/
namespace K80
open PySem PySem.Spec L2 Iv
def top (i : Nat) : Stmt := PySem.Challenge.pw_sametones_k80_whole_kept_tiles_judged.main.body.getD i (.Pass ⟨0, 0, 0, 0⟩)
def inC (s : Stmt) (j : Nat) : Stmt := (C8.clsBody s).getD j (.Pass ⟨0, 0, 0, 0⟩)
abbrev s_x_law_bag : Stmt := top 57
abbrev s_x_law_draw : Stmt := top 58
abbrev s_x_law_of : Stmt := top 59
abbrev s_x_law_names : Stmt := top 63
abbrev s_x_law_pick : Stmt := top 60
abbrev s_x_law_shown : Stmt := top 70
abbrev s_x_law_word : Stmt := top 64
abbrev s_x_law_strength : Stmt := top 65
abbrev s_x_law_moved : Stmt := top 66
abbrev s_x_law_read : Stmt := top 67
abbrev s_x_law_orbits : Stmt := top 69
abbrev s_x_law_sorted : Stmt := top 62
abbrev s_x_law_keeps : Stmt := top 68
abbrev s_is_side_name : Stmt := top 18
abbrev s_is_sides : Stmt := top 19
abbrev s_is_number_1 : Stmt := top 37
abbrev s_is_spot : Stmt := top 40
abbrev s_is_number : Stmt := top 10
abbrev s_is_index : Stmt := top 12
abbrev s_is_word : Stmt := top 20
abbrev s_is_tie : Stmt := top 41
abbrev s_Tile___init__ : Stmt := inC (top 42) 0
abbrev s_x_law_same : Stmt := top 61
abbrev s_is_row_of : Stmt := top 48
abbrev s_is_number_2 : Stmt := top 44
abbrev s_is_index_1 : Stmt := top 46
abbrev s_index_fault : Stmt := top 49
abbrev s_is_naming : Stmt := top 50
abbrev s_is_rule : Stmt := top 51
abbrev s_Tile_ties : Stmt := inC (top 42) 2
abbrev s_back : Stmt := top 21
abbrev s_x_plain_tie : Stmt := top 54
abbrev s_exchanged_word : Stmt := top 53
abbrev s_is_kept : Stmt := top 55
abbrev s_x_law_asked : Stmt := top 75
abbrev s_x_law_one_changed : Stmt := top 73
abbrev s_x_law_changed_ties : Stmt := top 74
abbrev s_x_law_undone : Stmt := top 71
abbrev s_x_law_swapped : Stmt := top 72
abbrev s_x_law_odd_ones : Stmt := top 76
abbrev s_law : Stmt := top 77
def b_x_law_bag (F : Nat) : SM := (sSeq (sAsg (fun _ => pure (D.int 16187)) (gmName 1)) (sSeq (sFor F (mIter (mSl (slO false) (mVar 0) mNoPart (mPart (fun _ => pure (D.int 63))))) (gmName 2) (sAsg (mOp2 modO (mOpL intO (mCons (mOp2 (addO false) (mOp2 (addO false) (mOp2 (mulO false) (mVar 1) (fun _ => pure (D.int 48271))) (mOp2 (mulO false) (mOp2 modO (mOpL intO (mCons (mVar 2) mNil)) (fun _ => pure (D.int 1000639))) (fun _ => pure (D.int 877)))) (fun _ => pure (D.int 61))) mNil)) (fun _ => pure (D.int 2147483579))) (gmName 1))) (sRet (mOpL (lstMk true) (mCons (mOpL (listO false) (mCons (mSl (slO false) (mVar 0) mNoPart (mPart (fun _ => pure (D.int 63)))) mNil)) (mCons (fun _ => pure (D.int 0)) (mCons (fun _ => pure (D.int 0)) (mCons (mVar 1) (mCons (fun _ => pure (D.int 0)) mNil)))))))))
def r_x_law_bag (F : Nat) : List D → M D := mFn 3 1 true (b_x_law_bag F)
def b_x_law_draw (F : Nat) : SM := (sSeq (sAsg (mOp2 (addO false) (mOp2 idxO (mVar 0) (fun _ => pure (D.int 4))) (fun _ => pure (D.int 1))) (gmSub (mVar 0) (fun _ => pure (D.int 4)))) (sSeq (sIf (mAnd (mTest (mOp2 (eqO false) (mOp2 idxO (mVar 0) (fun _ => pure (D.int 2))) (fun _ => pure (D.int 0)))) (mTest (mOp2 (ordO false) (mOp2 idxO (mVar 0) (fun _ => pure (D.int 1))) (mOpL lenO (mCons (mOp2 idxO (mVar 0) (fun _ => pure (D.int 0))) mNil))))) (sSeq (sAsg (mOpL intO (mCons (mOp2 idxO (mOp2 idxO (mVar 0) (fun _ => pure (D.int 0))) (mOp2 idxO (mVar 0) (fun _ => pure (D.int 1)))) mNil)) (gmName 3)) (sSeq (sAsg (mOp2 (addO false) (mOp2 idxO (mVar 0) (fun _ => pure (D.int 1))) (fun _ => pure (D.int 1))) (gmSub (mVar 0) (fun _ => pure (D.int 1)))) (sIf (mTest (mOp2 (gtO true) (mOpL absO (mCons (mVar 3) mNil)) (mOp2 powO (fun _ => pure (D.int 10)) (fun _ => pure (D.int 18))))) (sAsg (mOpL absO (mCons (mVar 3) mNil)) (gmSub (mVar 0) (fun _ => pure (D.int 2)))) (sAsg (mOp2 modO (mOpL intO (mCons (mOp2 (addO false) (mOp2 (addO false) (mOp2 (mulO false) (mOp2 idxO (mVar 0) (fun _ => pure (D.int 3))) (fun _ => pure (D.int 43889))) (mOp2 (mulO false) (mOp2 modO (mOpL intO (mCons (mVar 3) mNil)) (fun _ => pure (D.int 1000639))) (fun _ => pure (D.int 769)))) (fun _ => pure (D.int 37))) mNil)) (fun _ => pure (D.int 2147483587))) (gmSub (mVar 0) (fun _ => pure (D.int 3))))))) sNext) (sSeq (sIf (mTest (mOp2 (gtO false) (mOp2 idxO (mVar 0) (fun _ => pure (D.int 2))) (fun _ => pure (D.int 0)))) (sSeq (sAsg (mOp2 modO (mOpL intO (mCons (mOp2 idxO (mVar 0) (fun _ => pure (D.int 2))) mNil)) (mVar 1)) (gmName 4)) (sSeq (sAsg (mOp2 fdivO (mOp2 idxO (mVar 0) (fun _ => pure (D.int 2))) (mVar 1)) (gmSub (mVar 0) (fun _ => pure (D.int 2)))) (sRet (mVar 4)))) sNext) (sSeq (sAsg (mOpL intO (mCons (mOp2 idxO (mVar 0) (fun _ => pure (D.int 3))) mNil)) (gmName 2)) (sSeq (sAsg (mOp2 modO (mOpL intO (mCons (mOp2 (addO false) (mOp2 (addO false) (mOp2 (addO false) (mOp2 (mulO false) (mOp2 (mulO false) (mVar 2) (mVar 2)) (fun _ => pure (D.int 17))) (mOp2 (mulO false) (mVar 2) (fun _ => pure (D.int 47123)))) (mOp2 (mulO false) (mOp2 idxO (mVar 0) (fun _ => pure (D.int 4))) (fun _ => pure (D.int 110339)))) (fun _ => pure (D.int 60091))) mNil)) (fun _ => pure (D.int 2147483549))) (gmSub (mVar 0) (fun _ => pure (D.int 3)))) (sRet (mOp2 modO (mOpL intO (mCons (mOp2 (addO false) (mOp2 fdivO (mOp2 idxO (mVar 0) (fun _ => pure (D.int 3))) (fun _ => pure (D.int 73))) (mOp2 (mulO false) (mOp2 modO (mOpL intO (mCons (mOp2 idxO (mVar 0) (fun _ => pure (D.int 3))) mNil)) (fun _ => pure (D.int 8039))) (fun _ => pure (D.int 61)))) mNil)) (mVar 1))))))))
def r_x_law_draw (F : Nat) : List D → M D := mFn 5 2 false (b_x_law_draw F)
def b_x_law_of (F : Nat) : SM := (sRet (mOp2 idxO (mVar 1) (mCall 2 (r_x_law_draw F) (mCons (mVar 0) (mCons (mOpL lenO (mCons (mVar 1) mNil)) mNil)))))
def r_x_law_of (F : Nat) : List D → M D := mFn 2 2 false (b_x_law_of F)
def b_x_law_names (F : Nat) : SM := (sSeq (sAsg (mOpL (lstMk true) mNil) (gmName 2)) (sSeq (sFor F (mSrc rng1 (mCons (mVar 1) mNil)) (gmName 3) (sSeq (sAsg (mBM "str" joinO (fun _ => pure (D.str "")) (mCons (mLc F false (mSrc rng1 (mCons (mOp2 (addO false) (fun _ => pure (D.int 1)) (mCall 2 (r_x_law_draw F) (mCons (mVar 0) (mCons (fun _ => pure (D.int 3)) mNil)))) mNil)) [5] (gmName 5) tYesM (mCall 2 (r_x_law_of F) (mCons (mVar 0) (mCons (fun _ => pure (D.str "qazwsxedcrfvtgbyhnujmikolp")) mNil)))) mNil)) (gmName 4)) (sSeq (sIf (mTest (mOp2 (inO false) (mVar 4) (mVar 2))) (sAsg (mOp2 idxO (mLc F false (mIter (mOpL (lstMk false) (mCons (fun _ => pure (D.str "q")) (mCons (fun _ => pure (D.str "ab")) (mCons (fun _ => pure (D.str "end")) (mCons (fun _ => pure (D.str "c")) mNil)))))) [6] (gmName 6) (mTest (mOp2 (inO true) (mVar 6) (mVar 2))) (mVar 6)) (fun _ => pure (D.int 0))) (gmName 4)) sNext) (sDrop (mBM "list" appendO (mVar 2) (mCons (mVar 4) mNil)))))) (sRet (mOpL tupleO (mCons (mVar 2) mNil)))))
def r_x_law_names (F : Nat) : List D → M D := mFn 7 2 false (b_x_law_names F)
def b_x_law_pick (F : Nat) : SM := (sSeq (sPar 4 5 (mCons (mOpL (listO true) (mCons (mVar 1) mNil)) (mCons (mOpL (lstMk true) mNil) mNil))) (sSeq (sFor F (mSrc rng1 (mCons (mOpL minO (mCons (mVar 2) (mCons (mOpL lenO (mCons (mVar 4) mNil)) mNil))) mNil)) (gmName 3) (sDrop (mBM "list" appendO (mVar 5) (mCons (mBM "list" popO (mVar 4) (mCons (mCall 2 (r_x_law_draw F) (mCons (mVar 0) (mCons (mOpL lenO (mCons (mVar 4) mNil)) mNil))) mNil)) mNil)))) (sRet (mVar 5))))
def r_x_law_pick (F : Nat) : List D → M D := mFn 6 3 false (b_x_law_pick F)
def b_x_law_shown (F : Nat) : SM := (sRet (mLc F false (mIter (mCall 3 (r_x_law_pick F) (mCons (mVar 0) (mCons (mVar 1) (mCons (mOpL lenO (mCons (mVar 1) mNil)) mNil))))) [2] (gmName 2) tYesM (mIf (mTest (mOp2 (eqO false) (mCall 2 (r_x_law_draw F) (mCons (mVar 0) (mCons (fun _ => pure (D.int 2)) mNil))) (fun _ => pure (D.int 0)))) (mVar 2) (mOpL tupMk (mCons (mOp2 idxO (mVar 2) (fun _ => pure (D.int 1))) (mCons (mOp2 idxO (mVar 2) (fun _ => pure (D.int 0))) (mCons (mOp1 (revO false) (mOp2 idxO (mVar 2) (fun _ => pure (D.int 2)))) (mCons (mOp2 idxO (mVar 2) (fun _ => pure (D.int 3))) mNil))))))))
def r_x_law_shown (F : Nat) : List D → M D := mFn 3 2 false (b_x_law_shown F)
def b_x_law_word (F : Nat) : SM := (sRet (mOpL tupleO (mCons (mLc F false (mSrc rng1 (mCons (mCall 2 (r_x_law_draw F) (mCons (mVar 0) (mCons (mOp2 (addO false) (mVar 2) (fun _ => pure (D.int 1))) mNil))) mNil)) [3] (gmName 3) tYesM (mCall 2 (r_x_law_draw F) (mCons (mVar 0) (mCons (mVar 1) mNil)))) mNil)))
def r_x_law_word (F : Nat) : List D → M D := mFn 4 3 false (b_x_law_word F)
def b_x_law_strength (F : Nat) : SM := (sSeq (sIf (mTest (mOp2 (eqO false) (mCall 2 (r_x_law_draw F) (mCons (mVar 0) (mCons (fun _ => pure (D.int 12)) mNil))) (fun _ => pure (D.int 11)))) (sRet (mOp2 (mulO false) (mCall 2 (r_x_law_of F) (mCons (mVar 0) (mCons (mOpL (lstMk false) (mCons (fun _ => pure (D.int 1)) (mCons (mOp1 negO (fun _ => pure (D.int 1))) mNil))) mNil))) (mOp2 (addO false) (fun _ => pure (D.int 1)) (mCall 2 (r_x_law_draw F) (mCons (mVar 0) (mCons (fun _ => pure (D.int 999999999)) mNil)))))) sNext) (sRet (mCall 2 (r_x_law_of F) (mCons (mVar 0) (mCons (mOpL (lstMk false) (mCons (fun _ => pure (D.int 1)) (mCons (mOp1 negO (fun _ => pure (D.int 1))) (mCons (fun _ => pure (D.int 2)) (mCons (fun _ => pure (D.int 3)) (mCons (mOp1 negO (fun _ => pure (D.int 2))) (mCons (mOp1 negO (fun _ => pure (D.int 3))) mNil))))))) mNil)))))
def r_x_law_strength (F : Nat) : List D → M D := mFn 1 1 false (b_x_law_strength F)
def b_x_law_moved (F : Nat) : SM := (sRet (mOpL tupMk (mCons (mOp2 idxO (mVar 2) (mOp2 idxO (mVar 0) (fun _ => pure (D.int 0)))) (mCons (mOp2 idxO (mVar 2) (mOp2 idxO (mVar 0) (fun _ => pure (D.int 1)))) (mCons (mOpL tupleO (mCons (mLc F false (mIter (mOp2 idxO (mVar 0) (fun _ => pure (D.int 2)))) [3] (gmName 3) tYesM (mOp2 idxO (mVar 1) (mVar 3))) mNil)) (mCons (mOp2 idxO (mVar 0) (fun _ => pure (D.int 3))) mNil))))))
def r_x_law_moved (F : Nat) : List D → M D := mFn 4 3 false (b_x_law_moved F)
def b_x_law_read (F : Nat) : SM := (sSeq (sAsg (mOpL tupMk (mCons (mOp2 idxO (mVar 0) (fun _ => pure (D.int 1))) (mCons (mOp2 idxO (mVar 0) (fun _ => pure (D.int 0))) (mCons (mOp1 (revO false) (mOp2 idxO (mVar 0) (fun _ => pure (D.int 2)))) (mCons (mOp2 idxO (mVar 0) (fun _ => pure (D.int 3))) mNil))))) (gmName 1)) (sRet (mIf (mTest (mOp2 (ordO true) (mVar 0) (mVar 1))) (mVar 0) (mVar 1))))
def r_x_law_read (F : Nat) : List D → M D := mFn 2 1 false (b_x_law_read F)
def b_x_law_orbits (F : Nat) : SM := (sSeq (sAsg (mOpL (lstMk false) mNil) (gmName 4)) (sSeq (sFor F (mSrc rng1 (mCons (mCall 2 (r_x_law_of F) (mCons (mVar 0) (mCons (mOpL (lstMk false) (mCons (fun _ => pure (D.int 1)) (mCons (fun _ => pure (D.int 2)) (mCons (fun _ => pure (D.int 3)) (mCons (fun _ => pure (D.int 1)) (mCons (fun _ => pure (D.int 2)) (mCons (fun _ => pure (D.int 0)) mNil))))))) mNil))) mNil)) (gmName 5) (sSeq (sAsg (mCall 3 (r_x_law_word F) (mCons (mVar 0) (mCons (mOpL lenO (mCons (mVar 2) mNil)) (mCons (mCall 2 (r_x_law_of F) (mCons (mVar 0) (mCons (mOpL (lstMk false) (mCons (fun _ => pure (D.int 1)) (mCons (fun _ => pure (D.int 2)) (mCons (fun _ => pure (D.int 2)) (mCons (fun _ => pure (D.int 4)) (mCons (fun _ => pure (D.int 0)) mNil)))))) mNil))) mNil)))) (gmName 6)) (sSeq (sAsg (mOpL (lstMk true) (mCons (mOpL tupMk (mCons (mCall 2 (r_x_law_draw F) (mCons (mVar 0) (mCons (mVar 1) mNil))) (mCons (mCall 2 (r_x_law_draw F) (mCons (mVar 0) (mCons (mVar 1) mNil))) (mCons (mVar 6) (mCons (mCall 1 (r_x_law_strength F) (mCons (mVar 0) mNil)) mNil))))) mNil)) (gmName 7)) (sSeq (sFor F (mSrc rng1 (mCons (fun _ => pure (D.int 60)) mNil)) (gmName 8) (sSeq (sAsg (mCall 3 (r_x_law_moved F) (mCons (mOp2 idxO (mVar 7) (mOp1 negO (fun _ => pure (D.int 1)))) (mCons (mVar 2) (mCons (mVar 3) mNil)))) (gmName 10)) (sSeq (sIf (mTest (mOp2 (eqO false) (mCall 1 (r_x_law_read F) (mCons (mVar 10) mNil)) (mCall 1 (r_x_law_read F) (mCons (mOp2 idxO (mVar 7) (fun _ => pure (D.int 0))) mNil)))) sBreak sNext) (sDrop (mBM "list" appendO (mVar 7) (mCons (mVar 10) mNil)))))) (sSeq (sAsg (mAndV (mOp2 (ordO false) (mOpL lenO (mCons (mVar 7) mNil)) (fun _ => pure (D.int 7))) (mOp2 (eqO false) (mCall 2 (r_x_law_draw F) (mCons (mVar 0) (mCons (fun _ => pure (D.int 5)) mNil))) (fun _ => pure (D.int 4)))) (gmName 9)) (sAsg (mOp2 (addO false) (mOp2 (addO false) (mVar 4) (mVar 7)) (mIf (mTru (mVar 9)) (mVar 7) (mOpL (lstMk false) mNil))) (gmName 4))))))) (sRet (mVar 4))))
def r_x_law_orbits (F : Nat) : List D → M D := mFn 11 4 false (b_x_law_orbits F)
def b_x_law_sorted (F : Nat) : SM := (sSeq (sAsg (mOpL (lstMk true) mNil) (gmName 1)) (sSeq (sFor F (mIter (mVar 0)) (gmName 2) (sSeq (sPar 3 4 (mCons (fun _ => pure (D.int 0)) (mCons (mOpL lenO (mCons (mVar 1) mNil)) mNil))) (sSeq (sWhile (mTest (mOp2 (ordO false) (mVar 3) (mVar 4))) (sSeq (sAsg (mOp2 fdivO (mOp2 (addO false) (mVar 3) (mVar 4)) (fun _ => pure (D.int 2))) (gmName 5)) (sIf (mTest (mOp2 (ordO false) (mOp2 idxO (mVar 1) (mVar 5)) (mVar 2))) (sAsg (mOp2 (addO false) (mVar 5) (fun _ => pure (D.int 1))) (gmName 3)) (sAsg (mVar 5) (gmName 4)))) F) (sDrop (mBM "list" insertO (mVar 1) (mCons (mVar 3) (mCons (mVar 2) mNil))))))) (sRet (mVar 1))))
def r_x_law_sorted (F : Nat) : List D → M D := mFn 6 1 false (b_x_law_sorted F)
def b_x_law_keeps (F : Nat) : SM := (sSeq (sAsg (mCall 1 (r_x_law_sorted F) (mCons (mLc F false (mIter (mVar 0)) [4] (gmName 4) tYesM (mCall 1 (r_x_law_read F) (mCons (mVar 4) mNil))) mNil)) (gmName 3)) (sRet (mOp2 (eqO false) (mVar 3) (mCall 1 (r_x_law_sorted F) (mCons (mLc F false (mIter (mVar 0)) [4] (gmName 4) tYesM (mCall 1 (r_x_law_read F) (mCons (mCall 3 (r_x_law_moved F) (mCons (mVar 4) (mCons (mVar 1) (mCons (mVar 2) mNil)))) mNil))) mNil)))))
def r_x_law_keeps (F : Nat) : List D → M D := mFn 5 3 false (b_x_law_keeps F)
def b_is_side_name (F : Nat) : SM := (sSeq (sIf (mOr (mNot (mTru (mOpL (isiO 0) (mCons (mVar 0) (mCons (fun _ => pure (D.ty "str")) mNil))))) (mNot (mTest (mChain (ordO true) (ordO true) (fun _ => pure (D.int 1)) (mOpL lenO (mCons (mVar 0) mNil)) (fun _ => pure (D.int 3)))))) (sRet (fun _ => pure (D.bl false))) sNext) (sRet (mOpL allO (mCons (mLc F false (mIter (mVar 0)) [1] (gmName 1) tYesM (mOp2 (inO false) (mVar 1) (fun _ => pure (D.str "abcdefghijklmnopqrstuvwxyz")))) mNil))))
def r_is_side_name (F : Nat) : List D → M D := mFn 2 1 false (b_is_side_name F)
def b_is_sides (F : Nat) : SM := (sSeq (sIf (mOr (mNot (mTru (mOpL (isiO 0) (mCons (mVar 0) (mCons (fun _ => pure (D.ty "tuple")) mNil))))) (mTest (mOp2 (eqO false) (mOpL lenO (mCons (mVar 0) mNil)) (fun _ => pure (D.int 0))))) (sRet (fun _ => pure (D.bl false))) sNext) (sSeq (sAsg (fun _ => M.op (newDK true)) (gmName 1)) (sSeq (sFor F (mIter (mVar 0)) (gmName 2) (sSeq (sIf (mOr (mNot (mTru (mCall 1 (r_is_side_name F) (mCons (mVar 2) mNil)))) (mTest (mOp2 (inO false) (mVar 2) (mVar 1)))) (sRet (fun _ => pure (D.bl false))) sNext) (sAsg (fun _ => pure (D.bl true)) (gmSub (mVar 1) (mVar 2))))) (sRet (fun _ => pure (D.bl true))))))
def r_is_sides (F : Nat) : List D → M D := mFn 3 1 false (b_is_sides F)
def b_is_number_1 (F : Nat) : SM := (sRet (mAndV (mOpL (isiO 0) (mCons (mVar 0) (mCons (fun _ => pure (D.ty "int")) mNil))) (mNotV (mOpL (isiO 0) (mCons (mVar 0) (mCons (fun _ => pure (D.ty "bool")) mNil))))))
def r_is_number_1 (F : Nat) : List D → M D := mFn 1 1 false (b_is_number_1 F)
def b_is_spot (F : Nat) : SM := (sRet (mAndV (mCall 1 (r_is_number_1 F) (mCons (mVar 0) mNil)) (mChain (ordO true) (ordO false) (fun _ => pure (D.int 0)) (mVar 0) (mVar 1))))
def r_is_spot (F : Nat) : List D → M D := mFn 2 2 false (b_is_spot F)
def b_is_number (F : Nat) : SM := (sRet (mAndV (mOpL (isiO 0) (mCons (mVar 0) (mCons (fun _ => pure (D.ty "int")) mNil))) (mNotV (mOpL (isiO 0) (mCons (mVar 0) (mCons (fun _ => pure (D.ty "bool")) mNil))))))
def r_is_number (F : Nat) : List D → M D := mFn 1 1 false (b_is_number F)
def b_is_index (F : Nat) : SM := (sRet (mAndV (mCall 1 (r_is_number F) (mCons (mVar 0) mNil)) (mChain (ordO true) (ordO false) (fun _ => pure (D.int 0)) (mVar 0) (mVar 1))))
def r_is_index (F : Nat) : List D → M D := mFn 2 2 false (b_is_index F)
def b_is_word (F : Nat) : SM := (sSeq (sIf (mNot (mTru (mOpL (isiO 0) (mCons (mVar 1) (mCons (fun _ => pure (D.ty "tuple")) mNil))))) (sRet (fun _ => pure (D.bl false))) sNext) (sSeq (sAsg (mOpL lenO (mCons (mVar 0) mNil)) (gmName 2)) (sRet (mOpL allO (mCons (mLc F false (mIter (mVar 1)) [3] (gmName 3) tYesM (mCall 2 (r_is_index F) (mCons (mVar 3) (mCons (mVar 2) mNil)))) mNil)))))
def r_is_word (F : Nat) : List D → M D := mFn 4 2 false (b_is_word F)
def b_is_tie (F : Nat) : SM := (sSeq (sIf (mOr (mNot (mTru (mOpL (isiO 0) (mCons (mVar 2) (mCons (fun _ => pure (D.ty "tuple")) mNil))))) (mTest (mOp2 (eqO true) (mOpL lenO (mCons (mVar 2) mNil)) (fun _ => pure (D.int 4))))) (sRet (fun _ => pure (D.bl false))) sNext) (sSeq (sIf (mOr (mNot (mTru (mCall 2 (r_is_spot F) (mCons (mOp2 idxO (mVar 2) (fun _ => pure (D.int 0))) (mCons (mVar 1) mNil))))) (mOr (mNot (mTru (mCall 2 (r_is_spot F) (mCons (mOp2 idxO (mVar 2) (fun _ => pure (D.int 1))) (mCons (mVar 1) mNil))))) (mNot (mTru (mCall 2 (r_is_word F) (mCons (mVar 0) (mCons (mOp2 idxO (mVar 2) (fun _ => pure (D.int 2))) mNil))))))) (sRet (fun _ => pure (D.bl false))) sNext) (sRet (mAndV (mCall 1 (r_is_number_1 F) (mCons (mOp2 idxO (mVar 2) (fun _ => pure (D.int 3))) mNil)) (mOp2 (eqO true) (mOp2 idxO (mVar 2) (fun _ => pure (D.int 3))) (fun _ => pure (D.int 0)))))))
def r_is_tie (F : Nat) : List D → M D := mFn 3 3 false (b_is_tie F)
def b_Tile___init__ (F : Nat) : SM := (sSeq (sIf (mNot (mTru (mCall 1 (r_is_sides F) (mCons (mVar 1) mNil)))) sNever sNext) (sSeq (sIf (mOr (mNot (mTru (mCall 1 (r_is_number_1 F) (mCons (mVar 2) mNil)))) (mTest (mOp2 (ordO false) (mVar 2) (fun _ => pure (D.int 1))))) sNever sNext) (sSeq (sIf (mNot (mTru (mOpL (isiO 0) (mCons (mVar 3) (mCons (mOpL tupMk (mCons (fun _ => pure (D.ty "list")) (mCons (fun _ => pure (D.ty "tuple")) mNil))) mNil))))) sNever sNext) (sSeq (sFor F (mSrc enmS (mCons (mVar 3) mNil)) (gmTup 2 (gmCons (gmName 4) (gmCons (gmName 5) gmNil))) (sIf (mNot (mTru (mCall 3 (r_is_tie F) (mCons (mVar 1) (mCons (mVar 2) (mCons (mVar 5) mNil)))))) sNever sNext)) (sSeq (sFldM [0] "sides" (mVar 0) (mVar 1)) (sSeq (sFldM [0] "spots" (mVar 0) (mVar 2)) (sFldM [0] "_ties" (mVar 0) (mOpL (listO false) (mCons (mVar 3) mNil)))))))))
def r_Tile___init__ (F : Nat) : List D → M D := mFn 6 4 false (b_Tile___init__ F)
def b_x_law_same (F : Nat) (rec_ : List D → M D) : SM := (sSeq (sIf (mOr (mTest (mOp2 (isO false) (mVar 1) (fun _ => pure D.non))) (mTest (mOp2 (isO false) (mVar 0) (fun _ => pure D.non)))) (sRet (mAndV (mOp2 (isO false) (mVar 1) (fun _ => pure D.non)) (mOp2 (isO false) (mVar 0) (fun _ => pure D.non)))) sNext) (sSeq (sIf (mTru (mOpL (isiO 0) (mCons (mVar 1) (mCons (mOpL tupMk (mCons (fun _ => pure (D.ty "list")) (mCons (fun _ => pure (D.ty "tuple")) mNil))) mNil)))) (sSeq (sIf (mTest (mOp2 (eqO true) (mOpL (lstMk false) (mCons (mOpL (isiO 0) (mCons (mVar 0) (mCons (fun _ => pure (D.ty "list")) mNil))) (mCons (mOpL (isiO 0) (mCons (mVar 0) (mCons (fun _ => pure (D.ty "tuple")) mNil))) mNil))) (mOpL (lstMk false) (mCons (mOpL (isiO 0) (mCons (mVar 1) (mCons (fun _ => pure (D.ty "list")) mNil))) (mCons (mOpL (isiO 0) (mCons (mVar 1) (mCons (fun _ => pure (D.ty "tuple")) mNil))) mNil))))) (sRet (fun _ => pure (D.bl false))) sNext) (sRet (mAndV (mOp2 (eqO false) (mOpL lenO (mCons (mVar 0) mNil)) (mOpL lenO (mCons (mVar 1) mNil))) (mOpL allO (mCons (mLc F false (mSrc zipS (mCons (mVar 0) (mCons (mVar 1) mNil))) [2, 3] (gmTup 2 (gmCons (gmName 2) (gmCons (gmName 3) gmNil))) tYesM (mCall 2 (rec_) (mCons (mVar 2) (mCons (mVar 3) mNil)))) mNil))))) sNext) (sSeq (sIf (mTest (mOp2 (eqO true) (mOpL (lstMk false) (mCons (mOpL (isiO 0) (mCons (mVar 0) (mCons (fun _ => pure (D.ty "bool")) mNil))) (mCons (mOpL (isiO 0) (mCons (mVar 0) (mCons (fun _ => pure (D.ty "int")) mNil))) (mCons (mOpL (isiO 0) (mCons (mVar 0) (mCons (fun _ => pure (D.ty "str")) mNil))) mNil)))) (mOpL (lstMk false) (mCons (mOpL (isiO 0) (mCons (mVar 1) (mCons (fun _ => pure (D.ty "bool")) mNil))) (mCons (mOpL (isiO 0) (mCons (mVar 1) (mCons (fun _ => pure (D.ty "int")) mNil))) (mCons (mOpL (isiO 0) (mCons (mVar 1) (mCons (fun _ => pure (D.ty "str")) mNil))) mNil)))))) (sRet (fun _ => pure (D.bl false))) sNext) (sRet (mOp2 (eqO false) (mVar 0) (mVar 1))))))
def r_x_law_sameN (F : Nat) : Nat → List D → M D
  | 0 => fun _ => M.fail
  | n + 1 => mFn 4 2 false (b_x_law_same F (r_x_law_sameN F n))
def r_x_law_same (F : Nat) : List D → M D := r_x_law_sameN F 8
def b_is_row_of (F : Nat) : SM := (sRet (mAndV (mOpL (isiO 0) (mCons (mVar 0) (mCons (mOpL tupMk (mCons (fun _ => pure (D.ty "list")) (mCons (fun _ => pure (D.ty "tuple")) mNil))) mNil))) (mOp2 (eqO false) (mOpL lenO (mCons (mVar 0) mNil)) (mVar 1))))
def r_is_row_of (F : Nat) : List D → M D := mFn 2 2 false (b_is_row_of F)
def b_is_number_2 (F : Nat) : SM := (sRet (mAndV (mOpL (isiO 0) (mCons (mVar 0) (mCons (fun _ => pure (D.ty "int")) mNil))) (mNotV (mOpL (isiO 0) (mCons (mVar 0) (mCons (fun _ => pure (D.ty "bool")) mNil))))))
def r_is_number_2 (F : Nat) : List D → M D := mFn 1 1 false (b_is_number_2 F)
def b_is_index_1 (F : Nat) : SM := (sRet (mAndV (mCall 1 (r_is_number_2 F) (mCons (mVar 0) mNil)) (mChain (ordO true) (ordO false) (fun _ => pure (D.int 0)) (mVar 0) (mVar 1))))
def r_is_index_1 (F : Nat) : List D → M D := mFn 2 2 false (b_is_index_1 F)
def b_index_fault (F : Nat) : SM := (sSeq (sIf (mNot (mTru (mCall 2 (r_is_row_of F) (mCons (mVar 0) (mCons (mVar 1) mNil))))) (sRet (mOp1 negO (fun _ => pure (D.int 1)))) sNext) (sSeq (sFor F (mSrc enmS (mCons (mVar 0) mNil)) (gmTup 2 (gmCons (gmName 2) (gmCons (gmName 3) gmNil))) (sIf (mNot (mTru (mCall 2 (r_is_index_1 F) (mCons (mVar 3) (mCons (mVar 1) mNil))))) (sRet (mVar 2)) sNext)) (sRet (fun _ => pure D.non))))
def r_index_fault (F : Nat) : List D → M D := mFn 4 2 false (b_index_fault F)
def b_is_naming (F : Nat) : SM := (sRet (mAndV (mOp2 (isO false) (mCall 2 (r_index_fault F) (mCons (mVar 0) (mCons (mVar 1) mNil))) (fun _ => pure D.non)) (mOp2 (eqO false) (mOp1 lenSetO (mVar 0)) (mVar 1))))
def r_is_naming (F : Nat) : List D → M D := mFn 2 2 false (b_is_naming F)
def b_is_rule (F : Nat) : SM := (sRet (mAndV (mOpL (isiO 0) (mCons (mVar 0) (mCons (fun _ => pure (D.ty "tuple")) mNil))) (mCall 2 (r_is_naming F) (mCons (mVar 0) (mCons (mVar 1) mNil)))))
def r_is_rule (F : Nat) : List D → M D := mFn 2 2 false (b_is_rule F)
def b_Tile_ties (F : Nat) : SM := (sRet (mOpL (listO false) (mCons (mOp1 (fldO [0] "_ties") (mVar 0)) mNil)))
def r_Tile_ties (F : Nat) : List D → M D := mFn 1 1 false (b_Tile_ties F)
def b_back (F : Nat) : SM := (sRet (mOp1 (revO false) (mVar 0)))
def r_back (F : Nat) : List D → M D := mFn 1 1 false (b_back F)
def b_x_plain_tie (F : Nat) : SM := (sSeq (sAsg (mOpL tupMk (mCons (mVar 0) (mCons (mVar 1) (mCons (mVar 2) (mCons (mVar 3) mNil))))) (gmName 4)) (sSeq (sAsg (mOpL tupMk (mCons (mVar 1) (mCons (mVar 0) (mCons (mCall 1 (r_back F) (mCons (mVar 2) mNil)) (mCons (mVar 3) mNil))))) (gmName 5)) (sRet (mIf (mTest (mOp2 (ordO true) (mVar 4) (mVar 5))) (mVar 4) (mVar 5)))))
def r_x_plain_tie (F : Nat) : List D → M D := mFn 6 4 false (b_x_plain_tie F)
def b_exchanged_word (F : Nat) : SM := (sRet (mOpL tupleO (mCons (mLc F false (mIter (mVar 0)) [2] (gmName 2) tYesM (mOp2 idxO (mVar 1) (mVar 2))) mNil)))
def r_exchanged_word (F : Nat) : List D → M D := mFn 3 2 false (b_exchanged_word F)
def b_is_kept (F : Nat) : SM := (sSeq (sIf (mOr (mNot (mTru (mCall 2 (r_is_rule F) (mCons (mVar 1) (mCons (mOpL lenO (mCons (mOp1 (fldO [0] "sides") (mVar 0)) mNil)) mNil))))) (mNot (mTru (mCall 2 (r_is_naming F) (mCons (mVar 2) (mCons (mOp1 (fldO [0] "spots") (mVar 0)) mNil)))))) (sRet (fun _ => pure (D.bl false))) sNext) (sSeq (sAsg (mOpL (lstMk true) mNil) (gmName 3)) (sSeq (sAsg (mOpL (lstMk true) mNil) (gmName 4)) (sSeq (sFor F (mIter (mMeth 0 "ties" 1 (r_Tile_ties F) (mVar 0) mNil)) (gmTup 4 (gmCons (gmName 5) (gmCons (gmName 6) (gmCons (gmName 7) (gmCons (gmName 8) gmNil))))) (sSeq (sDrop (mBM "list" appendO (mVar 3) (mCons (mCall 4 (r_x_plain_tie F) (mCons (mVar 5) (mCons (mVar 6) (mCons (mVar 7) (mCons (mVar 8) mNil))))) mNil))) (sDrop (mBM "list" appendO (mVar 4) (mCons (mCall 4 (r_x_plain_tie F) (mCons (mOp2 idxO (mVar 2) (mVar 5)) (mCons (mOp2 idxO (mVar 2) (mVar 6)) (mCons (mCall 2 (r_exchanged_word F) (mCons (mVar 7) (mCons (mVar 1) mNil))) (mCons (mVar 8) mNil))))) mNil))))) (sRet (mOp2 (eqO false) (mOpL (sortedO false) (mCons (mVar 3) mNil)) (mOpL (sortedO false) (mCons (mVar 4) mNil))))))))
def r_is_kept (F : Nat) : List D → M D := mFn 9 3 false (b_is_kept F)
def b_x_law_asked (F : Nat) : SM := (sSeq (sPar 6 7 (mCons (mMake false 0 4 (r_Tile___init__ F) (mCons (mVar 0) (mCons (mVar 1) (mCons (mOpL (listO false) (mCons (mVar 2) mNil)) mNil)))) (mCons (mOpL (listO false) (mCons (mVar 4) mNil)) mNil))) (sSeq (sIf (mNot (mTru (mCall 2 (r_x_law_same F) (mCons (mOpL (lstMk false) (mCons (mCall 3 (r_is_kept F) (mCons (mVar 6) (mCons (mVar 3) (mCons (mVar 7) mNil)))) (mCons (mCall 3 (r_is_kept F) (mCons (mVar 6) (mCons (mVar 3) (mCons (mOpL tupleO (mCons (mVar 4) mNil)) mNil)))) mNil))) (mCons (mOpL (lstMk false) (mCons (mVar 5) (mCons (mVar 5) mNil))) mNil))))) (sRet (fun _ => pure (D.bl false))) sNext) (sRet (mAndV (mOp2 (eqO false) (mVar 7) (mOpL (listO false) (mCons (mVar 4) mNil))) (mCall 2 (r_x_law_same F) (mCons (mMeth 0 "ties" 1 (r_Tile_ties F) (mVar 6) mNil) (mCons (mOpL (listO false) (mCons (mVar 2) mNil)) mNil)))))))
def r_x_law_asked (F : Nat) : List D → M D := mFn 8 6 false (b_x_law_asked F)
def b_x_law_one_changed (F : Nat) : SM := (sSeq (sAsg (mVar 1) (gmTup 4 (gmCons (gmName 5) (gmCons (gmName 6) (gmCons (gmName 7) (gmCons (gmName 8) gmNil)))))) (sSeq (sAsg (mCall 2 (r_x_law_draw F) (mCons (mVar 0) (mCons (fun _ => pure (D.int 7)) mNil))) (gmName 4)) (sSeq (sIf (mTest (mOp2 (eqO false) (mVar 4) (fun _ => pure (D.int 0)))) (sRet (mOpL tupMk (mCons (mVar 5) (mCons (mVar 6) (mCons (mVar 7) (mCons (mIf (mTest (mOp2 (eqO false) (mOpL absO (mCons (mVar 8) mNil)) (fun _ => pure (D.int 1)))) (mOp2 (addO false) (mVar 8) (mVar 8)) (mIf (mTest (mOp2 (gtO false) (mVar 8) (fun _ => pure (D.int 0)))) (mOp2 subO (mVar 8) (fun _ => pure (D.int 1))) (mOp2 (addO false) (mVar 8) (fun _ => pure (D.int 1))))) mNil)))))) sNext) (sSeq (sIf (mTest (mOp2 (eqO false) (mVar 4) (fun _ => pure (D.int 1)))) (sRet (mOpL tupMk (mCons (mVar 6) (mCons (mVar 5) (mCons (mVar 7) (mCons (mVar 8) mNil)))))) sNext) (sSeq (sIf (mTest (mOp2 (eqO false) (mVar 4) (fun _ => pure (D.int 2)))) (sRet (mOpL tupMk (mCons (mVar 5) (mCons (mVar 6) (mCons (mOp1 (revO false) (mVar 7)) (mCons (mVar 8) mNil)))))) sNext) (sSeq (sIf (mTest (mOp2 (eqO false) (mVar 4) (fun _ => pure (D.int 3)))) (sRet (mOpL tupMk (mCons (mVar 5) (mCons (mCall 2 (r_x_law_draw F) (mCons (mVar 0) (mCons (mVar 2) mNil))) (mCons (mVar 7) (mCons (mVar 8) mNil)))))) sNext) (sSeq (sIf (mTest (mOp2 (eqO false) (mVar 4) (fun _ => pure (D.int 4)))) (sRet (mOpL tupMk (mCons (mVar 5) (mCons (mVar 6) (mCons (mOp2 (addO false) (mVar 7) (mOpL tupMk (mCons (mCall 2 (r_x_law_draw F) (mCons (mVar 0) (mCons (mVar 3) mNil))) mNil))) (mCons (mVar 8) mNil)))))) sNext) (sSeq (sIf (mTest (mOp2 (eqO false) (mVar 4) (fun _ => pure (D.int 5)))) (sRet (mOpL tupMk (mCons (mVar 6) (mCons (mVar 5) (mCons (mOp1 (revO false) (mVar 7)) (mCons (mVar 8) mNil)))))) sNext) (sRet (mOpL tupMk (mCons (mVar 5) (mCons (mVar 6) (mCons (mSl (slO false) (mVar 7) mNoPart (mPart (mOp1 negO (fun _ => pure (D.int 1))))) (mCons (mOp2 subO (fun _ => pure (D.int 0)) (mVar 8)) mNil))))))))))))))
def r_x_law_one_changed (F : Nat) : List D → M D := mFn 9 4 false (b_x_law_one_changed F)
def b_x_law_changed_ties (F : Nat) : SM := (sSeq (sAsg (mOpL (listO true) (mCons (mVar 1) mNil)) (gmName 4)) (sSeq (sIf (mTru (mVar 4)) (sSeq (sPar 5 6 (mCons (mCall 2 (r_x_law_draw F) (mCons (mVar 0) (mCons (mOpL lenO (mCons (mVar 4) mNil)) mNil))) (mCons (mCall 2 (r_x_law_draw F) (mCons (mVar 0) (mCons (fun _ => pure (D.int 4)) mNil))) mNil))) (sIf (mTest (mOp2 (eqO false) (mVar 6) (fun _ => pure (D.int 0)))) (sDrop (mBM "list" popO (mVar 4) (mCons (mVar 5) mNil))) (sIf (mTest (mOp2 (eqO false) (mVar 6) (fun _ => pure (D.int 1)))) (sDrop (mBM "list" appendO (mVar 4) (mCons (mOp2 idxO (mVar 4) (mVar 5)) mNil))) (sAsg (mCall 4 (r_x_law_one_changed F) (mCons (mVar 0) (mCons (mOp2 idxO (mVar 4) (mVar 5)) (mCons (mVar 2) (mCons (mVar 3) mNil))))) (gmSub (mVar 4) (mVar 5)))))) sNext) (sRet (mVar 4))))
def r_x_law_changed_ties (F : Nat) : List D → M D := mFn 7 4 false (b_x_law_changed_ties F)
def b_x_law_undone (F : Nat) : SM := (sSeq (sAsg (mLc F true (mIter (mVar 0)) [2] (gmName 2) tYesM (fun _ => pure (D.int 0))) (gmName 1)) (sSeq (sFor F (mSrc rng1 (mCons (mOpL lenO (mCons (mVar 0) mNil)) mNil)) (gmName 2) (sAsg (mVar 2) (gmSub (mVar 1) (mOp2 idxO (mVar 0) (mVar 2))))) (sRet (mVar 1))))
def r_x_law_undone (F : Nat) : List D → M D := mFn 3 1 false (b_x_law_undone F)
def b_x_law_swapped (F : Nat) : SM := (sSeq (sAsg (mOpL (listO true) (mCons (mVar 1) mNil)) (gmName 2)) (sSeq (sIf (mTest (mOp2 (gtO false) (mOpL lenO (mCons (mVar 2) mNil)) (fun _ => pure (D.int 1)))) (sSeq (sAsg (mCall 3 (r_x_law_pick F) (mCons (mVar 0) (mCons (mOp1 (lstRg1 false) (mOpL lenO (mCons (mVar 2) mNil))) (mCons (fun _ => pure (D.int 2)) mNil)))) (gmUnl 2 (gmCons (gmName 3) (gmCons (gmName 4) gmNil)))) (sAsg (mOpL tupMk (mCons (mOp2 idxO (mVar 2) (mVar 4)) (mCons (mOp2 idxO (mVar 2) (mVar 3)) mNil))) (gmTup 2 (gmCons (gmSub (mVar 2) (mVar 3)) (gmCons (gmSub (mVar 2) (mVar 4)) gmNil))))) sNext) (sRet (mVar 2))))
def r_x_law_swapped (F : Nat) : List D → M D := mFn 5 2 false (b_x_law_swapped F)
def b_x_law_odd_ones (F : Nat) : SM := (sSeq (sAsg (mOpL tupMk (mCons (mMake false 0 4 (r_Tile___init__ F) (mCons (mVar 0) (mCons (mVar 1) (mCons (mOpL (listO false) (mCons (mVar 2) mNil)) mNil)))) (mCons (mOpL lenO (mCons (mVar 3) mNil)) mNil))) (gmTup 2 (gmCons (gmName 7) (gmCons (gmName 8) gmNil)))) (sSeq (sAsg (mLc F false (mIter (mVar 3)) [9] (gmName 9) tYesM (mIf (mTest (mOp2 (ordO false) (mVar 9) (fun _ => pure (D.int 2)))) (mOp2 (eqO false) (mVar 9) (fun _ => pure (D.int 1))) (mVar 9))) (gmName 5)) (sSeq (sFor F (mIter (mOpL (lstMk false) (mCons (fun _ => pure D.non) (mCons (fun _ => pure (D.bl true)) (mCons (mOpL (listO false) (mCons (mVar 3) mNil)) (mCons (mOp2 (addO false) (mVar 3) (mOpL tupMk (mCons (mVar 8) mNil))) (mCons (mSl (slO false) (mVar 3) (mPart (fun _ => pure (D.int 1))) mNoPart) (mCons (fun _ => pure (D.str "0")) (mCons (fun _ => pure (D.int 0)) (mCons (fun _ => M.op (newDK false)) (mCons (mOpL tupleO (mCons (mVar 5) mNil)) (mCons (mOpL tupleO (mCons (mLc F false (mIter (mVar 3)) [9] (gmName 9) tYesM (mOp2 subO (mVar 9) (mVar 8))) mNil)) (mCons (mOpL tupMk (mCons (mVar 3) mNil)) mNil))))))))))))) (gmName 6) (sIf (mTest (mOp2 (isO true) (mCall 3 (r_is_kept F) (mCons (mVar 7) (mCons (mVar 6) (mCons (mOpL (listO false) (mCons (mVar 4) mNil)) mNil)))) (fun _ => pure (D.bl false)))) (sRet (fun _ => pure (D.bl false))) sNext)) (sSeq (sAsg (mLc F false (mIter (mVar 4)) [10] (gmName 10) tYesM (mIf (mTest (mOp2 (ordO false) (mVar 10) (fun _ => pure (D.int 2)))) (mOp2 (eqO false) (mVar 10) (fun _ => pure (D.int 1))) (mVar 10))) (gmName 5)) (sSeq (sFor F (mIter (mOpL (lstMk false) (mCons (fun _ => pure D.non) (mCons (fun _ => pure (D.int 0)) (mCons (fun _ => pure (D.str "0")) (mCons (mOp2 (addO false) (mOpL (listO false) (mCons (mVar 4) mNil)) (mOpL (lstMk false) (mCons (mVar 1) mNil))) (mCons (mSl (slO false) (mOpL (listO false) (mCons (mVar 4) mNil)) (mPart (fun _ => pure (D.int 1))) mNoPart) (mCons (mVar 5) (mCons (fun _ => M.op (oneDict 0 0)) (mCons (mOpL (lstMk false) (mCons (mOpL (listO false) (mCons (mVar 4) mNil)) mNil)) (mCons (mLc F false (mIter (mVar 4)) [10] (gmName 10) tYesM (mOp2 subO (mVar 10) (mVar 1))) (mCons (mLc F false (mIter (mVar 4)) [10] (gmName 10) tYesM (mOp2 (addO false) (mVar 10) (fun _ => pure (D.int 1)))) mNil)))))))))))) (gmName 6) (sIf (mTest (mOp2 (isO true) (mCall 3 (r_is_kept F) (mCons (mVar 7) (mCons (mVar 3) (mCons (mVar 6) mNil)))) (fun _ => pure (D.bl false)))) (sRet (fun _ => pure (D.bl false))) sNext)) (sRet (mAndV (mOp2 (isO false) (mCall 3 (r_is_kept F) (mCons (mVar 7) (mCons (fun _ => pure D.non) (mCons (fun _ => pure D.non) mNil)))) (fun _ => pure (D.bl false))) (mOp2 (isO false) (mCall 3 (r_is_kept F) (mCons (mVar 7) (mCons (mVar 3) (mCons (mOpL (listO false) (mCons (mVar 4) mNil)) mNil)))) (fun _ => pure (D.bl true))))))))))
def r_x_law_odd_ones (F : Nat) : List D → M D := mFn 11 5 false (b_x_law_odd_ones F)
def b_law (F : Nat) : SM := (sSeq (sAsg (mCall 1 (r_x_law_bag F) (mCons (mVar 0) mNil)) (gmName 1)) (sSeq (sPar 6 7 (mCons (mCall 2 (r_x_law_of F) (mCons (mVar 1) (mCons (mOpL (lstMk false) (mCons (fun _ => pure (D.int 2)) (mCons (fun _ => pure (D.int 3)) (mCons (fun _ => pure (D.int 2)) (mCons (fun _ => pure (D.int 4)) (mCons (fun _ => pure (D.int 1)) mNil)))))) mNil))) (mCons (mCall 2 (r_x_law_of F) (mCons (mVar 1) (mCons (mOpL (lstMk false) (mCons (fun _ => pure (D.int 2)) (mCons (fun _ => pure (D.int 3)) (mCons (fun _ => pure (D.int 1)) (mCons (fun _ => pure (D.int 4)) (mCons (fun _ => pure (D.int 2)) (mCons (fun _ => pure (D.int 3)) (mCons (fun _ => pure (D.int 4)) (mCons (fun _ => pure (D.int 2)) (mCons (fun _ => pure (D.int 3)) (mCons (fun _ => pure (D.int 6)) mNil))))))))))) mNil))) mNil))) (sSeq (sAsg (mOpL tupMk (mCons (mCall 2 (r_x_law_names F) (mCons (mVar 1) (mCons (mVar 6) mNil))) (mCons (mOpL tupleO (mCons (mCall 3 (r_x_law_pick F) (mCons (mVar 1) (mCons (mOp1 (lstRg1 false) (mVar 6)) (mCons (mVar 6) mNil)))) mNil)) mNil))) (gmTup 2 (gmCons (gmName 8) (gmCons (gmName 9) gmNil)))) (sSeq (sAsg (mCall 3 (r_x_law_pick F) (mCons (mVar 1) (mCons (mOp1 (lstRg1 false) (mVar 7)) (mCons (mVar 7) mNil)))) (gmName 2)) (sSeq (sAsg (mCall 2 (r_x_law_shown F) (mCons (mVar 1) (mCons (mCall 4 (r_x_law_orbits F) (mCons (mVar 1) (mCons (mVar 7) (mCons (mVar 9) (mCons (mVar 2) mNil))))) mNil))) (gmName 3)) (sSeq (sIf (mOr (mNot (mTru (mCall 3 (r_x_law_keeps F) (mCons (mVar 3) (mCons (mVar 9) (mCons (mVar 2) mNil)))))) (mNot (mTru (mCall 6 (r_x_law_asked F) (mCons (mVar 8) (mCons (mVar 7) (mCons (mVar 3) (mCons (mVar 9) (mCons (mVar 2) (mCons (fun _ => pure (D.bl true)) mNil)))))))))) (sRet (fun _ => pure (D.bl false))) sNext) (sSeq (sPar 10 11 (mCons (mOpL tupleO (mCons (mLc F false (mIter (mVar 9)) [14] (gmName 14) tYesM (mOp2 idxO (mVar 9) (mVar 14))) mNil)) (mCons (mLc F false (mIter (mVar 2)) [13] (gmName 13) tYesM (mOp2 idxO (mVar 2) (mVar 13))) mNil))) (sSeq (sIf (mNot (mTru (mCall 6 (r_x_law_asked F) (mCons (mVar 8) (mCons (mVar 7) (mCons (mVar 3) (mCons (mVar 10) (mCons (mVar 11) (mCons (fun _ => pure (D.bl true)) mNil))))))))) (sRet (fun _ => pure (D.bl false))) sNext) (sSeq (sFor F (mSrc rng1 (mCons (fun _ => pure (D.int 4)) mNil)) (gmName 4) (sSeq (sAsg (mCall 4 (r_x_law_changed_ties F) (mCons (mVar 1) (mCons (mVar 3) (mCons (mVar 7) (mCons (mVar 6) mNil))))) (gmName 12)) (sIf (mNot (mTru (mCall 6 (r_x_law_asked F) (mCons (mVar 8) (mCons (mVar 7) (mCons (mVar 12) (mCons (mVar 9) (mCons (mVar 2) (mCons (mCall 3 (r_x_law_keeps F) (mCons (mVar 12) (mCons (mVar 9) (mCons (mVar 2) mNil)))) mNil))))))))) (sRet (fun _ => pure (D.bl false))) sNext))) (sSeq (sFor F (mIter (mOpL (lstMk false) (mCons (mCall 1 (r_x_law_undone F) (mCons (mVar 2) mNil)) (mCons (mCall 2 (r_x_law_swapped F) (mCons (mVar 1) (mCons (mVar 2) mNil))) mNil)))) (gmName 5) (sIf (mNot (mTru (mCall 6 (r_x_law_asked F) (mCons (mVar 8) (mCons (mVar 7) (mCons (mVar 3) (mCons (mVar 9) (mCons (mVar 5) (mCons (mCall 3 (r_x_law_keeps F) (mCons (mVar 3) (mCons (mVar 9) (mCons (mVar 5) mNil)))) mNil))))))))) (sRet (fun _ => pure (D.bl false))) sNext)) (sSeq (sFor F (mIter (mOpL (lstMk false) (mCons (mOpL tupleO (mCons (mCall 1 (r_x_law_undone F) (mCons (mVar 9) mNil)) mNil)) (mCons (mOpL tupleO (mCons (mCall 2 (r_x_law_swapped F) (mCons (mVar 1) (mCons (mVar 9) mNil))) mNil)) (mCons (mOp1 tupRg1 (mVar 6)) mNil))))) (gmName 5) (sIf (mNot (mTru (mCall 6 (r_x_law_asked F) (mCons (mVar 8) (mCons (mVar 7) (mCons (mVar 3) (mCons (mVar 5) (mCons (mVar 2) (mCons (mCall 3 (r_x_law_keeps F) (mCons (mVar 3) (mCons (mVar 5) (mCons (mVar 2) mNil)))) mNil))))))))) (sRet (fun _ => pure (D.bl false))) sNext)) (sRet (mCall 5 (r_x_law_odd_ones F) (mCons (mVar 8) (mCons (mVar 7) (mCons (mVar 3) (mCons (mVar 9) (mCons (mVar 2) mNil))))))))))))))))))
def r_law (F : Nat) : List D → M D := mFn 15 1 false (b_law F)
/-- what the top has written -/
structure Txt (K : PySem.W.Frag) (mg : Str → Option Value) (ca fa : Nat → Addr) : Prop where
  d_x_law_bag : FnAt K "_law_bag" "_law_bag" s_x_law_bag ["script"] (fa 0)
  d_x_law_draw : FnAt K "_law_draw" "_law_draw" s_x_law_draw ["bag", "below"] (fa 1)
  d_x_law_of : FnAt K "_law_of" "_law_of" s_x_law_of ["bag", "things"] (fa 2)
  d_x_law_names : FnAt K "_law_names" "_law_names" s_x_law_names ["bag", "number"] (fa 3)
  d_x_law_pick : FnAt K "_law_pick" "_law_pick" s_x_law_pick ["bag", "things", "number"] (fa 4)
  d_x_law_shown : FnAt K "_law_shown" "_law_shown" s_x_law_shown ["bag", "ties"] (fa 5)
  d_x_law_word : FnAt K "_law_word" "_law_word" s_x_law_word ["bag", "number", "longest"] (fa 6)
  d_x_law_strength : FnAt K "_law_strength" "_law_strength" s_x_law_strength ["bag"] (fa 7)
  d_x_law_moved : FnAt K "_law_moved" "_law_moved" s_x_law_moved ["tie", "rule", "naming"] (fa 8)
  d_x_law_read : FnAt K "_law_read" "_law_read" s_x_law_read ["tie"] (fa 9)
  d_x_law_orbits : FnAt K "_law_orbits" "_law_orbits" s_x_law_orbits ["bag", "spots", "rule", "naming"] (fa 10)
  d_x_law_sorted : FnAt K "_law_sorted" "_law_sorted" s_x_law_sorted ["things"] (fa 11)
  d_x_law_keeps : FnAt K "_law_keeps" "_law_keeps" s_x_law_keeps ["ties", "rule", "naming"] (fa 12)
  d_is_side_name : FnAt K "is_side_name" "is_side_name" s_is_side_name ["value"] (fa 13)
  d_is_sides : FnAt K "is_sides" "is_sides" s_is_sides ["value"] (fa 14)
  d_is_number_1 : FnAt K "is_number" "is_number" s_is_number_1 ["value"] (fa 15)
  d_is_spot : FnAt K "is_spot" "is_spot" s_is_spot ["value", "spots"] (fa 16)
  d_is_number : FnAt K "is_number" "is_number" s_is_number ["value"] (fa 17)
  d_is_index : FnAt K "is_index" "is_index" s_is_index ["value", "many"] (fa 18)
  d_is_word : FnAt K "is_word" "is_word" s_is_word ["sides", "value"] (fa 19)
  d_is_tie : FnAt K "is_tie" "is_tie" s_is_tie ["sides", "spots", "value"] (fa 20)
  d_Tile___init__ : FnAt K "__init__" "Tile.__init__" s_Tile___init__ ["self", "sides", "spots", "ties"] (fa 21)
  d_x_law_same : FnAt K "_law_same" "_law_same" s_x_law_same ["found", "due"] (fa 22)
  d_is_row_of : FnAt K "is_row_of" "is_row_of" s_is_row_of ["value", "many"] (fa 23)
  d_is_number_2 : FnAt K "is_number" "is_number" s_is_number_2 ["value"] (fa 24)
  d_is_index_1 : FnAt K "is_index" "is_index" s_is_index_1 ["value", "many"] (fa 25)
  d_index_fault : FnAt K "index_fault" "index_fault" s_index_fault ["value", "many"] (fa 26)
  d_is_naming : FnAt K "is_naming" "is_naming" s_is_naming ["value", "many"] (fa 27)
  d_is_rule : FnAt K "is_rule" "is_rule" s_is_rule ["value", "many"] (fa 28)
  d_Tile_ties : FnAt K "ties" "Tile.ties" s_Tile_ties ["self"] (fa 29)
  d_back : FnAt K "back" "back" s_back ["word"] (fa 30)
  d_x_plain_tie : FnAt K "_plain_tie" "_plain_tie" s_x_plain_tie ["start", "to", "word", "strength"] (fa 31)
  d_exchanged_word : FnAt K "exchanged_word" "exchanged_word" s_exchanged_word ["word", "rule"] (fa 32)
  d_is_kept : FnAt K "is_kept" "is_kept" s_is_kept ["tile", "rule", "naming"] (fa 33)
  d_x_law_asked : FnAt K "_law_asked" "_law_asked" s_x_law_asked ["names", "spots", "ties", "rule", "naming", "due"] (fa 34)
  d_x_law_one_changed : FnAt K "_law_one_changed" "_law_one_changed" s_x_law_one_changed ["bag", "tie", "spots", "number"] (fa 35)
  d_x_law_changed_ties : FnAt K "_law_changed_ties" "_law_changed_ties" s_x_law_changed_ties ["bag", "ties", "spots", "number"] (fa 36)
  d_x_law_undone : FnAt K "_law_undone" "_law_undone" s_x_law_undone ["places"] (fa 37)
  d_x_law_swapped : FnAt K "_law_swapped" "_law_swapped" s_x_law_swapped ["bag", "places"] (fa 38)
  d_x_law_odd_ones : FnAt K "_law_odd_ones" "_law_odd_ones" s_x_law_odd_ones ["names", "spots", "ties", "rule", "naming"] (fa 39)
  d_law : FnAt K "law" "law" s_law ["script"] (fa 40)
  z_int : mg "int" = none
  z_list : mg "list" = none
  N__law_bag : mg "_law_bag" = some (.ref (fa 0))
  z_len : mg "len" = none
  z_abs : mg "abs" = none
  N__law_draw : mg "_law_draw" = some (.ref (fa 1))
  N__law_of : mg "_law_of" = some (.ref (fa 2))
  z_range : mg "range" = none
  z_tuple : mg "tuple" = none
  N__law_names : mg "_law_names" = some (.ref (fa 3))
  z_min : mg "min" = none
  N__law_pick : mg "_law_pick" = some (.ref (fa 4))
  N__law_shown : mg "_law_shown" = some (.ref (fa 5))
  N__law_word : mg "_law_word" = some (.ref (fa 6))
  N__law_strength : mg "_law_strength" = some (.ref (fa 7))
  N__law_moved : mg "_law_moved" = some (.ref (fa 8))
  N__law_read : mg "_law_read" = some (.ref (fa 9))
  N__law_orbits : mg "_law_orbits" = some (.ref (fa 10))
  N__law_sorted : mg "_law_sorted" = some (.ref (fa 11))
  N__law_keeps : mg "_law_keeps" = some (.ref (fa 12))
  z_isinstance : mg "isinstance" = none
  z_str : mg "str" = none
  c_LONGEST_NAME : ∃ t, mg "LONGEST_NAME" = some (.int 3 t)
  z_all : mg "all" = none
  c_LETTERS : ∃ t, mg "LETTERS" = some (.str "abcdefghijklmnopqrstuvwxyz" t)
  N_is_side_name : mg "is_side_name" = some (.ref (fa 13))
  N_is_sides : mg "is_sides" = some (.ref (fa 14))
  z_bool : mg "bool" = none
  N_is_number_valuechecks : mg "is_number_valuechecks" = some (.ref (fa 15))
  z_enumerate : mg "enumerate" = none
  N_is_spot : mg "is_spot" = some (.ref (fa 16))
  N_is_number_indexes : mg "is_number_indexes" = some (.ref (fa 17))
  N_is_index_indexes : mg "is_index_indexes" = some (.ref (fa 18))
  N_is_word : mg "is_word" = some (.ref (fa 19))
  N_is_tie : mg "is_tie" = some (.ref (fa 20))
  f_sides : FldOk K ca "sides" [0]
  f_spots : FldOk K ca "spots" [0]
  f__ties : FldOk K ca "_ties" [0]
  m_Tile : mg "Tile" = some (.ref (ca 0))
  C_Tile : PySem.W.makesIn K (ca 0) = true ∧ PySem.W.findIn K (.ref (ca 0)) "__init__" = some (some (.ref (fa 21))) ∧ PySem.W.isFn K (.ref (fa 21)) = true ∧ PySem.W.keepIn K (.ref (ca 0)) = true
  z_zip : mg "zip" = none
  N__law_same : mg "_law_same" = some (.ref (fa 22))
  N_is_row_of : mg "is_row_of" = some (.ref (fa 23))
  N_is_number_rowlooks : mg "is_number_rowlooks" = some (.ref (fa 24))
  N_is_index_rowlooks : mg "is_index_rowlooks" = some (.ref (fa 25))
  N_index_fault : mg "index_fault" = some (.ref (fa 26))
  z_set : mg "set" = none
  N_is_naming : mg "is_naming" = some (.ref (fa 27))
  N_is_rule : mg "is_rule" = some (.ref (fa 28))
  N_back : mg "back" = some (.ref (fa 30))
  N__plain_tie : mg "_plain_tie" = some (.ref (fa 31))
  N_exchanged_word : mg "exchanged_word" = some (.ref (fa 32))
  z_sorted : mg "sorted" = none
  N_is_kept : mg "is_kept" = some (.ref (fa 33))
  N__law_asked : mg "_law_asked" = some (.ref (fa 34))
  N__law_one_changed : mg "_law_one_changed" = some (.ref (fa 35))
  N__law_changed_ties : mg "_law_changed_ties" = some (.ref (fa 36))
  N__law_undone : mg "_law_undone" = some (.ref (fa 37))
  N__law_swapped : mg "_law_swapped" = some (.ref (fa 38))
  N__law_odd_ones : mg "_law_odd_ones" = some (.ref (fa 39))
  cls_Tile : Cls K (ca 0)
  M_Tile_ties : PySem.W.findIn K (.ref (ca 0)) "ties" = some (some (.ref (fa 29))) ∧ PySem.W.isFn K (.ref (fa 29)) = true
section
variable {P : Program} {w : World} {K : PySem.W.Frag} {mg : Str → Option Value} {base : Heap} {ca fa : Nat → Addr}
theorem sc_x_law_bag : C8.scC ["script", "mixed", "cell"] ["script"] (C8.fnScope s_x_law_bag) = true := by decide +kernel
theorem p_x_law_bag (T : Txt K mg ca fa) (F : Nat) : Prm P w K mg base ca 1 (fa 0) ["script"] (r_x_law_bag F) := by
  refine prm_fn (k := 0) (names := ["script", "mixed", "cell"]) (keep := true) (body := b_x_law_bag F) T.d_x_law_bag sc_x_law_bag fun cdv A outer s H E hh => ?_
  have kit : Kit (Gx (cxOf (L2.CX P w) P w K mg base ["script", "mixed", "cell"] "_law_bag" (C8.fnScope s_x_law_bag) (fa 0) cdv A outer s H E) ca) 0 := kit0
  exact (ds_cons (g_set (i := 1) hh rfl rfl de_int rfl (.inl rfl)) (ds_cons (ds_for F (passes_of rfl) hh.calm (di_of (de_sl false (g_var (i := 0) rfl rfl rfl rfl) do_none (do_some de_int))) (g_name (i := 2) hh rfl rfl (.inl rfl)) (ds_one (g_set (i := 1) hh rfl rfl (de_bin mod_ok (de_callTy int_ok rfl T.z_int PyProof.Rows.boot_int (da_cons (de_bin (add_ok (cell := false)) (de_bin (add_ok (cell := false)) (de_bin (mul_ok (cell := false)) (g_var (i := 1) rfl rfl rfl rfl) de_int) (de_bin (mul_ok (cell := false)) (de_bin mod_ok (de_callTy int_ok rfl T.z_int PyProof.Rows.boot_int (da_cons (g_var (i := 2) rfl rfl rfl rfl) da_nil rfl) (by decide) rfl rfl rfl) de_int) de_int)) de_int) da_nil rfl) (by decide) rfl rfl rfl) de_int) rfl (.inl rfl))) rfl) (ds_one (ds_ret (de_lst true (da_cons (de_callTy (list_ok (cell := false)) rfl T.z_list PyProof.Rows.boot_list (da_cons (de_sl false (g_var (i := 0) rfl rfl rfl rfl) do_none (do_some de_int)) da_nil rfl) (by decide) rfl rfl rfl) (da_cons de_int (da_cons de_int (da_cons (g_var (i := 1) rfl rfl rfl rfl) (da_cons de_int da_nil rfl) rfl) rfl) rfl) rfl))))))
theorem sc_x_law_draw : C8.scC ["bag", "below", "seed", "cell", "digit"] ["bag", "below"] (C8.fnScope s_x_law_draw) = true := by decide +kernel
theorem p_x_law_draw (T : Txt K mg ca fa) (F : Nat) : Prm P w K mg base ca 1 (fa 1) ["bag", "below"] (r_x_law_draw F) := by
  refine prm_fn (k := 0) (names := ["bag", "below", "seed", "cell", "digit"]) (keep := false) (body := b_x_law_draw F) T.d_x_law_draw sc_x_law_draw fun cdv A outer s H E hh => ?_
  have kit : Kit (Gx (cxOf (L2.CX P w) P w K mg base ["bag", "below", "seed", "cell", "digit"] "_law_draw" (C8.fnScope s_x_law_draw) (fa 1) cdv A outer s H E) ca) 0 := kit0
  exact (ds_cons (ds_asg (de_bin (add_ok (cell := false)) (de_ix (idx_ok hh.u1) (g_var (i := 0) rfl rfl rfl rfl) de_int rfl) de_int) (dg_sub hh (g_var (i := 0) rfl rfl rfl rfl) de_int (fun _ => rfl)) rfl rfl rfl) (ds_cons (ds_if (dw_pt (dw_and (dt_cmp (eq_ok hh.u64) (de_ix (idx_ok hh.u1) (g_var (i := 0) rfl rfl rfl rfl) de_int rfl) de_int rfl) (dw_and1 (dt_cmp (ord_ok false hh.u64) (de_ix (idx_ok hh.u1) (g_var (i := 0) rfl rfl rfl rfl) de_int rfl) (de_callB len_ok rfl T.z_len PySem.boot_len (da_cons (de_ix (idx_ok hh.u1) (g_var (i := 0) rfl rfl rfl rfl) de_int rfl) da_nil rfl) (by decide) rfl rfl rfl) rfl)))) (ds_cons (g_set (i := 3) hh rfl rfl (de_callTy int_ok rfl T.z_int PyProof.Rows.boot_int (da_cons (de_ix (idx_ok hh.u1) (de_ix (idx_ok hh.u1) (g_var (i := 0) rfl rfl rfl rfl) de_int rfl) (de_ix (idx_ok hh.u1) (g_var (i := 0) rfl rfl rfl rfl) de_int rfl) rfl) da_nil rfl) (by decide) rfl rfl rfl) rfl (.inl rfl)) (ds_cons (ds_asg (de_bin (add_ok (cell := false)) (de_ix (idx_ok hh.u1) (g_var (i := 0) rfl rfl rfl rfl) de_int rfl) de_int) (dg_sub hh (g_var (i := 0) rfl rfl rfl rfl) de_int (fun _ => rfl)) rfl rfl rfl) (ds_one (ds_if (dt_cmp ge_ok (de_callB abs_ok rfl T.z_abs PyProof.Rows.boot_abs (da_cons (g_var (i := 3) rfl rfl rfl rfl) da_nil rfl) (by decide) rfl rfl rfl) (de_bin pow_ok de_int de_int) rfl) (ds_one (ds_asg (de_callB abs_ok rfl T.z_abs PyProof.Rows.boot_abs (da_cons (g_var (i := 3) rfl rfl rfl rfl) da_nil rfl) (by decide) rfl rfl rfl) (dg_sub hh (g_var (i := 0) rfl rfl rfl rfl) de_int (fun _ => rfl)) rfl rfl rfl)) (ds_one (ds_asg (de_bin mod_ok (de_callTy int_ok rfl T.z_int PyProof.Rows.boot_int (da_cons (de_bin (add_ok (cell := false)) (de_bin (add_ok (cell := false)) (de_bin (mul_ok (cell := false)) (de_ix (idx_ok hh.u1) (g_var (i := 0) rfl rfl rfl rfl) de_int rfl) de_int) (de_bin (mul_ok (cell := false)) (de_bin mod_ok (de_callTy int_ok rfl T.z_int PyProof.Rows.boot_int (da_cons (g_var (i := 3) rfl rfl rfl rfl) da_nil rfl) (by decide) rfl rfl rfl) de_int) de_int)) de_int) da_nil rfl) (by decide) rfl rfl rfl) de_int) (dg_sub hh (g_var (i := 0) rfl rfl rfl rfl) de_int (fun _ => rfl)) rfl rfl rfl)))))) ds_nil) (ds_cons (ds_if (dt_cmp gt_ok (de_ix (idx_ok hh.u1) (g_var (i := 0) rfl rfl rfl rfl) de_int rfl) de_int rfl) (ds_cons (g_set (i := 4) hh rfl rfl (de_bin mod_ok (de_callTy int_ok rfl T.z_int PyProof.Rows.boot_int (da_cons (de_ix (idx_ok hh.u1) (g_var (i := 0) rfl rfl rfl rfl) de_int rfl) da_nil rfl) (by decide) rfl rfl rfl) (g_var (i := 1) rfl rfl rfl rfl)) rfl (.inl rfl)) (ds_cons (ds_asg (de_bin fdiv_ok (de_ix (idx_ok hh.u1) (g_var (i := 0) rfl rfl rfl rfl) de_int rfl) (g_var (i := 1) rfl rfl rfl rfl)) (dg_sub hh (g_var (i := 0) rfl rfl rfl rfl) de_int (fun _ => rfl)) rfl rfl rfl) (ds_one (ds_ret (g_var (i := 4) rfl rfl rfl rfl))))) ds_nil) (ds_cons (g_set (i := 2) hh rfl rfl (de_callTy int_ok rfl T.z_int PyProof.Rows.boot_int (da_cons (de_ix (idx_ok hh.u1) (g_var (i := 0) rfl rfl rfl rfl) de_int rfl) da_nil rfl) (by decide) rfl rfl rfl) rfl (.inl rfl)) (ds_cons (ds_asg (de_bin mod_ok (de_callTy int_ok rfl T.z_int PyProof.Rows.boot_int (da_cons (de_bin (add_ok (cell := false)) (de_bin (add_ok (cell := false)) (de_bin (add_ok (cell := false)) (de_bin (mul_ok (cell := false)) (de_bin (mul_ok (cell := false)) (g_var (i := 2) rfl rfl rfl rfl) (g_var (i := 2) rfl rfl rfl rfl)) de_int) (de_bin (mul_ok (cell := false)) (g_var (i := 2) rfl rfl rfl rfl) de_int)) (de_bin (mul_ok (cell := false)) (de_ix (idx_ok hh.u1) (g_var (i := 0) rfl rfl rfl rfl) de_int rfl) de_int)) de_int) da_nil rfl) (by decide) rfl rfl rfl) de_int) (dg_sub hh (g_var (i := 0) rfl rfl rfl rfl) de_int (fun _ => rfl)) rfl rfl rfl) (ds_one (ds_ret (de_bin mod_ok (de_callTy int_ok rfl T.z_int PyProof.Rows.boot_int (da_cons (de_bin (add_ok (cell := false)) (de_bin fdiv_ok (de_ix (idx_ok hh.u1) (g_var (i := 0) rfl rfl rfl rfl) de_int rfl) de_int) (de_bin (mul_ok (cell := false)) (de_bin mod_ok (de_callTy int_ok rfl T.z_int PyProof.Rows.boot_int (da_cons (de_ix (idx_ok hh.u1) (g_var (i := 0) rfl rfl rfl rfl) de_int rfl) da_nil rfl) (by decide) rfl rfl rfl) de_int) de_int)) da_nil rfl) (by decide) rfl rfl rfl) (g_var (i := 1) rfl rfl rfl rfl)))))))))
theorem sc_x_law_of : C8.scC ["bag", "things"] ["bag", "things"] (C8.fnScope s_x_law_of) = true := by decide +kernel
theorem p_x_law_of (T : Txt K mg ca fa) (F : Nat) : Prm P w K mg base ca 2 (fa 2) ["bag", "things"] (r_x_law_of F) := by
  refine prm_fn (k := 1) (names := ["bag", "things"]) (keep := false) (body := b_x_law_of F) T.d_x_law_of sc_x_law_of fun cdv A outer s H E hh => ?_
  have kit : Kit (Gx (cxOf (L2.CX P w) P w K mg base ["bag", "things"] "_law_of" (C8.fnScope s_x_law_of) (fa 2) cdv A outer s H E) ca) 0 := kit0
  exact (ds_one (ds_ret (de_ix (idx_ok hh.u1) (g_var (i := 1) rfl rfl rfl rfl) (de_own ((p_x_law_draw T F).own T.N__law_draw) hh (by decide) rfl (da_cons (g_var (i := 0) rfl rfl rfl rfl) (da_cons (de_callB len_ok rfl T.z_len PySem.boot_len (da_cons (g_var (i := 1) rfl rfl rfl rfl) da_nil rfl) (by decide) rfl rfl rfl) da_nil rfl) rfl) rfl rfl rfl) rfl)))
theorem sc_x_law_names : C8.scC ["bag", "number", "found", "k", "name", "at", "own"] ["bag", "number"] (C8.fnScope s_x_law_names) = true := by decide +kernel
theorem p_x_law_names (T : Txt K mg ca fa) (F : Nat) : Prm P w K mg base ca 3 (fa 3) ["bag", "number"] (r_x_law_names F) := by
  refine prm_fn (k := 2) (names := ["bag", "number", "found", "k", "name", "at", "own"]) (keep := false) (body := b_x_law_names F) T.d_x_law_names sc_x_law_names fun cdv A outer s H E hh => ?_
  have kit : Kit (Gx (cxOf (L2.CX P w) P w K mg base ["bag", "number", "found", "k", "name", "at", "own"] "_law_names" (C8.fnScope s_x_law_names) (fa 3) cdv A outer s H E) ca) 0 := kit0
  exact (ds_cons (g_set (i := 2) hh rfl rfl (de_lst true da_nil) rfl (.inl rfl)) (ds_cons (ds_for F (passes_of rfl) hh.calm (di_rng1 rfl T.z_range (da_cons (g_var (i := 1) rfl rfl rfl rfl) da_nil rfl) rfl) (g_name (i := 3) hh rfl rfl (.inl rfl)) (ds_cons (g_set (i := 4) hh rfl rfl (de_bm PySem.F.plainAttrs_str PySem.F.slot_str_join PySem.F.type_str_join join_ok de_str (da_cons (g_lc (own := [(("at" : Str), 5)]) F false hh (di_rng1 rfl T.z_range (da_cons (de_bin (add_ok (cell := false)) de_int (de_own ((p_x_law_draw T F).own T.N__law_draw) hh (by decide) rfl (da_cons (g_var (i := 0) rfl rfl rfl rfl) (da_cons de_int da_nil rfl) rfl) rfl rfl rfl)) da_nil rfl) rfl) (by show blkC ["bag", "number", "found", "k", "name", "at", "own"] (C8.fnScope s_x_law_names) _ [(("at" : Str), 5)] = true; decide +kernel) (by decide) (fun _ _ _ _ _ hh => (g_name (i := 5) hh rfl rfl (by first | exact .inl rfl | exact .inr rfl))) (fun _ _ _ _ _ hh => dts_nil) (fun _ _ _ _ _ hh => (de_own ((p_x_law_of T F).own T.N__law_of) hh (by decide) rfl (da_cons (g_var (i := 0) rfl rfl rfl rfl) (da_cons de_str da_nil rfl) rfl) rfl rfl rfl)) rfl) da_nil rfl) rfl rfl rfl rfl rfl) rfl (.inl rfl)) (ds_cons (ds_if (dt_cmp (in_ok hh.u65) (g_var (i := 4) rfl rfl rfl rfl) (g_var (i := 2) rfl rfl rfl rfl) rfl) (ds_one (g_set (i := 4) hh rfl rfl (de_ix (idx_ok hh.u1) (g_lc (own := [(("own" : Str), 6)]) F false hh (di_of (de_lst false (da_cons de_str (da_cons de_str (da_cons de_str (da_cons de_str da_nil rfl) rfl) rfl) rfl))) (by show blkC ["bag", "number", "found", "k", "name", "at", "own"] (C8.fnScope s_x_law_names) _ [(("own" : Str), 6)] = true; decide +kernel) (by decide) (fun _ _ _ _ _ hh => (g_name (i := 6) hh rfl rfl (by first | exact .inl rfl | exact .inr rfl))) (fun _ _ _ _ _ hh => (dts_one (dt_cmp (notIn_ok hh.u65) (g_var (i := 6) rfl rfl rfl rfl) (g_var (i := 2) rfl rfl rfl rfl) rfl))) (fun _ _ _ _ _ hh => (g_var (i := 6) rfl rfl rfl rfl)) rfl) de_int rfl) rfl (.inl rfl))) ds_nil) (ds_one (ds_expr (de_bm PySem.F.plainAttrs_list PySem.F.slot_list_append PySem.F.type_list_append append_ok (g_var (i := 2) rfl rfl rfl rfl) (da_cons (g_var (i := 4) rfl rfl rfl rfl) da_nil rfl) rfl rfl rfl rfl rfl) rfl)))) rfl) (ds_one (ds_ret (de_callTy tuple_ok rfl T.z_tuple PyProof.Rows.boot_tuple (da_cons (g_var (i := 2) rfl rfl rfl rfl) da_nil rfl) (by decide) rfl rfl rfl)))))
theorem sc_x_law_pick : C8.scC ["bag", "things", "number", "k", "left", "found"] ["bag", "things", "number"] (C8.fnScope s_x_law_pick) = true := by decide +kernel
theorem p_x_law_pick (T : Txt K mg ca fa) (F : Nat) : Prm P w K mg base ca 2 (fa 4) ["bag", "things", "number"] (r_x_law_pick F) := by
  refine prm_fn (k := 1) (names := ["bag", "things", "number", "k", "left", "found"]) (keep := false) (body := b_x_law_pick F) T.d_x_law_pick sc_x_law_pick fun cdv A outer s H E hh => ?_
  have kit : Kit (Gx (cxOf (L2.CX P w) P w K mg base ["bag", "things", "number", "k", "left", "found"] "_law_pick" (C8.fnScope s_x_law_pick) (fa 4) cdv A outer s H E) ca) 0 := kit0
  exact (ds_cons (ds_par (i := 4) (j := 5) hh.calm hh.nd rfl rfl (by decide) rfl rfl (da_cons (de_callTy (list_ok (cell := true)) rfl T.z_list PyProof.Rows.boot_list (da_cons (g_var (i := 1) rfl rfl rfl rfl) da_nil rfl) (by decide) rfl rfl rfl) (da_cons (de_lst true da_nil) da_nil rfl) rfl) rfl rfl) (ds_cons (ds_for F (passes_of rfl) hh.calm (di_rng1 rfl T.z_range (da_cons (de_callB (min_ok hh.calm) rfl T.z_min PyProof.Rows.boot_min (da_cons (g_var (i := 2) rfl rfl rfl rfl) (da_cons (de_callB len_ok rfl T.z_len PySem.boot_len (da_cons (g_var (i := 4) rfl rfl rfl rfl) da_nil rfl) (by decide) rfl rfl rfl) da_nil rfl) rfl) (by decide) rfl rfl rfl) da_nil rfl) rfl) (g_name (i := 3) hh rfl rfl (.inl rfl)) (ds_one (ds_expr (de_bm PySem.F.plainAttrs_list PySem.F.slot_list_append PySem.F.type_list_append append_ok (g_var (i := 5) rfl rfl rfl rfl) (da_cons (de_bm PySem.F.plainAttrs_list PySem.F.slot_list_pop PySem.F.type_list_pop pop_ok (g_var (i := 4) rfl rfl rfl rfl) (da_cons (de_own ((p_x_law_draw T F).own T.N__law_draw) hh (by decide) rfl (da_cons (g_var (i := 0) rfl rfl rfl rfl) (da_cons (de_callB len_ok rfl T.z_len PySem.boot_len (da_cons (g_var (i := 4) rfl rfl rfl rfl) da_nil rfl) (by decide) rfl rfl rfl) da_nil rfl) rfl) rfl rfl rfl) da_nil rfl) rfl rfl rfl rfl rfl) da_nil rfl) rfl rfl rfl rfl rfl) rfl)) rfl) (ds_one (ds_ret (g_var (i := 5) rfl rfl rfl rfl)))))
theorem sc_x_law_shown : C8.scC ["bag", "ties", "tie"] ["bag", "ties"] (C8.fnScope s_x_law_shown) = true := by decide +kernel
theorem p_x_law_shown (T : Txt K mg ca fa) (F : Nat) : Prm P w K mg base ca 3 (fa 5) ["bag", "ties"] (r_x_law_shown F) := by
  refine prm_fn (k := 2) (names := ["bag", "ties", "tie"]) (keep := false) (body := b_x_law_shown F) T.d_x_law_shown sc_x_law_shown fun cdv A outer s H E hh => ?_
  have kit : Kit (Gx (cxOf (L2.CX P w) P w K mg base ["bag", "ties", "tie"] "_law_shown" (C8.fnScope s_x_law_shown) (fa 5) cdv A outer s H E) ca) 0 := kit0
  exact (ds_one (ds_ret (g_lc (own := [(("tie" : Str), 2)]) F false hh (di_of (de_own ((p_x_law_pick T F).own T.N__law_pick) hh (by decide) rfl (da_cons (g_var (i := 0) rfl rfl rfl rfl) (da_cons (g_var (i := 1) rfl rfl rfl rfl) (da_cons (de_callB len_ok rfl T.z_len PySem.boot_len (da_cons (g_var (i := 1) rfl rfl rfl rfl) da_nil rfl) (by decide) rfl rfl rfl) da_nil rfl) rfl) rfl) rfl rfl rfl)) (by show blkC ["bag", "ties", "tie"] (C8.fnScope s_x_law_shown) _ [(("tie" : Str), 2)] = true; decide +kernel) (by decide) (fun _ _ _ _ _ hh => (g_name (i := 2) hh rfl rfl (by first | exact .inl rfl | exact .inr rfl))) (fun _ _ _ _ _ hh => dts_nil) (fun _ _ _ _ _ hh => (de_if (dt_cmp (eq_ok hh.u64) (de_own ((p_x_law_draw T F).own T.N__law_draw) hh (by decide) rfl (da_cons (g_var (i := 0) rfl rfl rfl rfl) (da_cons de_int da_nil rfl) rfl) rfl rfl rfl) de_int rfl) (g_var (i := 2) rfl rfl rfl rfl) (de_tup (da_cons (de_ix (idx_ok hh.u1) (g_var (i := 2) rfl rfl rfl rfl) de_int rfl) (da_cons (de_ix (idx_ok hh.u1) (g_var (i := 2) rfl rfl rfl rfl) de_int rfl) (da_cons (de_rev (cell := false) (de_ix (idx_ok hh.u1) (g_var (i := 2) rfl rfl rfl rfl) de_int rfl)) (da_cons (de_ix (idx_ok hh.u1) (g_var (i := 2) rfl rfl rfl rfl) de_int rfl) da_nil rfl) rfl) rfl) rfl)))) rfl)))
theorem sc_x_law_word : C8.scC ["bag", "number", "longest", "k"] ["bag", "number", "longest"] (C8.fnScope s_x_law_word) = true := by decide +kernel
theorem p_x_law_word (T : Txt K mg ca fa) (F : Nat) : Prm P w K mg base ca 2 (fa 6) ["bag", "number", "longest"] (r_x_law_word F) := by
  refine prm_fn (k := 1) (names := ["bag", "number", "longest", "k"]) (keep := false) (body := b_x_law_word F) T.d_x_law_word sc_x_law_word fun cdv A outer s H E hh => ?_
  have kit : Kit (Gx (cxOf (L2.CX P w) P w K mg base ["bag", "number", "longest", "k"] "_law_word" (C8.fnScope s_x_law_word) (fa 6) cdv A outer s H E) ca) 0 := kit0
  exact (ds_one (ds_ret (de_callTy tuple_ok rfl T.z_tuple PyProof.Rows.boot_tuple (da_cons (g_lc (own := [(("k" : Str), 3)]) F false hh (di_rng1 rfl T.z_range (da_cons (de_own ((p_x_law_draw T F).own T.N__law_draw) hh (by decide) rfl (da_cons (g_var (i := 0) rfl rfl rfl rfl) (da_cons (de_bin (add_ok (cell := false)) (g_var (i := 2) rfl rfl rfl rfl) de_int) da_nil rfl) rfl) rfl rfl rfl) da_nil rfl) rfl) (by show blkC ["bag", "number", "longest", "k"] (C8.fnScope s_x_law_word) _ [(("k" : Str), 3)] = true; decide +kernel) (by decide) (fun _ _ _ _ _ hh => (g_name (i := 3) hh rfl rfl (by first | exact .inl rfl | exact .inr rfl))) (fun _ _ _ _ _ hh => dts_nil) (fun _ _ _ _ _ hh => (de_own ((p_x_law_draw T F).own T.N__law_draw) hh (by decide) rfl (da_cons (g_var (i := 0) rfl rfl rfl rfl) (da_cons (g_var (i := 1) rfl rfl rfl rfl) da_nil rfl) rfl) rfl rfl rfl)) rfl) da_nil rfl) (by decide) rfl rfl rfl)))
theorem sc_x_law_strength : C8.scC ["bag"] ["bag"] (C8.fnScope s_x_law_strength) = true := by decide +kernel
theorem p_x_law_strength (T : Txt K mg ca fa) (F : Nat) : Prm P w K mg base ca 3 (fa 7) ["bag"] (r_x_law_strength F) := by
  refine prm_fn (k := 2) (names := ["bag"]) (keep := false) (body := b_x_law_strength F) T.d_x_law_strength sc_x_law_strength fun cdv A outer s H E hh => ?_
  have kit : Kit (Gx (cxOf (L2.CX P w) P w K mg base ["bag"] "_law_strength" (C8.fnScope s_x_law_strength) (fa 7) cdv A outer s H E) ca) 0 := kit0
  exact (ds_cons (ds_if (dt_cmp (eq_ok hh.u64) (de_own ((p_x_law_draw T F).own T.N__law_draw) hh (by decide) rfl (da_cons (g_var (i := 0) rfl rfl rfl rfl) (da_cons de_int da_nil rfl) rfl) rfl rfl rfl) de_int rfl) (ds_one (ds_ret (de_bin (mul_ok (cell := false)) (de_own ((p_x_law_of T F).own T.N__law_of) hh (by decide) rfl (da_cons (g_var (i := 0) rfl rfl rfl rfl) (da_cons (de_lst false (da_cons de_int (da_cons (de_un neg_ok de_int) da_nil rfl) rfl)) da_nil rfl) rfl) rfl rfl rfl) (de_bin (add_ok (cell := false)) de_int (de_own ((p_x_law_draw T F).own T.N__law_draw) hh (by decide) rfl (da_cons (g_var (i := 0) rfl rfl rfl rfl) (da_cons de_int da_nil rfl) rfl) rfl rfl rfl))))) ds_nil) (ds_one (ds_ret (de_own ((p_x_law_of T F).own T.N__law_of) hh (by decide) rfl (da_cons (g_var (i := 0) rfl rfl rfl rfl) (da_cons (de_lst false (da_cons de_int (da_cons (de_un neg_ok de_int) (da_cons de_int (da_cons de_int (da_cons (de_un neg_ok de_int) (da_cons (de_un neg_ok de_int) da_nil rfl) rfl) rfl) rfl) rfl) rfl)) da_nil rfl) rfl) rfl rfl rfl))))
theorem sc_x_law_moved : C8.scC ["tie", "rule", "naming", "letter"] ["tie", "rule", "naming"] (C8.fnScope s_x_law_moved) = true := by decide +kernel
theorem p_x_law_moved (T : Txt K mg ca fa) (F : Nat) : Prm P w K mg base ca 1 (fa 8) ["tie", "rule", "naming"] (r_x_law_moved F) := by
  refine prm_fn (k := 0) (names := ["tie", "rule", "naming", "letter"]) (keep := false) (body := b_x_law_moved F) T.d_x_law_moved sc_x_law_moved fun cdv A outer s H E hh => ?_
  have kit : Kit (Gx (cxOf (L2.CX P w) P w K mg base ["tie", "rule", "naming", "letter"] "_law_moved" (C8.fnScope s_x_law_moved) (fa 8) cdv A outer s H E) ca) 0 := kit0
  exact (ds_one (ds_ret (de_tup (da_cons (de_ix (idx_ok hh.u1) (g_var (i := 2) rfl rfl rfl rfl) (de_ix (idx_ok hh.u1) (g_var (i := 0) rfl rfl rfl rfl) de_int rfl) rfl) (da_cons (de_ix (idx_ok hh.u1) (g_var (i := 2) rfl rfl rfl rfl) (de_ix (idx_ok hh.u1) (g_var (i := 0) rfl rfl rfl rfl) de_int rfl) rfl) (da_cons (de_callTy tuple_ok rfl T.z_tuple PyProof.Rows.boot_tuple (da_cons (g_lc (own := [(("letter" : Str), 3)]) F false hh (di_of (de_ix (idx_ok hh.u1) (g_var (i := 0) rfl rfl rfl rfl) de_int rfl)) (by show blkC ["tie", "rule", "naming", "letter"] (C8.fnScope s_x_law_moved) _ [(("letter" : Str), 3)] = true; decide +kernel) (by decide) (fun _ _ _ _ _ hh => (g_name (i := 3) hh rfl rfl (by first | exact .inl rfl | exact .inr rfl))) (fun _ _ _ _ _ hh => dts_nil) (fun _ _ _ _ _ hh => (de_ix (idx_ok hh.u1) (g_var (i := 1) rfl rfl rfl rfl) (g_var (i := 3) rfl rfl rfl rfl) rfl)) rfl) da_nil rfl) (by decide) rfl rfl rfl) (da_cons (de_ix (idx_ok hh.u1) (g_var (i := 0) rfl rfl rfl rfl) de_int rfl) da_nil rfl) rfl) rfl) rfl))))
theorem sc_x_law_read : C8.scC ["tie", "far"] ["tie"] (C8.fnScope s_x_law_read) = true := by decide +kernel
theorem p_x_law_read (T : Txt K mg ca fa) (F : Nat) : Prm P w K mg base ca 1 (fa 9) ["tie"] (r_x_law_read F) := by
  refine prm_fn (k := 0) (names := ["tie", "far"]) (keep := false) (body := b_x_law_read F) T.d_x_law_read sc_x_law_read fun cdv A outer s H E hh => ?_
  have kit : Kit (Gx (cxOf (L2.CX P w) P w K mg base ["tie", "far"] "_law_read" (C8.fnScope s_x_law_read) (fa 9) cdv A outer s H E) ca) 0 := kit0
  exact (ds_cons (g_set (i := 1) hh rfl rfl (de_tup (da_cons (de_ix (idx_ok hh.u1) (g_var (i := 0) rfl rfl rfl rfl) de_int rfl) (da_cons (de_ix (idx_ok hh.u1) (g_var (i := 0) rfl rfl rfl rfl) de_int rfl) (da_cons (de_rev (cell := false) (de_ix (idx_ok hh.u1) (g_var (i := 0) rfl rfl rfl rfl) de_int rfl)) (da_cons (de_ix (idx_ok hh.u1) (g_var (i := 0) rfl rfl rfl rfl) de_int rfl) da_nil rfl) rfl) rfl) rfl)) rfl (.inl rfl)) (ds_one (ds_ret (de_if (dt_cmp (ord_ok true hh.u64) (g_var (i := 0) rfl rfl rfl rfl) (g_var (i := 1) rfl rfl rfl rfl) rfl) (g_var (i := 0) rfl rfl rfl rfl) (g_var (i := 1) rfl rfl rfl rfl)))))
theorem sc_x_law_orbits : C8.scC ["bag", "spots", "rule", "naming", "found", "k", "word", "orbit", "turn", "twice", "tie"] ["bag", "spots", "rule", "naming"] (C8.fnScope s_x_law_orbits) = true := by decide +kernel
theorem p_x_law_orbits (T : Txt K mg ca fa) (F : Nat) : Prm P w K mg base ca 4 (fa 10) ["bag", "spots", "rule", "naming"] (r_x_law_orbits F) := by
  refine prm_fn (k := 3) (names := ["bag", "spots", "rule", "naming", "found", "k", "word", "orbit", "turn", "twice", "tie"]) (keep := false) (body := b_x_law_orbits F) T.d_x_law_orbits sc_x_law_orbits fun cdv A outer s H E hh => ?_
  have kit : Kit (Gx (cxOf (L2.CX P w) P w K mg base ["bag", "spots", "rule", "naming", "found", "k", "word", "orbit", "turn", "twice", "tie"] "_law_orbits" (C8.fnScope s_x_law_orbits) (fa 10) cdv A outer s H E) ca) 0 := kit0
  exact (ds_cons (g_set (i := 4) hh rfl rfl (de_lst false da_nil) rfl (.inl rfl)) (ds_cons (ds_for F (passes_of rfl) hh.calm (di_rng1 rfl T.z_range (da_cons (de_own ((p_x_law_of T F).own T.N__law_of) hh (by decide) rfl (da_cons (g_var (i := 0) rfl rfl rfl rfl) (da_cons (de_lst false (da_cons de_int (da_cons de_int (da_cons de_int (da_cons de_int (da_cons de_int (da_cons de_int da_nil rfl) rfl) rfl) rfl) rfl) rfl)) da_nil rfl) rfl) rfl rfl rfl) da_nil rfl) rfl) (g_name (i := 5) hh rfl rfl (.inl rfl)) (ds_cons (g_set (i := 6) hh rfl rfl (de_own ((p_x_law_word T F).own T.N__law_word) hh (by decide) rfl (da_cons (g_var (i := 0) rfl rfl rfl rfl) (da_cons (de_callB len_ok rfl T.z_len PySem.boot_len (da_cons (g_var (i := 2) rfl rfl rfl rfl) da_nil rfl) (by decide) rfl rfl rfl) (da_cons (de_own ((p_x_law_of T F).own T.N__law_of) hh (by decide) rfl (da_cons (g_var (i := 0) rfl rfl rfl rfl) (da_cons (de_lst false (da_cons de_int (da_cons de_int (da_cons de_int (da_cons de_int (da_cons de_int da_nil rfl) rfl) rfl) rfl) rfl)) da_nil rfl) rfl) rfl rfl rfl) da_nil rfl) rfl) rfl) rfl rfl rfl) rfl (.inl rfl)) (ds_cons (g_set (i := 7) hh rfl rfl (de_lst true (da_cons (de_tup (da_cons (de_own ((p_x_law_draw T F).own T.N__law_draw) hh (by decide) rfl (da_cons (g_var (i := 0) rfl rfl rfl rfl) (da_cons (g_var (i := 1) rfl rfl rfl rfl) da_nil rfl) rfl) rfl rfl rfl) (da_cons (de_own ((p_x_law_draw T F).own T.N__law_draw) hh (by decide) rfl (da_cons (g_var (i := 0) rfl rfl rfl rfl) (da_cons (g_var (i := 1) rfl rfl rfl rfl) da_nil rfl) rfl) rfl rfl rfl) (da_cons (g_var (i := 6) rfl rfl rfl rfl) (da_cons (de_own ((p_x_law_strength T F).own T.N__law_strength) hh (by decide) rfl (da_cons (g_var (i := 0) rfl rfl rfl rfl) da_nil rfl) rfl rfl rfl) da_nil rfl) rfl) rfl) rfl)) da_nil rfl)) rfl (.inl rfl)) (ds_cons (ds_for F (passes_of rfl) hh.calm (di_rng1 rfl T.z_range (da_cons de_int da_nil rfl) rfl) (g_name (i := 8) hh rfl rfl (.inl rfl)) (ds_cons (g_set (i := 10) hh rfl rfl (de_own ((p_x_law_moved T F).own T.N__law_moved) hh (by decide) rfl (da_cons (de_ix (idx_ok hh.u1) (g_var (i := 7) rfl rfl rfl rfl) (de_un neg_ok de_int) rfl) (da_cons (g_var (i := 2) rfl rfl rfl rfl) (da_cons (g_var (i := 3) rfl rfl rfl rfl) da_nil rfl) rfl) rfl) rfl rfl rfl) rfl (.inl rfl)) (ds_cons (ds_if (dt_cmp (eq_ok hh.u64) (de_own ((p_x_law_read T F).own T.N__law_read) hh (by decide) rfl (da_cons (g_var (i := 10) rfl rfl rfl rfl) da_nil rfl) rfl rfl rfl) (de_own ((p_x_law_read T F).own T.N__law_read) hh (by decide) rfl (da_cons (de_ix (idx_ok hh.u1) (g_var (i := 7) rfl rfl rfl rfl) de_int rfl) da_nil rfl) rfl rfl rfl) rfl) (ds_one ds_break) ds_nil) (ds_one (ds_expr (de_bm PySem.F.plainAttrs_list PySem.F.slot_list_append PySem.F.type_list_append append_ok (g_var (i := 7) rfl rfl rfl rfl) (da_cons (g_var (i := 10) rfl rfl rfl rfl) da_nil rfl) rfl rfl rfl rfl rfl) rfl)))) rfl) (ds_cons (g_set (i := 9) hh rfl rfl (de_and (de_cmp (ord_ok false hh.u64) (de_callB len_ok rfl T.z_len PySem.boot_len (da_cons (g_var (i := 7) rfl rfl rfl rfl) da_nil rfl) (by decide) rfl rfl rfl) de_int rfl) (de_and1 (de_cmp (eq_ok hh.u64) (de_own ((p_x_law_draw T F).own T.N__law_draw) hh (by decide) rfl (da_cons (g_var (i := 0) rfl rfl rfl rfl) (da_cons de_int da_nil rfl) rfl) rfl rfl rfl) de_int rfl))) rfl (.inl rfl)) (ds_one (g_set (i := 4) hh rfl rfl (de_bin (add_ok (cell := false)) (de_bin (add_ok (cell := false)) (g_var (i := 4) rfl rfl rfl rfl) (g_var (i := 7) rfl rfl rfl rfl)) (de_if (dt_truth (g_var (i := 9) rfl rfl rfl rfl) rfl) (g_var (i := 7) rfl rfl rfl rfl) (de_lst false da_nil))) rfl (.inl rfl))))))) rfl) (ds_one (ds_ret (g_var (i := 4) rfl rfl rfl rfl)))))
theorem sc_x_law_sorted : C8.scC ["things", "found", "thing", "low", "high", "middle"] ["things"] (C8.fnScope s_x_law_sorted) = true := by decide +kernel
theorem p_x_law_sorted (T : Txt K mg ca fa) (F : Nat) : Prm P w K mg base ca 1 (fa 11) ["things"] (r_x_law_sorted F) := by
  refine prm_fn (k := 0) (names := ["things", "found", "thing", "low", "high", "middle"]) (keep := false) (body := b_x_law_sorted F) T.d_x_law_sorted sc_x_law_sorted fun cdv A outer s H E hh => ?_
  have kit : Kit (Gx (cxOf (L2.CX P w) P w K mg base ["things", "found", "thing", "low", "high", "middle"] "_law_sorted" (C8.fnScope s_x_law_sorted) (fa 11) cdv A outer s H E) ca) 0 := kit0
  exact (ds_cons (g_set (i := 1) hh rfl rfl (de_lst true da_nil) rfl (.inl rfl)) (ds_cons (ds_for F (passes_of rfl) hh.calm (di_of (g_var (i := 0) rfl rfl rfl rfl)) (g_name (i := 2) hh rfl rfl (.inl rfl)) (ds_cons (ds_par (i := 3) (j := 4) hh.calm hh.nd rfl rfl (by decide) rfl rfl (da_cons de_int (da_cons (de_callB len_ok rfl T.z_len PySem.boot_len (da_cons (g_var (i := 1) rfl rfl rfl rfl) da_nil rfl) (by decide) rfl rfl rfl) da_nil rfl) rfl) rfl rfl) (ds_cons (ds_while (passes_of rfl) (dt_cmp (ord_ok false hh.u64) (g_var (i := 3) rfl rfl rfl rfl) (g_var (i := 4) rfl rfl rfl rfl) rfl) (ds_cons (g_set (i := 5) hh rfl rfl (de_bin fdiv_ok (de_bin (add_ok (cell := false)) (g_var (i := 3) rfl rfl rfl rfl) (g_var (i := 4) rfl rfl rfl rfl)) de_int) rfl (.inl rfl)) (ds_one (ds_if (dt_cmp (ord_ok false hh.u64) (de_ix (idx_ok hh.u1) (g_var (i := 1) rfl rfl rfl rfl) (g_var (i := 5) rfl rfl rfl rfl) rfl) (g_var (i := 2) rfl rfl rfl rfl) rfl) (ds_one (g_set (i := 3) hh rfl rfl (de_bin (add_ok (cell := false)) (g_var (i := 5) rfl rfl rfl rfl) de_int) rfl (.inl rfl))) (ds_one (g_set (i := 4) hh rfl rfl (g_var (i := 5) rfl rfl rfl rfl) rfl (.inl rfl)))))) F) (ds_one (ds_expr (de_bm PySem.F.plainAttrs_list PySem.F.slot_list_insert PySem.F.type_list_insert insert_ok (g_var (i := 1) rfl rfl rfl rfl) (da_cons (g_var (i := 3) rfl rfl rfl rfl) (da_cons (g_var (i := 2) rfl rfl rfl rfl) da_nil rfl) rfl) rfl rfl rfl rfl rfl) rfl)))) rfl) (ds_one (ds_ret (g_var (i := 1) rfl rfl rfl rfl)))))
theorem sc_x_law_keeps : C8.scC ["ties", "rule", "naming", "one", "tie"] ["ties", "rule", "naming"] (C8.fnScope s_x_law_keeps) = true := by decide +kernel
theorem p_x_law_keeps (T : Txt K mg ca fa) (F : Nat) : Prm P w K mg base ca 2 (fa 12) ["ties", "rule", "naming"] (r_x_law_keeps F) := by
  refine prm_fn (k := 1) (names := ["ties", "rule", "naming", "one", "tie"]) (keep := false) (body := b_x_law_keeps F) T.d_x_law_keeps sc_x_law_keeps fun cdv A outer s H E hh => ?_
  have kit : Kit (Gx (cxOf (L2.CX P w) P w K mg base ["ties", "rule", "naming", "one", "tie"] "_law_keeps" (C8.fnScope s_x_law_keeps) (fa 12) cdv A outer s H E) ca) 0 := kit0
  exact (ds_cons (g_set (i := 3) hh rfl rfl (de_own ((p_x_law_sorted T F).own T.N__law_sorted) hh (by decide) rfl (da_cons (g_lc (own := [(("tie" : Str), 4)]) F false hh (di_of (g_var (i := 0) rfl rfl rfl rfl)) (by show blkC ["ties", "rule", "naming", "one", "tie"] (C8.fnScope s_x_law_keeps) _ [(("tie" : Str), 4)] = true; decide +kernel) (by decide) (fun _ _ _ _ _ hh => (g_name (i := 4) hh rfl rfl (by first | exact .inl rfl | exact .inr rfl))) (fun _ _ _ _ _ hh => dts_nil) (fun _ _ _ _ _ hh => (de_own ((p_x_law_read T F).own T.N__law_read) hh (by decide) rfl (da_cons (g_var (i := 4) rfl rfl rfl rfl) da_nil rfl) rfl rfl rfl)) rfl) da_nil rfl) rfl rfl rfl) rfl (.inl rfl)) (ds_one (ds_ret (de_cmp (eq_ok hh.u64) (g_var (i := 3) rfl rfl rfl rfl) (de_own ((p_x_law_sorted T F).own T.N__law_sorted) hh (by decide) rfl (da_cons (g_lc (own := [(("tie" : Str), 4)]) F false hh (di_of (g_var (i := 0) rfl rfl rfl rfl)) (by show blkC ["ties", "rule", "naming", "one", "tie"] (C8.fnScope s_x_law_keeps) _ [(("tie" : Str), 4)] = true; decide +kernel) (by decide) (fun _ _ _ _ _ hh => (g_name (i := 4) hh rfl rfl (by first | exact .inl rfl | exact .inr rfl))) (fun _ _ _ _ _ hh => dts_nil) (fun _ _ _ _ _ hh => (de_own ((p_x_law_read T F).own T.N__law_read) hh (by decide) rfl (da_cons (de_own ((p_x_law_moved T F).own T.N__law_moved) hh (by decide) rfl (da_cons (g_var (i := 4) rfl rfl rfl rfl) (da_cons (g_var (i := 1) rfl rfl rfl rfl) (da_cons (g_var (i := 2) rfl rfl rfl rfl) da_nil rfl) rfl) rfl) rfl rfl rfl) da_nil rfl) rfl rfl rfl)) rfl) da_nil rfl) rfl rfl rfl) rfl))))
theorem sc_is_side_name : C8.scC ["value", "letter"] ["value"] (C8.fnScope s_is_side_name) = true := by decide +kernel
theorem p_is_side_name (T : Txt K mg ca fa) (F : Nat) : Prm P w K mg base ca 1 (fa 13) ["value"] (r_is_side_name F) := by
  refine prm_fn (k := 0) (names := ["value", "letter"]) (keep := false) (body := b_is_side_name F) T.d_is_side_name sc_is_side_name fun cdv A outer s H E hh => ?_
  have kit : Kit (Gx (cxOf (L2.CX P w) P w K mg base ["value", "letter"] "is_side_name" (C8.fnScope s_is_side_name) (fa 13) cdv A outer s H E) ca) 0 := kit0
  exact (ds_cons (ds_if (dw_pt (dw_or (dt_not (dt_truth (de_callB (isi_ok kit) rfl T.z_isinstance PyProof.Rows.boot_isinstance (da_cons (g_var (i := 0) rfl rfl rfl rfl) (da_cons (de_ty rfl T.z_str PyProof.Rows.boot_str (by decide) rfl) da_nil rfl) rfl) (by decide) rfl rfl rfl) rfl)) (dw_or1 (dt_not (dt_chain (ord_ok true hh.u64) (ord_ok true hh.u64) de_int (de_callB len_ok rfl T.z_len PySem.boot_len (da_cons (g_var (i := 0) rfl rfl rfl rfl) da_nil rfl) (by decide) rfl rfl rfl) (g_cstI T.c_LONGEST_NAME rfl rfl) rfl))))) (ds_one (ds_ret de_bl)) ds_nil) (ds_one (ds_ret (de_callB (all_ok hh.calm) rfl T.z_all PyProof.Rows.boot_all (da_cons (g_lc (own := [(("letter" : Str), 1)]) F false hh (di_of (g_var (i := 0) rfl rfl rfl rfl)) (by show blkC ["value", "letter"] (C8.fnScope s_is_side_name) _ [(("letter" : Str), 1)] = true; decide +kernel) (by decide) (fun _ _ _ _ _ hh => (g_name (i := 1) hh rfl rfl (by first | exact .inl rfl | exact .inr rfl))) (fun _ _ _ _ _ hh => dts_nil) (fun _ _ _ _ _ hh => (de_cmp (in_ok hh.u65) (g_var (i := 1) rfl rfl rfl rfl) (g_cstS T.c_LETTERS rfl rfl) rfl)) rfl) da_nil rfl) (by decide) rfl rfl rfl))))
theorem sc_is_sides : C8.scC ["value", "met", "name"] ["value"] (C8.fnScope s_is_sides) = true := by decide +kernel
theorem p_is_sides (T : Txt K mg ca fa) (F : Nat) : Prm P w K mg base ca 2 (fa 14) ["value"] (r_is_sides F) := by
  refine prm_fn (k := 1) (names := ["value", "met", "name"]) (keep := false) (body := b_is_sides F) T.d_is_sides sc_is_sides fun cdv A outer s H E hh => ?_
  have kit : Kit (Gx (cxOf (L2.CX P w) P w K mg base ["value", "met", "name"] "is_sides" (C8.fnScope s_is_sides) (fa 14) cdv A outer s H E) ca) 0 := kit0
  exact (ds_cons (ds_if (dw_pt (dw_or (dt_not (dt_truth (de_callB (isi_ok kit) rfl T.z_isinstance PyProof.Rows.boot_isinstance (da_cons (g_var (i := 0) rfl rfl rfl rfl) (da_cons (de_ty rfl T.z_tuple PyProof.Rows.boot_tuple (by decide) rfl) da_nil rfl) rfl) (by decide) rfl rfl rfl) rfl)) (dw_or1 (dt_cmp (eq_ok hh.u64) (de_callB len_ok rfl T.z_len PySem.boot_len (da_cons (g_var (i := 0) rfl rfl rfl rfl) da_nil rfl) (by decide) rfl rfl rfl) de_int rfl)))) (ds_one (ds_ret de_bl)) ds_nil) (ds_cons (g_set (i := 1) hh rfl rfl (de_dictK true) rfl (.inl rfl)) (ds_cons (ds_for F (passes_of rfl) hh.calm (di_of (g_var (i := 0) rfl rfl rfl rfl)) (g_name (i := 2) hh rfl rfl (.inl rfl)) (ds_cons (ds_if (dw_pt (dw_or (dt_not (dt_truth (de_own ((p_is_side_name T F).own T.N_is_side_name) hh (by decide) rfl (da_cons (g_var (i := 2) rfl rfl rfl rfl) da_nil rfl) rfl rfl rfl) rfl)) (dw_or1 (dt_cmp (in_ok hh.u65) (g_var (i := 2) rfl rfl rfl rfl) (g_var (i := 1) rfl rfl rfl rfl) rfl)))) (ds_one (ds_ret de_bl)) ds_nil) (ds_one (ds_asg de_bl (dg_sub hh (g_var (i := 1) rfl rfl rfl rfl) (g_var (i := 2) rfl rfl rfl rfl) (fun _ => rfl)) rfl rfl rfl))) rfl) (ds_one (ds_ret de_bl)))))
theorem sc_is_number_1 : C8.scC ["value"] ["value"] (C8.fnScope s_is_number_1) = true := by decide +kernel
theorem p_is_number_1 (T : Txt K mg ca fa) (F : Nat) : Prm P w K mg base ca 1 (fa 15) ["value"] (r_is_number_1 F) := by
  refine prm_fn (k := 0) (names := ["value"]) (keep := false) (body := b_is_number_1 F) T.d_is_number_1 sc_is_number_1 fun cdv A outer s H E hh => ?_
  have kit : Kit (Gx (cxOf (L2.CX P w) P w K mg base ["value"] "is_number" (C8.fnScope s_is_number_1) (fa 15) cdv A outer s H E) ca) 0 := kit0
  exact (ds_one (ds_ret (de_and (de_callB (isi_ok kit) rfl T.z_isinstance PyProof.Rows.boot_isinstance (da_cons (g_var (i := 0) rfl rfl rfl rfl) (da_cons (de_ty rfl T.z_int PyProof.Rows.boot_int (by decide) rfl) da_nil rfl) rfl) (by decide) rfl rfl rfl) (de_and1 (de_not (de_callB (isi_ok kit) rfl T.z_isinstance PyProof.Rows.boot_isinstance (da_cons (g_var (i := 0) rfl rfl rfl rfl) (da_cons (de_ty rfl T.z_bool PyProof.Rows.boot_bool (by decide) rfl) da_nil rfl) rfl) (by decide) rfl rfl rfl))))))
theorem sc_is_spot : C8.scC ["value", "spots"] ["value", "spots"] (C8.fnScope s_is_spot) = true := by decide +kernel
theorem p_is_spot (T : Txt K mg ca fa) (F : Nat) : Prm P w K mg base ca 2 (fa 16) ["value", "spots"] (r_is_spot F) := by
  refine prm_fn (k := 1) (names := ["value", "spots"]) (keep := false) (body := b_is_spot F) T.d_is_spot sc_is_spot fun cdv A outer s H E hh => ?_
  have kit : Kit (Gx (cxOf (L2.CX P w) P w K mg base ["value", "spots"] "is_spot" (C8.fnScope s_is_spot) (fa 16) cdv A outer s H E) ca) 0 := kit0
  exact (ds_one (ds_ret (de_and (de_own ((p_is_number_1 T F).own T.N_is_number_valuechecks) hh (by decide) rfl (da_cons (g_var (i := 0) rfl rfl rfl rfl) da_nil rfl) rfl rfl rfl) (de_and1 (de_chain (ord_ok true hh.u64) (ord_ok false hh.u64) de_int (g_var (i := 0) rfl rfl rfl rfl) (g_var (i := 1) rfl rfl rfl rfl) rfl)))))
theorem sc_is_number : C8.scC ["value"] ["value"] (C8.fnScope s_is_number) = true := by decide +kernel
theorem p_is_number (T : Txt K mg ca fa) (F : Nat) : Prm P w K mg base ca 1 (fa 17) ["value"] (r_is_number F) := by
  refine prm_fn (k := 0) (names := ["value"]) (keep := false) (body := b_is_number F) T.d_is_number sc_is_number fun cdv A outer s H E hh => ?_
  have kit : Kit (Gx (cxOf (L2.CX P w) P w K mg base ["value"] "is_number" (C8.fnScope s_is_number) (fa 17) cdv A outer s H E) ca) 0 := kit0
  exact (ds_one (ds_ret (de_and (de_callB (isi_ok kit) rfl T.z_isinstance PyProof.Rows.boot_isinstance (da_cons (g_var (i := 0) rfl rfl rfl rfl) (da_cons (de_ty rfl T.z_int PyProof.Rows.boot_int (by decide) rfl) da_nil rfl) rfl) (by decide) rfl rfl rfl) (de_and1 (de_not (de_callB (isi_ok kit) rfl T.z_isinstance PyProof.Rows.boot_isinstance (da_cons (g_var (i := 0) rfl rfl rfl rfl) (da_cons (de_ty rfl T.z_bool PyProof.Rows.boot_bool (by decide) rfl) da_nil rfl) rfl) (by decide) rfl rfl rfl))))))
theorem sc_is_index : C8.scC ["value", "many"] ["value", "many"] (C8.fnScope s_is_index) = true := by decide +kernel
theorem p_is_index (T : Txt K mg ca fa) (F : Nat) : Prm P w K mg base ca 2 (fa 18) ["value", "many"] (r_is_index F) := by
  refine prm_fn (k := 1) (names := ["value", "many"]) (keep := false) (body := b_is_index F) T.d_is_index sc_is_index fun cdv A outer s H E hh => ?_
  have kit : Kit (Gx (cxOf (L2.CX P w) P w K mg base ["value", "many"] "is_index" (C8.fnScope s_is_index) (fa 18) cdv A outer s H E) ca) 0 := kit0
  exact (ds_one (ds_ret (de_and (de_own ((p_is_number T F).own T.N_is_number_indexes) hh (by decide) rfl (da_cons (g_var (i := 0) rfl rfl rfl rfl) da_nil rfl) rfl rfl rfl) (de_and1 (de_chain (ord_ok true hh.u64) (ord_ok false hh.u64) de_int (g_var (i := 0) rfl rfl rfl rfl) (g_var (i := 1) rfl rfl rfl rfl) rfl)))))
theorem sc_is_word : C8.scC ["sides", "value", "many", "letter"] ["sides", "value"] (C8.fnScope s_is_word) = true := by decide +kernel
theorem p_is_word (T : Txt K mg ca fa) (F : Nat) : Prm P w K mg base ca 3 (fa 19) ["sides", "value"] (r_is_word F) := by
  refine prm_fn (k := 2) (names := ["sides", "value", "many", "letter"]) (keep := false) (body := b_is_word F) T.d_is_word sc_is_word fun cdv A outer s H E hh => ?_
  have kit : Kit (Gx (cxOf (L2.CX P w) P w K mg base ["sides", "value", "many", "letter"] "is_word" (C8.fnScope s_is_word) (fa 19) cdv A outer s H E) ca) 0 := kit0
  exact (ds_cons (ds_if (dt_not (dt_truth (de_callB (isi_ok kit) rfl T.z_isinstance PyProof.Rows.boot_isinstance (da_cons (g_var (i := 1) rfl rfl rfl rfl) (da_cons (de_ty rfl T.z_tuple PyProof.Rows.boot_tuple (by decide) rfl) da_nil rfl) rfl) (by decide) rfl rfl rfl) rfl)) (ds_one (ds_ret de_bl)) ds_nil) (ds_cons (g_set (i := 2) hh rfl rfl (de_callB len_ok rfl T.z_len PySem.boot_len (da_cons (g_var (i := 0) rfl rfl rfl rfl) da_nil rfl) (by decide) rfl rfl rfl) rfl (.inl rfl)) (ds_one (ds_ret (de_callB (all_ok hh.calm) rfl T.z_all PyProof.Rows.boot_all (da_cons (g_lc (own := [(("letter" : Str), 3)]) F false hh (di_of (g_var (i := 1) rfl rfl rfl rfl)) (by show blkC ["sides", "value", "many", "letter"] (C8.fnScope s_is_word) _ [(("letter" : Str), 3)] = true; decide +kernel) (by decide) (fun _ _ _ _ _ hh => (g_name (i := 3) hh rfl rfl (by first | exact .inl rfl | exact .inr rfl))) (fun _ _ _ _ _ hh => dts_nil) (fun _ _ _ _ _ hh => (de_own ((p_is_index T F).own T.N_is_index_indexes) hh (by decide) rfl (da_cons (g_var (i := 3) rfl rfl rfl rfl) (da_cons (g_var (i := 2) rfl rfl rfl rfl) da_nil rfl) rfl) rfl rfl rfl)) rfl) da_nil rfl) (by decide) rfl rfl rfl)))))
theorem sc_is_tie : C8.scC ["sides", "spots", "value"] ["sides", "spots", "value"] (C8.fnScope s_is_tie) = true := by decide +kernel
theorem p_is_tie (T : Txt K mg ca fa) (F : Nat) : Prm P w K mg base ca 4 (fa 20) ["sides", "spots", "value"] (r_is_tie F) := by
  refine prm_fn (k := 3) (names := ["sides", "spots", "value"]) (keep := false) (body := b_is_tie F) T.d_is_tie sc_is_tie fun cdv A outer s H E hh => ?_
  have kit : Kit (Gx (cxOf (L2.CX P w) P w K mg base ["sides", "spots", "value"] "is_tie" (C8.fnScope s_is_tie) (fa 20) cdv A outer s H E) ca) 0 := kit0
  exact (ds_cons (ds_if (dw_pt (dw_or (dt_not (dt_truth (de_callB (isi_ok kit) rfl T.z_isinstance PyProof.Rows.boot_isinstance (da_cons (g_var (i := 2) rfl rfl rfl rfl) (da_cons (de_ty rfl T.z_tuple PyProof.Rows.boot_tuple (by decide) rfl) da_nil rfl) rfl) (by decide) rfl rfl rfl) rfl)) (dw_or1 (dt_cmp (ne_ok hh.u64) (de_callB len_ok rfl T.z_len PySem.boot_len (da_cons (g_var (i := 2) rfl rfl rfl rfl) da_nil rfl) (by decide) rfl rfl rfl) de_int rfl)))) (ds_one (ds_ret de_bl)) ds_nil) (ds_cons (ds_if (dw_pt (dw_or (dt_not (dt_truth (de_own ((p_is_spot T F).own T.N_is_spot) hh (by decide) rfl (da_cons (de_ix (idx_ok hh.u1) (g_var (i := 2) rfl rfl rfl rfl) de_int rfl) (da_cons (g_var (i := 1) rfl rfl rfl rfl) da_nil rfl) rfl) rfl rfl rfl) rfl)) (dw_or (dt_not (dt_truth (de_own ((p_is_spot T F).own T.N_is_spot) hh (by decide) rfl (da_cons (de_ix (idx_ok hh.u1) (g_var (i := 2) rfl rfl rfl rfl) de_int rfl) (da_cons (g_var (i := 1) rfl rfl rfl rfl) da_nil rfl) rfl) rfl rfl rfl) rfl)) (dw_or1 (dt_not (dt_truth (de_own ((p_is_word T F).own T.N_is_word) hh (by decide) rfl (da_cons (g_var (i := 0) rfl rfl rfl rfl) (da_cons (de_ix (idx_ok hh.u1) (g_var (i := 2) rfl rfl rfl rfl) de_int rfl) da_nil rfl) rfl) rfl rfl rfl) rfl)))))) (ds_one (ds_ret de_bl)) ds_nil) (ds_one (ds_ret (de_and (de_own ((p_is_number_1 T F).own T.N_is_number_valuechecks) hh (by decide) rfl (da_cons (de_ix (idx_ok hh.u1) (g_var (i := 2) rfl rfl rfl rfl) de_int rfl) da_nil rfl) rfl rfl rfl) (de_and1 (de_cmp (ne_ok hh.u64) (de_ix (idx_ok hh.u1) (g_var (i := 2) rfl rfl rfl rfl) de_int rfl) de_int rfl)))))))
theorem sc_Tile___init__ : C8.scC ["self", "sides", "spots", "ties", "at", "tie"] ["self", "sides", "spots", "ties"] (C8.fnScope s_Tile___init__) = true := by decide +kernel
theorem p_Tile___init__ (T : Txt K mg ca fa) (F : Nat) : Prm P w K mg base ca 5 (fa 21) ["self", "sides", "spots", "ties"] (r_Tile___init__ F) := by
  refine prm_fn (k := 4) (names := ["self", "sides", "spots", "ties", "at", "tie"]) (keep := false) (body := b_Tile___init__ F) T.d_Tile___init__ sc_Tile___init__ fun cdv A outer s H E hh => ?_
  have kit : Kit (Gx (cxOf (L2.CX P w) P w K mg base ["self", "sides", "spots", "ties", "at", "tie"] "Tile.__init__" (C8.fnScope s_Tile___init__) (fa 21) cdv A outer s H E) ca) 0 := kit0
  exact (ds_cons (ds_if (dt_not (dt_truth (de_own ((p_is_sides T F).own T.N_is_sides) hh (by decide) rfl (da_cons (g_var (i := 1) rfl rfl rfl rfl) da_nil rfl) rfl rfl rfl) rfl)) (ds_one ds_never) ds_nil) (ds_cons (ds_if (dw_pt (dw_or (dt_not (dt_truth (de_own ((p_is_number_1 T F).own T.N_is_number_valuechecks) hh (by decide) rfl (da_cons (g_var (i := 2) rfl rfl rfl rfl) da_nil rfl) rfl rfl rfl) rfl)) (dw_or1 (dt_cmp (ord_ok false hh.u64) (g_var (i := 2) rfl rfl rfl rfl) de_int rfl)))) (ds_one ds_never) ds_nil) (ds_cons (ds_if (dt_not (dt_truth (de_callB (isi_ok kit) rfl T.z_isinstance PyProof.Rows.boot_isinstance (da_cons (g_var (i := 3) rfl rfl rfl rfl) (da_cons (de_tup (da_cons (de_ty rfl T.z_list PyProof.Rows.boot_list (by decide) rfl) (da_cons (de_ty rfl T.z_tuple PyProof.Rows.boot_tuple (by decide) rfl) da_nil rfl) rfl)) da_nil rfl) rfl) (by decide) rfl rfl rfl) rfl)) (ds_one ds_never) ds_nil) (ds_cons (ds_for F (passes_of rfl) hh.calm (di_enum rfl T.z_enumerate (da_cons (g_var (i := 3) rfl rfl rfl rfl) da_nil rfl) rfl) (dg_tup hh.calm (dgs_cons (g_name (i := 4) hh rfl rfl (.inl rfl)) (dgs_cons (g_name (i := 5) hh rfl rfl (.inl rfl)) dgs_nil rfl) rfl) rfl rfl) (ds_one (ds_if (dt_not (dt_truth (de_own ((p_is_tie T F).own T.N_is_tie) hh (by decide) rfl (da_cons (g_var (i := 1) rfl rfl rfl rfl) (da_cons (g_var (i := 2) rfl rfl rfl rfl) (da_cons (g_var (i := 5) rfl rfl rfl rfl) da_nil rfl) rfl) rfl) rfl rfl rfl) rfl)) (ds_one ds_never) ds_nil)) rfl) (ds_cons (ds_fld T.f_sides (g_var (i := 0) rfl rfl rfl rfl) (g_var (i := 1) rfl rfl rfl rfl) rfl) (ds_cons (ds_fld T.f_spots (g_var (i := 0) rfl rfl rfl rfl) (g_var (i := 2) rfl rfl rfl rfl) rfl) (ds_one (ds_fld T.f__ties (g_var (i := 0) rfl rfl rfl rfl) (de_callTy (list_ok (cell := false)) rfl T.z_list PyProof.Rows.boot_list (da_cons (g_var (i := 3) rfl rfl rfl rfl) da_nil rfl) (by decide) rfl rfl rfl) rfl))))))))
theorem sc_x_law_same : C8.scC ["found", "due", "a", "b"] ["found", "due"] (C8.fnScope s_x_law_same) = true := by decide +kernel
theorem p_x_law_sameN (T : Txt K mg ca fa) (F : Nat) : ∀ n, Prm P w K mg base ca (n + 1) (fa 22) ["found", "due"] (r_x_law_sameN F n)
  | 0 => prm_none T.d_x_law_same
  | n + 1 => by
    have e : n + 1 + 1 = (n + 1) + 1 := by omega
    rw [e]
    refine prm_fn (names := ["found", "due", "a", "b"]) (keep := false) (body := b_x_law_same F (r_x_law_sameN F n)) T.d_x_law_same sc_x_law_same fun cdv A outer s H E hh => ?_
    have own_rec : ∀ {x : Str}, mg x = some (.ref (fa 22)) → Own P w K mg base ca (n + 1) x 2 (r_x_law_sameN F n) := fun h => (p_x_law_sameN T F n).own h
    have hk : n + 1 ≤ n + 1 := Nat.le_refl _
    have kit : Kit (Gx (cxOf (L2.CX P w) P w K mg base ["found", "due", "a", "b"] "_law_same" (C8.fnScope s_x_law_same) (fa 22) cdv A outer s H E) ca) 0 := kit0
    exact (ds_cons (ds_if (dw_pt (dw_or (dt_cmp is_ok (g_var (i := 1) rfl rfl rfl rfl) de_non rfl) (dw_or1 (dt_cmp is_ok (g_var (i := 0) rfl rfl rfl rfl) de_non rfl)))) (ds_one (ds_ret (de_and (de_cmp is_ok (g_var (i := 1) rfl rfl rfl rfl) de_non rfl) (de_and1 (de_cmp is_ok (g_var (i := 0) rfl rfl rfl rfl) de_non rfl))))) ds_nil) (ds_cons (ds_if (dt_truth (de_callB (isi_ok kit) rfl T.z_isinstance PyProof.Rows.boot_isinstance (da_cons (g_var (i := 1) rfl rfl rfl rfl) (da_cons (de_tup (da_cons (de_ty rfl T.z_list PyProof.Rows.boot_list (by decide) rfl) (da_cons (de_ty rfl T.z_tuple PyProof.Rows.boot_tuple (by decide) rfl) da_nil rfl) rfl)) da_nil rfl) rfl) (by decide) rfl rfl rfl) rfl) (ds_cons (ds_if (dt_cmp (ne_ok hh.u64) (de_lst false (da_cons (de_callB (isi_ok kit) rfl T.z_isinstance PyProof.Rows.boot_isinstance (da_cons (g_var (i := 0) rfl rfl rfl rfl) (da_cons (de_ty rfl T.z_list PyProof.Rows.boot_list (by decide) rfl) da_nil rfl) rfl) (by decide) rfl rfl rfl) (da_cons (de_callB (isi_ok kit) rfl T.z_isinstance PyProof.Rows.boot_isinstance (da_cons (g_var (i := 0) rfl rfl rfl rfl) (da_cons (de_ty rfl T.z_tuple PyProof.Rows.boot_tuple (by decide) rfl) da_nil rfl) rfl) (by decide) rfl rfl rfl) da_nil rfl) rfl)) (de_lst false (da_cons (de_callB (isi_ok kit) rfl T.z_isinstance PyProof.Rows.boot_isinstance (da_cons (g_var (i := 1) rfl rfl rfl rfl) (da_cons (de_ty rfl T.z_list PyProof.Rows.boot_list (by decide) rfl) da_nil rfl) rfl) (by decide) rfl rfl rfl) (da_cons (de_callB (isi_ok kit) rfl T.z_isinstance PyProof.Rows.boot_isinstance (da_cons (g_var (i := 1) rfl rfl rfl rfl) (da_cons (de_ty rfl T.z_tuple PyProof.Rows.boot_tuple (by decide) rfl) da_nil rfl) rfl) (by decide) rfl rfl rfl) da_nil rfl) rfl)) rfl) (ds_one (ds_ret de_bl)) ds_nil) (ds_one (ds_ret (de_and (de_cmp (eq_ok hh.u64) (de_callB len_ok rfl T.z_len PySem.boot_len (da_cons (g_var (i := 0) rfl rfl rfl rfl) da_nil rfl) (by decide) rfl rfl rfl) (de_callB len_ok rfl T.z_len PySem.boot_len (da_cons (g_var (i := 1) rfl rfl rfl rfl) da_nil rfl) (by decide) rfl rfl rfl) rfl) (de_and1 (de_callB (all_ok hh.calm) rfl T.z_all PyProof.Rows.boot_all (da_cons (g_lc (own := [(("a" : Str), 2), (("b" : Str), 3)]) F false hh (di_zip rfl T.z_zip (da_cons (g_var (i := 0) rfl rfl rfl rfl) (da_cons (g_var (i := 1) rfl rfl rfl rfl) da_nil rfl) rfl) rfl rfl) (by show blkC ["found", "due", "a", "b"] (C8.fnScope s_x_law_same) _ [(("a" : Str), 2), (("b" : Str), 3)] = true; decide +kernel) (by decide) (fun _ _ _ _ _ hh => (dg_tup hh.calm (dgs_cons (g_name (i := 2) hh rfl rfl (by first | exact .inl rfl | exact .inr rfl)) (dgs_cons (g_name (i := 3) hh rfl rfl (by first | exact .inl rfl | exact .inr rfl)) dgs_nil rfl) rfl) rfl rfl)) (fun _ _ _ _ _ hh => dts_nil) (fun _ _ _ _ _ hh => (de_own (own_rec T.N__law_same) hh hk rfl (da_cons (g_var (i := 2) rfl rfl rfl rfl) (da_cons (g_var (i := 3) rfl rfl rfl rfl) da_nil rfl) rfl) rfl rfl rfl)) rfl) da_nil rfl) (by decide) rfl rfl rfl)))))) ds_nil) (ds_cons (ds_if (dt_cmp (ne_ok hh.u64) (de_lst false (da_cons (de_callB (isi_ok kit) rfl T.z_isinstance PyProof.Rows.boot_isinstance (da_cons (g_var (i := 0) rfl rfl rfl rfl) (da_cons (de_ty rfl T.z_bool PyProof.Rows.boot_bool (by decide) rfl) da_nil rfl) rfl) (by decide) rfl rfl rfl) (da_cons (de_callB (isi_ok kit) rfl T.z_isinstance PyProof.Rows.boot_isinstance (da_cons (g_var (i := 0) rfl rfl rfl rfl) (da_cons (de_ty rfl T.z_int PyProof.Rows.boot_int (by decide) rfl) da_nil rfl) rfl) (by decide) rfl rfl rfl) (da_cons (de_callB (isi_ok kit) rfl T.z_isinstance PyProof.Rows.boot_isinstance (da_cons (g_var (i := 0) rfl rfl rfl rfl) (da_cons (de_ty rfl T.z_str PyProof.Rows.boot_str (by decide) rfl) da_nil rfl) rfl) (by decide) rfl rfl rfl) da_nil rfl) rfl) rfl)) (de_lst false (da_cons (de_callB (isi_ok kit) rfl T.z_isinstance PyProof.Rows.boot_isinstance (da_cons (g_var (i := 1) rfl rfl rfl rfl) (da_cons (de_ty rfl T.z_bool PyProof.Rows.boot_bool (by decide) rfl) da_nil rfl) rfl) (by decide) rfl rfl rfl) (da_cons (de_callB (isi_ok kit) rfl T.z_isinstance PyProof.Rows.boot_isinstance (da_cons (g_var (i := 1) rfl rfl rfl rfl) (da_cons (de_ty rfl T.z_int PyProof.Rows.boot_int (by decide) rfl) da_nil rfl) rfl) (by decide) rfl rfl rfl) (da_cons (de_callB (isi_ok kit) rfl T.z_isinstance PyProof.Rows.boot_isinstance (da_cons (g_var (i := 1) rfl rfl rfl rfl) (da_cons (de_ty rfl T.z_str PyProof.Rows.boot_str (by decide) rfl) da_nil rfl) rfl) (by decide) rfl rfl rfl) da_nil rfl) rfl) rfl)) rfl) (ds_one (ds_ret de_bl)) ds_nil) (ds_one (ds_ret (de_cmp (eq_ok hh.u64) (g_var (i := 0) rfl rfl rfl rfl) (g_var (i := 1) rfl rfl rfl rfl) rfl))))))
theorem p_x_law_same (T : Txt K mg ca fa) (F : Nat) : Prm P w K mg base ca (8 + 1) (fa 22) ["found", "due"] (r_x_law_same F) := p_x_law_sameN T F 8
theorem sc_is_row_of : C8.scC ["value", "many"] ["value", "many"] (C8.fnScope s_is_row_of) = true := by decide +kernel
theorem p_is_row_of (T : Txt K mg ca fa) (F : Nat) : Prm P w K mg base ca 1 (fa 23) ["value", "many"] (r_is_row_of F) := by
  refine prm_fn (k := 0) (names := ["value", "many"]) (keep := false) (body := b_is_row_of F) T.d_is_row_of sc_is_row_of fun cdv A outer s H E hh => ?_
  have kit : Kit (Gx (cxOf (L2.CX P w) P w K mg base ["value", "many"] "is_row_of" (C8.fnScope s_is_row_of) (fa 23) cdv A outer s H E) ca) 0 := kit0
  exact (ds_one (ds_ret (de_and (de_callB (isi_ok kit) rfl T.z_isinstance PyProof.Rows.boot_isinstance (da_cons (g_var (i := 0) rfl rfl rfl rfl) (da_cons (de_tup (da_cons (de_ty rfl T.z_list PyProof.Rows.boot_list (by decide) rfl) (da_cons (de_ty rfl T.z_tuple PyProof.Rows.boot_tuple (by decide) rfl) da_nil rfl) rfl)) da_nil rfl) rfl) (by decide) rfl rfl rfl) (de_and1 (de_cmp (eq_ok hh.u64) (de_callB len_ok rfl T.z_len PySem.boot_len (da_cons (g_var (i := 0) rfl rfl rfl rfl) da_nil rfl) (by decide) rfl rfl rfl) (g_var (i := 1) rfl rfl rfl rfl) rfl)))))
theorem sc_is_number_2 : C8.scC ["value"] ["value"] (C8.fnScope s_is_number_2) = true := by decide +kernel
theorem p_is_number_2 (T : Txt K mg ca fa) (F : Nat) : Prm P w K mg base ca 1 (fa 24) ["value"] (r_is_number_2 F) := by
  refine prm_fn (k := 0) (names := ["value"]) (keep := false) (body := b_is_number_2 F) T.d_is_number_2 sc_is_number_2 fun cdv A outer s H E hh => ?_
  have kit : Kit (Gx (cxOf (L2.CX P w) P w K mg base ["value"] "is_number" (C8.fnScope s_is_number_2) (fa 24) cdv A outer s H E) ca) 0 := kit0
  exact (ds_one (ds_ret (de_and (de_callB (isi_ok kit) rfl T.z_isinstance PyProof.Rows.boot_isinstance (da_cons (g_var (i := 0) rfl rfl rfl rfl) (da_cons (de_ty rfl T.z_int PyProof.Rows.boot_int (by decide) rfl) da_nil rfl) rfl) (by decide) rfl rfl rfl) (de_and1 (de_not (de_callB (isi_ok kit) rfl T.z_isinstance PyProof.Rows.boot_isinstance (da_cons (g_var (i := 0) rfl rfl rfl rfl) (da_cons (de_ty rfl T.z_bool PyProof.Rows.boot_bool (by decide) rfl) da_nil rfl) rfl) (by decide) rfl rfl rfl))))))
theorem sc_is_index_1 : C8.scC ["value", "many"] ["value", "many"] (C8.fnScope s_is_index_1) = true := by decide +kernel
theorem p_is_index_1 (T : Txt K mg ca fa) (F : Nat) : Prm P w K mg base ca 2 (fa 25) ["value", "many"] (r_is_index_1 F) := by
  refine prm_fn (k := 1) (names := ["value", "many"]) (keep := false) (body := b_is_index_1 F) T.d_is_index_1 sc_is_index_1 fun cdv A outer s H E hh => ?_
  have kit : Kit (Gx (cxOf (L2.CX P w) P w K mg base ["value", "many"] "is_index" (C8.fnScope s_is_index_1) (fa 25) cdv A outer s H E) ca) 0 := kit0
  exact (ds_one (ds_ret (de_and (de_own ((p_is_number_2 T F).own T.N_is_number_rowlooks) hh (by decide) rfl (da_cons (g_var (i := 0) rfl rfl rfl rfl) da_nil rfl) rfl rfl rfl) (de_and1 (de_chain (ord_ok true hh.u64) (ord_ok false hh.u64) de_int (g_var (i := 0) rfl rfl rfl rfl) (g_var (i := 1) rfl rfl rfl rfl) rfl)))))
theorem sc_index_fault : C8.scC ["value", "many", "at", "item"] ["value", "many"] (C8.fnScope s_index_fault) = true := by decide +kernel
theorem p_index_fault (T : Txt K mg ca fa) (F : Nat) : Prm P w K mg base ca 3 (fa 26) ["value", "many"] (r_index_fault F) := by
  refine prm_fn (k := 2) (names := ["value", "many", "at", "item"]) (keep := false) (body := b_index_fault F) T.d_index_fault sc_index_fault fun cdv A outer s H E hh => ?_
  have kit : Kit (Gx (cxOf (L2.CX P w) P w K mg base ["value", "many", "at", "item"] "index_fault" (C8.fnScope s_index_fault) (fa 26) cdv A outer s H E) ca) 0 := kit0
  exact (ds_cons (ds_if (dt_not (dt_truth (de_own ((p_is_row_of T F).own T.N_is_row_of) hh (by decide) rfl (da_cons (g_var (i := 0) rfl rfl rfl rfl) (da_cons (g_var (i := 1) rfl rfl rfl rfl) da_nil rfl) rfl) rfl rfl rfl) rfl)) (ds_one (ds_ret (de_un neg_ok de_int))) ds_nil) (ds_cons (ds_for F (passes_of rfl) hh.calm (di_enum rfl T.z_enumerate (da_cons (g_var (i := 0) rfl rfl rfl rfl) da_nil rfl) rfl) (dg_tup hh.calm (dgs_cons (g_name (i := 2) hh rfl rfl (.inl rfl)) (dgs_cons (g_name (i := 3) hh rfl rfl (.inl rfl)) dgs_nil rfl) rfl) rfl rfl) (ds_one (ds_if (dt_not (dt_truth (de_own ((p_is_index_1 T F).own T.N_is_index_rowlooks) hh (by decide) rfl (da_cons (g_var (i := 3) rfl rfl rfl rfl) (da_cons (g_var (i := 1) rfl rfl rfl rfl) da_nil rfl) rfl) rfl rfl rfl) rfl)) (ds_one (ds_ret (g_var (i := 2) rfl rfl rfl rfl))) ds_nil)) rfl) (ds_one (ds_ret de_non))))
theorem sc_is_naming : C8.scC ["value", "many"] ["value", "many"] (C8.fnScope s_is_naming) = true := by decide +kernel
theorem p_is_naming (T : Txt K mg ca fa) (F : Nat) : Prm P w K mg base ca 4 (fa 27) ["value", "many"] (r_is_naming F) := by
  refine prm_fn (k := 3) (names := ["value", "many"]) (keep := false) (body := b_is_naming F) T.d_is_naming sc_is_naming fun cdv A outer s H E hh => ?_
  have kit : Kit (Gx (cxOf (L2.CX P w) P w K mg base ["value", "many"] "is_naming" (C8.fnScope s_is_naming) (fa 27) cdv A outer s H E) ca) 0 := kit0
  exact (ds_one (ds_ret (de_and (de_cmp is_ok (de_own ((p_index_fault T F).own T.N_index_fault) hh (by decide) rfl (da_cons (g_var (i := 0) rfl rfl rfl rfl) (da_cons (g_var (i := 1) rfl rfl rfl rfl) da_nil rfl) rfl) rfl rfl rfl) de_non rfl) (de_and1 (de_cmp (eq_ok hh.u64) (de_lenSet rfl T.z_len rfl T.z_set (g_var (i := 0) rfl rfl rfl rfl) hh.calm rfl) (g_var (i := 1) rfl rfl rfl rfl) rfl)))))
theorem sc_is_rule : C8.scC ["value", "many"] ["value", "many"] (C8.fnScope s_is_rule) = true := by decide +kernel
theorem p_is_rule (T : Txt K mg ca fa) (F : Nat) : Prm P w K mg base ca 5 (fa 28) ["value", "many"] (r_is_rule F) := by
  refine prm_fn (k := 4) (names := ["value", "many"]) (keep := false) (body := b_is_rule F) T.d_is_rule sc_is_rule fun cdv A outer s H E hh => ?_
  have kit : Kit (Gx (cxOf (L2.CX P w) P w K mg base ["value", "many"] "is_rule" (C8.fnScope s_is_rule) (fa 28) cdv A outer s H E) ca) 0 := kit0
  exact (ds_one (ds_ret (de_and (de_callB (isi_ok kit) rfl T.z_isinstance PyProof.Rows.boot_isinstance (da_cons (g_var (i := 0) rfl rfl rfl rfl) (da_cons (de_ty rfl T.z_tuple PyProof.Rows.boot_tuple (by decide) rfl) da_nil rfl) rfl) (by decide) rfl rfl rfl) (de_and1 (de_own ((p_is_naming T F).own T.N_is_naming) hh (by decide) rfl (da_cons (g_var (i := 0) rfl rfl rfl rfl) (da_cons (g_var (i := 1) rfl rfl rfl rfl) da_nil rfl) rfl) rfl rfl rfl)))))
theorem sc_Tile_ties : C8.scC ["self"] ["self"] (C8.fnScope s_Tile_ties) = true := by decide +kernel
theorem p_Tile_ties (T : Txt K mg ca fa) (F : Nat) : Prm P w K mg base ca 1 (fa 29) ["self"] (r_Tile_ties F) := by
  refine prm_fn (k := 0) (names := ["self"]) (keep := false) (body := b_Tile_ties F) T.d_Tile_ties sc_Tile_ties fun cdv A outer s H E hh => ?_
  have kit : Kit (Gx (cxOf (L2.CX P w) P w K mg base ["self"] "Tile.ties" (C8.fnScope s_Tile_ties) (fa 29) cdv A outer s H E) ca) 0 := kit0
  exact (ds_one (ds_ret (de_callTy (list_ok (cell := false)) rfl T.z_list PyProof.Rows.boot_list (da_cons (de_fld T.f__ties (g_var (i := 0) rfl rfl rfl rfl) rfl) da_nil rfl) (by decide) rfl rfl rfl)))
theorem sc_back : C8.scC ["word"] ["word"] (C8.fnScope s_back) = true := by decide +kernel
theorem p_back (T : Txt K mg ca fa) (F : Nat) : Prm P w K mg base ca 1 (fa 30) ["word"] (r_back F) := by
  refine prm_fn (k := 0) (names := ["word"]) (keep := false) (body := b_back F) T.d_back sc_back fun cdv A outer s H E hh => ?_
  have kit : Kit (Gx (cxOf (L2.CX P w) P w K mg base ["word"] "back" (C8.fnScope s_back) (fa 30) cdv A outer s H E) ca) 0 := kit0
  exact (ds_one (ds_ret (de_rev (cell := false) (g_var (i := 0) rfl rfl rfl rfl))))
theorem sc_x_plain_tie : C8.scC ["start", "to", "word", "strength", "one", "other"] ["start", "to", "word", "strength"] (C8.fnScope s_x_plain_tie) = true := by decide +kernel
theorem p_x_plain_tie (T : Txt K mg ca fa) (F : Nat) : Prm P w K mg base ca 2 (fa 31) ["start", "to", "word", "strength"] (r_x_plain_tie F) := by
  refine prm_fn (k := 1) (names := ["start", "to", "word", "strength", "one", "other"]) (keep := false) (body := b_x_plain_tie F) T.d_x_plain_tie sc_x_plain_tie fun cdv A outer s H E hh => ?_
  have kit : Kit (Gx (cxOf (L2.CX P w) P w K mg base ["start", "to", "word", "strength", "one", "other"] "_plain_tie" (C8.fnScope s_x_plain_tie) (fa 31) cdv A outer s H E) ca) 0 := kit0
  exact (ds_cons (g_set (i := 4) hh rfl rfl (de_tup (da_cons (g_var (i := 0) rfl rfl rfl rfl) (da_cons (g_var (i := 1) rfl rfl rfl rfl) (da_cons (g_var (i := 2) rfl rfl rfl rfl) (da_cons (g_var (i := 3) rfl rfl rfl rfl) da_nil rfl) rfl) rfl) rfl)) rfl (.inl rfl)) (ds_cons (g_set (i := 5) hh rfl rfl (de_tup (da_cons (g_var (i := 1) rfl rfl rfl rfl) (da_cons (g_var (i := 0) rfl rfl rfl rfl) (da_cons (de_own ((p_back T F).own T.N_back) hh (by decide) rfl (da_cons (g_var (i := 2) rfl rfl rfl rfl) da_nil rfl) rfl rfl rfl) (da_cons (g_var (i := 3) rfl rfl rfl rfl) da_nil rfl) rfl) rfl) rfl)) rfl (.inl rfl)) (ds_one (ds_ret (de_if (dt_cmp (ord_ok true hh.u64) (g_var (i := 4) rfl rfl rfl rfl) (g_var (i := 5) rfl rfl rfl rfl) rfl) (g_var (i := 4) rfl rfl rfl rfl) (g_var (i := 5) rfl rfl rfl rfl))))))
theorem sc_exchanged_word : C8.scC ["word", "rule", "letter"] ["word", "rule"] (C8.fnScope s_exchanged_word) = true := by decide +kernel
theorem p_exchanged_word (T : Txt K mg ca fa) (F : Nat) : Prm P w K mg base ca 1 (fa 32) ["word", "rule"] (r_exchanged_word F) := by
  refine prm_fn (k := 0) (names := ["word", "rule", "letter"]) (keep := false) (body := b_exchanged_word F) T.d_exchanged_word sc_exchanged_word fun cdv A outer s H E hh => ?_
  have kit : Kit (Gx (cxOf (L2.CX P w) P w K mg base ["word", "rule", "letter"] "exchanged_word" (C8.fnScope s_exchanged_word) (fa 32) cdv A outer s H E) ca) 0 := kit0
  exact (ds_one (ds_ret (de_callTy tuple_ok rfl T.z_tuple PyProof.Rows.boot_tuple (da_cons (g_lc (own := [(("letter" : Str), 2)]) F false hh (di_of (g_var (i := 0) rfl rfl rfl rfl)) (by show blkC ["word", "rule", "letter"] (C8.fnScope s_exchanged_word) _ [(("letter" : Str), 2)] = true; decide +kernel) (by decide) (fun _ _ _ _ _ hh => (g_name (i := 2) hh rfl rfl (by first | exact .inl rfl | exact .inr rfl))) (fun _ _ _ _ _ hh => dts_nil) (fun _ _ _ _ _ hh => (de_ix (idx_ok hh.u1) (g_var (i := 1) rfl rfl rfl rfl) (g_var (i := 2) rfl rfl rfl rfl) rfl)) rfl) da_nil rfl) (by decide) rfl rfl rfl)))
theorem sc_is_kept : C8.scC ["tile", "rule", "naming", "before", "behind", "start", "to", "word", "strength"] ["tile", "rule", "naming"] (C8.fnScope s_is_kept) = true := by decide +kernel
theorem p_is_kept (T : Txt K mg ca fa) (F : Nat) : Prm P w K mg base ca 6 (fa 33) ["tile", "rule", "naming"] (r_is_kept F) := by
  refine prm_fn (k := 5) (names := ["tile", "rule", "naming", "before", "behind", "start", "to", "word", "strength"]) (keep := false) (body := b_is_kept F) T.d_is_kept sc_is_kept fun cdv A outer s H E hh => ?_
  have kit : Kit (Gx (cxOf (L2.CX P w) P w K mg base ["tile", "rule", "naming", "before", "behind", "start", "to", "word", "strength"] "is_kept" (C8.fnScope s_is_kept) (fa 33) cdv A outer s H E) ca) 0 := kit0
  exact (ds_cons (ds_if (dw_pt (dw_or (dt_not (dt_truth (de_own ((p_is_rule T F).own T.N_is_rule) hh (by decide) rfl (da_cons (g_var (i := 1) rfl rfl rfl rfl) (da_cons (de_callB len_ok rfl T.z_len PySem.boot_len (da_cons (de_fld T.f_sides (g_var (i := 0) rfl rfl rfl rfl) rfl) da_nil rfl) (by decide) rfl rfl rfl) da_nil rfl) rfl) rfl rfl rfl) rfl)) (dw_or1 (dt_not (dt_truth (de_own ((p_is_naming T F).own T.N_is_naming) hh (by decide) rfl (da_cons (g_var (i := 2) rfl rfl rfl rfl) (da_cons (de_fld T.f_spots (g_var (i := 0) rfl rfl rfl rfl) rfl) da_nil rfl) rfl) rfl rfl rfl) rfl))))) (ds_one (ds_ret de_bl)) ds_nil) (ds_cons (g_set (i := 3) hh rfl rfl (de_lst true da_nil) rfl (.inl rfl)) (ds_cons (g_set (i := 4) hh rfl rfl (de_lst true da_nil) rfl (.inl rfl)) (ds_cons (ds_for F (passes_of rfl) hh.calm (di_of (de_meth0 ((p_Tile_ties T F).meth T.cls_Tile T.M_Tile_ties.1 T.M_Tile_ties.2) hh (by decide) (g_var (i := 0) rfl rfl rfl rfl) rfl)) (dg_tup hh.calm (dgs_cons (g_name (i := 5) hh rfl rfl (.inl rfl)) (dgs_cons (g_name (i := 6) hh rfl rfl (.inl rfl)) (dgs_cons (g_name (i := 7) hh rfl rfl (.inl rfl)) (dgs_cons (g_name (i := 8) hh rfl rfl (.inl rfl)) dgs_nil rfl) rfl) rfl) rfl) rfl rfl) (ds_cons (ds_expr (de_bm PySem.F.plainAttrs_list PySem.F.slot_list_append PySem.F.type_list_append append_ok (g_var (i := 3) rfl rfl rfl rfl) (da_cons (de_own ((p_x_plain_tie T F).own T.N__plain_tie) hh (by decide) rfl (da_cons (g_var (i := 5) rfl rfl rfl rfl) (da_cons (g_var (i := 6) rfl rfl rfl rfl) (da_cons (g_var (i := 7) rfl rfl rfl rfl) (da_cons (g_var (i := 8) rfl rfl rfl rfl) da_nil rfl) rfl) rfl) rfl) rfl rfl rfl) da_nil rfl) rfl rfl rfl rfl rfl) rfl) (ds_one (ds_expr (de_bm PySem.F.plainAttrs_list PySem.F.slot_list_append PySem.F.type_list_append append_ok (g_var (i := 4) rfl rfl rfl rfl) (da_cons (de_own ((p_x_plain_tie T F).own T.N__plain_tie) hh (by decide) rfl (da_cons (de_ix (idx_ok hh.u1) (g_var (i := 2) rfl rfl rfl rfl) (g_var (i := 5) rfl rfl rfl rfl) rfl) (da_cons (de_ix (idx_ok hh.u1) (g_var (i := 2) rfl rfl rfl rfl) (g_var (i := 6) rfl rfl rfl rfl) rfl) (da_cons (de_own ((p_exchanged_word T F).own T.N_exchanged_word) hh (by decide) rfl (da_cons (g_var (i := 7) rfl rfl rfl rfl) (da_cons (g_var (i := 1) rfl rfl rfl rfl) da_nil rfl) rfl) rfl rfl rfl) (da_cons (g_var (i := 8) rfl rfl rfl rfl) da_nil rfl) rfl) rfl) rfl) rfl rfl rfl) da_nil rfl) rfl rfl rfl rfl rfl) rfl))) rfl) (ds_one (ds_ret (de_cmp (eq_ok hh.u64) (de_callB (sorted_ok (by have := hh.room.un; omega) (cell := false)) rfl T.z_sorted PyProof.Rows.boot_sorted (da_cons (g_var (i := 3) rfl rfl rfl rfl) da_nil rfl) (by decide) rfl rfl rfl) (de_callB (sorted_ok (by have := hh.room.un; omega) (cell := false)) rfl T.z_sorted PyProof.Rows.boot_sorted (da_cons (g_var (i := 4) rfl rfl rfl rfl) da_nil rfl) (by decide) rfl rfl rfl) rfl)))))))
theorem sc_x_law_asked : C8.scC ["names", "spots", "ties", "rule", "naming", "due", "tile", "handed"] ["names", "spots", "ties", "rule", "naming", "due"] (C8.fnScope s_x_law_asked) = true := by decide +kernel
theorem p_x_law_asked (T : Txt K mg ca fa) (F : Nat) : Prm P w K mg base ca 10 (fa 34) ["names", "spots", "ties", "rule", "naming", "due"] (r_x_law_asked F) := by
  refine prm_fn (k := 9) (names := ["names", "spots", "ties", "rule", "naming", "due", "tile", "handed"]) (keep := false) (body := b_x_law_asked F) T.d_x_law_asked sc_x_law_asked fun cdv A outer s H E hh => ?_
  have kit : Kit (Gx (cxOf (L2.CX P w) P w K mg base ["names", "spots", "ties", "rule", "naming", "due", "tile", "handed"] "_law_asked" (C8.fnScope s_x_law_asked) (fa 34) cdv A outer s H E) ca) 0 := kit0
  exact (ds_cons (ds_par (i := 6) (j := 7) hh.calm hh.nd rfl rfl (by decide) rfl rfl (da_cons (de_make false ((p_Tile___init__ T F).make T.m_Tile T.C_Tile.1 T.C_Tile.2.1 T.C_Tile.2.2.1 T.C_Tile.2.2.2) hh (by decide) rfl (da_cons (g_var (i := 0) rfl rfl rfl rfl) (da_cons (g_var (i := 1) rfl rfl rfl rfl) (da_cons (de_callTy (list_ok (cell := false)) rfl T.z_list PyProof.Rows.boot_list (da_cons (g_var (i := 2) rfl rfl rfl rfl) da_nil rfl) (by decide) rfl rfl rfl) da_nil rfl) rfl) rfl) rfl rfl rfl) (da_cons (de_callTy (list_ok (cell := false)) rfl T.z_list PyProof.Rows.boot_list (da_cons (g_var (i := 4) rfl rfl rfl rfl) da_nil rfl) (by decide) rfl rfl rfl) da_nil rfl) rfl) rfl rfl) (ds_cons (ds_if (dt_not (dt_truth (de_own ((p_x_law_same T F).own T.N__law_same) hh (by decide) rfl (da_cons (de_lst false (da_cons (de_own ((p_is_kept T F).own T.N_is_kept) hh (by decide) rfl (da_cons (g_var (i := 6) rfl rfl rfl rfl) (da_cons (g_var (i := 3) rfl rfl rfl rfl) (da_cons (g_var (i := 7) rfl rfl rfl rfl) da_nil rfl) rfl) rfl) rfl rfl rfl) (da_cons (de_own ((p_is_kept T F).own T.N_is_kept) hh (by decide) rfl (da_cons (g_var (i := 6) rfl rfl rfl rfl) (da_cons (g_var (i := 3) rfl rfl rfl rfl) (da_cons (de_callTy tuple_ok rfl T.z_tuple PyProof.Rows.boot_tuple (da_cons (g_var (i := 4) rfl rfl rfl rfl) da_nil rfl) (by decide) rfl rfl rfl) da_nil rfl) rfl) rfl) rfl rfl rfl) da_nil rfl) rfl)) (da_cons (de_lst false (da_cons (g_var (i := 5) rfl rfl rfl rfl) (da_cons (g_var (i := 5) rfl rfl rfl rfl) da_nil rfl) rfl)) da_nil rfl) rfl) rfl rfl rfl) rfl)) (ds_one (ds_ret de_bl)) ds_nil) (ds_one (ds_ret (de_and (de_cmp (eq_ok hh.u64) (g_var (i := 7) rfl rfl rfl rfl) (de_callTy (list_ok (cell := false)) rfl T.z_list PyProof.Rows.boot_list (da_cons (g_var (i := 4) rfl rfl rfl rfl) da_nil rfl) (by decide) rfl rfl rfl) rfl) (de_and1 (de_own ((p_x_law_same T F).own T.N__law_same) hh (by decide) rfl (da_cons (de_meth0 ((p_Tile_ties T F).meth T.cls_Tile T.M_Tile_ties.1 T.M_Tile_ties.2) hh (by decide) (g_var (i := 6) rfl rfl rfl rfl) rfl) (da_cons (de_callTy (list_ok (cell := false)) rfl T.z_list PyProof.Rows.boot_list (da_cons (g_var (i := 2) rfl rfl rfl rfl) da_nil rfl) (by decide) rfl rfl rfl) da_nil rfl) rfl) rfl rfl rfl)))))))
theorem sc_x_law_one_changed : C8.scC ["bag", "tie", "spots", "number", "way", "s", "t", "word", "c"] ["bag", "tie", "spots", "number"] (C8.fnScope s_x_law_one_changed) = true := by decide +kernel
theorem p_x_law_one_changed (T : Txt K mg ca fa) (F : Nat) : Prm P w K mg base ca 2 (fa 35) ["bag", "tie", "spots", "number"] (r_x_law_one_changed F) := by
  refine prm_fn (k := 1) (names := ["bag", "tie", "spots", "number", "way", "s", "t", "word", "c"]) (keep := false) (body := b_x_law_one_changed F) T.d_x_law_one_changed sc_x_law_one_changed fun cdv A outer s H E hh => ?_
  have kit : Kit (Gx (cxOf (L2.CX P w) P w K mg base ["bag", "tie", "spots", "number", "way", "s", "t", "word", "c"] "_law_one_changed" (C8.fnScope s_x_law_one_changed) (fa 35) cdv A outer s H E) ca) 0 := kit0
  exact (ds_cons (ds_asg (g_var (i := 1) rfl rfl rfl rfl) (dg_tup hh.calm (dgs_cons (g_name (i := 5) hh rfl rfl (.inl rfl)) (dgs_cons (g_name (i := 6) hh rfl rfl (.inl rfl)) (dgs_cons (g_name (i := 7) hh rfl rfl (.inl rfl)) (dgs_cons (g_name (i := 8) hh rfl rfl (.inl rfl)) dgs_nil rfl) rfl) rfl) rfl) rfl rfl) rfl rfl rfl) (ds_cons (g_set (i := 4) hh rfl rfl (de_own ((p_x_law_draw T F).own T.N__law_draw) hh (by decide) rfl (da_cons (g_var (i := 0) rfl rfl rfl rfl) (da_cons de_int da_nil rfl) rfl) rfl rfl rfl) rfl (.inl rfl)) (ds_cons (ds_if (dt_cmp (eq_ok hh.u64) (g_var (i := 4) rfl rfl rfl rfl) de_int rfl) (ds_one (ds_ret (de_tup (da_cons (g_var (i := 5) rfl rfl rfl rfl) (da_cons (g_var (i := 6) rfl rfl rfl rfl) (da_cons (g_var (i := 7) rfl rfl rfl rfl) (da_cons (de_if (dt_cmp (eq_ok hh.u64) (de_callB abs_ok rfl T.z_abs PyProof.Rows.boot_abs (da_cons (g_var (i := 8) rfl rfl rfl rfl) da_nil rfl) (by decide) rfl rfl rfl) de_int rfl) (de_bin (add_ok (cell := false)) (g_var (i := 8) rfl rfl rfl rfl) (g_var (i := 8) rfl rfl rfl rfl)) (de_if (dt_cmp gt_ok (g_var (i := 8) rfl rfl rfl rfl) de_int rfl) (de_bin sub_ok (g_var (i := 8) rfl rfl rfl rfl) de_int) (de_bin (add_ok (cell := false)) (g_var (i := 8) rfl rfl rfl rfl) de_int))) da_nil rfl) rfl) rfl) rfl)))) ds_nil) (ds_cons (ds_if (dt_cmp (eq_ok hh.u64) (g_var (i := 4) rfl rfl rfl rfl) de_int rfl) (ds_one (ds_ret (de_tup (da_cons (g_var (i := 6) rfl rfl rfl rfl) (da_cons (g_var (i := 5) rfl rfl rfl rfl) (da_cons (g_var (i := 7) rfl rfl rfl rfl) (da_cons (g_var (i := 8) rfl rfl rfl rfl) da_nil rfl) rfl) rfl) rfl)))) ds_nil) (ds_cons (ds_if (dt_cmp (eq_ok hh.u64) (g_var (i := 4) rfl rfl rfl rfl) de_int rfl) (ds_one (ds_ret (de_tup (da_cons (g_var (i := 5) rfl rfl rfl rfl) (da_cons (g_var (i := 6) rfl rfl rfl rfl) (da_cons (de_rev (cell := false) (g_var (i := 7) rfl rfl rfl rfl)) (da_cons (g_var (i := 8) rfl rfl rfl rfl) da_nil rfl) rfl) rfl) rfl)))) ds_nil) (ds_cons (ds_if (dt_cmp (eq_ok hh.u64) (g_var (i := 4) rfl rfl rfl rfl) de_int rfl) (ds_one (ds_ret (de_tup (da_cons (g_var (i := 5) rfl rfl rfl rfl) (da_cons (de_own ((p_x_law_draw T F).own T.N__law_draw) hh (by decide) rfl (da_cons (g_var (i := 0) rfl rfl rfl rfl) (da_cons (g_var (i := 2) rfl rfl rfl rfl) da_nil rfl) rfl) rfl rfl rfl) (da_cons (g_var (i := 7) rfl rfl rfl rfl) (da_cons (g_var (i := 8) rfl rfl rfl rfl) da_nil rfl) rfl) rfl) rfl)))) ds_nil) (ds_cons (ds_if (dt_cmp (eq_ok hh.u64) (g_var (i := 4) rfl rfl rfl rfl) de_int rfl) (ds_one (ds_ret (de_tup (da_cons (g_var (i := 5) rfl rfl rfl rfl) (da_cons (g_var (i := 6) rfl rfl rfl rfl) (da_cons (de_bin (add_ok (cell := false)) (g_var (i := 7) rfl rfl rfl rfl) (de_tup (da_cons (de_own ((p_x_law_draw T F).own T.N__law_draw) hh (by decide) rfl (da_cons (g_var (i := 0) rfl rfl rfl rfl) (da_cons (g_var (i := 3) rfl rfl rfl rfl) da_nil rfl) rfl) rfl rfl rfl) da_nil rfl))) (da_cons (g_var (i := 8) rfl rfl rfl rfl) da_nil rfl) rfl) rfl) rfl)))) ds_nil) (ds_cons (ds_if (dt_cmp (eq_ok hh.u64) (g_var (i := 4) rfl rfl rfl rfl) de_int rfl) (ds_one (ds_ret (de_tup (da_cons (g_var (i := 6) rfl rfl rfl rfl) (da_cons (g_var (i := 5) rfl rfl rfl rfl) (da_cons (de_rev (cell := false) (g_var (i := 7) rfl rfl rfl rfl)) (da_cons (g_var (i := 8) rfl rfl rfl rfl) da_nil rfl) rfl) rfl) rfl)))) ds_nil) (ds_one (ds_ret (de_tup (da_cons (g_var (i := 5) rfl rfl rfl rfl) (da_cons (g_var (i := 6) rfl rfl rfl rfl) (da_cons (de_sl false (g_var (i := 7) rfl rfl rfl rfl) do_none (do_some (de_un neg_ok de_int))) (da_cons (de_bin sub_ok de_int (g_var (i := 8) rfl rfl rfl rfl)) da_nil rfl) rfl) rfl) rfl))))))))))))
theorem sc_x_law_changed_ties : C8.scC ["bag", "ties", "spots", "number", "found", "at", "way"] ["bag", "ties", "spots", "number"] (C8.fnScope s_x_law_changed_ties) = true := by decide +kernel
theorem p_x_law_changed_ties (T : Txt K mg ca fa) (F : Nat) : Prm P w K mg base ca 3 (fa 36) ["bag", "ties", "spots", "number"] (r_x_law_changed_ties F) := by
  refine prm_fn (k := 2) (names := ["bag", "ties", "spots", "number", "found", "at", "way"]) (keep := false) (body := b_x_law_changed_ties F) T.d_x_law_changed_ties sc_x_law_changed_ties fun cdv A outer s H E hh => ?_
  have kit : Kit (Gx (cxOf (L2.CX P w) P w K mg base ["bag", "ties", "spots", "number", "found", "at", "way"] "_law_changed_ties" (C8.fnScope s_x_law_changed_ties) (fa 36) cdv A outer s H E) ca) 0 := kit0
  exact (ds_cons (g_set (i := 4) hh rfl rfl (de_callTy (list_ok (cell := true)) rfl T.z_list PyProof.Rows.boot_list (da_cons (g_var (i := 1) rfl rfl rfl rfl) da_nil rfl) (by decide) rfl rfl rfl) rfl (.inl rfl)) (ds_cons (ds_if (dt_truth (g_var (i := 4) rfl rfl rfl rfl) rfl) (ds_cons (ds_par (i := 5) (j := 6) hh.calm hh.nd rfl rfl (by decide) rfl rfl (da_cons (de_own ((p_x_law_draw T F).own T.N__law_draw) hh (by decide) rfl (da_cons (g_var (i := 0) rfl rfl rfl rfl) (da_cons (de_callB len_ok rfl T.z_len PySem.boot_len (da_cons (g_var (i := 4) rfl rfl rfl rfl) da_nil rfl) (by decide) rfl rfl rfl) da_nil rfl) rfl) rfl rfl rfl) (da_cons (de_own ((p_x_law_draw T F).own T.N__law_draw) hh (by decide) rfl (da_cons (g_var (i := 0) rfl rfl rfl rfl) (da_cons de_int da_nil rfl) rfl) rfl rfl rfl) da_nil rfl) rfl) rfl rfl) (ds_one (ds_if (dt_cmp (eq_ok hh.u64) (g_var (i := 6) rfl rfl rfl rfl) de_int rfl) (ds_one (ds_expr (de_bm PySem.F.plainAttrs_list PySem.F.slot_list_pop PySem.F.type_list_pop pop_ok (g_var (i := 4) rfl rfl rfl rfl) (da_cons (g_var (i := 5) rfl rfl rfl rfl) da_nil rfl) rfl rfl rfl rfl rfl) rfl)) (ds_one (ds_if (dt_cmp (eq_ok hh.u64) (g_var (i := 6) rfl rfl rfl rfl) de_int rfl) (ds_one (ds_expr (de_bm PySem.F.plainAttrs_list PySem.F.slot_list_append PySem.F.type_list_append append_ok (g_var (i := 4) rfl rfl rfl rfl) (da_cons (de_ix (idx_ok hh.u1) (g_var (i := 4) rfl rfl rfl rfl) (g_var (i := 5) rfl rfl rfl rfl) rfl) da_nil rfl) rfl rfl rfl rfl rfl) rfl)) (ds_one (ds_asg (de_own ((p_x_law_one_changed T F).own T.N__law_one_changed) hh (by decide) rfl (da_cons (g_var (i := 0) rfl rfl rfl rfl) (da_cons (de_ix (idx_ok hh.u1) (g_var (i := 4) rfl rfl rfl rfl) (g_var (i := 5) rfl rfl rfl rfl) rfl) (da_cons (g_var (i := 2) rfl rfl rfl rfl) (da_cons (g_var (i := 3) rfl rfl rfl rfl) da_nil rfl) rfl) rfl) rfl) rfl rfl rfl) (dg_sub hh (g_var (i := 4) rfl rfl rfl rfl) (g_var (i := 5) rfl rfl rfl rfl) (fun _ => rfl)) rfl rfl rfl))))))) ds_nil) (ds_one (ds_ret (g_var (i := 4) rfl rfl rfl rfl)))))
theorem sc_x_law_undone : C8.scC ["places", "found", "k"] ["places"] (C8.fnScope s_x_law_undone) = true := by decide +kernel
theorem p_x_law_undone (T : Txt K mg ca fa) (F : Nat) : Prm P w K mg base ca 1 (fa 37) ["places"] (r_x_law_undone F) := by
  refine prm_fn (k := 0) (names := ["places", "found", "k"]) (keep := false) (body := b_x_law_undone F) T.d_x_law_undone sc_x_law_undone fun cdv A outer s H E hh => ?_
  have kit : Kit (Gx (cxOf (L2.CX P w) P w K mg base ["places", "found", "k"] "_law_undone" (C8.fnScope s_x_law_undone) (fa 37) cdv A outer s H E) ca) 0 := kit0
  exact (ds_cons (g_setLc (i := 1) (own := [(("k" : Str), 2)]) F true hh rfl rfl (sw_true rfl rfl rfl (by decide +kernel)) (di_of (g_var (i := 0) rfl rfl rfl rfl)) (by show blkC ["places", "found", "k"] (C8.fnScope s_x_law_undone) _ [(("k" : Str), 2)] = true; decide +kernel) (by decide) (fun _ _ _ _ _ hh => (g_name (i := 2) hh rfl rfl (by first | exact .inl rfl | exact .inr rfl))) (fun _ _ _ _ _ hh => dts_nil) (fun _ _ _ _ _ hh => de_int) rfl) (ds_cons (ds_for F (passes_of rfl) hh.calm (di_rng1 rfl T.z_range (da_cons (de_callB len_ok rfl T.z_len PySem.boot_len (da_cons (g_var (i := 0) rfl rfl rfl rfl) da_nil rfl) (by decide) rfl rfl rfl) da_nil rfl) rfl) (g_name (i := 2) hh rfl rfl (.inl rfl)) (ds_one (ds_asg (g_var (i := 2) rfl rfl rfl rfl) (dg_sub hh (g_var (i := 1) rfl rfl rfl rfl) (de_ix (idx_ok hh.u1) (g_var (i := 0) rfl rfl rfl rfl) (g_var (i := 2) rfl rfl rfl rfl) rfl) (fun _ => rfl)) rfl rfl rfl)) rfl) (ds_one (ds_ret (g_var (i := 1) rfl rfl rfl rfl)))))
theorem sc_x_law_swapped : C8.scC ["bag", "places", "found", "i", "k"] ["bag", "places"] (C8.fnScope s_x_law_swapped) = true := by decide +kernel
theorem p_x_law_swapped (T : Txt K mg ca fa) (F : Nat) : Prm P w K mg base ca 3 (fa 38) ["bag", "places"] (r_x_law_swapped F) := by
  refine prm_fn (k := 2) (names := ["bag", "places", "found", "i", "k"]) (keep := false) (body := b_x_law_swapped F) T.d_x_law_swapped sc_x_law_swapped fun cdv A outer s H E hh => ?_
  have kit : Kit (Gx (cxOf (L2.CX P w) P w K mg base ["bag", "places", "found", "i", "k"] "_law_swapped" (C8.fnScope s_x_law_swapped) (fa 38) cdv A outer s H E) ca) 0 := kit0
  exact (ds_cons (g_set (i := 2) hh rfl rfl (de_callTy (list_ok (cell := true)) rfl T.z_list PyProof.Rows.boot_list (da_cons (g_var (i := 1) rfl rfl rfl rfl) da_nil rfl) (by decide) rfl rfl rfl) rfl (.inl rfl)) (ds_cons (ds_if (dt_cmp gt_ok (de_callB len_ok rfl T.z_len PySem.boot_len (da_cons (g_var (i := 2) rfl rfl rfl rfl) da_nil rfl) (by decide) rfl rfl rfl) de_int rfl) (ds_cons (ds_asg (de_own ((p_x_law_pick T F).own T.N__law_pick) hh (by decide) rfl (da_cons (g_var (i := 0) rfl rfl rfl rfl) (da_cons (de_listRg1 false hh.calm rfl T.z_list rfl T.z_range (de_callB len_ok rfl T.z_len PySem.boot_len (da_cons (g_var (i := 2) rfl rfl rfl rfl) da_nil rfl) (by decide) rfl rfl rfl) rfl) (da_cons de_int da_nil rfl) rfl) rfl) rfl rfl rfl) (dg_unl hh.calm (dgs_cons (g_name (i := 3) hh rfl rfl (.inl rfl)) (dgs_cons (g_name (i := 4) hh rfl rfl (.inl rfl)) dgs_nil rfl) rfl) rfl rfl) rfl rfl rfl) (ds_one (ds_asg (de_tup (da_cons (de_ix (idx_ok hh.u1) (g_var (i := 2) rfl rfl rfl rfl) (g_var (i := 4) rfl rfl rfl rfl) rfl) (da_cons (de_ix (idx_ok hh.u1) (g_var (i := 2) rfl rfl rfl rfl) (g_var (i := 3) rfl rfl rfl rfl) rfl) da_nil rfl) rfl)) (dg_tup hh.calm (dgs_cons (dg_sub hh (g_var (i := 2) rfl rfl rfl rfl) (g_var (i := 3) rfl rfl rfl rfl) (fun _ => rfl)) (dgs_cons (dg_sub hh (g_var (i := 2) rfl rfl rfl rfl) (g_var (i := 4) rfl rfl rfl rfl) (fun _ => rfl)) dgs_nil rfl) rfl) rfl rfl) rfl rfl rfl))) ds_nil) (ds_one (ds_ret (g_var (i := 2) rfl rfl rfl rfl)))))
theorem sc_x_law_odd_ones : C8.scC ["names", "spots", "ties", "rule", "naming", "truths", "value", "tile", "number", "r", "n"] ["names", "spots", "ties", "rule", "naming"] (C8.fnScope s_x_law_odd_ones) = true := by decide +kernel
theorem p_x_law_odd_ones (T : Txt K mg ca fa) (F : Nat) : Prm P w K mg base ca 7 (fa 39) ["names", "spots", "ties", "rule", "naming"] (r_x_law_odd_ones F) := by
  refine prm_fn (k := 6) (names := ["names", "spots", "ties", "rule", "naming", "truths", "value", "tile", "number", "r", "n"]) (keep := false) (body := b_x_law_odd_ones F) T.d_x_law_odd_ones sc_x_law_odd_ones fun cdv A outer s H E hh => ?_
  have kit : Kit (Gx (cxOf (L2.CX P w) P w K mg base ["names", "spots", "ties", "rule", "naming", "truths", "value", "tile", "number", "r", "n"] "_law_odd_ones" (C8.fnScope s_x_law_odd_ones) (fa 39) cdv A outer s H E) ca) 0 := kit0
  exact (ds_cons (ds_asg (de_tup (da_cons (de_make false ((p_Tile___init__ T F).make T.m_Tile T.C_Tile.1 T.C_Tile.2.1 T.C_Tile.2.2.1 T.C_Tile.2.2.2) hh (by decide) rfl (da_cons (g_var (i := 0) rfl rfl rfl rfl) (da_cons (g_var (i := 1) rfl rfl rfl rfl) (da_cons (de_callTy (list_ok (cell := false)) rfl T.z_list PyProof.Rows.boot_list (da_cons (g_var (i := 2) rfl rfl rfl rfl) da_nil rfl) (by decide) rfl rfl rfl) da_nil rfl) rfl) rfl) rfl rfl rfl) (da_cons (de_callB len_ok rfl T.z_len PySem.boot_len (da_cons (g_var (i := 3) rfl rfl rfl rfl) da_nil rfl) (by decide) rfl rfl rfl) da_nil rfl) rfl)) (dg_tup hh.calm (dgs_cons (g_name (i := 7) hh rfl rfl (.inl rfl)) (dgs_cons (g_name (i := 8) hh rfl rfl (.inl rfl)) dgs_nil rfl) rfl) rfl rfl) rfl rfl rfl) (ds_cons (g_setLc (i := 5) (own := [(("r" : Str), 9)]) F false hh rfl rfl (sw_true rfl rfl rfl (by decide +kernel)) (di_of (g_var (i := 3) rfl rfl rfl rfl)) (by show blkC ["names", "spots", "ties", "rule", "naming", "truths", "value", "tile", "number", "r", "n"] (C8.fnScope s_x_law_odd_ones) _ [(("r" : Str), 9)] = true; decide +kernel) (by decide) (fun _ _ _ _ _ hh => (g_name (i := 9) hh rfl rfl (by first | exact .inl rfl | exact .inr rfl))) (fun _ _ _ _ _ hh => dts_nil) (fun _ _ _ _ _ hh => (de_if (dt_cmp (ord_ok false hh.u64) (g_var (i := 9) rfl rfl rfl rfl) de_int rfl) (de_cmp (eq_ok hh.u64) (g_var (i := 9) rfl rfl rfl rfl) de_int rfl) (g_var (i := 9) rfl rfl rfl rfl))) rfl) (ds_cons (ds_for F (passes_of rfl) hh.calm (di_of (de_lst false (da_cons de_non (da_cons de_bl (da_cons (de_callTy (list_ok (cell := false)) rfl T.z_list PyProof.Rows.boot_list (da_cons (g_var (i := 3) rfl rfl rfl rfl) da_nil rfl) (by decide) rfl rfl rfl) (da_cons (de_bin (add_ok (cell := false)) (g_var (i := 3) rfl rfl rfl rfl) (de_tup (da_cons (g_var (i := 8) rfl rfl rfl rfl) da_nil rfl))) (da_cons (de_sl false (g_var (i := 3) rfl rfl rfl rfl) (do_some de_int) do_none) (da_cons de_str (da_cons de_int (da_cons (de_dictK false) (da_cons (de_callTy tuple_ok rfl T.z_tuple PyProof.Rows.boot_tuple (da_cons (g_var (i := 5) rfl rfl rfl rfl) da_nil rfl) (by decide) rfl rfl rfl) (da_cons (de_callTy tuple_ok rfl T.z_tuple PyProof.Rows.boot_tuple (da_cons (g_lc (own := [(("r" : Str), 9)]) F false hh (di_of (g_var (i := 3) rfl rfl rfl rfl)) (by show blkC ["names", "spots", "ties", "rule", "naming", "truths", "value", "tile", "number", "r", "n"] (C8.fnScope s_x_law_odd_ones) _ [(("r" : Str), 9)] = true; decide +kernel) (by decide) (fun _ _ _ _ _ hh => (g_name (i := 9) hh rfl rfl (by first | exact .inl rfl | exact .inr rfl))) (fun _ _ _ _ _ hh => dts_nil) (fun _ _ _ _ _ hh => (de_bin sub_ok (g_var (i := 9) rfl rfl rfl rfl) (g_var (i := 8) rfl rfl rfl rfl))) rfl) da_nil rfl) (by decide) rfl rfl rfl) (da_cons (de_tup (da_cons (g_var (i := 3) rfl rfl rfl rfl) da_nil rfl)) da_nil rfl) rfl) rfl) rfl) rfl) rfl) rfl) rfl) rfl) rfl) rfl))) (g_name (i := 6) hh rfl rfl (.inl rfl)) (ds_one (ds_if (dt_cmp isNot_ok (de_own ((p_is_kept T F).own T.N_is_kept) hh (by decide) rfl (da_cons (g_var (i := 7) rfl rfl rfl rfl) (da_cons (g_var (i := 6) rfl rfl rfl rfl) (da_cons (de_callTy (list_ok (cell := false)) rfl T.z_list PyProof.Rows.boot_list (da_cons (g_var (i := 4) rfl rfl rfl rfl) da_nil rfl) (by decide) rfl rfl rfl) da_nil rfl) rfl) rfl) rfl rfl rfl) de_bl rfl) (ds_one (ds_ret de_bl)) ds_nil)) rfl) (ds_cons (g_setLc (i := 5) (own := [(("n" : Str), 10)]) F false hh rfl rfl (sw_true rfl rfl rfl (by decide +kernel)) (di_of (g_var (i := 4) rfl rfl rfl rfl)) (by show blkC ["names", "spots", "ties", "rule", "naming", "truths", "value", "tile", "number", "r", "n"] (C8.fnScope s_x_law_odd_ones) _ [(("n" : Str), 10)] = true; decide +kernel) (by decide) (fun _ _ _ _ _ hh => (g_name (i := 10) hh rfl rfl (by first | exact .inl rfl | exact .inr rfl))) (fun _ _ _ _ _ hh => dts_nil) (fun _ _ _ _ _ hh => (de_if (dt_cmp (ord_ok false hh.u64) (g_var (i := 10) rfl rfl rfl rfl) de_int rfl) (de_cmp (eq_ok hh.u64) (g_var (i := 10) rfl rfl rfl rfl) de_int rfl) (g_var (i := 10) rfl rfl rfl rfl))) rfl) (ds_cons (ds_for F (passes_of rfl) hh.calm (di_of (de_lst false (da_cons de_non (da_cons de_int (da_cons de_str (da_cons (de_bin (add_ok (cell := false)) (de_callTy (list_ok (cell := false)) rfl T.z_list PyProof.Rows.boot_list (da_cons (g_var (i := 4) rfl rfl rfl rfl) da_nil rfl) (by decide) rfl rfl rfl) (de_lst false (da_cons (g_var (i := 1) rfl rfl rfl rfl) da_nil rfl))) (da_cons (de_sl false (de_callTy (list_ok (cell := false)) rfl T.z_list PyProof.Rows.boot_list (da_cons (g_var (i := 4) rfl rfl rfl rfl) da_nil rfl) (by decide) rfl rfl rfl) (do_some de_int) do_none) (da_cons (g_var (i := 5) rfl rfl rfl rfl) (da_cons de_dict1 (da_cons (de_lst false (da_cons (de_callTy (list_ok (cell := false)) rfl T.z_list PyProof.Rows.boot_list (da_cons (g_var (i := 4) rfl rfl rfl rfl) da_nil rfl) (by decide) rfl rfl rfl) da_nil rfl)) (da_cons (g_lc (own := [(("n" : Str), 10)]) F false hh (di_of (g_var (i := 4) rfl rfl rfl rfl)) (by show blkC ["names", "spots", "ties", "rule", "naming", "truths", "value", "tile", "number", "r", "n"] (C8.fnScope s_x_law_odd_ones) _ [(("n" : Str), 10)] = true; decide +kernel) (by decide) (fun _ _ _ _ _ hh => (g_name (i := 10) hh rfl rfl (by first | exact .inl rfl | exact .inr rfl))) (fun _ _ _ _ _ hh => dts_nil) (fun _ _ _ _ _ hh => (de_bin sub_ok (g_var (i := 10) rfl rfl rfl rfl) (g_var (i := 1) rfl rfl rfl rfl))) rfl) (da_cons (g_lc (own := [(("n" : Str), 10)]) F false hh (di_of (g_var (i := 4) rfl rfl rfl rfl)) (by show blkC ["names", "spots", "ties", "rule", "naming", "truths", "value", "tile", "number", "r", "n"] (C8.fnScope s_x_law_odd_ones) _ [(("n" : Str), 10)] = true; decide +kernel) (by decide) (fun _ _ _ _ _ hh => (g_name (i := 10) hh rfl rfl (by first | exact .inl rfl | exact .inr rfl))) (fun _ _ _ _ _ hh => dts_nil) (fun _ _ _ _ _ hh => (de_bin (add_ok (cell := false)) (g_var (i := 10) rfl rfl rfl rfl) de_int)) rfl) da_nil rfl) rfl) rfl) rfl) rfl) rfl) rfl) rfl) rfl) rfl))) (g_name (i := 6) hh rfl rfl (.inl rfl)) (ds_one (ds_if (dt_cmp isNot_ok (de_own ((p_is_kept T F).own T.N_is_kept) hh (by decide) rfl (da_cons (g_var (i := 7) rfl rfl rfl rfl) (da_cons (g_var (i := 3) rfl rfl rfl rfl) (da_cons (g_var (i := 6) rfl rfl rfl rfl) da_nil rfl) rfl) rfl) rfl rfl rfl) de_bl rfl) (ds_one (ds_ret de_bl)) ds_nil)) rfl) (ds_one (ds_ret (de_and (de_cmp is_ok (de_own ((p_is_kept T F).own T.N_is_kept) hh (by decide) rfl (da_cons (g_var (i := 7) rfl rfl rfl rfl) (da_cons de_non (da_cons de_non da_nil rfl) rfl) rfl) rfl rfl rfl) de_bl rfl) (de_and1 (de_cmp is_ok (de_own ((p_is_kept T F).own T.N_is_kept) hh (by decide) rfl (da_cons (g_var (i := 7) rfl rfl rfl rfl) (da_cons (g_var (i := 3) rfl rfl rfl rfl) (da_cons (de_callTy (list_ok (cell := false)) rfl T.z_list PyProof.Rows.boot_list (da_cons (g_var (i := 4) rfl rfl rfl rfl) da_nil rfl) (by decide) rfl rfl rfl) da_nil rfl) rfl) rfl) rfl rfl rfl) de_bl rfl))))))))))
theorem sc_law : C8.scC ["script", "bag", "naming", "ties", "turn", "far", "number", "spots", "names", "rule", "more", "again", "bent", "n", "r"] ["script"] (C8.fnScope s_law) = true := by decide +kernel
theorem p_law (T : Txt K mg ca fa) (F : Nat) : Prm P w K mg base ca 11 (fa 40) ["script"] (r_law F) := by
  refine prm_fn (k := 10) (names := ["script", "bag", "naming", "ties", "turn", "far", "number", "spots", "names", "rule", "more", "again", "bent", "n", "r"]) (keep := false) (body := b_law F) T.d_law sc_law fun cdv A outer s H E hh => ?_
  have kit : Kit (Gx (cxOf (L2.CX P w) P w K mg base ["script", "bag", "naming", "ties", "turn", "far", "number", "spots", "names", "rule", "more", "again", "bent", "n", "r"] "law" (C8.fnScope s_law) (fa 40) cdv A outer s H E) ca) 0 := kit0
  exact (ds_cons (g_set (i := 1) hh rfl rfl (de_own ((p_x_law_bag T F).own T.N__law_bag) hh (by decide) rfl (da_cons (g_var (i := 0) rfl rfl rfl rfl) da_nil rfl) rfl rfl rfl) rfl (.inl rfl)) (ds_cons (ds_par (i := 6) (j := 7) hh.calm hh.nd rfl rfl (by decide) rfl rfl (da_cons (de_own ((p_x_law_of T F).own T.N__law_of) hh (by decide) rfl (da_cons (g_var (i := 1) rfl rfl rfl rfl) (da_cons (de_lst false (da_cons de_int (da_cons de_int (da_cons de_int (da_cons de_int (da_cons de_int da_nil rfl) rfl) rfl) rfl) rfl)) da_nil rfl) rfl) rfl rfl rfl) (da_cons (de_own ((p_x_law_of T F).own T.N__law_of) hh (by decide) rfl (da_cons (g_var (i := 1) rfl rfl rfl rfl) (da_cons (de_lst false (da_cons de_int (da_cons de_int (da_cons de_int (da_cons de_int (da_cons de_int (da_cons de_int (da_cons de_int (da_cons de_int (da_cons de_int (da_cons de_int da_nil rfl) rfl) rfl) rfl) rfl) rfl) rfl) rfl) rfl) rfl)) da_nil rfl) rfl) rfl rfl rfl) da_nil rfl) rfl) rfl rfl) (ds_cons (ds_asg (de_tup (da_cons (de_own ((p_x_law_names T F).own T.N__law_names) hh (by decide) rfl (da_cons (g_var (i := 1) rfl rfl rfl rfl) (da_cons (g_var (i := 6) rfl rfl rfl rfl) da_nil rfl) rfl) rfl rfl rfl) (da_cons (de_callTy tuple_ok rfl T.z_tuple PyProof.Rows.boot_tuple (da_cons (de_own ((p_x_law_pick T F).own T.N__law_pick) hh (by decide) rfl (da_cons (g_var (i := 1) rfl rfl rfl rfl) (da_cons (de_listRg1 false hh.calm rfl T.z_list rfl T.z_range (g_var (i := 6) rfl rfl rfl rfl) rfl) (da_cons (g_var (i := 6) rfl rfl rfl rfl) da_nil rfl) rfl) rfl) rfl rfl rfl) da_nil rfl) (by decide) rfl rfl rfl) da_nil rfl) rfl)) (dg_tup hh.calm (dgs_cons (g_name (i := 8) hh rfl rfl (.inl rfl)) (dgs_cons (g_name (i := 9) hh rfl rfl (.inl rfl)) dgs_nil rfl) rfl) rfl rfl) rfl rfl rfl) (ds_cons (g_set (i := 2) hh rfl rfl (de_own ((p_x_law_pick T F).own T.N__law_pick) hh (by decide) rfl (da_cons (g_var (i := 1) rfl rfl rfl rfl) (da_cons (de_listRg1 false hh.calm rfl T.z_list rfl T.z_range (g_var (i := 7) rfl rfl rfl rfl) rfl) (da_cons (g_var (i := 7) rfl rfl rfl rfl) da_nil rfl) rfl) rfl) rfl rfl rfl) rfl (.inl rfl)) (ds_cons (g_set (i := 3) hh rfl rfl (de_own ((p_x_law_shown T F).own T.N__law_shown) hh (by decide) rfl (da_cons (g_var (i := 1) rfl rfl rfl rfl) (da_cons (de_own ((p_x_law_orbits T F).own T.N__law_orbits) hh (by decide) rfl (da_cons (g_var (i := 1) rfl rfl rfl rfl) (da_cons (g_var (i := 7) rfl rfl rfl rfl) (da_cons (g_var (i := 9) rfl rfl rfl rfl) (da_cons (g_var (i := 2) rfl rfl rfl rfl) da_nil rfl) rfl) rfl) rfl) rfl rfl rfl) da_nil rfl) rfl) rfl rfl rfl) rfl (.inl rfl)) (ds_cons (ds_if (dw_pt (dw_or (dt_not (dt_truth (de_own ((p_x_law_keeps T F).own T.N__law_keeps) hh (by decide) rfl (da_cons (g_var (i := 3) rfl rfl rfl rfl) (da_cons (g_var (i := 9) rfl rfl rfl rfl) (da_cons (g_var (i := 2) rfl rfl rfl rfl) da_nil rfl) rfl) rfl) rfl rfl rfl) rfl)) (dw_or1 (dt_not (dt_truth (de_own ((p_x_law_asked T F).own T.N__law_asked) hh (by decide) rfl (da_cons (g_var (i := 8) rfl rfl rfl rfl) (da_cons (g_var (i := 7) rfl rfl rfl rfl) (da_cons (g_var (i := 3) rfl rfl rfl rfl) (da_cons (g_var (i := 9) rfl rfl rfl rfl) (da_cons (g_var (i := 2) rfl rfl rfl rfl) (da_cons de_bl da_nil rfl) rfl) rfl) rfl) rfl) rfl) rfl rfl rfl) rfl))))) (ds_one (ds_ret de_bl)) ds_nil) (ds_cons (ds_par (i := 10) (j := 11) hh.calm hh.nd rfl rfl (by decide) rfl rfl (da_cons (de_callTy tuple_ok rfl T.z_tuple PyProof.Rows.boot_tuple (da_cons (g_lc (own := [(("r" : Str), 14)]) F false hh (di_of (g_var (i := 9) rfl rfl rfl rfl)) (by show blkC ["script", "bag", "naming", "ties", "turn", "far", "number", "spots", "names", "rule", "more", "again", "bent", "n", "r"] (C8.fnScope s_law) _ [(("r" : Str), 14)] = true; decide +kernel) (by decide) (fun _ _ _ _ _ hh => (g_name (i := 14) hh rfl rfl (by first | exact .inl rfl | exact .inr rfl))) (fun _ _ _ _ _ hh => dts_nil) (fun _ _ _ _ _ hh => (de_ix (idx_ok hh.u1) (g_var (i := 9) rfl rfl rfl rfl) (g_var (i := 14) rfl rfl rfl rfl) rfl)) rfl) da_nil rfl) (by decide) rfl rfl rfl) (da_cons (g_lc (own := [(("n" : Str), 13)]) F false hh (di_of (g_var (i := 2) rfl rfl rfl rfl)) (by show blkC ["script", "bag", "naming", "ties", "turn", "far", "number", "spots", "names", "rule", "more", "again", "bent", "n", "r"] (C8.fnScope s_law) _ [(("n" : Str), 13)] = true; decide +kernel) (by decide) (fun _ _ _ _ _ hh => (g_name (i := 13) hh rfl rfl (by first | exact .inl rfl | exact .inr rfl))) (fun _ _ _ _ _ hh => dts_nil) (fun _ _ _ _ _ hh => (de_ix (idx_ok hh.u1) (g_var (i := 2) rfl rfl rfl rfl) (g_var (i := 13) rfl rfl rfl rfl) rfl)) rfl) da_nil rfl) rfl) rfl rfl) (ds_cons (ds_if (dt_not (dt_truth (de_own ((p_x_law_asked T F).own T.N__law_asked) hh (by decide) rfl (da_cons (g_var (i := 8) rfl rfl rfl rfl) (da_cons (g_var (i := 7) rfl rfl rfl rfl) (da_cons (g_var (i := 3) rfl rfl rfl rfl) (da_cons (g_var (i := 10) rfl rfl rfl rfl) (da_cons (g_var (i := 11) rfl rfl rfl rfl) (da_cons de_bl da_nil rfl) rfl) rfl) rfl) rfl) rfl) rfl rfl rfl) rfl)) (ds_one (ds_ret de_bl)) ds_nil) (ds_cons (ds_for F (passes_of rfl) hh.calm (di_rng1 rfl T.z_range (da_cons de_int da_nil rfl) rfl) (g_name (i := 4) hh rfl rfl (.inl rfl)) (ds_cons (g_set (i := 12) hh rfl rfl (de_own ((p_x_law_changed_ties T F).own T.N__law_changed_ties) hh (by decide) rfl (da_cons (g_var (i := 1) rfl rfl rfl rfl) (da_cons (g_var (i := 3) rfl rfl rfl rfl) (da_cons (g_var (i := 7) rfl rfl rfl rfl) (da_cons (g_var (i := 6) rfl rfl rfl rfl) da_nil rfl) rfl) rfl) rfl) rfl rfl rfl) rfl (.inl rfl)) (ds_one (ds_if (dt_not (dt_truth (de_own ((p_x_law_asked T F).own T.N__law_asked) hh (by decide) rfl (da_cons (g_var (i := 8) rfl rfl rfl rfl) (da_cons (g_var (i := 7) rfl rfl rfl rfl) (da_cons (g_var (i := 12) rfl rfl rfl rfl) (da_cons (g_var (i := 9) rfl rfl rfl rfl) (da_cons (g_var (i := 2) rfl rfl rfl rfl) (da_cons (de_own ((p_x_law_keeps T F).own T.N__law_keeps) hh (by decide) rfl (da_cons (g_var (i := 12) rfl rfl rfl rfl) (da_cons (g_var (i := 9) rfl rfl rfl rfl) (da_cons (g_var (i := 2) rfl rfl rfl rfl) da_nil rfl) rfl) rfl) rfl rfl rfl) da_nil rfl) rfl) rfl) rfl) rfl) rfl) rfl rfl rfl) rfl)) (ds_one (ds_ret de_bl)) ds_nil))) rfl) (ds_cons (ds_for F (passes_of rfl) hh.calm (di_of (de_lst false (da_cons (de_own ((p_x_law_undone T F).own T.N__law_undone) hh (by decide) rfl (da_cons (g_var (i := 2) rfl rfl rfl rfl) da_nil rfl) rfl rfl rfl) (da_cons (de_own ((p_x_law_swapped T F).own T.N__law_swapped) hh (by decide) rfl (da_cons (g_var (i := 1) rfl rfl rfl rfl) (da_cons (g_var (i := 2) rfl rfl rfl rfl) da_nil rfl) rfl) rfl rfl rfl) da_nil rfl) rfl))) (g_name (i := 5) hh rfl rfl (.inl rfl)) (ds_one (ds_if (dt_not (dt_truth (de_own ((p_x_law_asked T F).own T.N__law_asked) hh (by decide) rfl (da_cons (g_var (i := 8) rfl rfl rfl rfl) (da_cons (g_var (i := 7) rfl rfl rfl rfl) (da_cons (g_var (i := 3) rfl rfl rfl rfl) (da_cons (g_var (i := 9) rfl rfl rfl rfl) (da_cons (g_var (i := 5) rfl rfl rfl rfl) (da_cons (de_own ((p_x_law_keeps T F).own T.N__law_keeps) hh (by decide) rfl (da_cons (g_var (i := 3) rfl rfl rfl rfl) (da_cons (g_var (i := 9) rfl rfl rfl rfl) (da_cons (g_var (i := 5) rfl rfl rfl rfl) da_nil rfl) rfl) rfl) rfl rfl rfl) da_nil rfl) rfl) rfl) rfl) rfl) rfl) rfl rfl rfl) rfl)) (ds_one (ds_ret de_bl)) ds_nil)) rfl) (ds_cons (ds_for F (passes_of rfl) hh.calm (di_of (de_lst false (da_cons (de_callTy tuple_ok rfl T.z_tuple PyProof.Rows.boot_tuple (da_cons (de_own ((p_x_law_undone T F).own T.N__law_undone) hh (by decide) rfl (da_cons (g_var (i := 9) rfl rfl rfl rfl) da_nil rfl) rfl rfl rfl) da_nil rfl) (by decide) rfl rfl rfl) (da_cons (de_callTy tuple_ok rfl T.z_tuple PyProof.Rows.boot_tuple (da_cons (de_own ((p_x_law_swapped T F).own T.N__law_swapped) hh (by decide) rfl (da_cons (g_var (i := 1) rfl rfl rfl rfl) (da_cons (g_var (i := 9) rfl rfl rfl rfl) da_nil rfl) rfl) rfl rfl rfl) da_nil rfl) (by decide) rfl rfl rfl) (da_cons (de_tupRg1 hh.calm rfl T.z_tuple rfl T.z_range (g_var (i := 6) rfl rfl rfl rfl) rfl) da_nil rfl) rfl) rfl))) (g_name (i := 5) hh rfl rfl (.inl rfl)) (ds_one (ds_if (dt_not (dt_truth (de_own ((p_x_law_asked T F).own T.N__law_asked) hh (by decide) rfl (da_cons (g_var (i := 8) rfl rfl rfl rfl) (da_cons (g_var (i := 7) rfl rfl rfl rfl) (da_cons (g_var (i := 3) rfl rfl rfl rfl) (da_cons (g_var (i := 5) rfl rfl rfl rfl) (da_cons (g_var (i := 2) rfl rfl rfl rfl) (da_cons (de_own ((p_x_law_keeps T F).own T.N__law_keeps) hh (by decide) rfl (da_cons (g_var (i := 3) rfl rfl rfl rfl) (da_cons (g_var (i := 5) rfl rfl rfl rfl) (da_cons (g_var (i := 2) rfl rfl rfl rfl) da_nil rfl) rfl) rfl) rfl rfl rfl) da_nil rfl) rfl) rfl) rfl) rfl) rfl) rfl rfl rfl) rfl)) (ds_one (ds_ret de_bl)) ds_nil)) rfl) (ds_one (ds_ret (de_own ((p_x_law_odd_ones T F).own T.N__law_odd_ones) hh (by decide) rfl (da_cons (g_var (i := 8) rfl rfl rfl rfl) (da_cons (g_var (i := 7) rfl rfl rfl rfl) (da_cons (g_var (i := 3) rfl rfl rfl rfl) (da_cons (g_var (i := 9) rfl rfl rfl rfl) (da_cons (g_var (i := 2) rfl rfl rfl rfl) da_nil rfl) rfl) rfl) rfl) rfl) rfl rfl rfl))))))))))))))
end
end K80
end
section
set_option Elab.async false
set_option linter.all false
set_option maxRecDepth 1000000
set_option maxHeartbeats 4000000
namespace K80
open PySem PySem.Spec L2 Iv

def Bag (B : D) : Prop := ∃ (cs : List Int) (i z m k : Int), B = .lst [.lst (cs.map .int), .int i, .int z, .int m, .int k] ∧ 0 ≤ i ∧ 0 ≤ z ∧ 0 ≤ m ∧ m < 2147483648
theorem w_draw (F : Nat) {B : D} {ν : Mu} {b : Int} {Q : R D → Mu → Prop} (hB : Bag B) (hb : 0 < b) (hb2 : b < 1073741824) (h : ∀ r B', Bag B' → 0 ≤ r → r < b → Q (.ok (.int r)) (B' :: ν)) : wM (r_x_law_draw F [.cell 0, .int b] (B :: ν)) Q := by
  obtain ⟨cs, i, z, m, k, rfl, hi, hz, hm, hm2⟩ := hB
  unfold r_x_law_draw
  rw [w_fn]
  unfold b_x_law_draw
  have seed : ∀ n : Int, 0 ≤ n → n < 2147483648 → (-18446744073709551616 < n ∧ n < 18446744073709551616) := fun n h1 h2 => by omega
  have fs : ∀ (d e : D), finD false (ν.length + 1) d (e :: ν) = some (d, e :: ν) := fun d e => fin_same rfl
  by_cases hz0 : z = 0
  · subst hz0
    by_cases hil : i < cs.length
    · have hg : cs[i.toNat]? = some (cs[i.toNat]'(by omega)) := List.getElem?_eq_getElem (by omega)
      obtain ⟨c, hc0⟩ : ∃ c : Int, atD (cs.map D.int) i = some (.int c) := ⟨_, atD_pos hi (by rw [List.getElem?_map, hg]; rfl)⟩
      have hmod : ∀ x : Int, 0 ≤ x % 2147483587 ∧ x % 2147483587 < 2147483648 := fun x => ⟨Int.emod_nonneg _ (by omega), Int.lt_trans (Int.emod_lt_of_pos _ (by omega)) (by omega)⟩
      have e18 : (10 : Int) ^ 18 = 1000000000000000000 := by decide
      obtain ⟨a, ha, ha0⟩ : ∃ a : Int, (if c < 0 then -c else c) = a ∧ 0 ≤ a := ⟨_, rfl, by split <;> omega⟩
      by_cases hc : (1000000000000000000 : Int) ≤ a
      · have hap : 0 < a := by omega
        have hn : ¬ a = 0 := by omega
        simp [ixN, hil, hc0, hb, hb2, ha, hc, hap, hn, fs]
        exact h _ _ ⟨cs, i + 1, a / b, m, _, rfl, by omega, Int.ediv_nonneg ha0 (by omega), hm, hm2⟩ (Int.emod_nonneg _ (by omega)) (Int.emod_lt_of_pos _ hb)
      · have hs := fun x => seed _ (hmod x).1 (hmod x).2
        simp [ixN, hil, hc0, hb, hb2, ha, hc, hs, fs]
        refine h _ _ ⟨cs, i + 1, 0, _, _, rfl, by omega, by omega, Int.emod_nonneg _ (by omega), ?_⟩ (Int.emod_nonneg _ (by omega)) (Int.emod_lt_of_pos _ hb)
        exact Int.lt_trans (Int.emod_lt_of_pos _ (by omega)) (by omega)
    · have := seed m hm hm2
      simp [ixN, hil, hb, hb2, this, fs]
      refine h _ _ ⟨cs, i, 0, _, _, rfl, hi, by omega, Int.emod_nonneg _ (by omega), ?_⟩ (Int.emod_nonneg _ (by omega)) (Int.emod_lt_of_pos _ hb)
      exact Int.lt_trans (Int.emod_lt_of_pos _ (by omega)) (by omega)
  · have hzp : 0 < z := by omega
    simp [ixN, hz0, hzp, hb, hb2, fs]
    exact h _ _ ⟨cs, i, z / b, m, _, rfl, hi, Int.ediv_nonneg hz (by omega), hm, hm2⟩ (Int.emod_nonneg _ (by omega)) (Int.emod_lt_of_pos _ hb)
end K80
end
section
set_option Elab.async false
set_option linter.all false
set_option maxHeartbeats 4000000
namespace K80
open PySem PySem.Spec L2 Iv

theorem fs {ν : Mu} (d e : D) : finD false (ν.length + 1) d (e :: ν) = some (d, e :: ν) := fin_same rfl
theorem w_bag (F : Nat) {ns : List Int} {Q : R D → Mu → Prop} (h : ∀ B, Bag B → Q (.ok (.cell 0)) [B]) : wM (r_x_law_bag F [.script ns] []) Q := by
  unfold r_x_law_bag
  rw [w_fn]
  obtain ⟨bl, hbl⟩ : ∃ bl, ([] : Mu).length = bl := ⟨_, rfl⟩
  rw [hbl]
  unfold b_x_law_bag
  simp [slO, lstOfS]
  refine w_forS (fun i δ μ => ∃ (m : Int) (x : Option D), μ = [] ∧ δ = [some (.script ns), some (.int m), x] ∧ 0 ≤ m ∧ m < 2147483648) ⟨16187, none, rfl, rfl, by omega, by omega⟩ ?_ ?_
  · rintro i d δ μ hi ⟨m, x, rfl, rfl, h1, h2⟩
    obtain ⟨j, rfl⟩ : ∃ j, d = .int j := by
      have := List.mem_of_getElem? hi
      unfold cutL at this
      have := List.mem_of_mem_drop (List.mem_of_mem_take this)
      obtain ⟨j, _, rfl⟩ := List.mem_map.mp this
      exact ⟨j, rfl⟩
    simp
    exact ⟨Int.emod_nonneg _ (by omega), Int.lt_trans (Int.emod_lt_of_pos _ (by omega)) (by omega)⟩
  · rintro δ μ ⟨m, x, rfl, rfl, h1, h2⟩
    have e : cutL (ns.map D.int) none (some 63) = (cutL ns none (some 63)).map D.int := by
      unfold cutL
      rw [List.length_map, ← List.map_drop, ← List.map_take]
    have e2 : slO false (.script ns) none (some 63) [] = some (.lst ((cutL ns none (some 63)).map D.int), []) := by
      rw [← e]; rfl
    generalize cutL ns none (some 63) = cs at e2
    simp [e2]
    have e3 : lstMk true [.lst (cs.map D.int), .int 0, .int 0, .int m, .int 0] [] = some (.cell 0, [.lst [.lst (cs.map D.int), .int 0, .int 0, .int m, .int 0]]) := lst_mk (by show 5 ≤ LIM; decide)
    simp [e3]
    have pl : [D.lst (cs.map D.int), D.int 0, D.int 0, D.int m, D.int 0].all (pln 5) = true := by
      simp [pln]
    have hbl' : bl = 0 := hbl.symm
    subst hbl'
    have k := fin_keep (b := 0) (n := 5) (ν := []) (ξ := [D.lst [.lst (cs.map D.int), .int 0, .int 0, .int m, .int 0]]) (k := 0) rfl rfl (Nat.le_refl _) rfl pl
    rw [List.nil_append] at k
    rw [k]
    exact h _ ⟨cs, 0, 0, m, 0, rfl, by omega, by omega, h1, h2⟩
theorem w_of (F : Nat) {B : D} {ν : Mu} {ds : List D} {Q : R D → Mu → Prop} (hB : Bag B) (h0 : ds ≠ []) (hl : ds.length < 1073741824) (h : ∀ d B', Bag B' → d ∈ ds → Q (.ok d) (B' :: ν)) : wM (r_x_law_of F [.cell 0, .lst ds] (B :: ν)) Q := by
  have hp := List.length_pos_iff.mpr h0
  unfold r_x_law_of
  rw [w_fn]
  unfold b_x_law_of
  simp
  refine w_draw F hB (by omega) (by omega) fun r B' hB' h1 h2 => ?_
  simp [at_pos h1 h2, fs]
  exact h _ _ hB' (List.getElem_mem _)
theorem w_ofS (F : Nat) {B : D} {ν : Mu} {x : Str} {Q : R D → Mu → Prop} (hB : Bag B) (h0 : 0 < x.length) (hl : x.length ≤ 1000) (h : ∀ (c : Nat) B', Bag B' → c ∈ x.cps.toList → Q (.ok (.str ⟨#[c]⟩)) (B' :: ν)) : wM (r_x_law_of F [.cell 0, .str x] (B :: ν)) Q := by
  have hx : x.length = x.cps.toList.length := by simp [PySem.Str.length]
  unfold r_x_law_of
  rw [w_fn]
  unfold b_x_law_of
  simp [o_lenS (show x.length ≤ LIM by unfold LIM; omega)]
  refine w_draw F hB (by omega) (by omega) fun r B' hB' h1 h2 => ?_
  have hr : r.toNat < x.cps.toList.length := by omega
  have e : atI x.cps.toList r = some (x.cps.toList[r.toNat]) := by
    unfold atI
    rw [ixN_pos h1 (by omega)]
    exact List.getElem?_eq_getElem hr
  have e2 : idxO (.str x) (.int r) (B' :: ν) = some (.str ⟨#[x.cps.toList[r.toNat]]⟩, B' :: ν) := by
    show (if x.length ≤ LIM then (match atI x.cps.toList r with
      | some c => some (D.str ⟨#[c]⟩, B' :: ν)
      | none => none) else none) = _
    rw [if_pos (by unfold LIM; omega), e]
  simp [e2, fs]
  exact h _ _ hB' (by have := List.getElem_mem hr; simpa using this)
end K80
end
section
set_option Elab.async false
set_option linter.all false
set_option maxHeartbeats 4000000
namespace K80
open PySem PySem.Spec L2 Iv

theorem bag_pln {B : D} (h : Bag B) : pln 5 B = true := by
  obtain ⟨cs, i, z, m, k, rfl, _⟩ := h
  simp [pln]
theorem lt_rng {j : Int} {i : Nat} {d : D} (h : (rngD 0 j.toNat)[i]? = some d) : i < j.toNat ∧ d = .int i := by
  unfold rngD at h
  rw [List.getElem?_map] at h
  have hi : i < j.toNat := by
    have := (List.getElem?_eq_some_iff.mp (Option.map_eq_some_iff.mp h).choose_spec.1).1
    simpa using this
  rw [List.getElem?_range hi] at h
  refine ⟨hi, ?_⟩
  have := Option.some.inj h
  rw [← this]
  simp
theorem erase_perm {α : Type} : ∀ (L : List α) (i : Nat) (h : i < L.length), (L[i] :: L.eraseIdx i).Perm L
  | [], i, h => absurd h (Nat.not_lt_zero _)
  | x :: L, 0, h => List.Perm.refl _
  | x :: L, i + 1, h => by
    have ih := erase_perm L i (by simpa using h)
    show (L[i]'(by simpa using h) :: x :: L.eraseIdx i).Perm (x :: L)
    exact (List.Perm.swap _ _ _).trans (ih.cons x)
theorem w_pick (F : Nat) {B : D} {ν : Mu} {ds : List D} {n : Nat} {Q : R D → Mu → Prop} (hB : Bag B) (hν : ν.all (pln 12) = true) (hd : ds.all (pln 11) = true) (hl : ds.length < 100000) (hn : n < 100000)
    (h : ∀ (fd rest : List D) B', Bag B' → (fd ++ rest).Perm ds → fd.length = min n ds.length → Q (.ok (.lst fd)) (B' :: ν)) : wM (r_x_law_pick F [.cell 0, .lst ds, .int n] (B :: ν)) Q := by
  unfold r_x_law_pick
  rw [w_fn]
  unfold b_x_law_pick
  have e0 : lstMk true [] ((B :: ν) ++ [D.lst ds]) = some (.cell ((B :: ν) ++ [D.lst ds]).length, ((B :: ν) ++ [D.lst ds]) ++ [.lst []]) := lst_mk (by show 0 ≤ LIM; decide)
  have e1 : ∀ B' L Fd, lenO [.cell (ν.length + 1)] (B' :: (ν ++ [D.lst L, D.lst Fd])) = some (.int (L.length : Nat), B' :: (ν ++ [D.lst L, D.lst Fd])) := fun B' L Fd => o_lenC (ds := L) (by
    rw [List.getElem?_cons_succ, List.getElem?_append_right (Nat.le_refl _), Nat.sub_self]; rfl)
  have e0' : lstMk true [] (B :: (ν ++ [D.lst ds])) = some (.cell (ν.length + 2), B :: (ν ++ [D.lst ds, D.lst []])) := by
    have := e0
    simpa using this
  have hm : (if ds.length < n then (ds.length : Int) else n) = ((min n ds.length : Nat) : Int) := by
    split <;> omega
  have e2 : rng1 [.int ((min n ds.length : Nat) : Int)] (B :: (ν ++ [D.lst ds, D.lst []])) = some (.ok (.stat (rngD 0 ((min n ds.length : Nat) : Int).toNat)), B :: (ν ++ [D.lst ds, D.lst []])) := s_rng1 (by unfold LIM; omega)
  simp only [w_seq, w_par, w_cons, w_opL, w_var, List.map_cons, List.map_nil, List.cons_append, List.nil_append, List.replicate, List.getElem?_cons_succ, List.getElem?_cons_zero, kC_ok, w_nil, kCb_ok, kL_ok]
  simp [e0', e1]
  rw [hm, e2, wM_some, forK_ok]
  have mn : min n ds.length ≤ ds.length := Nat.min_le_right _ _
  have tn : (((min n ds.length : Nat) : Int)).toNat = min n ds.length := Int.toNat_natCast _
  obtain ⟨I, hI⟩ : ∃ I : Nat → Sg → Mu → Prop, I = fun i δ μ => ∃ (B' : D) (L Fd : List D) (x : Option D), Bag B' ∧ μ = B' :: (ν ++ [D.lst L, D.lst Fd]) ∧ δ = [some (D.cell 0), some (D.lst ds), some (D.int n), x, some (D.cell (ν.length + 1)), some (D.cell (ν.length + 2))] ∧ (Fd ++ L).Perm ds ∧ Fd.length = i := ⟨_, rfl⟩
  refine w_forS I (by rw [hI]; exact ⟨B, ds, [], none, hB, rfl, rfl, List.Perm.refl _, rfl⟩) ?_ ?_
  · intro i d δ μ hi hh
    rw [hI] at hh
    obtain ⟨B', L, Fd, x, hB', rfl, rfl, hp, hf⟩ := hh
    obtain ⟨hi1, rfl⟩ := lt_rng hi
    rw [tn] at hi1
    have hlen : Fd.length + L.length = ds.length := by rw [← List.length_append]; exact hp.length_eq
    have tc : hasTy "list" (.cell (ν.length + 2)) (B' :: (ν ++ [D.lst L, D.lst Fd])) = true := ty_cell (ds := Fd) (by
      rw [List.getElem?_cons_succ, List.getElem?_append_right (by omega), Nat.add_sub_cancel_left]; rfl)
    have tl : hasTy "list" (.cell (ν.length + 1)) (B' :: (ν ++ [D.lst L, D.lst Fd])) = true := ty_cell (ds := L) (by
      rw [List.getElem?_cons_succ, List.getElem?_append_right (Nat.le_refl _), Nat.sub_self]; rfl)
    simp [tc, tl, e1]
    refine w_draw F hB' (by omega) (by omega) fun r B2 hB2 h1 h2 => ?_
    have hr : r.toNat < L.length := by omega
    have pp : popO (.cell (ν.length + 1)) [.int r] (B2 :: (ν ++ [D.lst L, D.lst Fd])) = some (L[r.toNat], B2 :: (ν ++ [D.lst (L.eraseIdx r.toNat), D.lst Fd])) := by
      have := o_pop (μ := B2 :: (ν ++ [D.lst L, D.lst Fd])) (n := ν.length + 1) (ds := L) (i := r) (d := L[r.toNat]) (by
        rw [List.getElem?_cons_succ, List.getElem?_append_right (Nat.le_refl _), Nat.sub_self]; rfl) h1 (by unfold LIM; omega) (List.getElem?_eq_getElem hr)
      rw [this, List.set_cons_succ, List.set_append_right _ _ (Nat.le_refl _), Nat.sub_self]
      rfl
    have ap : appendO (.cell (ν.length + 2)) [L[r.toNat]] (B2 :: (ν ++ [D.lst (L.eraseIdx r.toNat), D.lst Fd])) = some (.non, B2 :: (ν ++ [D.lst (L.eraseIdx r.toNat), D.lst (Fd ++ [L[r.toNat]])])) := by
      have := o_app (μ := B2 :: (ν ++ [D.lst (L.eraseIdx r.toNat), D.lst Fd])) (n := ν.length + 2) (ds := Fd) (d := L[r.toNat]) (by
        rw [List.getElem?_cons_succ, List.getElem?_append_right (by omega), Nat.add_sub_cancel_left]; rfl) (by unfold LIM; omega)
      rw [this, List.set_cons_succ, List.set_append_right _ _ (by omega), Nat.add_sub_cancel_left]
      rfl
    simp [pp, ap]
    rw [hI]
    refine ⟨B2, L.eraseIdx r.toNat, Fd ++ [L[r.toNat]], some (D.int i), hB2, rfl, rfl, ?_, by simp [hf]⟩
    refine List.Perm.trans ?_ hp
    rw [List.append_assoc]
    exact List.Perm.append_left _ (erase_perm L _ hr)
  · intro δ μ hh
    rw [hI] at hh
    obtain ⟨B', L, Fd, x, hB', rfl, rfl, hp, hf⟩ := hh
    rw [show (rngD 0 (((min n ds.length : Nat) : Int)).toNat).length = min n ds.length by unfold rngD; rw [List.length_map, List.length_range, tn]] at hf
    have fc := fin_cell (b := ν.length + 1) (n := 12) (ds := Fd) (ν := B' :: ν) (ξ := [D.lst L, D.lst Fd]) (k := ν.length + 2) rfl (by
      rw [List.all_cons, Bool.and_eq_true]
      exact ⟨pln_up 5 12 _ (by omega) (bag_pln hB'), hν⟩) (by omega) (by
        rw [List.cons_append, List.getElem?_cons_succ, List.getElem?_append_right (by omega), Nat.add_sub_cancel_left]; rfl) (List.all_eq_true.mpr fun e he => List.all_eq_true.mp hd e (hp.mem_iff.mp (List.mem_append_left _ he)))
    rw [List.cons_append] at fc
    simp [fc]
    exact h Fd L B' hB' hp hf
end K80
end
section
set_option Elab.async false
set_option linter.all false
set_option maxHeartbeats 4000000
namespace K80
open PySem PySem.Spec L2 Iv

structure T where
  s : Nat
  t : Nat
  w : List Nat
  c : Int
  deriving DecidableEq
abbrev dN (n : Nat) : D := .int (n : Nat)
def dW (w : List Nat) : D := .tup (w.map dN)
def dT (t : T) : D := .tup [dN t.s, dN t.t, dW t.w, .int t.c]
structure OkT (sp nu : Nat) (t : T) : Prop where
  os : t.s < sp
  ot : t.t < sp
  ow : ∀ x ∈ t.w, x < nu
  oc : t.c ≠ 0
  ol : t.w.length ≤ 20
theorem dW_pln (w : List Nat) : pln 2 (dW w) = true := by
  unfold dW pln
  simp [pln]
theorem dT_pln (t : T) : pln 3 (dT t) = true := by
  simp [dT, dW, pln]
theorem w_word (F : Nat) {B : D} {ν : Mu} {nu lo : Nat} {Q : R D → Mu → Prop} (hB : Bag B) (hν : ν.all (pln 12) = true) (h0 : 0 < nu) (h1 : nu < 1000) (h2 : lo < 1000)
    (h : ∀ (w : List Nat) B', Bag B' → (∀ x ∈ w, x < nu) → w.length ≤ lo → Q (.ok (dW w)) (B' :: ν)) : wM (r_x_law_word F [.cell 0, dN nu, dN lo] (B :: ν)) Q := by
  unfold r_x_law_word
  rw [w_fn]
  unfold b_x_law_word
  simp
  refine w_draw F hB (by omega) (by omega) fun r B1 hB1 r1 r2 => ?_
  have e2 : rng1 [.int r] (B1 :: ν) = some (.ok (.stat (rngD 0 r.toNat)), B1 :: ν) := s_rng1 (by unfold LIM; omega)
  simp [e2]
  obtain ⟨I, hI⟩ : ∃ I : Nat → List D → Mu → Prop, I = fun i acc μ => ∃ (B' : D) (w : List Nat), Bag B' ∧ μ = B' :: ν ∧ acc = w.map dN ∧ (∀ x ∈ w, x < nu) ∧ w.length = i := ⟨_, rfl⟩
  refine w_lcS I (by rw [hI]; exact ⟨B1, [], hB1, rfl, rfl, by simp, rfl⟩) ?_ ?_
  · intro i d acc μ hi hh _
    rw [hI] at hh
    obtain ⟨B', w, hB', rfl, rfl, hw, hl⟩ := hh
    obtain ⟨hi1, rfl⟩ := lt_rng hi
    simp [wipeG]
    refine w_draw F hB' (by omega) (by omega) fun q B2 hB2 q1 q2 => ?_
    obtain ⟨n, rfl⟩ : ∃ n : Nat, q = n := ⟨q.toNat, by omega⟩
    rw [lcE_ok]
    refine ⟨by rw [List.length_map]; unfold LIM; omega, B2 :: ν, rfl, rfl, ?_⟩
    rw [hI]
    refine ⟨B2, w ++ [n], hB2, rfl, by simp, fun x hx => ?_, by simp [hl]⟩
    rcases List.mem_append.mp hx with z | z
    · exact hw x z
    · have := List.mem_singleton.mp z
      omega
  · intro acc μ hh _
    rw [hI] at hh
    obtain ⟨B', w, hB', rfl, rfl, hw, hl⟩ := hh
    have pl : (B' :: ν).all (pln 12) = true := by
      rw [List.all_cons, Bool.and_eq_true]
      exact ⟨pln_up 5 12 _ (by omega) (bag_pln hB'), hν⟩
    have pw : (w.map dN).all (pln 2) = true := by simp [pln]
    refine ⟨bndL_pln pl, bndL_pln pw, ?_⟩
    have hl2 : w.length ≤ lo := by
      rw [hl]
      unfold rngD
      rw [List.length_map, List.length_range]
      omega
    simp [fs]
    exact h w B' hB' hw hl2
theorem w_strength (F : Nat) {B : D} {ν : Mu} {Q : R D → Mu → Prop} (hB : Bag B) (h : ∀ (c : Int) B', Bag B' → c ≠ 0 → Q (.ok (.int c)) (B' :: ν)) : wM (r_x_law_strength F [.cell 0] (B :: ν)) Q := by
  unfold r_x_law_strength
  rw [w_fn]
  unfold b_x_law_strength
  simp
  refine w_draw F hB (by omega) (by omega) fun r B1 hB1 r1 r2 => ?_
  have e2 : lstMk false [.int 1, .int (-1)] (B1 :: ν) = some (.lst [.int 1, .int (-1)], B1 :: ν) := lst_mk (by show 2 ≤ LIM; decide)
  have e6 : lstMk false [.int 1, .int (-1), .int 2, .int 3, .int (-2), .int (-3)] (B1 :: ν) = some (.lst [.int 1, .int (-1), .int 2, .int 3, .int (-2), .int (-3)], B1 :: ν) := lst_mk (by show 6 ≤ LIM; decide)
  by_cases hr : r = 11
  · simp [hr, e2]
    refine w_of F hB1 (by simp) (by simp) fun d B2 hB2 hd => ?_
    simp
    refine w_draw F hB2 (by omega) (by omega) fun q B3 hB3 q1 q2 => ?_
    have : d = .int 1 ∨ d = .int (-1) := by simpa using hd
    rcases this with rfl | rfl
    · simp [fs]
      exact h _ _ hB3 (by omega)
    · simp [fs]
      exact h _ _ hB3 (by omega)
  · simp [hr, e6]
    refine w_of F hB1 (by simp) (by simp) fun d B2 hB2 hd => ?_
    simp [fs]
    have : d = .int 1 ∨ d = .int (-1) ∨ d = .int 2 ∨ d = .int 3 ∨ d = .int (-2) ∨ d = .int (-3) := by simpa using hd
    rcases this with rfl | rfl | rfl | rfl | rfl | rfl
    all_goals exact h _ _ hB2 (by omega)
end K80
end
section
set_option Elab.async false
set_option linter.all false
set_option maxHeartbeats 4000000
namespace K80
open PySem PySem.Spec L2 Iv

/-! ### the order of ties -/
theorem cmpL_cons {le : Bool} {x y : D} {xs ys : List D} (h : ∃ r, cmpD le x y = some r) (k : ∃ r, cmpL le xs ys = some r) : ∃ r, cmpL le (x :: xs) (y :: ys) = some r := by
  obtain ⟨r, h⟩ := h
  obtain ⟨q, k⟩ := k
  by_cases e : eqD x y = true
  · exact ⟨q, by rw [cmpL, k]; simp [e]⟩
  · exact ⟨r, by rw [cmpL, k]; simp [e, h]⟩
theorem cmpI {le : Bool} {i j : Int} : ∃ r, cmpD le (.int i) (.int j) = some r := ⟨_, by rw [cmpD]⟩
theorem cmpL_nat (le : Bool) : ∀ xs ys : List Nat, ∃ r, cmpL le (xs.map dN) (ys.map dN) = some r
  | [], [] => ⟨_, by simp only [List.map_nil]; rw [cmpL]⟩
  | [], _ :: _ => ⟨true, by simp only [List.map_nil, List.map_cons]; rw [cmpL]⟩
  | _ :: _, [] => ⟨false, by simp only [List.map_nil, List.map_cons]; rw [cmpL]⟩
  | x :: xs, y :: ys => cmpL_cons cmpI (cmpL_nat le xs ys)
theorem cmp_dT (le : Bool) (a b : T) : ∃ r, cmpD le (dT a) (dT b) = some r := by
  have : ∃ r, cmpL le [dN a.s, dN a.t, dW a.w, .int a.c] [dN b.s, dN b.t, dW b.w, .int b.c] = some r :=
    cmpL_cons cmpI (cmpL_cons cmpI (cmpL_cons (by
      obtain ⟨r, h⟩ := cmpL_nat le a.w b.w
      exact ⟨r, by unfold dW; rw [cmpD]; exact h⟩) (cmpL_cons cmpI ⟨le, by rw [cmpL]⟩)))
  obtain ⟨r, h⟩ := this
  exact ⟨r, by unfold dT; rw [cmpD]; exact h⟩
theorem srt_dT (a : T) : srt (dT a) = true := by
  have : ∀ w : List Nat, srtL (w.map dN) = true := fun w => by
    induction w with
    | nil => rfl
    | cons x w ih => rw [List.map_cons, srtL, ih]; rfl
  unfold dT dW
  simp only [srt, srtL, this, Bool.and_self]
mutual
theorem cmp_true : ∀ a b : D, srt a = true → srt b = true → cmpD true a b = (cmpD false b a).map (fun x => !x)
  | .int i, .int j, _, _ => by
    rw [cmpD, cmpD]
    simp
    by_cases h : i ≤ j
    · simp [h]
    · simp [h]
      omega
  | .int _, .tup _, _, _ => by simp [cmpD]
  | .tup _, .int _, _, _ => by simp [cmpD]
  | .tup xs, .tup ys, h, k => by
    unfold srt at h k
    rw [cmpD, cmpD]
    exact cmpL_true xs ys h k
theorem cmpL_true : ∀ a b : List D, srtL a = true → srtL b = true → cmpL true a b = (cmpL false b a).map (fun x => !x)
  | [], [], _, _ => by simp [cmpL]
  | [], _ :: _, _, _ => by simp [cmpL]
  | _ :: _, [], _, _ => by simp [cmpL]
  | x :: xs, y :: ys, h, k => by
    unfold srtL at h k
    rw [Bool.and_eq_true] at h k
    have i1 := cmp_true x y h.1 k.1
    have i2 := cmpL_true xs ys h.2 k.2
    rw [cmpL, cmpL, i2]
    have sym : eqD x y = eqD y x := by
      by_cases e : eqD x y = true
      · have := srt_eq x y h.1 k.1 e
        rw [this]
      · by_cases e2 : eqD y x = true
        · have := srt_eq y x k.1 h.1 e2
          rw [this]
        · rw [Bool.not_eq_true] at e e2
          rw [e, e2]
    cases cmpL false ys xs with
    | none => rfl
    | some r =>
      simp only [Option.map_some]
      rw [sym, i1]
      by_cases e : eqD y x = true
      · simp [e]
      · simp [e]
end
def ltT (a b : T) : Bool := lexI (codeD (dT a)) (codeD (dT b))
theorem cmp_lt (a b : T) : cmpD false (dT a) (dT b) = some (ltT a b) := by
  obtain ⟨r, h⟩ := cmp_dT false a b
  rw [h]
  have k := code_cmp (dT a) (dT b) r [] [] (srt_dT a) (srt_dT b) h
  rw [List.append_nil, List.append_nil] at k
  show some r = some (lexI (code (pd (dT a))) (code (pd (dT b))))
  rw [k]
  by_cases e : eqD (dT a) (dT b) = true
  · rw [if_pos e]
    have := srt_eq _ _ (srt_dT a) (srt_dT b) e
    rw [← this] at h
    have s := srt_dT a
    unfold dT at h s
    rw [cmpD] at h
    unfold srt at s
    rw [cmpL_self _ r s h]
    rfl
  · rw [if_neg e]
theorem cmp_le (a b : T) : cmpD true (dT a) (dT b) = some (!ltT b a) := by
  rw [cmp_true _ _ (srt_dT a) (srt_dT b), cmp_lt]
  rfl
theorem dT_inj {a b : T} (h : dT a = dT b) : a = b := by
  obtain ⟨s, t, w, c⟩ := a
  obtain ⟨s', t', w', c'⟩ := b
  have wi : ∀ x y : List Nat, x.map dN = y.map dN → x = y := by
    intro x
    induction x with
    | nil => intro y h; cases y with
      | nil => rfl
      | cons => simp at h
    | cons a x ih =>
      intro y h
      cases y with
      | nil => simp at h
      | cons b y =>
        simp only [List.map_cons, List.cons.injEq, D.int.injEq, Int.natCast_inj] at h
        rw [h.1, ih y h.2]
  unfold dT dW at h
  simp only [D.tup.injEq, List.cons.injEq, D.int.injEq, Int.natCast_inj] at h
  obtain ⟨h1, h2, h3, h4, _⟩ := h
  rw [h1, h2, wi _ _ h3, h4]
theorem ltT_tot {a b : T} (h : ltT a b = false) (k : ltT b a = false) : a = b :=
  dT_inj (code_inj (srt_dT a) (srt_dT b) (cmp_lt a b) ⟨_, cmp_lt b a⟩ (lexI_tot _ _ h k))
def far (t : T) : T := ⟨t.t, t.s, t.w.reverse, t.c⟩
theorem far_far (t : T) : far (far t) = t := by
  obtain ⟨s, x, w, c⟩ := t
  simp [far]
def rd (t : T) : T := if ltT (far t) t = true then far t else t
theorem rd_far (t : T) : rd (far t) = rd t := by
  unfold rd
  rw [far_far]
  by_cases h : ltT (far t) t = true
  · have k : ltT t (far t) = false := lexI_asym _ _ h
    rw [if_pos h, if_neg (by rw [k]; decide)]
  · rw [if_neg h]
    by_cases k : ltT t (far t) = true
    · rw [if_pos k]
    · rw [if_neg k]
      exact ltT_tot (by simpa using h) (by simpa using k)
def nth (l : List Nat) (i : Nat) : Nat := l.getD i 0
def mv (rule naming : List Nat) (t : T) : T := ⟨nth naming t.s, nth naming t.t, t.w.map fun x => nth rule x, t.c⟩
theorem mv_far (rule naming : List Nat) (t : T) : mv rule naming (far t) = far (mv rule naming t) := by
  obtain ⟨s, x, w, c⟩ := t
  simp [far, mv]
theorem shp_dW (w : List Nat) : shpL 7 (w.map dN) = true := by
  rw [shpL_eq_all]
  simp [shp]
theorem shp_dT (t : T) : shp DEEP (dT t) = true := by
  show shp 9 (dT t) = true
  have h : shp 8 (dW t.w) = true := by
    unfold dW
    rw [shp_tup]
    exact shp_dW t.w
  unfold dT
  rw [shp_tup]
  simp only [shpL, h, shp, Bool.and_self]
theorem at_dN {l : List Nat} {i : Nat} (h : i < l.length) : atD (l.map dN) (i : Int) = some (dN (nth l i)) := by
  refine atD_nat ?_
  unfold nth
  rw [List.getElem?_map, List.getElem?_eq_getElem h, List.getD_eq_getElem?_getD, List.getElem?_eq_getElem h]
  rfl
theorem fsame {μ : Mu} (d : D) : finD false μ.length d μ = some (d, μ) := fin_same rfl
theorem w_read (F : Nat) {μ : Mu} {t : T} {Q : R D → Mu → Prop} (h : Q (.ok (dT (rd t))) μ) : wM (r_x_law_read F [dT t] μ) Q := by
  unfold r_x_law_read
  rw [w_fn]
  unfold b_x_law_read
  have e1 : ∀ i : Int, idxO (dT t) (.int i) μ = wA (atD [dN t.s, dN t.t, dW t.w, .int t.c] i) μ := fun i => rfl
  have e2 : revO false (dW t.w) μ = some (dW t.w.reverse, μ) := by
    show some (D.tup (t.w.map dN).reverse, μ) = _
    rw [← List.map_reverse]
    rfl
  have e3 : tupMk [dN t.t, dN t.s, dW t.w.reverse, .int t.c] μ = some (dT (far t), μ) := tup_mk (by show 4 ≤ LIM; decide)
  have e4 : ordO true (dT t) (dT (far t)) μ = some (.bl (!ltT (far t) t), μ) := by
    unfold ordO
    rw [if_pos ⟨shp_dT t, shp_dT (far t)⟩, cmp_le]
  simp [e1, e2, e3, e4]
  unfold rd at h
  by_cases k : ltT (far t) t = true
  · rw [if_pos k] at h
    simp [k, fsame]
    exact h
  · rw [if_neg k] at h
    have k' : ltT (far t) t = false := by simpa using k
    simp [k', fsame]
    exact h
theorem w_moved (F : Nat) {μ : Mu} {t : T} {rule naming : List Nat} {Q : R D → Mu → Prop} (hμ : μ.all (pln 12) = true) (ht : OkT naming.length rule.length t) (h : Q (.ok (dT (mv rule naming t))) μ) : wM (r_x_law_moved F [dT t, dW rule, .lst (naming.map dN)] μ) Q := by
  unfold r_x_law_moved
  rw [w_fn]
  unfold b_x_law_moved
  have e1 : ∀ (μ : Mu) (i : Int), idxO (dT t) (.int i) μ = wA (atD [dN t.s, dN t.t, dW t.w, .int t.c] i) μ := fun μ i => rfl
  have es := at_dN (l := naming) ht.os
  have et := at_dN (l := naming) ht.ot
  have e3 : tupMk [dN (nth naming t.s), dN (nth naming t.t), dW (t.w.map fun x => nth rule x), .int t.c] μ = some (dT (mv rule naming t), μ) := tup_mk (by show 4 ≤ LIM; decide)
  have ew : srcD (dW t.w) μ = some (.ok (.stat (t.w.map dN)), μ) := rfl
  simp [e1, es, et, ew]
  refine w_lcM (fun d => match d with
    | .int i => dN (nth rule i.toNat)
    | _ => .non) (by rw [List.length_map]; have := ht.ol; unfold LIM; omega) ?_ (bndL_pln hμ) ?_ ?_
  · intro d acc K hd hK
    obtain ⟨x, hx, rfl⟩ := List.mem_map.mp hd
    have er := at_dN (l := rule) (ht.ow x hx)
    have e2 : ∀ ν : Mu, idxO (dW rule) (dN x) ν = wA (atD (rule.map dN) (x : Int)) ν := fun ν => rfl
    simp at hK
    simp [wipeG, e2, er]
    exact hK
  · refine bndL_pln (n := 2) (List.all_eq_true.mpr fun d hd => ?_)
    obtain ⟨e, he, rfl⟩ := List.mem_map.mp hd
    obtain ⟨x, hx, rfl⟩ := List.mem_map.mp he
    rfl
  · have el : (t.w.map dN).map (fun d => match d with
      | .int i => dN (nth rule i.toNat)
      | _ => .non) = (t.w.map fun x => nth rule x).map dN := by
      rw [List.map_map, List.map_map]
      refine List.map_congr_left fun x _ => ?_
      simp
    rw [el]
    have e4 : tupleO [.lst ((t.w.map fun x => nth rule x).map dN)] μ = some (dW (t.w.map fun x => nth rule x), μ) := rfl
    simp only [kL_ok, kC_ok, w_nil, kCb_ok, e4, wO_some, okQ_at]
    simp [e1, e3, fsame]
    exact h
end K80
end
section
set_option Elab.async false
set_option linter.all false
set_option maxHeartbeats 4000000
namespace K80
open PySem PySem.Spec L2 Iv

abbrev SrtdT (l : List T) : Prop := l.Pairwise fun a b => ltT b a = false
theorem at_end {μ : Mu} {d : D} : (μ ++ [d])[μ.length]? = some d := by simp
theorem ord_lt {μ : Mu} {a b : T} : ordO false (dT a) (dT b) μ = some (.bl (ltT a b), μ) := by
  unfold ordO
  rw [if_pos ⟨shp_dT a, shp_dT b⟩, cmp_lt]
theorem srtd_ins {fs : List T} {t : T} {k : Nat} (h : SrtdT fs) (h1 : ∀ x ∈ fs.take k, ltT x t = true) (h2 : ∀ x ∈ fs.drop k, ltT x t = false) : SrtdT (fs.take k ++ t :: fs.drop k) := by
  have e := List.take_append_drop k fs
  have h' : SrtdT (fs.take k ++ fs.drop k) := by rw [e]; exact h
  obtain ⟨a1, a2, a3⟩ := List.pairwise_append.mp h'
  refine List.pairwise_append.mpr ⟨a1, List.pairwise_cons.mpr ⟨h2, a2⟩, fun x hx y hy => ?_⟩
  rcases List.mem_cons.mp hy with z | z
  · rw [z]; exact lexI_asym _ _ (h1 x hx)
  · exact a3 x hx y z
theorem step_up {fs : List T} {t : T} {m : Nat} (h : SrtdT fs) (hm : m < fs.length) (k : ltT fs[m] t = true) : ∀ x ∈ fs.take (m + 1), ltT x t = true := by
  intro x hx
  rw [List.take_add_one, List.getElem?_eq_getElem hm] at hx
  rcases List.mem_append.mp hx with z | z
  · by_cases q : ltT x t = true
    · exact q
    · have q' : ltT x t = false := by simpa using q
      have e : fs = fs.take m ++ fs.drop m := (List.take_append_drop m fs).symm
      rw [e] at h
      have := (List.pairwise_append.mp h).2.2 x z fs[m] (by rw [List.drop_eq_getElem_cons hm]; exact List.mem_cons_self)
      have := lexI_tr _ _ _ q' this
      have k' : ltT fs[m] t = false := this
      rw [k] at k'; cases k'
  · have : x = fs[m] := by simpa using z
    rw [this]; exact k
theorem step_dn {fs : List T} {t : T} {m : Nat} (h : SrtdT fs) (hm : m < fs.length) (k : ltT fs[m] t = false) : ∀ x ∈ fs.drop m, ltT x t = false := by
  intro x hx
  rw [List.drop_eq_getElem_cons hm] at hx
  rcases List.mem_cons.mp hx with z | z
  · rw [z]; exact k
  · have e : fs = fs.take m ++ fs.drop m := (List.take_append_drop m fs).symm
    rw [e, List.drop_eq_getElem_cons hm] at h
    have := (List.pairwise_cons.mp (List.pairwise_append.mp h).2.1).1 x z
    exact lexI_tr _ _ _ k this
theorem w_sorted (F : Nat) {μ : Mu} {ts : List T} {Q : R D → Mu → Prop} (hμ : μ.all (pln 12) = true) (hl : ts.length < F) (hF : F ≤ 100000) (h : Q (.ok (.lst (isortD (ts.map dT)))) μ) : wM (r_x_law_sorted F [.lst (ts.map dT)] μ) Q := by
  unfold r_x_law_sorted
  rw [w_fn]
  unfold b_x_law_sorted
  have e0 : lstMk true [] μ = some (.cell μ.length, μ ++ [.lst []]) := lst_mk (by show 0 ≤ LIM; decide)
  simp [e0]
  obtain ⟨I, hI⟩ : ∃ I : Nat → Sg → Mu → Prop, I = fun i δ ν => ∃ (fs : List T) (x y z u : Option D), ν = μ ++ [.lst (fs.map dT)] ∧ δ = [some (.lst (ts.map dT)), some (D.cell μ.length), x, y, z, u] ∧ fs.Perm (ts.take i) ∧ SrtdT fs := ⟨_, rfl⟩
  refine w_forS I (by rw [hI]; exact ⟨[], none, none, none, none, rfl, rfl, List.Perm.refl _, List.Pairwise.nil⟩) ?_ ?_
  · intro i d δ ν hi hh
    rw [hI] at hh
    obtain ⟨fs, x, y, z, u, rfl, rfl, hp, hs⟩ := hh
    rw [List.getElem?_map] at hi
    obtain ⟨t, ht, rfl⟩ := Option.map_eq_some_iff.mp hi
    have hil := (List.getElem?_eq_some_iff.mp ht).1
    have hfl : fs.length = i := by rw [hp.length_eq, List.length_take]; omega
    have el : lenO [.cell μ.length] (μ ++ [D.lst (fs.map dT)]) = some (.int ((fs.map dT).length : Nat), μ ++ [D.lst (fs.map dT)]) := o_lenC at_end
    simp [el]
    obtain ⟨J, hJ⟩ : ∃ J : Nat → Sg → Mu → Prop, J = fun m δ ν => ∃ (lo hi : Nat) (u : Option D), ν = μ ++ [.lst (fs.map dT)] ∧ δ = [some (.lst (ts.map dT)), some (D.cell μ.length), some (dT t), some (dN lo), some (dN hi), u] ∧ lo ≤ hi ∧ hi ≤ fs.length ∧ m = hi - lo ∧ (∀ x ∈ fs.take lo, ltT x t = true) ∧ (∀ x ∈ fs.drop hi, ltT x t = false) := ⟨_, rfl⟩
    refine w_whileI J ?_ F fs.length _ _ (by omega) (by rw [hJ]; exact ⟨0, fs.length, u, rfl, rfl, Nat.zero_le _, Nat.le_refl _, by omega, by simp, by simp⟩)
    intro m δ ν hh
    rw [hJ] at hh
    obtain ⟨lo, hi, u, rfl, rfl, h1, h2, rfl, h3, h4⟩ := hh
    by_cases hlt : lo < hi
    · have em : ((lo : Int) + (hi : Int)) / 2 = (((lo + hi) / 2 : Nat) : Int) := by omega
      have hm : (lo + hi) / 2 < fs.length := by omega
      have ei : idxO (.cell μ.length) (.int (((lo + hi) / 2 : Nat) : Int)) (μ ++ [D.lst (fs.map dT)]) = some (dT fs[(lo + hi) / 2], μ ++ [D.lst (fs.map dT)]) := o_idxC at_end (atD_nat (by rw [List.getElem?_map, List.getElem?_eq_getElem hm]; rfl))
      have hlt' : (lo : Int) < hi := by omega
      rw [← em] at ei
      simp [hlt, ei, ord_lt]
      by_cases k : ltT fs[(lo + hi) / 2] t = true
      · simp [k]
        refine ⟨hi - ((lo + hi) / 2 + 1), by omega, ?_⟩
        rw [hJ]
        refine ⟨(lo + hi) / 2 + 1, hi, some (dN ((lo + hi) / 2)), rfl, ?_, by omega, h2, rfl, step_up hs hm k, h4⟩
        rw [show dN ((lo + hi) / 2 + 1) = D.int (((lo : Int) + hi) / 2 + 1) by show D.int _ = _; congr 1, show dN ((lo + hi) / 2) = D.int (((lo : Int) + hi) / 2) by show D.int _ = _; congr 1]
      · have k' : ltT fs[(lo + hi) / 2] t = false := by simpa using k
        simp [k']
        refine ⟨(lo + hi) / 2 - lo, by omega, ?_⟩
        rw [hJ]
        refine ⟨lo, (lo + hi) / 2, some (dN ((lo + hi) / 2)), rfl, ?_, by omega, by omega, rfl, h3, step_dn hs hm k'⟩
        rw [show dN ((lo + hi) / 2) = D.int (((lo : Int) + hi) / 2) by show D.int _ = _; congr 1]
    · have : lo = hi := by omega
      subst this
      have hz : (fs.map dT).length < LIM := by rw [List.length_map]; unfold LIM; omega
      have ins : insertO (.cell μ.length) [dN lo, dT t] (μ ++ [D.lst (fs.map dT)]) = some (.non, μ ++ [D.lst ((fs.take lo ++ t :: fs.drop lo).map dT)]) := by
        have ec : lstCell (μ ++ [D.lst (fs.map dT)]) (.cell μ.length) = some (μ.length, fs.map dT) := by simp [lstCell]
        unfold insertO
        simp only
        rw [ec]
        simp only
        rw [if_pos ⟨by omega, by unfold LIM; omega, hz⟩, Int.toNat_natCast, List.set_append_right _ _ (Nat.le_refl _), Nat.sub_self]
        simp [List.map_take, List.map_drop]
      have ty : hasTy "list" (.cell μ.length) (μ ++ [D.lst (fs.map dT)]) = true := ty_cell at_end
      simp [ins, ty]
      rw [hI]
      refine ⟨fs.take lo ++ t :: fs.drop lo, _, _, _, _, by simp, rfl, ?_, srtd_ins hs h3 h4⟩
      rw [List.take_add_one, ht]
      refine List.Perm.trans ?_ (hp.append_right _)
      have := (List.perm_middle (a := t) (l₁ := fs.take lo) (l₂ := fs.drop lo))
      rw [List.take_append_drop] at this
      exact this.trans (by simpa using (List.perm_append_comm (l₁ := [t]) (l₂ := fs)))
  · intro δ ν hh
    rw [hI] at hh
    obtain ⟨fs, x, y, z, u, rfl, rfl, hp, hs⟩ := hh
    rw [List.length_map, List.take_length] at hp
    have fc := fin_cell (b := μ.length) (n := 12) (ds := fs.map dT) (ν := μ) (ξ := [.lst (fs.map dT)]) (k := μ.length) rfl hμ (Nat.le_refl _) at_end (List.all_eq_true.mpr fun e he => by
      obtain ⟨t, _, rfl⟩ := List.mem_map.mp he
      exact pln_up 3 11 _ (by omega) (dT_pln t))
    simp [fc]
    have e : fs.map dT = isortD (ts.map dT) := by
      refine srtd_one _ _ (fun x hx y hy e => ?_) ((hp.map dT).trans (isortD_perm _).symm) (List.pairwise_map.mpr hs) (isortD_srtd _)
      obtain ⟨a, _, rfl⟩ := List.mem_map.mp hx
      obtain ⟨b, _, rfl⟩ := List.mem_map.mp hy
      exact code_inj (srt_dT a) (srt_dT b) (cmp_lt a b) ⟨_, cmp_lt b a⟩ e
    rw [e]
    exact h
end K80
end
section
set_option Elab.async false
set_option linter.all false
set_option maxHeartbeats 4000000
namespace Iv
open PySem PySem.Spec L2
/-- each of xs (given as g x) by f, nothing else changed -/
theorem w_lcX {α : Type} {own : List Nat} {t : GM} {c : Sg → M Bool} {e : Sg → M D} {δ : Sg} {F : Nat} (xs : List α) (g f : α → D) {μ : Mu} {Q : R D → Mu → Prop} (hl : xs.length ≤ LIM)
    (step : ∀ x acc (K : R D → Mu → Prop), x ∈ xs → K (.ok (f x)) (μ ++ [.lst acc]) → acc.all (pln 11) = true → wT (t (g x) (wipeG δ own) (μ ++ [.lst acc])) (fun δ1 μ1 => wM (c δ1 μ1) (fun r μ2 => r = .ok true ∧ wM (e δ1 μ2) K)))
    (hb : bndL μ.length μ = true) (hp : (xs.map f).all (pln 11) = true) (hd : Q (.ok (.lst (xs.map f))) μ) : lcK F false own t c e δ Q (.ok (.stat (xs.map g))) μ := by
  have pt : ∀ i, ((xs.take i).map f).all (pln 11) = true := fun i => List.all_eq_true.mpr fun d hd => List.all_eq_true.mp hp d (by
    obtain ⟨x, hx, rfl⟩ := List.mem_map.mp hd
    exact List.mem_map.mpr ⟨x, List.mem_of_mem_take hx, rfl⟩)
  refine w_lcS (fun i acc ν => ν = μ ∧ acc = (xs.take i).map f) ⟨rfl, rfl⟩ ?_ ?_
  · rintro i d acc ν hi ⟨rfl, rfl⟩ _
    rw [List.getElem?_map] at hi
    obtain ⟨x, hx, rfl⟩ := Option.map_eq_some_iff.mp hi
    have hlt := (List.getElem?_eq_some_iff.mp hx).1
    have s := step x ((xs.take i).map f) (lcE (fun acc ν' => ν' = ν ∧ acc = (xs.take (i + 1)).map f) ((xs.take i).map f) ν.length) (List.mem_of_getElem? hx) (by
      refine ⟨?_, ν, rfl, rfl, rfl, ?_⟩
      · rw [List.length_map, List.length_take]; omega
      · rw [List.take_add_one, hx, List.map_append]; rfl) (pt i)
    cases e1 : t (g x) (wipeG δ own) (ν ++ [.lst ((xs.take i).map f)]) with
    | none => rw [e1] at s; exact s.elim
    | some p =>
      obtain ⟨δ1, μ1⟩ := p
      rw [e1] at s
      show wM (c δ1 μ1) _
      have s1 : wM (c δ1 μ1) (fun r μ2 => r = .ok true ∧ wM (e δ1 μ2) _) := s
      refine wM.mono s1 fun r μ2 ⟨h1, h2⟩ => ?_
      subst h1
      exact h2
  · rintro acc ν ⟨rfl, rfl⟩ _
    rw [List.length_map, List.take_length]
    exact ⟨hb, bndL_pln hp, hd⟩
end Iv
namespace K80
open PySem PySem.Spec L2 Iv
def keeps (rule naming : List Nat) (ts : List T) : Bool := eqL (isortD ((ts.map rd).map dT)) (isortD ((ts.map fun t => rd (mv rule naming t)).map dT))
theorem dTs_pln (ts : List T) (n : Nat) (h : 3 ≤ n) : (ts.map dT).all (pln n) = true := List.all_eq_true.mpr fun e he => by
  obtain ⟨t, _, rfl⟩ := List.mem_map.mp he
  exact pln_up 3 n _ h (dT_pln t)
theorem shp8 (t : T) : shp 8 (dT t) = true := by
  have h : shp 7 (dW t.w) = true := by
    unfold dW
    rw [shp_tup, shpL_eq_all]
    simp [shp]
  unfold dT
  rw [shp_tup]
  simp only [shpL, h, shp, Bool.and_self]
theorem shp_sorted (ts : List T) : shp DEEP (.lst (isortD (ts.map dT))) = true := by
  show shp 9 _ = true
  rw [shp_lst, shpL_eq_all]
  refine List.all_eq_true.mpr fun d hd => ?_
  obtain ⟨t, _, rfl⟩ := List.mem_map.mp ((isortD_perm _).mem_iff.mp hd)
  exact shp8 t
theorem w_keeps (F : Nat) {μ : Mu} {rule naming : List Nat} {ts : List T} {Q : R D → Mu → Prop} (hμ : μ.all (pln 12) = true) (ht : ∀ t ∈ ts, OkT naming.length rule.length t) (hl : ts.length < F) (hF : F ≤ 100000)
    (h : Q (.ok (.bl (keeps rule naming ts))) μ) : wM (r_x_law_keeps F [.lst (ts.map dT), dW rule, .lst (naming.map dN)] μ) Q := by
  unfold r_x_law_keeps
  rw [w_fn]
  unfold b_x_law_keeps
  simp
  refine w_lcX ts dT (fun t => dT (rd t)) (by unfold LIM; omega) ?_ (bndL_pln hμ) ?_ ?_
  · intro t acc K hm hK _
    simp [wipeG]
    exact w_read F hK
  · have := dTs_pln (ts.map rd) 11 (by omega)
    rwa [List.map_map] at this
  · have em : ts.map (fun t => dT (rd t)) = (ts.map rd).map dT := by rw [List.map_map]; rfl
    rw [em]
    simp only [kC_ok, w_nil, kCb_ok, kCall_ok, List.length_cons, List.length_nil, if_true]
    refine w_sorted F hμ (by rw [List.length_map]; exact hl) hF ?_
    simp
    refine w_lcX ts dT (fun t => dT (rd (mv rule naming t))) (by unfold LIM; omega) ?_ (bndL_pln hμ) ?_ ?_
    · intro t acc K hm hK ha
      simp [wipeG]
      refine w_moved F ?_ (ht t hm) ?_
      · rw [List.all_append, hμ]
        simp [pln] at ha ⊢
        exact ha
      · simp
        exact w_read F hK
    · have := dTs_pln (ts.map fun t => rd (mv rule naming t)) 11 (by omega)
      rwa [List.map_map] at this
    · have em : ts.map (fun t => dT (rd (mv rule naming t))) = (ts.map fun t => rd (mv rule naming t)).map dT := by rw [List.map_map]; rfl
      rw [em]
      simp only [kC_ok, w_nil, kCb_ok, kCall_ok, List.length_cons, List.length_nil, if_true]
      refine w_sorted F hμ (by rw [List.length_map]; exact hl) hF ?_
      have ee : eqO false (.lst (isortD ((ts.map rd).map dT))) (.lst (isortD ((ts.map fun t => rd (mv rule naming t)).map dT))) μ = some (.bl (keeps rule naming ts), μ) := by
        have e1 : eqD (.lst (isortD ((ts.map rd).map dT))) (.lst (isortD ((ts.map fun t => rd (mv rule naming t)).map dT))) = keeps rule naming ts := by rw [eqD]; rfl
        unfold eqO
        simp only [derf]
        rw [if_pos ⟨shp_sorted _, shp_sorted _⟩, e1]
        rfl
      rw [List.map_map] at ee
      simp only [k2b_ok, ee, wO_some, okQ_at, kRet_ok, fnK_rt, fsame]
      exact h
end K80
end
section
set_option Elab.async false
set_option linter.all false
set_option maxHeartbeats 4000000
namespace K80
open PySem PySem.Spec L2 Iv

def isNum : D → Bool
  | .int _ => true
  | _ => false
def isI : D → Bool
  | .int _ => true
  | .bl _ => true
  | _ => false
def isB : D → Bool
  | .bl _ => true
  | _ => false
def isT : D → Bool
  | .tup _ => true
  | _ => false
def isS : D → Bool
  | .str _ => true
  | _ => false
def isL : D → Bool
  | .lst _ => true
  | _ => false
def isLT : D → Bool
  | .lst _ => true
  | .tup _ => true
  | _ => false
/-- the kinds of things that are asked here -/
def known : D → Bool
  | .non => true
  | .bl _ => true
  | .int _ => true
  | .str _ => true
  | .tup _ => true
  | .lst _ => true
  | .dK _ _ => true
  | .dT _ _ => true
  | _ => false
theorem isi_int {d : D} {μ : Mu} (h : known d = true) : isiO 0 [d, .ty "int"] μ = some (.bl (isI d), μ) := by
  cases d <;> first | (cases h; done) | (unfold isiO; simp [tagD, isi1, kinds, asked, kitS, isI, isB, isT, isS, isL, isLT])
theorem isi_bool {d : D} {μ : Mu} (h : known d = true) : isiO 0 [d, .ty "bool"] μ = some (.bl (isB d), μ) := by
  cases d <;> first | (cases h; done) | (unfold isiO; simp [tagD, isi1, kinds, asked, kitS, isI, isB, isT, isS, isL, isLT])
theorem isi_tup {d : D} {μ : Mu} (h : known d = true) : isiO 0 [d, .ty "tuple"] μ = some (.bl (isT d), μ) := by
  cases d <;> first | (cases h; done) | (unfold isiO; simp [tagD, isi1, kinds, asked, kitS, isI, isB, isT, isS, isL, isLT])
theorem isi_str {d : D} {μ : Mu} (h : known d = true) : isiO 0 [d, .ty "str"] μ = some (.bl (isS d), μ) := by
  cases d <;> first | (cases h; done) | (unfold isiO; simp [tagD, isi1, kinds, asked, kitS, isI, isB, isT, isS, isL, isLT])
theorem isi_list {d : D} {μ : Mu} (h : known d = true) : isiO 0 [d, .ty "list"] μ = some (.bl (isL d), μ) := by
  cases d <;> first | (cases h; done) | (unfold isiO; simp [tagD, isi1, kinds, asked, kitS, isI, isB, isT, isS, isL, isLT])
theorem isi_lt {d : D} {μ : Mu} (h : known d = true) : isiO 0 [d, .tup [.ty "list", .ty "tuple"]] μ = some (.bl (isLT d), μ) := by
  cases d <;> first | (cases h; done) | (unfold isiO; simp [tagD, isi1, isiL, kinds, asked, kitS, isI, isB, isT, isS, isL, isLT])
theorem w_num1 (F : Nat) {μ : Mu} {d : D} {Q : R D → Mu → Prop} (hk : known d = true) (h : Q (.ok (.bl (isNum d))) μ) : wM (r_is_number_1 F [d] μ) Q := by
  unfold r_is_number_1
  rw [w_fn]
  unfold b_is_number_1
  simp [isi_int hk, isi_bool hk]
  cases d <;> first | (cases hk; done) | (simp [fsame, isI, isB]; exact h)
theorem w_num (F : Nat) {μ : Mu} {d : D} {Q : R D → Mu → Prop} (hk : known d = true) (h : Q (.ok (.bl (isNum d))) μ) : wM (r_is_number F [d] μ) Q := by
  unfold r_is_number
  rw [w_fn]
  unfold b_is_number
  simp [isi_int hk, isi_bool hk]
  cases d <;> first | (cases hk; done) | (simp [fsame, isI, isB]; exact h)
theorem w_num2 (F : Nat) {μ : Mu} {d : D} {Q : R D → Mu → Prop} (hk : known d = true) (h : Q (.ok (.bl (isNum d))) μ) : wM (r_is_number_2 F [d] μ) Q := by
  unfold r_is_number_2
  rw [w_fn]
  unfold b_is_number_2
  simp [isi_int hk, isi_bool hk]
  cases d <;> first | (cases hk; done) | (simp [fsame, isI, isB]; exact h)
end K80
end
section
set_option Elab.async false
set_option linter.all false
set_option maxHeartbeats 4000000
namespace K80
open PySem PySem.Spec L2 Iv

def inR (d : D) (m : Int) : Bool := match d with
  | .int i => decide (0 ≤ i) && decide (i < m)
  | _ => false
theorem w_spot (F : Nat) {μ : Mu} {d : D} {m : Int} {Q : R D → Mu → Prop} (hk : known d = true) (h : Q (.ok (.bl (inR d m))) μ) : wM (r_is_spot F [d, .int m] μ) Q := by
  unfold r_is_spot
  rw [w_fn]
  unfold b_is_spot
  simp
  refine w_num1 F hk ?_
  cases d with
  | int i =>
    unfold inR at h
    by_cases h0 : 0 ≤ i
    · simp [isNum, h0, fsame] at h ⊢; exact h
    · simp [isNum, h0, fsame] at h ⊢; exact h
  | _ => simp [isNum, fsame]; exact h
theorem w_index (F : Nat) {μ : Mu} {d : D} {m : Int} {Q : R D → Mu → Prop} (hk : known d = true) (h : Q (.ok (.bl (inR d m))) μ) : wM (r_is_index F [d, .int m] μ) Q := by
  unfold r_is_index
  rw [w_fn]
  unfold b_is_index
  simp
  refine w_num F hk ?_
  cases d with
  | int i =>
    unfold inR at h
    by_cases h0 : 0 ≤ i
    · simp [isNum, h0, fsame] at h ⊢; exact h
    · simp [isNum, h0, fsame] at h ⊢; exact h
  | _ => simp [isNum, fsame]; exact h
theorem w_index1 (F : Nat) {μ : Mu} {d : D} {m : Int} {Q : R D → Mu → Prop} (hk : known d = true) (h : Q (.ok (.bl (inR d m))) μ) : wM (r_is_index_1 F [d, .int m] μ) Q := by
  unfold r_is_index_1
  rw [w_fn]
  unfold b_is_index_1
  simp
  refine w_num2 F hk ?_
  cases d with
  | int i =>
    unfold inR at h
    by_cases h0 : 0 ≤ i
    · simp [isNum, h0, fsame] at h ⊢; exact h
    · simp [isNum, h0, fsame] at h ⊢; exact h
  | _ => simp [isNum, fsame]; exact h
theorem all_true {ds : List D} {μ : Mu} (h : ∀ d ∈ ds, d = .bl true) : allO [.lst ds] μ = some (.bl true, μ) := by
  have e : ∀ ds : List D, (∀ d ∈ ds, d = .bl true) → blsD ds = some (ds.map fun _ => true) := by
    intro ds
    induction ds with
    | nil => intro _; rfl
    | cons d ds ih =>
      intro h
      rw [h d List.mem_cons_self, blsD, ih fun e he => h e (List.mem_cons_of_mem _ he)]
      rfl
  show (match lstOf μ (.lst ds) with
    | some ds => match blsD ds with
      | some bs => some (D.bl (bs.all id), μ)
      | none => none
    | none => none) = _
  show (match blsD ds with
      | some bs => some (D.bl (bs.all id), μ)
      | none => none) = _
  rw [e ds h]
  simp
/-- a word that fits -/
theorem w_isword (F : Nat) {μ : Mu} {sd : List D} {w : List Nat} {Q : R D → Mu → Prop} (hμ : μ.all (pln 12) = true) (hw : ∀ x ∈ w, x < sd.length) (hl : w.length ≤ 20) (h : Q (.ok (.bl true)) μ) : wM (r_is_word F [.tup sd, dW w] μ) Q := by
  unfold r_is_word
  rw [w_fn]
  unfold b_is_word
  have e1 : isiO 0 [dW w, .ty "tuple"] μ = some (.bl true, μ) := isi_tup rfl
  have e2 : srcD (dW w) μ = some (.ok (.stat (w.map dN)), μ) := rfl
  simp [e1, truO, e2]
  refine w_lcX w dN (fun _ => .bl true) (by unfold LIM; omega) ?_ (bndL_pln hμ) ?_ ?_
  · intro x acc K hx hK _
    simp [wipeG]
    refine w_index F rfl ?_
    have : inR (dN x) sd.length = true := by
      have := hw x hx
      simp [inR]
      omega
    rw [this]
    exact hK
  · simp [pln]
  · simp only [kL_ok, kC_ok, w_nil, kCb_ok]
    rw [all_true (by simp)]
    simp [fsame]
    exact h
theorem w_istie (F : Nat) {μ : Mu} {sd : List D} {sp : Nat} {t : T} {Q : R D → Mu → Prop} (hμ : μ.all (pln 12) = true) (ht : OkT sp sd.length t) (h : Q (.ok (.bl true)) μ) : wM (r_is_tie F [.tup sd, dN sp, dT t] μ) Q := by
  unfold r_is_tie
  rw [w_fn]
  unfold b_is_tie
  have e1 : isiO 0 [dT t, .ty "tuple"] μ = some (.bl true, μ) := isi_tup rfl
  have e2 : lenO [dT t] μ = some (.int 4, μ) := rfl
  have e3 : ∀ i : Int, idxO (dT t) (.int i) μ = wA (atD [dN t.s, dN t.t, dW t.w, .int t.c] i) μ := fun i => rfl
  simp [e1, e2, e3, truO]
  refine w_spot F rfl ?_
  have i1 : inR (dN t.s) sp = true := by have := ht.os; simp [inR]; omega
  have i2 : inR (dN t.t) sp = true := by have := ht.ot; simp [inR]; omega
  simp [i1, truO, e3]
  refine w_spot F rfl ?_
  simp [i2, truO, e3]
  refine w_isword F hμ ht.ow ht.ol ?_
  simp [truO, e3]
  refine w_num1 F rfl ?_
  simp [isNum, e3, ht.oc, fsame]
  exact h
end K80
end
section
set_option Elab.async false
set_option linter.all false
set_option maxHeartbeats 4000000
namespace K80
open PySem PySem.Spec L2 Iv

def LET : Str := "abcdefghijklmnopqrstuvwxyz"
structure NameOk (x : Str) : Prop where
  n1 : 1 ≤ x.length
  n3 : x.length ≤ 3
  nl : ∀ c ∈ x.cps.toList, c ∈ LET.cps.toList
theorem w_sidename (F : Nat) {μ : Mu} {x : Str} {Q : R D → Mu → Prop} (hμ : μ.all (pln 12) = true) (hx : NameOk x) (h : Q (.ok (.bl true)) μ) : wM (r_is_side_name F [.str x] μ) Q := by
  unfold r_is_side_name
  rw [w_fn]
  unfold b_is_side_name
  have e1 : isiO 0 [.str x, .ty "str"] μ = some (.bl true, μ) := isi_str rfl
  have e2 : lenO [.str x] μ = some (.int x.length, μ) := o_lenS (by have := hx.n3; unfold LIM; omega)
  have l1 : (1 : Int) ≤ x.length := by have := hx.n1; omega
  have l3 : (x.length : Int) ≤ 3 := by have := hx.n3; omega
  have hl : x.cps.toList.length = x.length := by simp [PySem.Str.length]
  simp [e1, e2, truO, hx.n1, l1, l3]
  unfold signsD
  refine w_lcX x.cps.toList (fun c => .str ⟨#[c]⟩) (fun _ => .bl true) (by rw [hl]; have := hx.n3; unfold LIM; omega) ?_ (bndL_pln hμ) ?_ ?_
  · intro c acc K hc hK _
    have e3 : ∀ ν : Mu, inO false (.str ⟨#[c]⟩) (.str LET) ν = some (.bl true, ν) := fun ν => by
      show (match oneSign ⟨#[c]⟩ with
        | some c => some (D.bl (decide (c ∈ LET.cps.toList)), ν)
        | none => none) = _
      show some (D.bl (decide (c ∈ LET.cps.toList)), ν) = _
      rw [decide_eq_true (hx.nl c hc)]
    unfold LET at e3
    simp [wipeG, e3]
    exact hK
  · simp [pln]
  · simp only [kL_ok, kC_ok, w_nil, kCb_ok]
    rw [all_true (by simp)]
    simp [fsame]
    exact h
theorem look_none {ks : List Key} {ds : List D} {k : Key} (h : k ∉ ks) : lookD ks ds k = none := by
  unfold lookD
  rw [Option.map_eq_none_iff, List.find?_eq_none]
  intro p hp e
  have := (List.of_mem_zip hp).1
  rw [of_decide_eq_true e] at this
  exact h this
theorem w_sides (F : Nat) {μ : Mu} {names : List Str} {Q : R D → Mu → Prop} (hμ : μ.all (pln 12) = true) (h0 : names ≠ []) (hn : ∀ x ∈ names, NameOk x) (nd : names.Nodup) (hl : names.length ≤ 100) (h : Q (.ok (.bl true)) μ) : wM (r_is_sides F [.tup (names.map .str)] μ) Q := by
  unfold r_is_sides
  rw [w_fn]
  unfold b_is_sides
  have e1 : isiO 0 [.tup (names.map .str), .ty "tuple"] μ = some (.bl true, μ) := isi_tup rfl
  have e2 : newDK true μ = some (.cell μ.length, μ ++ [.dK [] []]) := rfl
  simp [e1, truO, h0, e2]
  obtain ⟨I, hI⟩ : ∃ I : Nat → Sg → Mu → Prop, I = fun i δ ν => ∃ x : Option D, ν = μ ++ [.dK ((names.map Sum.inr).take i) (List.replicate i (.bl true))] ∧ δ = [some (.tup (names.map .str)), some (D.cell μ.length), x] := ⟨_, rfl⟩
  refine w_forS I (by rw [hI]; exact ⟨none, rfl, rfl⟩) ?_ ?_
  · intro i d δ ν hi hh
    rw [hI] at hh
    obtain ⟨x, rfl, rfl⟩ := hh
    rw [List.getElem?_map] at hi
    obtain ⟨n, hx, rfl⟩ := Option.map_eq_some_iff.mp hi
    have hlt := (List.getElem?_eq_some_iff.mp hx).1
    have hm : n ∈ names := List.mem_of_getElem? hx
    have hno : (Sum.inr n : Key) ∉ (names.map Sum.inr).take i := by
      intro z
      rw [← List.map_take] at z
      obtain ⟨y, hy, ey⟩ := List.mem_map.mp z
      cases ey
      have e : names = names.take i ++ names.drop i := (List.take_append_drop i names).symm
      rw [e] at nd
      have hd : n ∈ names.drop i := by
        rw [List.drop_eq_getElem_cons hlt]
        have := (List.getElem?_eq_some_iff.mp hx).2
        rw [this]
        exact List.mem_cons_self
      exact (List.nodup_append.mp nd).2.2 n hy n hd rfl
    have g : (μ ++ [D.dK ((names.map Sum.inr).take i) (List.replicate i (.bl true))])[μ.length]? = some (D.dK ((names.map Sum.inr).take i) (List.replicate i (.bl true))) := at_end
    have ei : inO false (.str n) (.cell μ.length) (μ ++ [D.dK ((names.map Sum.inr).take i) (List.replicate i (.bl true))]) = some (.bl false, μ ++ [D.dK ((names.map Sum.inr).take i) (List.replicate i (.bl true))]) := by
      unfold inO
      simp only [seqOf, lstOfS, lstOf, g, getD?, dictOf, keyD, look_none hno]
      rfl
    have es : setO (.cell μ.length) (.str n) (.bl true) (μ ++ [D.dK ((names.map Sum.inr).take i) (List.replicate i (.bl true))]) = some (μ ++ [D.dK ((names.map Sum.inr).take (i + 1)) (List.replicate (i + 1) (.bl true))]) := by
      unfold setO
      simp only [lstCell, g, keyD]
      have hk : ((names.map (Sum.inr : Str → Key)).take i).length < LIM := by rw [List.length_take, List.length_map]; unfold LIM; omega
      rw [if_pos hk, List.set_append_right _ _ (Nat.le_refl _), Nat.sub_self]
      unfold putKs putVs
      rw [if_neg hno, if_neg hno, List.take_add_one, List.getElem?_map, hx, List.replicate_succ']
      rfl
    simp
    refine w_sidename F ?_ (hn n hm) ?_
    · rw [List.all_append, hμ]
      simp [pln]
    · simp [truO, ei, es]
      rw [hI]
      exact ⟨_, rfl, rfl⟩
  · intro δ ν hh
    rw [hI] at hh
    obtain ⟨x, rfl, rfl⟩ := hh
    simp
    rw [fin_cut (n := 12) rfl hμ rfl]
    exact h
end K80
end
section
set_option Elab.async false
set_option linter.all false
set_option maxHeartbeats 4000000
namespace K80
open PySem PySem.Spec L2 Iv

def tileD (names : List Str) (sp : Nat) (ts : List T) : D := .obj 0 ["sides", "spots", "_ties"] [.tup (names.map .str), dN sp, .lst (ts.map dT)]
theorem enum_get {ds : List D} {i : Nat} {d : D} (h : (enumFrom 0 ds)[i]? = some d) : ∃ e, ds[i]? = some e ∧ d = .tup [.int (i : Nat), e] := by
  rw [enumFrom_get] at h
  obtain ⟨e, h1, h2⟩ := Option.map_eq_some_iff.mp h
  exact ⟨e, h1, by rw [← h2, Nat.zero_add]⟩
theorem w_init (F : Nat) {μ : Mu} {names : List Str} {sp : Nat} {ts : List T} {Q : R D → Mu → Prop} (hμ : μ.all (pln 12) = true) (h0 : names ≠ []) (hn : ∀ x ∈ names, NameOk x) (nd : names.Nodup) (hl : names.length ≤ 100) (hsp : 1 ≤ sp)
    (ht : ∀ t ∈ ts, OkT sp names.length t) (h : Q (.ok .non) (μ ++ [tileD names sp ts])) : wM (r_Tile___init__ F [.cell μ.length, .tup (names.map .str), dN sp, .lst (ts.map dT)] (μ ++ [.obj 0 [] []])) Q := by
  have hμ' : (μ ++ [D.obj 0 [] []]).all (pln 12) = true := by
    rw [List.all_append, hμ]
    simp [pln]
  unfold r_Tile___init__
  rw [w_fn]
  unfold b_Tile___init__
  simp
  refine w_sides F hμ' h0 hn nd hl ?_
  simp [truO]
  refine w_num1 F rfl ?_
  have e1 : ∀ ν : Mu, isiO 0 [.lst (ts.map dT), .tup [.ty "list", .ty "tuple"]] ν = some (.bl true, ν) := fun ν => isi_lt rfl
  have e2 : ∀ ν : Mu, tupMk [.ty "list", .ty "tuple"] ν = some (.tup [.ty "list", .ty "tuple"], ν) := fun ν => tup_mk (by show 2 ≤ LIM; decide)
  have e3 : ¬ (sp : Int) < 1 := by omega
  have e4 : ∀ ν : Mu, enmS [.lst (ts.map dT)] ν = some (.ok (.stat (enumFrom 0 (ts.map dT))), ν) := fun ν => rfl
  simp [isNum, truO, e1, e2, e3, e4]
  obtain ⟨I, hI⟩ : ∃ I : Nat → Sg → Mu → Prop, I = fun i δ ν => ∃ x y : Option D, ν = μ ++ [.obj 0 [] []] ∧ δ = [some (D.cell μ.length), some (.tup (names.map .str)), some (dN sp), some (.lst (ts.map dT)), x, y] := ⟨_, rfl⟩
  refine w_forS I (by rw [hI]; exact ⟨none, none, rfl, rfl⟩) ?_ ?_
  · intro i d δ ν hi hh
    rw [hI] at hh
    obtain ⟨x, y, rfl, rfl⟩ := hh
    obtain ⟨e, he, rfl⟩ := enum_get hi
    rw [List.getElem?_map] at he
    obtain ⟨t, htt, rfl⟩ := Option.map_eq_some_iff.mp he
    simp
    refine w_istie F hμ' (by rw [List.length_map]; exact ht t (List.mem_of_getElem? htt)) ?_
    simp [truO]
    rw [hI]
    exact ⟨_, _, rfl, rfl⟩
  · intro δ ν hh
    rw [hI] at hh
    obtain ⟨x, y, rfl, rfl⟩ := hh
    have g : ∀ d : D, (μ ++ [d])[μ.length]? = some d := fun d => at_end
    have st : ∀ d e : D, (μ ++ [d]).set μ.length e = μ ++ [e] := fun d e => by
      rw [List.set_append_right _ _ (Nat.le_refl _), Nat.sub_self]; rfl
    have n1 : ¬ (("sides" : Str) = "spots") := by decide +kernel
    have n2 : ¬ (("sides" : Str) = "_ties") := by decide +kernel
    have n3 : ¬ (("spots" : Str) = "_ties") := by decide +kernel
    have fl : ∀ d : D, finD false (μ.length + 1) .non (μ ++ [d]) = some (.non, μ ++ [d]) := fun d => fin_same (by simp)
    simp [g, st, putN, Iv.putD, n1, n2, n3, fl]
    exact h
theorem tile_pln (names : List Str) (sp : Nat) (ts : List T) : pln 8 (tileD names sp ts) = true := by
  have := dTs_pln ts 6 (by omega)
  simp [tileD, pln] at this ⊢
  exact this
theorem w_tile (F : Nat) {μ : Mu} {names : List Str} {sp : Nat} {ts : List T} {Q : R D → Mu → Prop} (hμ : μ.all (pln 12) = true) (h0 : names ≠ []) (hn : ∀ x ∈ names, NameOk x) (nd : names.Nodup) (hl : names.length ≤ 100) (hsp : 1 ≤ sp)
    (ht : ∀ t ∈ ts, OkT sp names.length t) (h : Q (.ok (tileD names sp ts)) μ) : wM (mMakeD false 0 4 (r_Tile___init__ F) [.tup (names.map .str), dN sp, .lst (ts.map dT)] μ) Q := by
  obtain ⟨r, ν, e, er, en⟩ := (w_init F (Q := fun r ν => r = .ok .non ∧ ν = μ ++ [tileD names sp ts]) hμ h0 hn nd hl hsp ht ⟨rfl, rfl⟩).ex
  subst er en
  unfold mMakeD
  rw [if_pos (by rfl), e]
  have f : finD false μ.length (.cell μ.length) (μ ++ [tileD names sp ts]) = some (tileD names sp ts, μ) := by
    unfold finD
    rw [if_neg (by decide)]
    have hx : ¬ (μ ++ [tileD names sp ts]).length ≤ μ.length := by simp
    rw [if_neg hx]
    have et : (μ ++ [tileD names sp ts]).take μ.length = μ := by simp
    have fz : frz DEPTH μ.length (μ ++ [tileD names sp ts]) (.cell μ.length) = some (tileD names sp ts) := by
      show (if μ.length < μ.length then some (D.cell μ.length) else match (μ ++ [tileD names sp ts])[μ.length]? with
        | some (.lst ds) => (mapO (frz 11 μ.length (μ ++ [tileD names sp ts])) ds).map D.lst
        | some (.obj C ns ds) => (mapO (frz 11 μ.length (μ ++ [tileD names sp ts])) ds).map (D.obj C ns)
        | some (.dK ks ds) => (mapO (frz 11 μ.length (μ ++ [tileD names sp ts])) ds).map (D.dK ks)
        | some (.dT ks ds) => (mapO (frz 11 μ.length (μ ++ [tileD names sp ts])) ds).map (D.dT ks)
        | _ => none) = _
      rw [if_neg (Nat.lt_irrefl _), at_end]
      unfold tileD
      simp only
      have hp : [D.tup (names.map .str), dN sp, .lst (ts.map dT)].all (pln 11) = true := by
        have := pln_up 8 12 _ (by omega) (tile_pln names sp ts)
        exact this
      rw [mapO_pln (frz_pln 11) _ hp]
      rfl
    rw [fz]
    simp only
    rw [et, bndL_pln hμ]
    rfl
  show wM ((finD false μ.length (.cell μ.length) (μ ++ [tileD names sp ts])).map fun p => (R.ok p.1, p.2)) Q
  rw [f]
  exact h
end K80
end
section
set_option Elab.async false
set_option linter.all false
set_option maxHeartbeats 4000000
namespace K80
open PySem PySem.Spec L2 Iv

/-- a list or tuple of that length -/
def seqD : D → Option (List D)
  | .lst ds => some ds
  | .tup ds => some ds
  | _ => none
def rowB (d : D) (m : Int) : Bool := match seqD d with
  | some ds => decide ((ds.length : Int) = m)
  | none => false
theorem w_row (F : Nat) {μ : Mu} {d : D} {m : Int} {Q : R D → Mu → Prop} (hk : known d = true) (h : Q (.ok (.bl (rowB d m))) μ) : wM (r_is_row_of F [d, .int m] μ) Q := by
  unfold r_is_row_of
  rw [w_fn]
  unfold b_is_row_of
  have e2 : tupMk [.ty "list", .ty "tuple"] μ = some (.tup [.ty "list", .ty "tuple"], μ) := tup_mk (by show 2 ≤ LIM; decide)
  simp [e2, isi_lt hk]
  cases d with
  | lst ds => simp [isLT, fsame, rowB, seqD] at h ⊢; exact h
  | tup ds => simp [isLT, fsame, rowB, seqD] at h ⊢; exact h
  | _ => simp [isLT, fsame, rowB, seqD] at h ⊢; exact h
theorem w_fault (F : Nat) {μ : Mu} {d : D} {m : Int} {Q : R D → Mu → Prop} (hk : known d = true) (hi : ∀ ds, seqD d = some ds → ∀ e ∈ ds, known e = true)
    (hg : rowB d m = true → (∀ ds, seqD d = some ds → ∀ e ∈ ds, inR e m = true) → Q (.ok .non) μ) (hb : ¬ (rowB d m = true ∧ ∀ ds, seqD d = some ds → ∀ e ∈ ds, inR e m = true) → ∀ k : Int, Q (.ok (.int k)) μ) : wM (r_index_fault F [d, .int m] μ) Q := by
  unfold r_index_fault
  rw [w_fn]
  unfold b_index_fault
  simp
  refine w_row F hk ?_
  by_cases hr : rowB d m = true
  · obtain ⟨ds, hs⟩ : ∃ ds, seqD d = some ds := by
      unfold rowB at hr
      cases e : seqD d with
      | none => rw [e] at hr; cases hr
      | some ds => exact ⟨ds, rfl⟩
    have es : ∀ ν : Mu, enmS [d] ν = some (.ok (.stat (enumFrom 0 ds)), ν) := fun ν => by
      cases d with
      | lst l => cases hs; rfl
      | tup l => cases hs; rfl
      | _ => cases hs
    simp [hr, truO, es]
    obtain ⟨I, hI⟩ : ∃ I : Nat → Sg → Mu → Prop, I = fun i δ ν => ∃ x y : Option D, ν = μ ∧ δ = [some d, some (.int m), x, y] ∧ ∀ e ∈ ds.take i, inR e m = true := ⟨_, rfl⟩
    refine w_forS I (by rw [hI]; exact ⟨none, none, rfl, rfl, by simp⟩) ?_ ?_
    · intro i q δ ν hq hh
      rw [hI] at hh
      obtain ⟨x, y, rfl, rfl, hall⟩ := hh
      obtain ⟨e, he, rfl⟩ := enum_get hq
      simp
      refine w_index1 F (hi ds hs e (List.mem_of_getElem? he)) ?_
      by_cases hin : inR e m = true
      · simp [hin, truO]
        rw [hI]
        refine ⟨_, _, rfl, rfl, fun z hz => ?_⟩
        rw [List.take_add_one, he] at hz
        rcases List.mem_append.mp hz with k | k
        · exact hall z k
        · have : z = e := by simpa using k
          rw [this]; exact hin
      · have hin' : inR e m = false := by simpa using hin
        simp [hin', truO, fsame]
        exact hb (fun z => hin (z.2 ds hs e (List.mem_of_getElem? he))) _
    · intro δ ν hh
      rw [hI] at hh
      obtain ⟨x, y, rfl, rfl, hall⟩ := hh
      have hall' : ∀ e ∈ ds, inR e m = true := fun e he => hall e (by
        rw [List.take_of_length_le]
        · exact he
        · have : (enumFrom 0 ds).length = ds.length := by
            have g : ∀ (l : List D) (k : Nat), (enumFrom k l).length = l.length := by
              intro l
              induction l with
              | nil => intro k; rfl
              | cons a l ih => intro k; simp [enumFrom, ih]
            exact g ds 0
          omega)
      simp [fsame]
      exact hg hr fun ds' h' e he => by
        rw [hs] at h'
        cases h'
        exact hall' e he
  · have hr' : rowB d m = false := by simpa using hr
    simp [hr', truO, fsame]
    exact hb (fun z => hr z.1) _
end K80
end
section
set_option Elab.async false
set_option linter.all false
set_option maxHeartbeats 4000000
namespace K80
open PySem PySem.Spec L2 Iv

structure PermOk (p : List Nat) : Prop where
  nd : p.Nodup
  lt : ∀ x ∈ p, x < p.length
  le : p.length ≤ 100
theorem intsOf_nat (p : List Nat) : intsOf (p.map dN) = some (p.map fun n : Nat => (n : Int)) := by
  induction p with
  | nil => rfl
  | cons x p ih =>
    show (match intsOf (p.map dN) with
      | some is => some ((x : Int) :: is)
      | none => none) = _
    rw [ih]
    rfl
theorem nodup_int {p : List Nat} (h : p.Nodup) : (p.map fun n : Nat => (n : Int)).Nodup := by
  refine List.pairwise_map.mpr (h.imp fun {a b} hab => ?_)
  omega
theorem w_naming (F : Nat) {μ : Mu} {d : D} {p : List Nat} {Q : R D → Mu → Prop} (hd : seqD d = some (p.map dN)) (hp : PermOk p) (h : Q (.ok (.bl true)) μ) : wM (r_is_naming F [d, dN p.length] μ) Q := by
  have hk : known d = true := by cases d <;> first | (cases hd; done) | rfl
  have so : seqOf μ d = some (p.map dN) := by
    cases d with
    | lst l => cases hd; rfl
    | tup l => cases hd; rfl
    | _ => cases hd
  have ls : lenSetO d μ = some (.int (p.length : Nat), μ) := by
    unfold lenSetO
    rw [so]
    simp only
    rw [intsOf_nat]
    simp only
    rw [if_pos ⟨nodup_int hp.nd, by rw [List.length_map]; have := hp.le; omega⟩, List.length_map]
  unfold r_is_naming
  rw [w_fn]
  unfold b_is_naming
  simp
  refine w_fault F hk (fun ds hs e he => ?_) (fun _ _ => ?_) (fun hn => ?_)
  · rw [hd] at hs
    cases hs
    obtain ⟨x, _, rfl⟩ := List.mem_map.mp he
    rfl
  · have is : isO false .non .non μ = some (.bl true, μ) := rfl
    simp [is, ls, fsame]
    exact h
  · exfalso
    refine hn ⟨?_, fun ds hs e he => ?_⟩
    · unfold rowB
      rw [hd]
      simp
    · rw [hd] at hs
      cases hs
      obtain ⟨x, hx, rfl⟩ := List.mem_map.mp he
      have := hp.lt x hx
      simp [inR]
      omega
/-- .. and what is none -/
theorem w_naming_no (F : Nat) {μ : Mu} {d : D} {m : Int} {Q : R D → Mu → Prop} (hk : known d = true) (hi : ∀ ds, seqD d = some ds → ∀ e ∈ ds, known e = true) (hn : ¬ (rowB d m = true ∧ ∀ ds, seqD d = some ds → ∀ e ∈ ds, inR e m = true)) (h : Q (.ok (.bl false)) μ) : wM (r_is_naming F [d, .int m] μ) Q := by
  unfold r_is_naming
  rw [w_fn]
  unfold b_is_naming
  simp
  refine w_fault F hk hi (fun a b => absurd ⟨a, b⟩ hn) (fun _ k => ?_)
  have is : isO false (.int k) .non μ = some (.bl false, μ) := rfl
  simp [is, fsame]
  exact h
theorem w_rule (F : Nat) {μ : Mu} {p : List Nat} {Q : R D → Mu → Prop} (hp : PermOk p) (h : Q (.ok (.bl true)) μ) : wM (r_is_rule F [dW p, dN p.length] μ) Q := by
  unfold r_is_rule
  rw [w_fn]
  unfold b_is_rule
  have e1 : isiO 0 [dW p, .ty "tuple"] μ = some (.bl true, μ) := isi_tup rfl
  simp [e1]
  refine w_naming F (d := dW p) rfl hp ?_
  simp [fsame]
  exact h
theorem w_rule_no (F : Nat) {μ : Mu} {d : D} {m : Int} {Q : R D → Mu → Prop} (hk : known d = true) (hi : ∀ ds, seqD d = some ds → ∀ e ∈ ds, known e = true) (hn : isT d = true → ¬ (rowB d m = true ∧ ∀ ds, seqD d = some ds → ∀ e ∈ ds, inR e m = true)) (h : Q (.ok (.bl false)) μ) : wM (r_is_rule F [d, .int m] μ) Q := by
  unfold r_is_rule
  rw [w_fn]
  unfold b_is_rule
  simp [isi_tup hk]
  by_cases ht : isT d = true
  · simp [ht]
    refine w_naming_no F hk hi (hn ht) ?_
    simp [fsame]
    exact h
  · have ht' : isT d = false := by simpa using ht
    simp [ht', fsame]
    exact h
end K80
end
section
set_option Elab.async false
set_option linter.all false
set_option maxHeartbeats 4000000
namespace K80
open PySem PySem.Spec L2 Iv

theorem w_back (F : Nat) {μ : Mu} {w : List Nat} {Q : R D → Mu → Prop} (h : Q (.ok (dW w.reverse)) μ) : wM (r_back F [dW w] μ) Q := by
  unfold r_back
  rw [w_fn]
  unfold b_back
  have e2 : revO false (dW w) μ = some (dW w.reverse, μ) := by
    show some (D.tup (w.map dN).reverse, μ) = _
    rw [← List.map_reverse]
    rfl
  simp [e2, fsame]
  exact h
theorem w_plain (F : Nat) {μ : Mu} {t : T} {Q : R D → Mu → Prop} (h : Q (.ok (dT (rd t))) μ) : wM (r_x_plain_tie F [dN t.s, dN t.t, dW t.w, .int t.c] μ) Q := by
  unfold r_x_plain_tie
  rw [w_fn]
  unfold b_x_plain_tie
  have e1 : tupMk [dN t.s, dN t.t, dW t.w, .int t.c] μ = some (dT t, μ) := tup_mk (by show 4 ≤ LIM; decide)
  have e3 : tupMk [dN t.t, dN t.s, dW t.w.reverse, .int t.c] μ = some (dT (far t), μ) := tup_mk (by show 4 ≤ LIM; decide)
  have e4 : ordO true (dT t) (dT (far t)) μ = some (.bl (!ltT (far t) t), μ) := by
    unfold ordO
    rw [if_pos ⟨shp_dT t, shp_dT (far t)⟩, cmp_le]
  simp [e1]
  refine w_back F ?_
  simp [e3, e4]
  unfold rd at h
  by_cases k : ltT (far t) t = true
  · rw [if_pos k] at h
    simp [k, fsame]
    exact h
  · rw [if_neg k] at h
    have k' : ltT (far t) t = false := by simpa using k
    simp [k', fsame]
    exact h
theorem w_exch (F : Nat) {μ : Mu} {w rule : List Nat} {Q : R D → Mu → Prop} (hμ : μ.all (pln 12) = true) (hw : ∀ x ∈ w, x < rule.length) (hl : w.length ≤ 20) (h : Q (.ok (dW (w.map fun x => nth rule x))) μ) : wM (r_exchanged_word F [dW w, dW rule] μ) Q := by
  unfold r_exchanged_word
  rw [w_fn]
  unfold b_exchanged_word
  have ew : srcD (dW w) μ = some (.ok (.stat (w.map dN)), μ) := rfl
  simp [ew]
  refine w_lcX w dN (fun x => dN (nth rule x)) (by unfold LIM; omega) ?_ (bndL_pln hμ) ?_ ?_
  · intro x acc K hx hK _
    have er := at_dN (l := rule) (hw x hx)
    have e2 : ∀ ν : Mu, idxO (dW rule) (dN x) ν = wA (atD (rule.map dN) (x : Int)) ν := fun ν => rfl
    simp [wipeG, e2, er]
    exact hK
  · simp [pln]
  · have e4 : tupleO [.lst (w.map fun x => dN (nth rule x))] μ = some (dW (w.map fun x => nth rule x), μ) := by
      unfold dW
      rw [List.map_map]
      rfl
    simp only [kL_ok, kC_ok, w_nil, kCb_ok, e4, wO_some, okQ_at]
    simp [fsame]
    exact h
theorem w_ties (F : Nat) {μ : Mu} {names : List Str} {sp : Nat} {ts : List T} {Q : R D → Mu → Prop} (h : Q (.ok (.lst (ts.map dT))) μ) : wM (r_Tile_ties F [tileD names sp ts] μ) Q := by
  unfold r_Tile_ties
  rw [w_fn]
  unfold b_Tile_ties
  have n1 : ¬ (("sides" : Str) = "_ties") := by decide +kernel
  have n2 : ¬ (("spots" : Str) = "_ties") := by decide +kernel
  have e1 : fldO [0] "_ties" (tileD names sp ts) μ = some (.lst (ts.map dT), μ) := by
    unfold fldO tileD
    simp [objOf, getN, n1, n2]
  simp [e1, fsame]
  exact h
end K80
end
section
set_option Elab.async false
set_option linter.all false
set_option maxHeartbeats 4000000
namespace K80
open PySem PySem.Spec L2 Iv

theorem okSort_dT (ts : List T) : okSort (ts.map dT) = true := by
  refine List.all_eq_true.mpr fun a ha => ?_
  obtain ⟨t, _, rfl⟩ := List.mem_map.mp ha
  have h1 : headI (dT t) = true := rfl
  rw [h1, srt_dT, shp_dT]
  refine List.all_eq_true.mpr fun b hb => ?_
  obtain ⟨u, _, rfl⟩ := List.mem_map.mp hb
  rw [cmp_lt]
  rfl
theorem fld_sides {names : List Str} {sp : Nat} {ts : List T} {μ : Mu} : fldO [0] "sides" (tileD names sp ts) μ = some (.tup (names.map .str), μ) := by
  unfold fldO tileD
  simp [objOf, getN]
theorem fld_spots {names : List Str} {sp : Nat} {ts : List T} {μ : Mu} : fldO [0] "spots" (tileD names sp ts) μ = some (dN sp, μ) := by
  have n1 : ¬ (("sides" : Str) = "spots") := by decide +kernel
  unfold fldO tileD
  simp [objOf, getN, n1]
/-- a rule or a naming that is none -/
theorem w_kept_no1 (F : Nat) {μ : Mu} {names : List Str} {sp : Nat} {ts : List T} {r n : D} {Q : R D → Mu → Prop} (hk : known r = true) (hi : ∀ ds, seqD r = some ds → ∀ e ∈ ds, known e = true)
    (hn : isT r = true → ¬ (rowB r names.length = true ∧ ∀ ds, seqD r = some ds → ∀ e ∈ ds, inR e names.length = true)) (h : Q (.ok (.bl false)) μ) : wM (r_is_kept F [tileD names sp ts, r, n] μ) Q := by
  unfold r_is_kept
  rw [w_fn]
  unfold b_is_kept
  simp [fld_sides]
  refine w_rule_no F hk hi hn ?_
  simp [truO, fsame]
  exact h
theorem w_kept_no2 (F : Nat) {μ : Mu} {names : List Str} {sp : Nat} {ts : List T} {p : List Nat} {n : D} {Q : R D → Mu → Prop} (hp : PermOk p) (hpl : p.length = names.length) (hk : known n = true) (hi : ∀ ds, seqD n = some ds → ∀ e ∈ ds, known e = true)
    (hn : ¬ (rowB n sp = true ∧ ∀ ds, seqD n = some ds → ∀ e ∈ ds, inR e sp = true)) (h : Q (.ok (.bl false)) μ) : wM (r_is_kept F [tileD names sp ts, dW p, n] μ) Q := by
  unfold r_is_kept
  rw [w_fn]
  unfold b_is_kept
  simp [fld_sides]
  rw [← hpl]
  refine w_rule F hp ?_
  simp [truO, fld_spots]
  refine w_naming_no F hk hi hn ?_
  simp [truO, fsame]
  exact h
end K80
end
section
set_option Elab.async false
set_option linter.all false
set_option maxHeartbeats 4000000
namespace K80
open PySem PySem.Spec L2 Iv

theorem w_kept (F : Nat) {μ : Mu} {names : List Str} {sp : Nat} {ts : List T} {p q : List Nat} {n : D} {Q : R D → Mu → Prop} (hμ : μ.all (pln 12) = true) (hp : PermOk p) (hpl : p.length = names.length) (hq : PermOk q) (hql : q.length = sp)
    (hd : seqD n = some (q.map dN)) (ht : ∀ t ∈ ts, OkT sp names.length t) (hl : ts.length < 100000) (h : Q (.ok (.bl (keeps p q ts))) μ) : wM (r_is_kept F [tileD names sp ts, dW p, n] μ) Q := by
  have ix : ∀ (ν : Mu) (i : Nat), i < q.length → idxO n (dN i) ν = some (dN (nth q i), ν) := fun ν i hi => by
    have e := at_dN (l := q) hi
    cases n with
    | lst l => cases hd; show wA (atD (q.map dN) (i : Int)) ν = _; rw [e]; rfl
    | tup l => cases hd; show wA (atD (q.map dN) (i : Int)) ν = _; rw [e]; rfl
    | _ => cases hd
  unfold r_is_kept
  rw [w_fn]
  unfold b_is_kept
  simp [fld_sides]
  rw [← hpl]
  refine w_rule F hp ?_
  simp [truO, fld_spots]
  rw [← hql]
  refine w_naming F hd hq ?_
  have e0 : lstMk true [] μ = some (.cell μ.length, μ ++ [.lst []]) := lst_mk (by show 0 ≤ LIM; decide)
  have e1 : lstMk true [] (μ ++ [D.lst []]) = some (.cell (μ.length + 1), μ ++ [.lst [], .lst []]) := by
    have := lst_mk (c := true) (ds := []) (μ := μ ++ [D.lst []]) (by show 0 ≤ LIM; decide)
    simpa using this
  simp [truO, e0, e1]
  have ck : ∀ ν : Mu, ckIns 0 "ties" (tileD names q.length ts) ν = some (.ok (), ν) := fun ν => by
    have n1 : ¬ (("ties" : Str) = "sides") := by decide +kernel
    have n2 : ¬ (("ties" : Str) = "spots") := by decide +kernel
    have n3 : ¬ (("ties" : Str) = "_ties") := by decide +kernel
    unfold ckIns tileD
    simp [objOf, n1, n2, n3]
  simp [ck]
  refine w_ties F ?_
  simp
  obtain ⟨I, hI⟩ : ∃ I : Nat → Sg → Mu → Prop, I = fun i δ ν => ∃ x y z u : Option D, ν = μ ++ [.lst (((ts.take i).map rd).map dT), .lst (((ts.take i).map fun t => rd (mv p q t)).map dT)] ∧ δ = [some (tileD names q.length ts), some (dW p), some n, some (D.cell μ.length), some (D.cell (μ.length + 1)), x, y, z, u] := ⟨_, rfl⟩
  refine w_forS I (by rw [hI]; exact ⟨none, none, none, none, by simp, rfl⟩) ?_ ?_
  · intro i d δ ν hi hh
    rw [hI] at hh
    obtain ⟨x, y, z, u, rfl, rfl⟩ := hh
    rw [List.getElem?_map] at hi
    obtain ⟨t, htt, rfl⟩ := Option.map_eq_some_iff.mp hi
    have hil := (List.getElem?_eq_some_iff.mp htt).1
    have ok := ht t (List.mem_of_getElem? htt)
    obtain ⟨A, hA⟩ : ∃ A, ((ts.take i).map rd).map dT = A := ⟨_, rfl⟩
    obtain ⟨C, hC⟩ : ∃ C, ((ts.take i).map fun t => rd (mv p q t)).map dT = C := ⟨_, rfl⟩
    have lA : A.length ≤ i := by rw [← hA]; simp; omega
    have lC : C.length ≤ i := by rw [← hC]; simp; omega
    have pA : A.all (pln 11) = true := by rw [← hA]; exact dTs_pln _ 11 (by omega)
    have pC : C.all (pln 11) = true := by rw [← hC]; exact dTs_pln _ 11 (by omega)
    rw [hA, hC]
    have g1 : ∀ A C : List D, (μ ++ [D.lst A, D.lst C])[μ.length]? = some (.lst A) := fun A C => by simp
    have g2 : ∀ A C : List D, (μ ++ [D.lst A, D.lst C])[μ.length + 1]? = some (.lst C) := fun A C => by simp
    have t1 : ∀ A C : List D, hasTy "list" (.cell μ.length) (μ ++ [D.lst A, D.lst C]) = true := fun A C => ty_cell (g1 A C)
    have t2 : ∀ A C : List D, hasTy "list" (.cell (μ.length + 1)) (μ ++ [D.lst A, D.lst C]) = true := fun A C => ty_cell (g2 A C)
    have a1 : ∀ e : D, appendO (.cell μ.length) [e] (μ ++ [D.lst A, D.lst C]) = some (.non, μ ++ [D.lst (A ++ [e]), D.lst C]) := fun e => by
      rw [o_app (g1 A C) (by unfold LIM; omega), List.set_append_right _ _ (Nat.le_refl _), Nat.sub_self]
      rfl
    have a2 : ∀ B e, appendO (.cell (μ.length + 1)) [e] (μ ++ [D.lst B, D.lst C]) = some (.non, μ ++ [D.lst B, D.lst (C ++ [e])]) := fun B e => by
      rw [o_app (g2 B C) (by unfold LIM; omega), List.set_append_right _ _ (by omega), Nat.add_sub_cancel_left]
      rfl
    have es : dT t = .tup [dN t.s, dN t.t, dW t.w, .int t.c] := rfl
    rw [es]
    simp [t1]
    refine w_plain F ?_
    simp [a1, t2, ix _ t.s (by rw [hql]; exact ok.os), ix _ t.t (by rw [hql]; exact ok.ot)]
    refine w_exch F ?_ (fun x hx => by rw [hpl]; exact ok.ow x hx) ok.ol ?_
    · rw [List.all_append, hμ]
      have : (A ++ [dT (rd t)]).all (pln 11) = true := by rw [List.all_append, pA, List.all_cons, pln_up 3 11 _ (by omega) (dT_pln (rd t))]; rfl
      show (true && ((A ++ [dT (rd t)]).all (pln 11) && (C.all (pln 11) && true))) = true
      rw [this, pC]; rfl
    · simp
      refine w_plain F (t := mv p q t) ?_
      simp [a2]
      rw [hI]
      refine ⟨_, _, _, _, ?_, rfl⟩
      rw [← hA, ← hC, List.take_add_one, htt]
      simp
  · intro δ ν hh
    rw [hI] at hh
    obtain ⟨x, y, z, u, rfl, rfl⟩ := hh
    rw [List.length_map, List.take_length]
    have s1 : ∀ (ν : Mu) (k : Nat) (us : List T), ν[k]? = some (.lst (us.map dT)) → us.length < 100000 → sortedO false [.cell k] ν = some (.lst (isortD (us.map dT)), ν) := fun ν k us hk hu => by
      unfold sortedO
      simp only [lstOfS, lstOf, hk]
      rw [if_pos ⟨okSort_dT us, by rw [List.length_map]; unfold LIM; omega⟩]
      rfl
    have g1 : ∀ A C : List D, (μ ++ [D.lst A, D.lst C])[μ.length]? = some (.lst A) := fun A C => by simp
    have g2 : ∀ A C : List D, (μ ++ [D.lst A, D.lst C])[μ.length + 1]? = some (.lst C) := fun A C => by simp
    have e1 := s1 _ μ.length (ts.map rd) (g1 _ (((ts.map fun t => rd (mv p q t))).map dT)) (by rw [List.length_map]; exact hl)
    have e2 := s1 _ (μ.length + 1) (ts.map fun t => rd (mv p q t)) (g2 ((ts.map rd).map dT) _) (by rw [List.length_map]; exact hl)
    have ee : ∀ ν : Mu, eqO false (.lst (isortD ((ts.map rd).map dT))) (.lst (isortD ((ts.map fun t => rd (mv p q t)).map dT))) ν = some (.bl (keeps p q ts), ν) := fun ν => by
      have e1 : eqD (.lst (isortD ((ts.map rd).map dT))) (.lst (isortD ((ts.map fun t => rd (mv p q t)).map dT))) = keeps p q ts := by rw [eqD]; rfl
      unfold eqO
      simp only [derf]
      rw [if_pos ⟨shp_sorted _, shp_sorted _⟩, e1]
      rfl
    simp only [seqK_nx, w_ret, w_op2, w_opL, w_cons, w_var, List.getElem?_cons_succ, List.getElem?_cons_zero, kC_ok, w_nil, kCb_ok, kL_ok, e1, wO_some, okQ_at, k2_ok, e2, k2b_ok, ee, kRet_ok, fnK_rt]
    rw [fin_cut (n := 12) rfl hμ rfl]
    exact h
end K80
end
section
set_option Elab.async false
set_option linter.all false
set_option maxHeartbeats 4000000
namespace K80
open PySem PySem.Spec L2 Iv

theorem far_ok {sp nu : Nat} {t : T} (h : OkT sp nu t) : OkT sp nu (far t) :=
  ⟨h.ot, h.os, fun x hx => h.ow x (List.mem_reverse.mp hx), h.oc, by show t.w.reverse.length ≤ 20; rw [List.length_reverse]; exact h.ol⟩
theorem w_shown (F : Nat) {B : D} {ν : Mu} {ts : List T} {sp nu : Nat} {Q : R D → Mu → Prop} (hB : Bag B) (hν : ν.all (pln 12) = true) (ht : ∀ t ∈ ts, OkT sp nu t) (hl : ts.length < 100000)
    (h : ∀ (vs : List T) B', Bag B' → (vs.map rd).Perm (ts.map rd) → (∀ t ∈ vs, OkT sp nu t) → Q (.ok (.lst (vs.map dT))) (B' :: ν)) : wM (r_x_law_shown F [.cell 0, .lst (ts.map dT)] (B :: ν)) Q := by
  unfold r_x_law_shown
  rw [w_fn]
  unfold b_x_law_shown
  simp
  have hp11 := dTs_pln ts 11 (by omega)
  refine w_pick F (ds := ts.map dT) (n := ts.length) hB hν hp11 (by rw [List.length_map]; exact hl) hl fun fd rest B1 hB1 hp hlen => ?_
  have hr : rest = [] := by
    have := hp.length_eq
    rw [List.length_append, hlen, List.length_map] at this
    exact List.eq_nil_of_length_eq_zero (by omega)
  subst hr
  rw [List.append_nil] at hp
  obtain ⟨us, q1, q2⟩ := perm_lift (f := dT) hp ts rfl
  subst q2
  simp
  obtain ⟨I, hI⟩ : ∃ I : Nat → List D → Mu → Prop, I = fun i acc μ => ∃ (B' : D) (vs : List T), Bag B' ∧ μ = B' :: ν ∧ acc = vs.map dT ∧ vs.map rd = (us.take i).map rd ∧ (∀ t ∈ vs, OkT sp nu t) := ⟨_, rfl⟩
  refine w_lcS I (by rw [hI]; exact ⟨B1, [], hB1, rfl, rfl, rfl, by simp⟩) ?_ ?_
  · intro i d acc μ hi hh _
    rw [hI] at hh
    obtain ⟨B', vs, hB', rfl, rfl, hv, ho⟩ := hh
    rw [List.getElem?_map] at hi
    obtain ⟨t, htt, rfl⟩ := Option.map_eq_some_iff.mp hi
    have hil := (List.getElem?_eq_some_iff.mp htt).1
    have hlv : vs.length < 100000 := by
      have := congrArg List.length hv
      rw [List.length_map, List.length_map, List.length_take, q1.length_eq] at this
      omega
    have ok := ht t (q1.mem_iff.mp (List.mem_of_getElem? htt))
    simp [wipeG]
    refine w_draw F hB' (by omega) (by omega) fun r B2 hB2 r1 r2 => ?_
    have e1 : ∀ (μ : Mu) (i : Int), idxO (dT t) (.int i) μ = wA (atD [dN t.s, dN t.t, dW t.w, .int t.c] i) μ := fun μ i => rfl
    have e2 : ∀ μ : Mu, revO false (dW t.w) μ = some (dW t.w.reverse, μ) := fun μ => by
      show some (D.tup (t.w.map dN).reverse, μ) = _
      rw [← List.map_reverse]
      rfl
    have e3 : ∀ μ : Mu, tupMk [dN t.t, dN t.s, dW t.w.reverse, .int t.c] μ = some (dT (far t), μ) := fun μ => tup_mk (by show 4 ≤ LIM; decide)
    have fin : ∀ u : T, rd u = rd t → OkT sp nu u → lcE (I (i + 1)) (vs.map dT) (ν.length + 1) (.ok (dT u)) (B2 :: (ν ++ [.lst (vs.map dT)])) := fun u hu ou => by
      rw [lcE_ok]
      refine ⟨by rw [List.length_map]; unfold LIM; omega, B2 :: ν, rfl, rfl, ?_⟩
      rw [hI]
      refine ⟨B2, vs ++ [u], hB2, rfl, by simp, ?_, fun x hx => ?_⟩
      · rw [List.map_append, hv, List.take_add_one, htt, List.map_append]
        simp [hu]
      · rcases List.mem_append.mp hx with z | z
        · exact ho x z
        · rw [List.mem_singleton.mp z]; exact ou
    by_cases h0 : r = 0
    · have q := fin t rfl ok
      simp [h0]
      rw [lcE_ok, List.length_map] at q
      exact q
    · have q := fin (far t) (rd_far t) (far_ok ok)
      simp [h0, e1, e2, e3]
      rw [lcE_ok, List.length_map] at q
      exact q
  · intro acc μ hh _
    rw [hI] at hh
    obtain ⟨B', vs, hB', rfl, rfl, hv, ho⟩ := hh
    have pl : (B' :: ν).all (pln 12) = true := by
      rw [List.all_cons, Bool.and_eq_true]
      exact ⟨pln_up 5 12 _ (by omega) (bag_pln hB'), hν⟩
    refine ⟨bndL_pln pl, bndL_pln (dTs_pln vs 11 (by omega)), ?_⟩
    rw [List.length_map, List.take_length] at hv
    simp [fs]
    refine h vs B' hB' ?_ ho
    rw [hv]
    exact q1.map rd
end K80
end
section
set_option Elab.async false
set_option linter.all false
set_option maxHeartbeats 4000000
namespace K80
open PySem PySem.Spec L2 Iv

def sg (c : Nat) : D := .str ⟨#[c]⟩
theorem strs_map (ys : List Str) : strsD (ys.map .str) = some ys := by
  induction ys with
  | nil => rfl
  | cons y ys ih => simp [strsD, ih]
theorem glued_at (cs : List Nat) (a : Array Nat) : (cs.map fun c => (⟨#[c]⟩ : Str)).foldl (fun acc p => acc ++ ("" : Str).cps ++ p.cps) a = a ++ cs.toArray := by
  have e0 : ("" : Str).cps = #[] := by decide +kernel
  rw [e0]
  induction cs generalizing a with
  | nil => simp
  | cons c cs ih =>
    rw [List.map_cons, List.foldl_cons, ih]
    simp
theorem glued_sg (cs : List Nat) : Txt.join "" (cs.map fun c => ⟨#[c]⟩) = ⟨cs.toArray⟩ := by
  show (⟨((cs.map fun c => (⟨#[c]⟩ : Str)).drop 1).foldl (fun acc p => acc ++ ("" : Str).cps ++ p.cps) ((cs.map fun c => (⟨#[c]⟩ : Str)).headD Str.empty).cps⟩ : Str) = _
  cases cs with
  | nil => rfl
  | cons c cs =>
    rw [List.map_cons, List.drop_succ_cons, List.drop_zero, glued_at]
    simp
theorem o_join {μ : Mu} {cs : List Nat} (h : cs.length ≤ 1000) : joinO (.str "") [.lst (cs.map sg)] μ = some (.str ⟨cs.toArray⟩, μ) := by
  have e : cs.map sg = (cs.map fun c => (⟨#[c]⟩ : Str)).map D.str := by rw [List.map_map]; rfl
  have hs : ∀ l : List Nat, ((l.map fun c => (⟨#[c]⟩ : Str)).map (·.length)).sum = l.length := fun l => by
    induction l with
    | nil => rfl
    | cons c l ih => simp [PySem.Str.length] at ih ⊢; omega
  rw [e]
  show (match strsD ((cs.map fun c => (⟨#[c]⟩ : Str)).map D.str) with
    | some ys => if (ys.map fun y : Str => y.length).sum + ys.length * ("" : Str).length ≤ LIM then some (D.str (Txt.join "" ys), μ) else none
    | none => none) = _
  rw [strs_map]
  show (if ((cs.map fun c => (⟨#[c]⟩ : Str)).map (·.length)).sum + (cs.map fun c => (⟨#[c]⟩ : Str)).length * ("" : Str).length ≤ LIM then some (D.str (Txt.join "" (cs.map fun c => (⟨#[c]⟩ : Str))), μ) else none) = _
  rw [if_pos (by rw [hs, List.length_map]; show cs.length + cs.length * 0 ≤ LIM; unfold LIM; omega), glued_sg]
theorem in_strs {μ : Mu} {k : Nat} {names : List Str} {x : Str} (h : μ[k]? = some (.lst (names.map .str))) (neg : Bool) : inO neg (.str x) (.cell k) μ = some (.bl (if neg then !decide (x ∈ names) else decide (x ∈ names)), μ) := by
  have hf : (names.map D.str).all flatD = true := by simp [flatD]
  have ha : ((names.map D.str).any fun y => eqD y (.str x)) = decide (x ∈ names) := by
    rw [Bool.eq_iff_iff]
    simp [eqD]
  have hq : seqOf μ (.cell k) = some (names.map .str) := by
    simp [seqOf, lstOfS, lstOf, h]
  show (match seqOf μ (.cell k) with
    | some ds => if flatD (.str x) = true ∧ ds.all flatD = true then some (D.bl (if neg then !ds.any (fun y => eqD y (.str x)) else ds.any (fun y => eqD y (.str x))), μ)
      else _
    | none => _) = _
  rw [hq]
  show (if flatD (.str x) = true ∧ (names.map D.str).all flatD = true then _ else _) = _
  rw [if_pos ⟨rfl, hf⟩, ha]
theorem pigeon {α : Type} [DecidableEq α] : ∀ {l1 l2 : List α}, l1.Nodup → (∀ x ∈ l1, x ∈ l2) → l1.length ≤ l2.length
  | [], _, _, _ => Nat.zero_le _
  | a :: l, l2, nd, hs => by
    have h2 : a ∈ l2 := hs a List.mem_cons_self
    have n := List.nodup_cons.mp nd
    have ih := pigeon (l1 := l) (l2 := l2.erase a) n.2 fun x hx => by
      have hx2 := hs x (List.mem_cons_of_mem _ hx)
      have hne : x ≠ a := fun z => n.1 (z ▸ hx)
      exact (List.mem_erase_of_ne hne).mpr hx2
    have hl := List.length_erase_of_mem h2
    have := List.length_pos_of_mem h2
    simp only [List.length_cons]
    omega
theorem four_free {names : List Str} (h : names.length ≤ 3) : ∃ x rest, (([("q" : Str), "ab", "end", "c"]).filter fun x => decide (x ∉ names)) = x :: rest ∧ x ∉ names ∧ NameOk x := by
  have hne : (([("q" : Str), "ab", "end", "c"]).filter fun x => decide (x ∉ names)) ≠ [] := by
    intro z
    have hs : ∀ x ∈ ([("q" : Str), "ab", "end", "c"]), x ∈ names := fun x hx => by
      have := List.filter_eq_nil_iff.mp z x hx
      simpa using this
    have nd : ([("q" : Str), "ab", "end", "c"]).Nodup := by decide +kernel
    have := pigeon nd hs
    have l4 : ([("q" : Str), "ab", "end", "c"]).length = 4 := rfl
    omega
  cases e : ([("q" : Str), "ab", "end", "c"]).filter fun x => decide (x ∉ names) with
  | nil => exact absurd e hne
  | cons x rest =>
    have hm : x ∈ (([("q" : Str), "ab", "end", "c"]).filter fun x => decide (x ∉ names)) := by rw [e]; exact List.mem_cons_self
    obtain ⟨h1, h2⟩ := List.mem_filter.mp hm
    refine ⟨x, rest, rfl, by simpa using h2, ?_⟩
    have : x = "q" ∨ x = "ab" ∨ x = "end" ∨ x = "c" := by simpa using h1
    rcases this with rfl | rfl | rfl | rfl
    all_goals exact ⟨by decide +kernel, by decide +kernel, by decide +kernel⟩
end K80
end
section
set_option Elab.async false
set_option linter.all false
set_option maxHeartbeats 4000000
namespace K80
open PySem PySem.Spec L2 Iv

def LQ : Str := "qazwsxedcrfvtgbyhnujmikolp"
theorem LQ_len : 0 < LQ.length ∧ LQ.length ≤ 1000 := by decide +kernel
theorem LQ_in : ∀ c ∈ LQ.cps.toList, c ∈ LET.cps.toList := by decide +kernel
def FOUR : List Str := ["q", "ab", "end", "c"]
theorem filter_take {α : Type} (p : α → Bool) (l : List α) (i : Nat) (x : α) (h : l[i]? = some x) : (l.take (i + 1)).filter p = (l.take i).filter p ++ (if p x = true then [x] else []) := by
  rw [List.take_add_one, h, List.filter_append]
  cases e : p x <;> simp [e]
theorem lt_rngN {n : Nat} {i : Nat} {d : D} (h : (rngD 0 n)[i]? = some d) : i < n ∧ d = .int i := by
  have := lt_rng (j := (n : Int)) (by rw [Int.toNat_natCast]; exact h)
  rwa [Int.toNat_natCast] at this
theorem rng_len {a : Int} {n : Nat} : (rngD a n).length = n := by
  unfold rngD
  rw [List.length_map, List.length_range]
theorem w_names (F : Nat) {B : D} {ν : Mu} {n : Nat} {Q : R D → Mu → Prop} (hB : Bag B) (hν : ν.all (pln 12) = true) (hn : n ≤ 4)
    (h : ∀ (names : List Str) B', Bag B' → names.length = n → names.Nodup → (∀ x ∈ names, NameOk x) → Q (.ok (.tup (names.map .str))) (B' :: ν)) : wM (r_x_law_names F [.cell 0, dN n] (B :: ν)) Q := by
  unfold r_x_law_names
  rw [w_fn]
  unfold b_x_law_names
  have e0 : lstMk true [] (B :: ν) = some (.cell (ν.length + 1), B :: (ν ++ [.lst []])) := lst_mk (by show 0 ≤ LIM; decide)
  have e1 : rng1 [dN n] (B :: (ν ++ [.lst []])) = some (.ok (.stat (rngD 0 (dN n |> fun _ => (n : Int).toNat))), B :: (ν ++ [.lst []])) := s_rng1 (by unfold LIM; omega)
  simp [e0]
  simp only [e1]
  simp
  obtain ⟨I, hI⟩ : ∃ I : Nat → Sg → Mu → Prop, I = fun i δ μ => ∃ (B' : D) (names : List Str) (x y z u : Option D), Bag B' ∧ μ = B' :: (ν ++ [.lst (names.map .str)]) ∧ δ = [some (.cell 0), some (dN n), some (.cell (ν.length + 1)), x, y, z, u] ∧ names.length = i ∧ names.Nodup ∧ ∀ x ∈ names, NameOk x := ⟨_, rfl⟩
  refine w_forS I (by rw [hI]; exact ⟨B, [], none, none, none, none, hB, rfl, rfl, rfl, List.nodup_nil, by simp⟩) ?_ ?_
  · intro i d δ μ hi hh
    rw [hI] at hh
    obtain ⟨B1, names, x, y, z, u, hB1, rfl, rfl, hl, nd, ok⟩ := hh
    obtain ⟨hi1, rfl⟩ := lt_rngN hi
    have hi2 : i < 4 := by omega
    simp
    refine w_draw F hB1 (by omega) (by omega) fun r B2 hB2 r1 r2 => ?_
    have e2 : rng1 [.int (1 + r)] (B2 :: (ν ++ [.lst (names.map .str)])) = some (.ok (.stat (rngD 0 (1 + r).toNat)), B2 :: (ν ++ [.lst (names.map .str)])) := s_rng1 (by unfold LIM; omega)
    simp [e2]
    obtain ⟨J, hJ⟩ : ∃ J : Nat → List D → Mu → Prop, J = fun j acc μ => ∃ (B' : D) (cs : List Nat), Bag B' ∧ μ = B' :: (ν ++ [.lst (names.map .str)]) ∧ acc = cs.map sg ∧ cs.length = j ∧ ∀ c ∈ cs, c ∈ LET.cps.toList := ⟨_, rfl⟩
    refine w_lcS J (by rw [hJ]; exact ⟨B2, [], hB2, rfl, rfl, rfl, by simp⟩) ?_ ?_
    · intro j d acc μ hj hh _
      rw [hJ] at hh
      obtain ⟨B3, cs, hB3, rfl, rfl, hcl, hcs⟩ := hh
      obtain ⟨hj1, rfl⟩ := lt_rng hj
      simp [wipeG]
      refine w_ofS F (x := LQ) hB3 LQ_len.1 LQ_len.2 fun c B4 hB4 hc => ?_
      rw [lcE_ok]
      refine ⟨by rw [List.length_map]; unfold LIM; omega, B4 :: (ν ++ [.lst (names.map .str)]), by simp, by simp, ?_⟩
      rw [hJ]
      refine ⟨B4, cs ++ [c], hB4, rfl, by simp [sg], by simp [hcl], fun k hk => ?_⟩
      rcases List.mem_append.mp hk with w | w
      · exact hcs k w
      · rw [List.mem_singleton.mp w]; exact LQ_in c hc
    · intro acc μ hh _
      rw [hJ] at hh
      obtain ⟨B3, cs, hB3, rfl, rfl, hcl, hcs⟩ := hh
      have hcl2 : cs.length = (1 + r).toNat := by
        rw [hcl]; unfold rngD; simp
      have pl : (B3 :: (ν ++ [D.lst (names.map .str)])).all (pln 12) = true := by
        rw [List.all_cons, List.all_append, pln_up 5 12 _ (by omega) (bag_pln hB3), hν]
        simp [pln]
      refine ⟨bndL_pln pl, bndL_pln (n := 1) (by simp [sg, pln]), ?_⟩
      have nk : NameOk ⟨cs.toArray⟩ := ⟨by show 1 ≤ cs.toArray.size; simp; omega, by show cs.toArray.size ≤ 3; simp; omega, by simpa using hcs⟩
      have ei : ∀ x : Str, inO false (.str x) (.cell (ν.length + 1)) (B3 :: (ν ++ [.lst (names.map .str)])) = some (.bl (decide (x ∈ names)), B3 :: (ν ++ [.lst (names.map .str)])) := fun x => in_strs (by simp) false
      have ty : hasTy "list" (.cell (ν.length + 1)) (B3 :: (ν ++ [.lst (names.map .str)])) = true := ty_cell (ds := names.map .str) (by simp)
      have ap : ∀ s : Str, appendO (.cell (ν.length + 1)) [.str s] (B3 :: (ν ++ [.lst (names.map .str)])) = some (.non, B3 :: (ν ++ [.lst (names.map .str ++ [.str s])])) := fun s => by
        rw [o_app (ds := names.map .str) (by simp) (by rw [List.length_map]; unfold LIM; omega)]
        simp
      have fin : ∀ (s : Str) (p q w : Option D), s ∉ names → NameOk s → I (i + 1) [some (.cell 0), some (dN n), some (.cell (ν.length + 1)), p, some (.str s), q, w] (B3 :: (ν ++ [.lst (names.map .str ++ [.str s])])) := fun s p q w h1 h2 => by
        rw [hI]
        refine ⟨B3, names ++ [s], p, some (.str s), q, w, hB3, by simp, rfl, by simp [hl], ?_, fun k hk => ?_⟩
        · rw [List.nodup_append]
          exact ⟨nd, by simp, fun a ha b hb => by rw [List.mem_singleton.mp hb]; intro e; exact h1 (e ▸ ha)⟩
        · rcases List.mem_append.mp hk with z | z
          · exact ok k z
          · rw [List.mem_singleton.mp z]; exact h2
      have oj : joinO (.str "") [.lst (cs.map sg)] (B3 :: (ν ++ [.lst (names.map .str)])) = some (.str ⟨cs.toArray⟩, B3 :: (ν ++ [.lst (names.map .str)])) := o_join (by omega)
      simp only [kC_ok, w_nil, kCb_ok, kBMb_ok, oj, wO_some, okQ_at, kAsg_ok, w_gname, nxT_at, seqK_nx, w_seq, w_sIf, w_test, w_op2]
      simp
      rw [ei]
      by_cases hin : (⟨cs.toArray⟩ : Str) ∈ names
      · simp [hin]
        have e4 : lstMk false [.str "q", .str "ab", .str "end", .str "c"] (B3 :: (ν ++ [.lst (names.map .str)])) = some (.lst (FOUR.map .str), B3 :: (ν ++ [.lst (names.map .str)])) := lst_mk (by show 4 ≤ LIM; decide)
        rw [e4]
        simp only [wO_some, okQ_at]
        obtain ⟨J2, hJ2⟩ : ∃ J : Nat → List D → Mu → Prop, J = fun j acc μ => μ = B3 :: (ν ++ [.lst (names.map .str)]) ∧ acc = ((FOUR.take j).filter fun x => decide (x ∉ names)).map .str := ⟨_, rfl⟩
        simp only [kIter_ok, s_lst, wM_some]
        obtain ⟨x0, rest, hf, hx0, hnk⟩ := four_free (names := names) (by omega)
        refine w_lcS J2 (by rw [hJ2]; exact ⟨rfl, rfl⟩) ?_ ?_
        · intro j d acc μ hj hh _
          rw [hJ2] at hh
          obtain ⟨rfl, rfl⟩ := hh
          rw [List.getElem?_map] at hj
          obtain ⟨s, hs, rfl⟩ := Option.map_eq_some_iff.mp hj
          have hjl : j < 4 := (List.getElem?_eq_some_iff.mp hs).1
          have en : ∀ a : D, inO true (.str s) (.cell (ν.length + 1)) (B3 :: (ν ++ [.lst (names.map .str), a])) = some (.bl (!decide (s ∈ names)), B3 :: (ν ++ [.lst (names.map .str), a])) := fun a => in_strs (by simp) true
          simp [wipeG, en]
          by_cases hm : s ∈ names
          · simp [hm]
            refine ⟨B3 :: (ν ++ [.lst (names.map .str)]), by simp, by simp, ?_⟩
            rw [hJ2]
            refine ⟨rfl, ?_⟩
            rw [filter_take _ _ _ _ hs]
            simp [hm]
          · simp [hm]
            refine ⟨?_, B3 :: (ν ++ [.lst (names.map .str)]), by simp, by simp, ?_⟩
            · have := List.length_filter_le (fun x => decide (x ∉ names)) (FOUR.take j)
              rw [List.length_take] at this
              simp at this ⊢
              unfold LIM
              omega
            · rw [hJ2]
              refine ⟨rfl, ?_⟩
              rw [filter_take _ _ _ _ hs]
              simp [hm]
        · intro acc μ hh _
          rw [hJ2] at hh
          obtain ⟨rfl, rfl⟩ := hh
          rw [List.length_map, List.take_length]
          have hf' : FOUR.filter (fun x => decide (x ∉ names)) = x0 :: rest := hf
          rw [hf']
          refine ⟨bndL_pln pl, bndL_pln (n := 1) (by simp [pln]), ?_⟩
          simp [ty, ap]
          exact fin _ _ _ _ hx0 hnk
      · simp [hin, ty, ap]
        exact fin _ _ _ _ hin nk
  · intro δ μ hh
    rw [hI] at hh
    obtain ⟨B1, names, x, y, z, u, hB1, rfl, rfl, hl, nd, ok⟩ := hh
    rw [rng_len] at hl
    have e2 : tupleO [.cell (ν.length + 1)] (B1 :: (ν ++ [D.lst (names.map .str)])) = some (.tup (names.map .str), B1 :: (ν ++ [.lst (names.map .str)])) := by
      have : seqOf (B1 :: (ν ++ [D.lst (names.map .str)])) (.cell (ν.length + 1)) = some (names.map .str) := by simp [seqOf, lstOfS, lstOf]
      unfold tupleO
      simp only [this]
    have f := fin_cut (b := ν.length + 1) (n := 12) (d := D.tup (names.map D.str)) (ν := B1 :: ν) (ξ := [D.lst (names.map D.str)]) rfl (by
      rw [List.all_cons, pln_up 5 12 _ (by omega) (bag_pln hB1), hν]; rfl) (by show pln 12 _ = true; simp [pln])
    rw [List.cons_append] at f
    simp [e2, f]
    exact h names B1 hB1 hl nd ok
end K80
end
section
set_option Elab.async false
set_option linter.all false
set_option maxHeartbeats 4000000
namespace K80
open PySem PySem.Spec L2 Iv

/-! ### permutations of at most six things, taken sixty times -/
def itN (f : Nat → Nat) : Nat → Nat → Nat
  | 0, x => x
  | k + 1, x => f (itN f k x)
theorem itN_add (f : Nat → Nat) (a b x : Nat) : itN f (a + b) x = itN f a (itN f b x) := by
  induction a with
  | zero => rw [Nat.zero_add]; rfl
  | succ a ih => rw [Nat.succ_add]; show f (itN f (a + b) x) = f (itN f a (itN f b x)); rw [ih]
theorem nth_eq {p : List Nat} {x : Nat} (h : x < p.length) : nth p x = p[x] := by
  unfold nth
  rw [List.getD_eq_getElem?_getD, List.getElem?_eq_getElem h]
  rfl
theorem nth_lt {p : List Nat} (hp : PermOk p) {x : Nat} (h : x < p.length) : nth p x < p.length := by
  rw [nth_eq h]
  exact hp.lt _ (List.getElem_mem h)
theorem nth_inj {p : List Nat} (hp : PermOk p) {x y : Nat} (hx : x < p.length) (hy : y < p.length) (e : nth p x = nth p y) : x = y := by
  rw [nth_eq hx, nth_eq hy] at e
  have nd := List.pairwise_iff_getElem.mp hp.nd
  rcases Nat.lt_trichotomy x y with k | k | k
  · exact absurd e (nd x y hx hy k)
  · exact k
  · exact absurd e.symm (nd y x hy hx k)
theorem itN_lt {p : List Nat} (hp : PermOk p) {x : Nat} (h : x < p.length) : ∀ k, itN (nth p) k x < p.length
  | 0 => h
  | k + 1 => nth_lt hp (itN_lt hp h k)
theorem itN_inj {p : List Nat} (hp : PermOk p) : ∀ k {x y : Nat}, x < p.length → y < p.length → itN (nth p) k x = itN (nth p) k y → x = y
  | 0, _, _, _, _, e => e
  | k + 1, x, y, hx, hy, e => itN_inj hp k hx hy (nth_inj hp (itN_lt hp hx k) (itN_lt hp hy k) e)
theorem itN_mul {f : Nat → Nat} {d x : Nat} (h : itN f d x = x) : ∀ q, itN f (q * d) x = x
  | 0 => by rw [Nat.zero_mul]; rfl
  | q + 1 => by rw [Nat.succ_mul, itN_add, h, itN_mul h q]
theorem it60 {p : List Nat} (hp : PermOk p) (h6 : p.length ≤ 6) {x : Nat} (h : x < p.length) : itN (nth p) 60 x = x := by
  have key : ∃ i j : Nat, i < j ∧ j ≤ 6 ∧ itN (nth p) i x = itN (nth p) j x := by
    apply Classical.byContradiction
    intro no
    have nd : ((List.range 7).map fun k => itN (nth p) k x).Nodup := by
      refine List.pairwise_map.mpr ?_
      refine List.Pairwise.imp_of_mem ?_ (List.pairwise_lt_range (n := 7))
      intro a b ha hb hab e
      exact no ⟨a, b, hab, by have := List.mem_range.mp hb; omega, e⟩
    have := pigeon nd (l2 := List.range p.length) fun y hy => by
      obtain ⟨k, _, rfl⟩ := List.mem_map.mp hy
      exact List.mem_range.mpr (itN_lt hp h k)
    simp at this
    omega
  obtain ⟨i, j, hij, hj, e⟩ := key
  obtain ⟨d, rfl⟩ : ∃ d, j = i + d := ⟨j - i, by omega⟩
  rw [itN_add] at e
  have e2 := (itN_inj hp i h (itN_lt hp h d) e).symm
  have hd : d = 1 ∨ d = 2 ∨ d = 3 ∨ d = 4 ∨ d = 5 ∨ d = 6 := by omega
  rcases hd with rfl | rfl | rfl | rfl | rfl | rfl
  · exact itN_mul e2 60
  · exact itN_mul e2 30
  · exact itN_mul e2 20
  · exact itN_mul e2 15
  · exact itN_mul e2 12
  · exact itN_mul e2 10
def mvI (rule naming : List Nat) : Nat → T → T
  | 0, t => t
  | k + 1, t => mv rule naming (mvI rule naming k t)
theorem mvI_eq (rule naming : List Nat) : ∀ k (t : T), mvI rule naming k t = ⟨itN (nth naming) k t.s, itN (nth naming) k t.t, t.w.map (itN (nth rule) k), t.c⟩
  | 0, t => by
    show t = ⟨t.s, t.t, t.w.map (fun x => x), t.c⟩
    rw [List.map_id']
  | k + 1, t => by
    show mv rule naming (mvI rule naming k t) = _
    rw [mvI_eq rule naming k t]
    unfold mv
    simp only [List.map_map]
    rfl
theorem mv_ok {rule naming : List Nat} (hr : PermOk rule) (hn : PermOk naming) {t : T} (h : OkT naming.length rule.length t) : OkT naming.length rule.length (mv rule naming t) where
  os := nth_lt hn h.os
  ot := nth_lt hn h.ot
  ow := fun x hx => by
    obtain ⟨y, hy, rfl⟩ := List.mem_map.mp hx
    exact nth_lt hr (h.ow y hy)
  oc := h.oc
  ol := by show (t.w.map _).length ≤ 20; rw [List.length_map]; exact h.ol
theorem mvI_ok {rule naming : List Nat} (hr : PermOk rule) (hn : PermOk naming) {t : T} (h : OkT naming.length rule.length t) : ∀ k, OkT naming.length rule.length (mvI rule naming k t)
  | 0 => h
  | k + 1 => mv_ok hr hn (mvI_ok hr hn h k)
theorem mv60 {rule naming : List Nat} (hr : PermOk rule) (hn : PermOk naming) (r6 : rule.length ≤ 6) (n6 : naming.length ≤ 6) {t : T} (h : OkT naming.length rule.length t) : mvI rule naming 60 t = t := by
  rw [mvI_eq, it60 hn n6 h.os, it60 hn n6 h.ot]
  have e : t.w.map (itN (nth rule) 60) = t.w := by
    have : t.w.map (itN (nth rule) 60) = t.w.map id := List.map_congr_left fun x hx => it60 hr r6 (h.ow x hx)
    rw [this, List.map_id]
  rw [e]
/-! ### what a rule and a naming keep -/
def Kept (rule naming : List Nat) (ts : List T) : Prop := (ts.map rd).Perm (ts.map fun t => rd (mv rule naming t))
theorem rd_mv (rule naming : List Nat) (t : T) : rd (mv rule naming (rd t)) = rd (mv rule naming t) := by
  have : rd t = far t ∨ rd t = t := by
    unfold rd
    split
    · exact .inl rfl
    · exact .inr rfl
  rcases this with e | e
  · rw [e, mv_far, rd_far]
  · rw [e]
theorem Kept.nil {r n : List Nat} : Kept r n [] := List.Perm.refl _
theorem Kept.app {r n : List Nat} {a b : List T} (h : Kept r n a) (k : Kept r n b) : Kept r n (a ++ b) := by
  unfold Kept
  rw [List.map_append, List.map_append]
  exact h.append k
theorem Kept.shown {r n : List Nat} {a b : List T} (h : Kept r n a) (k : (b.map rd).Perm (a.map rd)) : Kept r n b := by
  have e : ∀ l : List T, (l.map fun t => rd (mv r n t)) = (l.map rd).map fun t => rd (mv r n t) := fun l => by
    rw [List.map_map]
    exact List.map_congr_left fun t _ => (rd_mv r n t).symm
  unfold Kept at h ⊢
  rw [e] at h ⊢
  exact k.trans (h.trans (k.symm.map _))
theorem Kept.orb {r n : List Nat} {t : T} {k : Nat} (e : rd (mvI r n (k + 1) t) = rd t) : Kept r n ((List.range (k + 1)).map fun i => mvI r n i t) := by
  have a1 : (List.range (k + 2)).map (fun i => rd (mvI r n i t)) = (List.range (k + 1)).map (fun i => rd (mvI r n i t)) ++ [rd t] := by
    rw [List.range_succ, List.map_append, List.map_cons, List.map_nil, e]
  have a2 : (List.range (k + 2)).map (fun i => rd (mvI r n i t)) = rd t :: (List.range (k + 1)).map (fun i => rd (mvI r n (i + 1) t)) := by
    rw [List.range_succ_eq_map, List.map_cons, List.map_map]
    rfl
  unfold Kept
  rw [List.map_map, List.map_map]
  have p1 : (rd t :: (List.range (k + 1)).map (fun i => rd (mvI r n i t))).Perm (rd t :: (List.range (k + 1)).map (fun i => rd (mvI r n (i + 1) t))) := by
    rw [← a2, a1]
    exact List.perm_append_comm (l₁ := [rd t])
  exact p1.cons_inv
def sq (p : List Nat) : List Nat := p.map fun x => nth p x
theorem sq_len (p : List Nat) : (sq p).length = p.length := List.length_map _
theorem sq_nth {p : List Nat} {x : Nat} (h : x < p.length) : nth (sq p) x = nth p (nth p x) := by
  rw [nth_eq (by rw [sq_len]; exact h), nth_eq h]
  unfold sq
  rw [List.getElem_map]
theorem sq_perm {p : List Nat} (h : PermOk p) : PermOk (sq p) where
  nd := by
    refine List.pairwise_map.mpr (List.Pairwise.imp_of_mem ?_ h.nd)
    intro a b ha hb hab e
    exact hab (nth_inj h (h.lt a ha) (h.lt b hb) e)
  lt := fun x hx => by
    obtain ⟨y, hy, rfl⟩ := List.mem_map.mp hx
    rw [sq_len]
    exact nth_lt h (h.lt y hy)
  le := by rw [sq_len]; exact h.le
theorem Kept.sq {r n : List Nat} {ts : List T} (ho : ∀ t ∈ ts, OkT n.length r.length t) (h : Kept r n ts) : Kept (sq r) (sq n) ts := by
  have e : ∀ t ∈ ts, mv (K80.sq r) (K80.sq n) t = mv r n (mv r n t) := fun t ht => by
    have o := ho t ht
    unfold mv
    rw [sq_nth o.os, sq_nth o.ot, List.map_map]
    have : t.w.map (fun x => nth (K80.sq r) x) = t.w.map ((fun x => nth r x) ∘ fun x => nth r x) := List.map_congr_left fun x hx => sq_nth (o.ow x hx)
    rw [this]
  have e2 : (ts.map fun t => rd (mv (K80.sq r) (K80.sq n) t)) = (ts.map fun t => rd (mv r n t)).map fun t => rd (mv r n t) := by
    rw [List.map_map]
    refine List.map_congr_left fun t ht => ?_
    rw [e t ht]
    exact (rd_mv r n (mv r n t)).symm
  have e3 : (ts.map fun t => rd (mv r n t)) = (ts.map rd).map fun t => rd (mv r n t) := by
    rw [List.map_map]
    exact List.map_congr_left fun t _ => (rd_mv r n t).symm
  unfold Kept at h ⊢
  rw [e2]
  refine h.trans ?_
  have := h.map fun t => rd (mv r n t)
  rw [← e3] at this
  exact this
theorem eqD_nat (l : List Nat) : eqL (l.map dN) (l.map dN) = true := by
  induction l with
  | nil => simp [eqL]
  | cons x l ih => rw [List.map_cons, eqL, ih]; simp [eqD]
theorem eqD_dT (t : T) : eqD (dT t) (dT t) = true := by
  unfold dT dW
  simp [eqD, eqL, eqD_nat]
theorem eqL_dT (l : List T) : eqL (l.map dT) (l.map dT) = true := by
  induction l with
  | nil => simp [eqL]
  | cons x l ih => rw [List.map_cons, eqL, ih, eqD_dT]; rfl
theorem eqL_self : ∀ l : List D, (∀ d ∈ l, eqD d d = true) → eqL l l = true
  | [], _ => by simp [eqL]
  | d :: l, h => by rw [eqL, h d List.mem_cons_self, eqL_self l fun e he => h e (List.mem_cons_of_mem _ he)]; rfl
theorem Kept.keeps {r n : List Nat} {ts : List T} (h : Kept r n ts) : keeps r n ts = true := by
  unfold K80.keeps
  have e : isortD ((ts.map fun t => rd (mv r n t)).map dT) = isortD ((ts.map rd).map dT) := by
    refine srtd_one _ _ (fun x hx y hy e => ?_) ((isortD_perm _).trans ((h.symm.map dT).trans (isortD_perm _).symm)) (isortD_srtd _) (isortD_srtd _)
    obtain ⟨a, _, rfl⟩ := List.mem_map.mp ((isortD_perm _).mem_iff.mp hx)
    obtain ⟨b, _, rfl⟩ := List.mem_map.mp ((isortD_perm _).mem_iff.mp hy)
    exact code_inj (srt_dT a) (srt_dT b) (cmp_lt a b) ⟨_, cmp_lt b a⟩ e
  rw [e]
  exact eqL_self _ fun d hd => by
    obtain ⟨a, _, rfl⟩ := List.mem_map.mp ((isortD_perm _).mem_iff.mp hd)
    exact eqD_dT a
end K80
end
section
set_option Elab.async false
set_option linter.all false
set_option maxHeartbeats 4000000
namespace K80
open PySem PySem.Spec L2 Iv

/-! ### a tie changed -/
theorem w_onech (F : Nat) {B : D} {ν : Mu} {sp nu : Nat} {t : T} {Q : R D → Mu → Prop} (hB : Bag B) (ht : OkT sp nu t) (h10 : t.w.length ≤ 10) (h1 : 0 < sp) (h2 : 0 < nu) (h3 : sp < 1000) (h4 : nu < 1000)
    (h : ∀ (u : T) B', Bag B' → OkT sp nu u → Q (.ok (dT u)) (B' :: ν)) : wM (r_x_law_one_changed F [.cell 0, dT t, dN sp, dN nu] (B :: ν)) Q := by
  unfold r_x_law_one_changed
  rw [w_fn]
  unfold b_x_law_one_changed
  have es : dT t = .tup [dN t.s, dN t.t, dW t.w, .int t.c] := rfl
  rw [es]
  simp
  refine w_draw F hB (by omega) (by omega) fun r B1 hB1 r1 r2 => ?_
  have tm : ∀ (u : T) (μ : Mu), tupMk [dN u.s, dN u.t, dW u.w, .int u.c] μ = some (dT u, μ) := fun u μ => tup_mk (by show 4 ≤ LIM; decide)
  have rv : ∀ μ : Mu, revO false (dW t.w) μ = some (dW t.w.reverse, μ) := fun μ => by
    show some (D.tup (t.w.map dN).reverse, μ) = _
    rw [← List.map_reverse]
    rfl
  have hr : r = 0 ∨ r = 1 ∨ r = 2 ∨ r = 3 ∨ r = 4 ∨ r = 5 ∨ r = 6 := by omega
  have orv : ∀ x ∈ t.w.reverse, x < nu := fun x hx => ht.ow x (List.mem_reverse.mp hx)
  have lrv : t.w.reverse.length ≤ 20 := by rw [List.length_reverse]; exact ht.ol
  rcases hr with rfl | rfl | rfl | rfl | rfl | rfl | rfl
  · simp
    have c0 := ht.oc
    by_cases hc : (if t.c < 0 then -t.c else t.c) = 1
    · have tt := tm ⟨t.s, t.t, t.w, t.c + t.c⟩ (B1 :: ν)
      simp [hc, tt, fs]
      exact h _ _ hB1 ⟨ht.os, ht.ot, ht.ow, by show t.c + t.c ≠ 0; omega, ht.ol⟩
    · by_cases hp : 0 < t.c
      · have tt := tm ⟨t.s, t.t, t.w, t.c - 1⟩ (B1 :: ν)
        simp [hc, hp, tt, fs]
        refine h _ _ hB1 ⟨ht.os, ht.ot, ht.ow, ?_, ht.ol⟩
        show t.c - 1 ≠ 0
        rw [if_neg (by omega)] at hc
        omega
      · have tt := tm ⟨t.s, t.t, t.w, t.c + 1⟩ (B1 :: ν)
        simp [hc, hp, tt, fs]
        refine h _ _ hB1 ⟨ht.os, ht.ot, ht.ow, ?_, ht.ol⟩
        show t.c + 1 ≠ 0
        rw [if_pos (by omega)] at hc
        omega
  · have tt := tm ⟨t.t, t.s, t.w, t.c⟩ (B1 :: ν)
    simp [tt, fs]
    exact h _ _ hB1 ⟨ht.ot, ht.os, ht.ow, ht.oc, ht.ol⟩
  · have tt := tm ⟨t.s, t.t, t.w.reverse, t.c⟩ (B1 :: ν)
    simp [rv, tt, fs]
    exact h _ _ hB1 ⟨ht.os, ht.ot, orv, ht.oc, lrv⟩
  · simp
    refine w_draw F hB1 (by omega) (by omega) fun q B2 hB2 q1 q2 => ?_
    obtain ⟨k, rfl⟩ : ∃ k : Nat, q = k := ⟨q.toNat, by omega⟩
    have tt := tm ⟨t.s, k, t.w, t.c⟩ (B2 :: ν)
    simp [tt, fs]
    exact h _ _ hB2 ⟨ht.os, by show k < sp; omega, ht.ow, ht.oc, ht.ol⟩
  · simp
    refine w_draw F hB1 (by omega) (by omega) fun q B2 hB2 q1 q2 => ?_
    obtain ⟨k, rfl⟩ : ∃ k : Nat, q = k := ⟨q.toNat, by omega⟩
    have tt := tm ⟨t.s, t.t, t.w ++ [k], t.c⟩ (B2 :: ν)
    have t1 : tupMk [.int (k : Int)] (B2 :: ν) = some (.tup [.int (k : Int)], B2 :: ν) := tup_mk (by show 1 ≤ LIM; decide)
    have ad : addO false (dW t.w) (.tup [.int (k : Int)]) (B2 :: ν) = some (dW (t.w ++ [k]), B2 :: ν) := by
      unfold dW
      rw [o_addT (by simp; unfold LIM; omega)]
      simp
    simp [t1, ad, tt, fs]
    refine h _ _ hB2 ⟨ht.os, ht.ot, fun x hx => ?_, ht.oc, by show (t.w ++ [k]).length ≤ 20; simp; omega⟩
    rcases List.mem_append.mp hx with z | z
    · exact ht.ow x z
    · rw [List.mem_singleton.mp z]; omega
  · have tt := tm ⟨t.t, t.s, t.w.reverse, t.c⟩ (B1 :: ν)
    simp [rv, tt, fs]
    exact h _ _ hB1 ⟨ht.ot, ht.os, orv, ht.oc, lrv⟩
  · have sl : slO false (dW t.w) none (some (-1)) (B1 :: ν) = some (dW t.w.dropLast, B1 :: ν) := by
      show some (D.tup (cutL (t.w.map dN) none (some (-1))), B1 :: ν) = _
      have : cutL (t.w.map dN) none (some (-1)) = t.w.dropLast.map dN := by
        have e1 : HT.sIx (t.w.map dN).length 0 none = 0 := rfl
        have e2 : HT.sIx (t.w.map dN).length (t.w.map dN).length (some (-1)) = t.w.length - 1 := by
          unfold HT.sIx
          rw [List.length_map]
          simp only
          rw [if_pos (by decide)]
          omega
        unfold cutL
        rw [e1, e2, List.drop_zero, Nat.sub_zero, List.dropLast_eq_take, List.map_take]
      rw [this]
      rfl
    have tt := tm ⟨t.s, t.t, t.w.dropLast, 0 - t.c⟩ (B1 :: ν)
    have hc := ht.oc
    simp [sl] at tt ⊢
    simp [tt, fs]
    refine h _ _ hB1 ⟨ht.os, ht.ot, fun x hx => ht.ow x (List.dropLast_subset _ hx), by show - t.c ≠ 0; omega, by show t.w.dropLast.length ≤ 20; rw [List.length_dropLast]; omega⟩
/-! ### some ties changed -/
theorem map_erase {α β : Type} (f : α → β) : ∀ (l : List α) (i : Nat), (l.map f).eraseIdx i = (l.eraseIdx i).map f
  | [], _ => by simp
  | _ :: _, 0 => by simp
  | _ :: l, i + 1 => by simp [map_erase f l i]
theorem w_chties (F : Nat) {B : D} {ν : Mu} {sp nu : Nat} {ts : List T} {Q : R D → Mu → Prop} (hB : Bag B) (hν : ν.all (pln 12) = true) (ht : ∀ t ∈ ts, OkT sp nu t) (h10 : ∀ t ∈ ts, t.w.length ≤ 10) (hl : ts.length < 900) (h1 : 0 < sp) (h2 : 0 < nu) (h3 : sp < 1000) (h4 : nu < 1000)
    (h : ∀ (us : List T) B', Bag B' → (∀ t ∈ us, OkT sp nu t) → us.length < 901 → Q (.ok (.lst (us.map dT))) (B' :: ν)) : wM (r_x_law_changed_ties F [.cell 0, .lst (ts.map dT), dN sp, dN nu] (B :: ν)) Q := by
  unfold r_x_law_changed_ties
  rw [w_fn]
  unfold b_x_law_changed_ties
  have g : ∀ (B' : D) (us : List T), (B' :: (ν ++ [D.lst (us.map dT)]))[ν.length + 1]? = some (.lst (us.map dT)) := fun B' us => by simp
  have en : ∀ (B' : D) (us : List T), (finD false (ν.length + 1) (.cell (ν.length + 1)) (B' :: (ν ++ [D.lst (us.map dT)]))) = some (.lst (us.map dT), B' :: ν) → True := fun _ _ _ => trivial
  have fin : ∀ (B' : D) (us : List T), Bag B' → finD false (ν.length + 1) (.cell (ν.length + 1)) (B' :: (ν ++ [D.lst (us.map dT)])) = some (.lst (us.map dT), B' :: ν) := fun B' us hB' => by
    have fc := fin_cell (b := ν.length + 1) (n := 12) (ds := us.map dT) (ν := B' :: ν) (ξ := [D.lst (us.map dT)]) (k := ν.length + 1) rfl (by
      rw [List.all_cons, Bool.and_eq_true]
      exact ⟨pln_up 5 12 _ (by omega) (bag_pln hB'), hν⟩) (by omega) (by
        rw [List.cons_append]; exact g B' us) (dTs_pln us 11 (by omega))
    rwa [List.cons_append] at fc
  have tr : truO (.cell (ν.length + 1)) (B :: (ν ++ [D.lst (ts.map dT)])) = some (!ts.isEmpty) := by
    have e : seqOf (B :: (ν ++ [D.lst (ts.map dT)])) (.cell (ν.length + 1)) = some (ts.map dT) := by simp [seqOf, lstOfS, lstOf]
    unfold truO
    simp only [e]
    cases ts <;> rfl
  have ln : ∀ B', lenO [.cell (ν.length + 1)] (B' :: (ν ++ [D.lst (ts.map dT)])) = some (.int (ts.length : Nat), B' :: (ν ++ [D.lst (ts.map dT)])) := fun B' => by
    have := o_lenC (g B' ts)
    rwa [List.length_map] at this
  simp [tr]
  by_cases hz : ts = []
  · subst hz
    simp
    have := fin B [] hB
    simp at this
    simp [this]
    exact h [] B hB (by simp) (by simp)
  · have hp := List.length_pos_iff.mpr hz
    simp [hz, ln]
    refine w_draw F hB (by omega) (by omega) fun r B1 hB1 r1 r2 => ?_
    simp
    refine w_draw F hB1 (by omega) (by omega) fun q B2 hB2 q1 q2 => ?_
    have hr : r.toNat < ts.length := by omega
    have hg : (ts.map dT)[r.toNat]? = some (dT ts[r.toNat]) := by rw [List.getElem?_map, List.getElem?_eq_getElem hr]; rfl
    have ix : ∀ B', idxO (.cell (ν.length + 1)) (.int r) (B' :: (ν ++ [D.lst (ts.map dT)])) = some (dT ts[r.toNat], B' :: (ν ++ [D.lst (ts.map dT)])) := fun B' => o_idxC (g B' ts) (atD_pos r1 hg)
    have ty : ∀ B', hasTy "list" (.cell (ν.length + 1)) (B' :: (ν ++ [D.lst (ts.map dT)])) = true := fun B' => ty_cell (g B' ts)
    have hq : q = 0 ∨ q = 1 ∨ q = 2 ∨ q = 3 := by omega
    by_cases h0 : q = 0
    · have pp : popO (.cell (ν.length + 1)) [.int r] (B2 :: (ν ++ [D.lst (ts.map dT)])) = some (dT ts[r.toNat], B2 :: (ν ++ [D.lst ((ts.eraseIdx r.toNat).map dT)])) := by
        rw [o_pop (g B2 ts) r1 (by unfold LIM; omega) hg, List.set_cons_succ, List.set_append_right _ _ (Nat.le_refl _), Nat.sub_self, map_erase]
        rfl
      simp [h0, ty, pp, fin B2 _ hB2]
      exact h _ _ hB2 (fun t htt => ht t (List.mem_of_mem_eraseIdx htt)) (by have := List.length_eraseIdx_le ts r.toNat; omega)
    · by_cases h1' : q = 1
      · have ap : appendO (.cell (ν.length + 1)) [dT ts[r.toNat]] (B2 :: (ν ++ [D.lst (ts.map dT)])) = some (.non, B2 :: (ν ++ [D.lst ((ts ++ [ts[r.toNat]]).map dT)])) := by
          rw [o_app (g B2 ts) (by rw [List.length_map]; unfold LIM; omega), List.set_cons_succ, List.set_append_right _ _ (Nat.le_refl _), Nat.sub_self, List.map_append]
          rfl
        have f2 := fin B2 (ts ++ [ts[r.toNat]]) hB2
        rw [List.map_append] at ap f2
        simp at ap f2
        simp [h1', ty, ix, ap, f2]
        have := h (ts ++ [ts[r.toNat]]) B2 hB2 (fun t htt => by
          rcases List.mem_append.mp htt with z | z
          · exact ht t z
          · rw [List.mem_singleton.mp z]; exact ht _ (List.getElem_mem hr)) (by simp; omega)
        simpa using this
      · simp [h0, h1', ix]
        refine w_onech F hB2 (ht _ (List.getElem_mem hr)) (h10 _ (List.getElem_mem hr)) h1 h2 h3 h4 fun u B3 hB3 hu => ?_
        have st : setO (.cell (ν.length + 1)) (.int r) (dT u) (B3 :: (ν ++ [D.lst (ts.map dT)])) = some (B3 :: (ν ++ [D.lst ((ts.set r.toNat u).map dT)])) := by
          have := o_setC (μ := B3 :: (ν ++ [D.lst (ts.map dT)])) (n := ν.length + 1) (k := r.toNat) (d := dT u) (g B3 ts) (by rw [List.length_map]; exact hr)
          rw [Int.toNat_of_nonneg r1] at this
          rw [this, List.set_cons_succ, List.set_append_right _ _ (Nat.le_refl _), Nat.sub_self, List.map_set]
          rfl
        have f3 := fin B3 (ts.set r.toNat u) hB3
        have := h (ts.set r.toNat u) B3 hB3 (fun t htt => by
          rcases List.mem_or_eq_of_mem_set htt with z | z
          · exact ht t z
          · rw [z]; exact hu) (by rw [List.length_set]; omega)
        rw [List.map_set] at st f3 this
        simp [st, f3]
        exact this
end K80
end
section
set_option Elab.async false
set_option linter.all false
set_option maxHeartbeats 4000000
namespace K80
open PySem PySem.Spec L2 Iv

/-! ### the same values -/
def sd : Nat → D → Bool
  | _, .non => true
  | _, .bl _ => true
  | _, .int _ => true
  | n + 1, .tup ds => decide (ds.length ≤ LIM) && ds.all (sd n)
  | n + 1, .lst ds => decide (ds.length ≤ LIM) && ds.all (sd n)
  | _, _ => false
theorem eq_bls {neg : Bool} {bs : List Bool} {μ : Mu} : eqO neg (.lst (bs.map .bl)) (.lst (bs.map .bl)) μ = some (.bl (if neg then false else true), μ) := by
  have e1 : eqD (.lst (bs.map .bl)) (.lst (bs.map .bl)) = true := by
    rw [eqD]
    exact eqL_self _ fun d hd => by
      obtain ⟨b, _, rfl⟩ := List.mem_map.mp hd
      simp [eqD]
  have s1 : shp DEEP (.lst (bs.map .bl)) = true := by
    show shp 9 _ = true
    rw [shp_lst, shpL_eq_all]
    simp [shp]
  unfold eqO
  simp only [derf]
  rw [if_pos ⟨s1, s1⟩, e1]
  rfl
theorem zip_self (ds : List D) : zipD ds ds = ds.map fun d => .tup [d, d] := by
  unfold zipD
  induction ds with
  | nil => rfl
  | cons d ds ih => rw [List.zipWith_cons_cons, ih]; rfl
theorem w_sameN (F : Nat) : ∀ (n : Nat) (d : D) {μ : Mu} {Q : R D → Mu → Prop}, μ.all (pln 12) = true → sd n d = true → Q (.ok (.bl true)) μ → wM (r_x_law_sameN F (n + 1) [d, d] μ) Q
  | n, d, μ, Q, hμ, hd, h => by
    have tm : ∀ ν : Mu, tupMk [.ty "list", .ty "tuple"] ν = some (.tup [.ty "list", .ty "tuple"], ν) := fun ν => tup_mk (by show 2 ≤ LIM; decide)
    have l2 : ∀ (a b : Bool) (ν : Mu), lstMk false [.bl a, .bl b] ν = some (.lst [.bl a, .bl b], ν) := fun a b ν => lst_mk (by show 2 ≤ LIM; decide)
    have l3 : ∀ (a b c : Bool) (ν : Mu), lstMk false [.bl a, .bl b, .bl c] ν = some (.lst [.bl a, .bl b, .bl c], ν) := fun a b c ν => lst_mk (by show 3 ≤ LIM; decide)
    have q2 : ∀ (a b : Bool) (ν : Mu), eqO true (.lst [.bl a, .bl b]) (.lst [.bl a, .bl b]) ν = some (.bl false, ν) := fun a b ν => eq_bls (neg := true) (bs := [a, b])
    have q3 : ∀ (a b c : Bool) (ν : Mu), eqO true (.lst [.bl a, .bl b, .bl c]) (.lst [.bl a, .bl b, .bl c]) ν = some (.bl false, ν) := fun a b c ν => eq_bls (neg := true) (bs := [a, b, c])
    unfold r_x_law_sameN
    rw [w_fn]
    unfold b_x_law_same
    have walk : ∀ (m : Nat) (ds : List D), n = m + 1 → ds.length ≤ LIM → ds.all (sd m) = true → ∀ δ : Sg, δ = [some d, some d, none, none] →
        lcK F false [2, 3] (gmTup 2 (gmCons (gmName 2) (gmCons (gmName 3) gmNil))) tYesM (mCall 2 (r_x_law_sameN F n) (mCons (mVar 2) (mCons (mVar 3) mNil))) δ (kC mNil δ (kL allO (kRet δ (fnK false μ.length Q)))) (.ok (.stat (zipD ds ds))) μ := by
      intro m ds hm hl ha δ hδ
      subst hm hδ
      rw [zip_self]
      refine w_lcX ds (fun d => .tup [d, d]) (fun _ => .bl true) hl ?_ (bndL_pln hμ) (by simp [pln]) ?_
      · intro x acc K hx hK hacc
        simp [wipeG]
        refine w_sameN F m x ?_ (List.all_eq_true.mp ha x hx) hK
        rw [List.all_append, hμ]
        simp [pln] at hacc ⊢
        exact hacc
      · simp only [kC_ok, w_nil, kCb_ok, kL_ok]
        rw [all_true (by simp)]
        simp [fsame]
        exact h
    cases d with
    | non =>
      have e1 : isO false .non .non μ = some (.bl true, μ) := rfl
      simp [e1, fsame]
      exact h
    | bl b =>
      have e1 : isO false (.bl b) .non μ = some (.bl false, μ) := rfl
      have x_lt : isiO 0 [.bl b, .tup [.ty "list", .ty "tuple"]] μ = some (.bl (isLT (.bl b)), μ) := isi_lt rfl
      have x_int : isiO 0 [.bl b, .ty "int"] μ = some (.bl (isI (.bl b)), μ) := isi_int rfl
      have x_bool : isiO 0 [.bl b, .ty "bool"] μ = some (.bl (isB (.bl b)), μ) := isi_bool rfl
      have x_str : isiO 0 [.bl b, .ty "str"] μ = some (.bl (isS (.bl b)), μ) := isi_str rfl
      have e2 : eqO false (.bl b) (.bl b) μ = some (.bl true, μ) := by
        unfold eqO
        simp [derf, shp, eqD]
      simp [e1, tm, x_lt, x_bool, x_int, x_str, isLT, isI, isB, isS, truO, l3, q3, e2, fsame]
      exact h
    | int b =>
      have e1 : isO false (.int b) .non μ = some (.bl false, μ) := rfl
      have x_lt : isiO 0 [.int b, .tup [.ty "list", .ty "tuple"]] μ = some (.bl (isLT (.int b)), μ) := isi_lt rfl
      have x_int : isiO 0 [.int b, .ty "int"] μ = some (.bl (isI (.int b)), μ) := isi_int rfl
      have x_bool : isiO 0 [.int b, .ty "bool"] μ = some (.bl (isB (.int b)), μ) := isi_bool rfl
      have x_str : isiO 0 [.int b, .ty "str"] μ = some (.bl (isS (.int b)), μ) := isi_str rfl
      simp [e1, tm, x_lt, x_bool, x_int, x_str, isLT, isI, isB, isS, truO, l3, q3, fsame]
      exact h
    | tup ds =>
      cases n with
      | zero => cases hd
      | succ m =>
        unfold sd at hd
        rw [Bool.and_eq_true] at hd
        have e1 : isO false (.tup ds) .non μ = some (.bl false, μ) := rfl
        have x_lt : isiO 0 [.tup ds, .tup [.ty "list", .ty "tuple"]] μ = some (.bl (isLT (.tup ds)), μ) := isi_lt rfl
        have x_tup : isiO 0 [.tup ds, .ty "tuple"] μ = some (.bl (isT (.tup ds)), μ) := isi_tup rfl
        have x_list : isiO 0 [.tup ds, .ty "list"] μ = some (.bl (isL (.tup ds)), μ) := isi_list rfl
        have ez : zipS [.tup ds, .tup ds] μ = some (.ok (.stat (zipD ds ds)), μ) := rfl
        simp [e1, tm, x_lt, x_tup, x_list, isLT, isT, isL, truO, l2, q2, ez]
        exact walk m ds rfl (of_decide_eq_true hd.1) hd.2 _ rfl
    | lst ds =>
      cases n with
      | zero => cases hd
      | succ m =>
        unfold sd at hd
        rw [Bool.and_eq_true] at hd
        have e1 : isO false (.lst ds) .non μ = some (.bl false, μ) := rfl
        have x_lt : isiO 0 [.lst ds, .tup [.ty "list", .ty "tuple"]] μ = some (.bl (isLT (.lst ds)), μ) := isi_lt rfl
        have x_tup : isiO 0 [.lst ds, .ty "tuple"] μ = some (.bl (isT (.lst ds)), μ) := isi_tup rfl
        have x_list : isiO 0 [.lst ds, .ty "list"] μ = some (.bl (isL (.lst ds)), μ) := isi_list rfl
        have ez : zipS [.lst ds, .lst ds] μ = some (.ok (.stat (zipD ds ds)), μ) := rfl
        simp [e1, tm, x_lt, x_tup, x_list, isLT, isT, isL, truO, l2, q2, ez]
        exact walk m ds rfl (of_decide_eq_true hd.1) hd.2 _ rfl
    | _ => cases n <;> cases hd
theorem w_same (F : Nat) {d : D} {μ : Mu} {Q : R D → Mu → Prop} (hμ : μ.all (pln 12) = true) (hd : sd 7 d = true) (h : Q (.ok (.bl true)) μ) : wM (r_x_law_same F [d, d] μ) Q := w_sameN F 7 d hμ hd h
theorem sd_dT (t : T) (h : t.w.length ≤ 20) : sd 6 (dT t) = true := by
  unfold dT dW
  simp [sd]
  unfold LIM
  omega
theorem sd_ts {sp nu : Nat} {ts : List T} (h : ∀ t ∈ ts, OkT sp nu t) (hl : ts.length < 1000) : sd 7 (.lst (ts.map dT)) = true := by
  show (decide ((ts.map dT).length ≤ LIM) && (ts.map dT).all (sd 6)) = true
  rw [Bool.and_eq_true]
  refine ⟨decide_eq_true (by rw [List.length_map]; unfold LIM; omega), List.all_eq_true.mpr fun d hd => ?_⟩
  obtain ⟨t, ht, rfl⟩ := List.mem_map.mp hd
  exact sd_dT t (h t ht).ol
end K80
end
section
set_option Elab.async false
set_option linter.all false
set_option maxHeartbeats 4000000
namespace K80
open PySem PySem.Spec L2 Iv

structure World1 (names : List Str) (sp : Nat) : Prop where
  h0 : names ≠ []
  hn : ∀ x ∈ names, NameOk x
  nd : names.Nodup
  hl : names.length ≤ 100
  hsp : 1 ≤ sp
theorem eq_nats {q : List Nat} {μ : Mu} : eqO false (.lst (q.map dN)) (.lst (q.map dN)) μ = some (.bl true, μ) := by
  have e1 : eqD (.lst (q.map dN)) (.lst (q.map dN)) = true := by
    rw [eqD]
    exact eqD_nat q
  have s1 : shp DEEP (.lst (q.map dN)) = true := by
    show shp 9 _ = true
    rw [shp_lst, shpL_eq_all]
    simp [shp]
  unfold eqO
  simp only [derf]
  rw [if_pos ⟨s1, s1⟩, e1]
  rfl
theorem ck_ties {names : List Str} {sp : Nat} {ts : List T} (ν : Mu) : ckIns 0 "ties" (tileD names sp ts) ν = some (.ok (), ν) := by
  have n1 : ¬ (("ties" : Str) = "sides") := by decide +kernel
  have n2 : ¬ (("ties" : Str) = "spots") := by decide +kernel
  have n3 : ¬ (("ties" : Str) = "_ties") := by decide +kernel
  unfold ckIns tileD
  simp [objOf, n1, n2, n3]
theorem w_asked (F : Nat) {μ : Mu} {names : List Str} {sp : Nat} {ts : List T} {p q : List Nat} {due : Bool} {Q : R D → Mu → Prop} (hμ : μ.all (pln 12) = true) (W : World1 names sp) (ht : ∀ t ∈ ts, OkT sp names.length t) (hl : ts.length < 1000)
    (hp : PermOk p) (hpl : p.length = names.length) (hq : PermOk q) (hql : q.length = sp) (hd : keeps p q ts = due) (h : Q (.ok (.bl true)) μ) : wM (r_x_law_asked F [.tup (names.map .str), dN sp, .lst (ts.map dT), dW p, .lst (q.map dN), .bl due] μ) Q := by
  unfold r_x_law_asked
  rw [w_fn]
  unfold b_x_law_asked
  simp
  refine w_tile F hμ W.h0 W.hn W.nd W.hl W.hsp ht ?_
  simp
  refine w_kept F hμ hp hpl hq hql (by rfl) ht (by omega) ?_
  simp
  refine w_kept F hμ hp hpl hq hql (by rfl) ht (by omega) ?_
  have l2 : ∀ (a b : Bool) (ν : Mu), lstMk false [.bl a, .bl b] ν = some (.lst [.bl a, .bl b], ν) := fun a b ν => lst_mk (by show 2 ≤ LIM; decide)
  simp [l2, hd]
  refine w_same F hμ (by cases due <;> decide) ?_
  simp [truO, eq_nats, ck_ties]
  refine w_ties F ?_
  simp
  refine w_same F hμ (sd_ts ht hl) ?_
  simp [fsame]
  exact h
/-! ### values that are no rule, or no naming -/
def badR (m : Nat) (d : D) : Prop := known d = true ∧ (∀ ds, seqD d = some ds → ∀ e ∈ ds, known e = true) ∧ (isT d = true → ¬ (rowB d m = true ∧ ∀ ds, seqD d = some ds → ∀ e ∈ ds, inR e m = true))
def badN (m : Nat) (d : D) : Prop := known d = true ∧ (∀ ds, seqD d = some ds → ∀ e ∈ ds, known e = true) ∧ ¬ (rowB d m = true ∧ ∀ ds, seqD d = some ds → ∀ e ∈ ds, inR e m = true)
theorem perm_has {p : List Nat} (hp : PermOk p) {k : Nat} (h : k < p.length) : k ∈ p := by
  apply Classical.byContradiction
  intro no
  have := pigeon (l1 := k :: p) (l2 := List.range p.length) (List.nodup_cons.mpr ⟨no, hp.nd⟩) fun x hx => by
    rcases List.mem_cons.mp hx with z | z
    · rw [z]; exact List.mem_range.mpr h
    · exact List.mem_range.mpr (hp.lt x z)
  rw [List.length_cons, List.length_range] at this
  omega
def tru1 (k : Nat) : D := if k < 2 then .bl (decide (k = 1)) else dN k
theorem tru1_known (k : Nat) : known (tru1 k) = true := by
  unfold tru1
  split <;> rfl
theorem seqD_lst {ds es : List D} (h : seqD (.lst ds) = some es) : es = ds := by cases h; rfl
theorem seqD_tup {ds es : List D} (h : seqD (.tup ds) = some es) : es = ds := by cases h; rfl
theorem bad_elem {m : Nat} {ds : List D} {d : D} (hs : seqD d = some ds) (hk : known d = true) (hks : ∀ e ∈ ds, known e = true) (e : D) (he : e ∈ ds) (hb : inR e m = false) : badN m d :=
  ⟨hk, fun es h => by rw [hs] at h; cases h; exact hks, fun z => by have := z.2 ds hs e he; rw [hb] at this; cases this⟩
theorem bad_len {m : Nat} {ds : List D} {d : D} (hs : seqD d = some ds) (hk : known d = true) (hks : ∀ e ∈ ds, known e = true) (hl : ds.length ≠ m) : badN m d :=
  ⟨hk, fun es h => by rw [hs] at h; cases h; exact hks, fun z => by
    have := z.1
    unfold rowB at this
    rw [hs] at this
    exact hl (by have := of_decide_eq_true this; omega)⟩
theorem bad_no {m : Nat} {d : D} (hs : seqD d = none) (hk : known d = true) : badN m d :=
  ⟨hk, fun es h => (by rw [hs] at h; cases h), fun z => by
    have := z.1
    unfold rowB at this
    rw [hs] at this
    cases this⟩
theorem in_neg {i m : Int} (h : i < 0) : inR (.int i) m = false := by
  have : ¬ (0 ≤ i) := by omega
  simp [inR, this]
theorem in_over {i m : Int} (h : m ≤ i) : inR (.int i) m = false := by
  have : ¬ (i < m) := by omega
  simp [inR, this]
theorem badN.R {m : Nat} {d : D} (h : badN m d) : badR m d := ⟨h.1, h.2.1, fun _ => h.2.2⟩
theorem known_nats (l : List Nat) : ∀ e ∈ l.map dN, known e = true := fun e he => by
  obtain ⟨x, _, rfl⟩ := List.mem_map.mp he
  rfl
theorem bad_mem {m : Nat} {p : List Nat} {x : Nat} {f : Nat → D} (hx : x ∈ p) (hf : inR (f x) m = false) (hk : ∀ k, known (f k) = true) (tup : Bool) : badN m (if tup then .tup (p.map f) else .lst (p.map f)) := by
  cases tup
  · exact bad_elem (ds := p.map f) rfl rfl (fun e he => by obtain ⟨k, _, rfl⟩ := List.mem_map.mp he; exact hk k) (f x) (List.mem_map.mpr ⟨x, hx, rfl⟩) hf
  · exact bad_elem (ds := p.map f) rfl rfl (fun e he => by obtain ⟨k, _, rfl⟩ := List.mem_map.mp he; exact hk k) (f x) (List.mem_map.mpr ⟨x, hx, rfl⟩) hf
theorem bad_one {m : Nat} {d e : D} (hs : seqD d = some [e]) (hk : known d = true) (he : known e = true) (hi : inR e m = false) : badN m d := bad_elem hs hk (fun x hx => by rw [List.mem_singleton.mp hx]; exact he) e List.mem_cons_self hi
def badRs (p : List Nat) : List D := [.non, .bl true, .lst (p.map dN), .tup (p.map dN ++ [dN p.length]), .tup (p.map dN).tail, .str "0", .int 0, .dK [] [], .tup (p.map tru1), .tup (p.map fun k : Nat => .int ((k : Int) - p.length)), .tup [dW p]]
theorem badRs_ok {p : List Nat} (hp : PermOk p) (h0 : 0 < p.length) : ∀ d ∈ badRs p, badR p.length d := by
  have z := perm_has hp h0
  intro d hd
  unfold badRs at hd
  simp only [List.mem_cons, List.mem_nil_iff, or_false] at hd
  rcases hd with rfl | rfl | rfl | rfl | rfl | rfl | rfl | rfl | rfl | rfl | rfl
  · exact (bad_no rfl rfl).R
  · exact (bad_no rfl rfl).R
  · exact ⟨rfl, fun ds h => by cases h; exact known_nats p, fun z => by cases z⟩
  · exact (bad_len (ds := p.map dN ++ [dN p.length]) rfl rfl (fun e he => by
      rcases List.mem_append.mp he with y | y
      · exact known_nats p e y
      · rw [List.mem_singleton.mp y]; rfl) (by simp)).R
  · exact (bad_len (ds := (p.map dN).tail) rfl rfl (fun e he => known_nats p e (List.mem_of_mem_tail he)) (by rw [List.length_tail, List.length_map]; omega)).R
  · exact (bad_no rfl rfl).R
  · exact (bad_no rfl rfl).R
  · exact (bad_no rfl rfl).R
  · exact (bad_mem (x := 0) (f := tru1) z rfl tru1_known true).R
  · exact (bad_mem (x := 0) (f := fun k : Nat => .int ((k : Int) - p.length)) z (in_neg (by omega)) (fun _ => rfl) true).R
  · exact (bad_one (e := dW p) rfl rfl rfl rfl).R
def badNs (q : List Nat) : List D := [.non, .int 0, .str "0", .lst (q.map dN ++ [dN q.length]), .lst (q.map dN).tail, .lst (q.map tru1), .dK [.inl 0] [.int 0], .lst [.lst (q.map dN)], .lst (q.map fun k : Nat => .int ((k : Int) - q.length)), .lst (q.map fun k : Nat => .int ((k : Int) + 1))]
theorem badNs_ok {p : List Nat} (hp : PermOk p) (h0 : 0 < p.length) : ∀ d ∈ badNs p, badN p.length d := by
  have z := perm_has hp h0
  have z1 := perm_has hp (k := p.length - 1) (by omega)
  intro d hd
  unfold badNs at hd
  simp only [List.mem_cons, List.mem_nil_iff, or_false] at hd
  rcases hd with rfl | rfl | rfl | rfl | rfl | rfl | rfl | rfl | rfl | rfl
  · exact bad_no rfl rfl
  · exact bad_no rfl rfl
  · exact bad_no rfl rfl
  · exact bad_len (ds := p.map dN ++ [dN p.length]) rfl rfl (fun e he => by
      rcases List.mem_append.mp he with y | y
      · exact known_nats p e y
      · rw [List.mem_singleton.mp y]; rfl) (by simp)
  · exact bad_len (ds := (p.map dN).tail) rfl rfl (fun e he => known_nats p e (List.mem_of_mem_tail he)) (by rw [List.length_tail, List.length_map]; omega)
  · exact bad_mem (x := 0) (f := tru1) z rfl tru1_known false
  · exact bad_no rfl rfl
  · exact bad_one (e := .lst (p.map dN)) rfl rfl rfl rfl
  · exact bad_mem (x := 0) (f := fun k : Nat => .int ((k : Int) - p.length)) z (in_neg (by omega)) (fun _ => rfl) false
  · exact bad_mem (x := p.length - 1) (f := fun k : Nat => .int ((k : Int) + 1)) z1 (in_over (by omega)) (fun _ => rfl) false
end K80
end
section
set_option Elab.async false
set_option linter.all false
set_option maxHeartbeats 4000000
namespace K80
open PySem PySem.Spec L2 Iv

theorem cut1 (l : List D) : cutL l (some 1) none = l.drop 1 := by
  have e1 : HT.sIx l.length 0 (some 1) = min 1 l.length := by
    have := HT.sIx_nat l.length 0 1
    exact this
  have e2 : HT.sIx l.length l.length none = l.length := rfl
  unfold cutL
  rw [e1, e2]
  cases l with
  | nil => rfl
  | cons x l =>
    have : min 1 (x :: l).length = 1 := by simp
    rw [this]
    simp
theorem w_odd (F : Nat) {μ : Mu} {names : List Str} {sp : Nat} {ts : List T} {p q : List Nat} {Q : R D → Mu → Prop} (hμ : μ.all (pln 12) = true) (W : World1 names sp) (ht : ∀ t ∈ ts, OkT sp names.length t) (hl : ts.length < 1000)
    (hp : PermOk p) (hpl : p.length = names.length) (hq : PermOk q) (hql : q.length = sp) (hd : keeps p q ts = true) (h : Q (.ok (.bl true)) μ) : wM (r_x_law_odd_ones F [.tup (names.map .str), dN sp, .lst (ts.map dT), dW p, .lst (q.map dN)] μ) Q := by
  have p0 : 0 < p.length := by rw [hpl]; exact List.length_pos_iff.mpr W.h0
  have q0 : 0 < q.length := by rw [hql]; exact W.hsp
  unfold r_x_law_odd_ones
  rw [w_fn]
  unfold b_x_law_odd_ones
  simp
  refine w_tile F hμ W.h0 W.hn W.nd W.hl W.hsp ht ?_
  have lt : lenO [dW p] μ = some (.int p.length, μ) := by
    show some (D.int (p.map dN).length, μ) = _
    rw [List.length_map]
  have t2 : tupMk [tileD names sp ts, .int p.length] μ = some (.tup [tileD names sp ts, .int p.length], μ) := tup_mk (by show 2 ≤ LIM; decide)
  have sp' : srcD (dW p) μ = some (.ok (.stat (p.map dN)), μ) := rfl
  simp [lt, t2, sp']
  have tru_pl : ∀ l : List Nat, (l.map tru1).all (pln 11) = true := fun l => List.all_eq_true.mpr fun d hd => by
    obtain ⟨k, _, rfl⟩ := List.mem_map.mp hd
    unfold tru1
    split <;> rfl
  refine w_lcX p dN tru1 (by have := hp.le; unfold LIM; omega) ?_ (bndL_pln hμ) (tru_pl p) ?_
  · intro x acc K hx hK _
    simp [wipeG]
    unfold tru1 at hK
    by_cases h2 : x < 2
    · have h2' : (x : Int) < 2 := by omega
      rw [if_pos h2] at hK
      have e : decide ((x : Int) = 1) = decide (x = 1) := by
        rw [decide_eq_decide]
        omega
      simp [h2', e]
      exact hK
    · have h2' : ¬ (x : Int) < 2 := by omega
      rw [if_neg h2] at hK
      simp [h2']
      exact hK
  · have li : listO false [dW p] μ = some (.lst (p.map dN), μ) := rfl
    have t1 : tupMk [dN p.length] μ = some (.tup [dN p.length], μ) := tup_mk (by show 1 ≤ LIM; decide)
    have ad : addO false (dW p) (.tup [dN p.length]) μ = some (.tup (p.map dN ++ [dN p.length]), μ) := o_addT (by simp; have := hp.le; unfold LIM; omega)
    have sl : slO false (dW p) (some 1) none μ = some (.tup (p.map dN).tail, μ) := by
      show some (D.tup (cutL (p.map dN) (some 1) none), μ) = _
      rw [cut1, List.drop_one]
    have nd : newDK false μ = some (.dK [] [], μ) := rfl
    simp [li, t1, ad, sl, nd, sp']
    refine w_lcX p dN (fun k : Nat => .int ((k : Int) - p.length)) (by have := hp.le; unfold LIM; omega) ?_ (bndL_pln hμ) (by simp [pln]) ?_
    · intro x acc K hx hK _
      simp [wipeG]
      exact hK
    · have t3 : tupMk [dW p] μ = some (.tup [dW p], μ) := tup_mk (by show 1 ≤ LIM; decide)
      simp [t3]
      have eR : lstMk false [D.non, D.bl true, D.lst (p.map dN), D.tup (p.map dN ++ [dN p.length]), D.tup (p.map dN).tail, D.str (Str.ofString "0"), D.int 0, D.dK [] [], D.tup (p.map tru1), D.tup (p.map fun k : Nat => D.int ((k : Int) - p.length)), D.tup [dW p]] μ = some (.lst (badRs p), μ) := lst_mk (by show 11 ≤ LIM; decide)
      rw [eR]
      simp only [wO_some, okQ_at, kIter_ok, s_lst, wM_some, forK_ok]
      have okR := badRs_ok hp p0
      generalize badRs p = dsR at okR
      have isf : ∀ ν : Mu, isO true (.bl false) (.bl false) ν = some (.bl false, ν) := fun ν => rfl
      obtain ⟨I, hI⟩ : ∃ I : Nat → Sg → Mu → Prop, I = fun i δ ν => ∃ x : Option D, ν = μ ∧ δ = [some (D.tup (names.map D.str)), some (dN sp), some (D.lst (ts.map dT)), some (dW p), some (D.lst (q.map dN)), some (D.lst (p.map tru1)), x, some (tileD names sp ts), some (D.int p.length), none, none] := ⟨_, rfl⟩
      refine w_forS I (by rw [hI]; exact ⟨none, rfl, rfl⟩) ?_ ?_
      · intro i d δ ν hi hh
        rw [hI] at hh
        obtain ⟨x, rfl, rfl⟩ := hh
        have b := okR d (List.mem_of_getElem? hi)
        rw [hpl] at b
        simp
        refine w_kept_no1 F b.1 b.2.1 b.2.2 ?_
        simp [isf]
        rw [hI]
        exact ⟨_, rfl, rfl⟩
      · intro δ ν hh
        rw [hI] at hh
        obtain ⟨x, rfl, rfl⟩ := hh
        simp
        refine w_lcX q dN tru1 (by have := hq.le; unfold LIM; omega) ?_ (bndL_pln hμ) (tru_pl q) ?_
        · intro x acc K hx hK _
          simp [wipeG]
          unfold tru1 at hK
          by_cases h2 : x < 2
          · have h2' : (x : Int) < 2 := by omega
            rw [if_pos h2] at hK
            have e : decide ((x : Int) = 1) = decide (x = 1) := by
              rw [decide_eq_decide]
              omega
            simp [h2', e]
            exact hK
          · have h2' : ¬ (x : Int) < 2 := by omega
            rw [if_neg h2] at hK
            simp [h2']
            exact hK
        · subst hql
          have l1 : lstMk false [dN q.length] ν = some (.lst [dN q.length], ν) := lst_mk (by show 1 ≤ LIM; decide)
          have ad2 : addO false (.lst (q.map dN)) (.lst [dN q.length]) ν = some (.lst (q.map dN ++ [dN q.length]), ν) := o_addLL (by simp; have := hq.le; unfold LIM; omega)
          have sl2 : slO false (.lst (q.map dN)) (some 1) none ν = some (.lst (q.map dN).tail, ν) := by
            show some (D.lst (cutL (q.map dN) (some 1) none), ν) = _
            rw [cut1, List.drop_one]
          have od : oneDict 0 0 ν = some (.dK [.inl 0] [.int 0], ν) := rfl
          have l3 : lstMk false [.lst (q.map dN)] ν = some (.lst [.lst (q.map dN)], ν) := lst_mk (by show 1 ≤ LIM; decide)
          simp [l1, ad2, sl2, od, l3]
          refine w_lcX q dN (fun k : Nat => .int ((k : Int) - q.length)) (by have := hq.le; unfold LIM; omega) ?_ (bndL_pln hμ) (by simp [pln]) ?_
          · intro x acc K hx hK _
            simp [wipeG]
            exact hK
          · simp
            refine w_lcX q dN (fun k : Nat => .int ((k : Int) + 1)) (by have := hq.le; unfold LIM; omega) ?_ (bndL_pln hμ) (by simp [pln]) ?_
            · intro x acc K hx hK _
              simp [wipeG]
              exact hK
            · simp
              have eN : lstMk false [D.non, D.int 0, D.str (Str.ofString "0"), D.lst (q.map dN ++ [dN q.length]), D.lst (q.map dN).tail, D.lst (q.map tru1), D.dK [Sum.inl 0] [D.int 0], D.lst [D.lst (q.map dN)], D.lst (q.map fun k : Nat => D.int ((k : Int) - q.length)), D.lst (q.map fun k : Nat => D.int ((k : Int) + 1))] ν = some (.lst (badNs q), ν) := lst_mk (by show 10 ≤ LIM; decide)
              rw [eN]
              simp only [wO_some, okQ_at, kIter_ok, s_lst, wM_some, forK_ok]
              have okN := badNs_ok hq q0
              generalize badNs q = dsN at okN
              obtain ⟨J, hJ⟩ : ∃ I : Nat → Sg → Mu → Prop, I = fun i δ ν' => ∃ y : Option D, ν' = ν ∧ δ = [some (D.tup (names.map D.str)), some (dN q.length), some (D.lst (ts.map dT)), some (dW p), some (D.lst (q.map dN)), some (D.lst (q.map tru1)), y, some (tileD names q.length ts), some (D.int p.length), none, none] := ⟨_, rfl⟩
              refine w_forS J (by rw [hJ]; exact ⟨x, rfl, rfl⟩) ?_ ?_
              · intro i d δ ν' hi hh
                rw [hJ] at hh
                obtain ⟨x, rfl, rfl⟩ := hh
                have b := okN d (List.mem_of_getElem? hi)
                simp
                refine w_kept_no2 F hp hpl b.1 b.2.1 b.2.2 ?_
                simp [isf]
                rw [hJ]
                exact ⟨_, rfl, rfl⟩
              · intro δ ν' hh
                rw [hJ] at hh
                obtain ⟨x, rfl, rfl⟩ := hh
                have isf2 : ∀ (b : Bool) (ν : Mu), isO false (.bl b) (.bl b) ν = some (.bl true, ν) := fun b ν => by cases b <;> rfl
                simp
                refine w_kept_no1 F (r := .non) rfl (fun ds h => by cases h) (fun z => by cases z) ?_
                simp [isf2]
                refine w_kept F hμ hp hpl hq rfl (by rfl) ht (by omega) ?_
                rw [hd]
                simp [isf2, fsame]
                exact h
end K80
end
section
set_option Elab.async false
set_option linter.all false
set_option maxHeartbeats 4000000
namespace K80
open PySem PySem.Spec L2 Iv

theorem at_lastO {l : List D} {x : D} : atD (l ++ [x]) (-1) = some x := by
  rw [at_last (by simp)]
  simp
def orbL (r n : List Nat) (t : T) (k : Nat) : List T := (List.range (k + 1)).map fun i => mvI r n i t
theorem orbL_succ {r n : List Nat} {t : T} {k : Nat} : orbL r n t (k + 1) = orbL r n t k ++ [mvI r n (k + 1) t] := by
  unfold orbL
  rw [List.range_succ, List.map_append]
  rfl
theorem orbL_len {r n : List Nat} {t : T} {k : Nat} : (orbL r n t k).length = k + 1 := by
  unfold orbL
  rw [List.length_map, List.length_range]
theorem orbL_last {r n : List Nat} {t : T} : ∀ {k : Nat}, ∃ l, (orbL r n t k).map dT = l ++ [dT (mvI r n k t)]
  | 0 => ⟨[], rfl⟩
  | k + 1 => ⟨(orbL r n t k).map dT, by rw [orbL_succ, List.map_append]; rfl⟩
theorem orbL_first {r n : List Nat} {t : T} {k : Nat} : ∃ l, (orbL r n t k).map dT = dT t :: l := by
  unfold orbL
  rw [List.range_succ_eq_map, List.map_cons, List.map_cons]
  exact ⟨_, rfl⟩
theorem eq_dT {a b : T} {μ : Mu} : eqO false (dT a) (dT b) μ = some (.bl (decide (a = b)), μ) := by
  have e1 : eqD (dT a) (dT b) = decide (a = b) := by
    rw [Bool.eq_iff_iff, decide_eq_true_eq]
    exact ⟨fun h => dT_inj (srt_eq _ _ (srt_dT a) (srt_dT b) h), fun h => h ▸ eqD_dT a⟩
  have d1 : derf μ (dT a) = some (dT a) := rfl
  have d2 : derf μ (dT b) = some (dT b) := rfl
  unfold eqO
  simp only [d1, d2]
  rw [if_pos ⟨shp_dT a, shp_dT b⟩, e1]
  rfl
theorem w_orbits (F : Nat) {B : D} {ν : Mu} {r n : List Nat} {Q : R D → Mu → Prop} (hB : Bag B) (hν : ν.all (pln 12) = true) (hr : PermOk r) (hn : PermOk n) (r6 : r.length ≤ 6) (n6 : n.length ≤ 6) (r0 : 0 < r.length) (n0 : 0 < n.length)
    (h : ∀ (ts : List T) B', Bag B' → Kept r n ts → (∀ t ∈ ts, OkT n.length r.length t) → (∀ t ∈ ts, t.w.length ≤ 10) → ts.length < 900 → Q (.ok (.lst (ts.map dT))) (B' :: ν)) : wM (r_x_law_orbits F [.cell 0, dN n.length, dW r, .lst (n.map dN)] (B :: ν)) Q := by
  unfold r_x_law_orbits
  rw [w_fn]
  unfold b_x_law_orbits
  have l6 : ∀ ν : Mu, lstMk false [.int 1, .int 2, .int 3, .int 1, .int 2, .int 0] ν = some (.lst [.int 1, .int 2, .int 3, .int 1, .int 2, .int 0], ν) := fun ν => lst_mk (by show 6 ≤ LIM; decide)
  have l5 : ∀ ν : Mu, lstMk false [.int 1, .int 2, .int 2, .int 4, .int 0] ν = some (.lst [.int 1, .int 2, .int 2, .int 4, .int 0], ν) := fun ν => lst_mk (by show 5 ≤ LIM; decide)
  have l0 : ∀ ν : Mu, lstMk false [] ν = some (.lst [], ν) := fun ν => lst_mk (by show 0 ≤ LIM; decide)
  simp [l6, l0]
  refine w_of F hB (by simp) (by simp) fun d B1 hB1 hd => ?_
  obtain ⟨m, rfl, hm⟩ : ∃ m : Nat, d = dN m ∧ m ≤ 3 := by
    simp only [List.mem_cons, List.mem_nil_iff, or_false] at hd
    rcases hd with rfl | rfl | rfl | rfl | rfl | rfl
    · exact ⟨1, rfl, by omega⟩
    · exact ⟨2, rfl, by omega⟩
    · exact ⟨3, rfl, by omega⟩
    · exact ⟨1, rfl, by omega⟩
    · exact ⟨2, rfl, by omega⟩
    · exact ⟨0, rfl, by omega⟩
  have e2 : rng1 [dN m] (B1 :: ν) = some (.ok (.stat (rngD 0 m)), B1 :: ν) := by
    have := s_rng1 (μ := B1 :: ν) (j := (m : Int)) (by unfold LIM; omega)
    rwa [Int.toNat_natCast] at this
  simp [e2]
  obtain ⟨I, hI⟩ : ∃ I : Nat → Sg → Mu → Prop, I = fun i δ μ => ∃ (B' : D) (ts : List T) (ξ : Mu) (x y z u v w : Option D), Bag B' ∧ μ = B' :: (ν ++ ξ) ∧ ξ.all (pln 12) = true ∧ δ = [some (.cell 0), some (dN n.length), some (dW r), some (.lst (n.map dN)), some (.lst (ts.map dT)), x, y, z, u, v, w] ∧ Kept r n ts ∧ (∀ t ∈ ts, OkT n.length r.length t) ∧ (∀ t ∈ ts, t.w.length ≤ 10) ∧ ts.length ≤ 200 * i := ⟨_, rfl⟩
  refine w_forS I (by rw [hI]; exact ⟨B1, [], [], _, _, _, _, _, _, hB1, by simp, rfl, rfl, Kept.nil, by simp, by simp, by simp⟩) ?_ ?_
  · intro i d δ μ hi hh
    rw [hI] at hh
    obtain ⟨B2, ts, ξ, x, y, z, u, v, w, hB2, rfl, hξ, rfl, hk, ho, h10, hl⟩ := hh
    obtain ⟨hi1, rfl⟩ := lt_rngN hi
    have pl : (ν ++ ξ).all (pln 12) = true := by rw [List.all_append, hν, hξ]; rfl
    have lw : ∀ ν : Mu, lenO [dW r] ν = some (.int r.length, ν) := fun ν => by
      show some (D.int (r.map dN).length, ν) = _
      rw [List.length_map]
    simp [lw, l5]
    refine w_of F hB2 (by simp) (by simp) fun d B3 hB3 hd => ?_
    obtain ⟨lo, rfl, hlo⟩ : ∃ m : Nat, d = dN m ∧ m ≤ 4 := by
      simp only [List.mem_cons, List.mem_nil_iff, or_false] at hd
      rcases hd with rfl | rfl | rfl | rfl | rfl
      · exact ⟨1, rfl, by omega⟩
      · exact ⟨2, rfl, by omega⟩
      · exact ⟨2, rfl, by omega⟩
      · exact ⟨4, rfl, by omega⟩
      · exact ⟨0, rfl, by omega⟩
    simp
    refine w_word F hB3 pl r0 (by omega) (by omega) fun wd B4 hB4 hwd hwl => ?_
    simp
    refine w_draw F hB4 (by omega) (by omega) fun s B5 hB5 s1 s2 => ?_
    obtain ⟨s, rfl⟩ : ∃ k : Nat, s = k := ⟨s.toNat, by omega⟩
    simp
    refine w_draw F hB5 (by omega) (by omega) fun t B6 hB6 t1 t2 => ?_
    obtain ⟨t, rfl⟩ : ∃ k : Nat, t = k := ⟨t.toNat, by omega⟩
    simp
    refine w_strength F hB6 fun c B7 hB7 hc => ?_
    obtain ⟨t0, ht0⟩ : ∃ t0 : T, t0 = ⟨s, t, wd, c⟩ := ⟨_, rfl⟩
    have ok0 : OkT n.length r.length t0 := by rw [ht0]; exact ⟨by show s < n.length; omega, by show t < n.length; omega, hwd, hc, by show wd.length ≤ 20; omega⟩
    have tm : tupMk [dN s, dN t, dW wd, .int c] (B7 :: (ν ++ ξ)) = some (dT t0, B7 :: (ν ++ ξ)) := by rw [ht0]; exact tup_mk (by show 4 ≤ LIM; decide)
    have lm : lstMk true [dT t0] (B7 :: (ν ++ ξ)) = some (.cell ((ν ++ ξ).length + 1), B7 :: ((ν ++ ξ) ++ [.lst ((orbL r n t0 0).map dT)])) := lst_mk (by show 1 ≤ LIM; decide)
    have w10 : ∀ k, (mvI r n k t0).w.length ≤ 10 := fun k => by
      rw [mvI_eq, ht0]
      show (wd.map _).length ≤ 10
      rw [List.length_map]
      omega
    obtain ⟨ρ, hρ⟩ : ∃ ρ : Mu, ρ = ν ++ ξ := ⟨_, rfl⟩
    rw [← hρ] at tm lm pl ⊢
    simp only [kC_ok, kCb_ok, w_nil, kL_ok, tm, wO_some, okQ_at, lm, kAsg_ok, w_gname, nxT_at, seqK_nx]
    have e60 : ∀ ν : Mu, rng1 [.int 60] ν = some (.ok (.stat (rngD 0 60)), ν) := fun ν => s_rng1 (by unfold LIM; omega)
    simp [e60]
    have g : ∀ (B : D) (l : List D), (B :: (ρ ++ [D.lst l]))[ρ.length + 1]? = some (.lst l) := fun B l => by simp
    obtain ⟨J, hJ⟩ : ∃ J : Nat → Sg → Mu → Prop, J = fun k δ μ => ∃ (p q : Option D), k ≤ 60 ∧ μ = B7 :: (ρ ++ [.lst ((orbL r n t0 k).map dT)]) ∧ δ = [some (.cell 0), some (dN n.length), some (dW r), some (.lst (n.map dN)), some (.lst (ts.map dT)), some (dN i), some (dW wd), some (.cell (ρ.length + 1)), p, v, q] ∧ (k = 60 → False) := ⟨_, rfl⟩
    refine w_forS J (by rw [hJ]; exact ⟨_, _, by omega, rfl, rfl, by omega⟩) ?_ ?_
    · intro k d δ μ hi hh
      rw [hJ] at hh
      obtain ⟨p, q, hk60, rfl, rfl, _⟩ := hh
      obtain ⟨hk1, rfl⟩ := lt_rngN hi
      obtain ⟨l1, el1⟩ := orbL_last (r := r) (n := n) (t := t0) (k := k)
      obtain ⟨l2, el2⟩ := orbL_first (r := r) (n := n) (t := t0) (k := k)
      have ixl : idxO (.cell (ρ.length + 1)) (.int (-1)) (B7 :: (ρ ++ [D.lst ((orbL r n t0 k).map dT)])) = some (dT (mvI r n k t0), B7 :: (ρ ++ [D.lst ((orbL r n t0 k).map dT)])) := o_idxC (g _ _) (by rw [el1]; exact at_lastO)
      have ix0 : idxO (.cell (ρ.length + 1)) (.int 0) (B7 :: (ρ ++ [D.lst ((orbL r n t0 k).map dT)])) = some (dT t0, B7 :: (ρ ++ [D.lst ((orbL r n t0 k).map dT)])) := o_idxC (g _ _) (by rw [el2]; exact at0)
      have ty : hasTy "list" (.cell (ρ.length + 1)) (B7 :: (ρ ++ [D.lst ((orbL r n t0 k).map dT)])) = true := ty_cell (g _ _)
      have ap : appendO (.cell (ρ.length + 1)) [dT (mvI r n (k + 1) t0)] (B7 :: (ρ ++ [D.lst ((orbL r n t0 k).map dT)])) = some (.non, B7 :: (ρ ++ [D.lst ((orbL r n t0 (k + 1)).map dT)])) := by
        rw [o_app (g _ _) (by rw [List.length_map, orbL_len]; unfold LIM; omega), List.set_cons_succ, List.set_append_right _ _ (Nat.le_refl _), Nat.sub_self, orbL_succ, List.map_append]
        rfl
      have plJ : (B7 :: (ρ ++ [D.lst ((orbL r n t0 k).map dT)])).all (pln 12) = true := by
        have := dTs_pln (orbL r n t0 k) 11 (by omega)
        rw [List.all_cons, List.all_append, pln_up 5 12 _ (by omega) (bag_pln hB7), pl]
        show (true && (true && ((((orbL r n t0 k).map dT).all (pln 11)) && true))) = true
        rw [this]; rfl
      simp [ixl]
      refine w_moved F plJ (mvI_ok hr hn ok0 k) ?_
      simp
      refine w_read F ?_
      simp [ix0]
      refine w_read F ?_
      simp [eq_dT]
      by_cases hb : rd (mv r n (mvI r n k t0)) = rd t0
      · simp [hb]
        obtain ⟨O, hO⟩ : ∃ O, orbL r n t0 k = O := ⟨_, rfl⟩
        have Ol : O.length = k + 1 := by rw [← hO, orbL_len]
        have Ok : Kept r n O := by rw [← hO]; exact Kept.orb hb
        have Oo : ∀ t ∈ O, OkT n.length r.length t ∧ t.w.length ≤ 10 := fun t ht => by
          rw [← hO] at ht
          obtain ⟨j, _, rfl⟩ := List.mem_map.mp ht
          exact ⟨mvI_ok hr hn ok0 j, w10 j⟩
        rw [hO]
        have Op := dTs_pln O 11 (by omega)
        have ll : ∀ B : D, lenO [.cell (ρ.length + 1)] (B :: (ρ ++ [D.lst (O.map dT)])) = some (.int ((k + 1 : Nat) : Int), B :: (ρ ++ [D.lst (O.map dT)])) := fun B => by
          have := o_lenC (g B (O.map dT))
          rwa [List.length_map, Ol] at this
        have ad : ∀ B : D, addO false (.lst (ts.map dT)) (.cell (ρ.length + 1)) (B :: (ρ ++ [D.lst (O.map dT)])) = some (.lst (ts.map dT ++ O.map dT), B :: (ρ ++ [D.lst (O.map dT)])) := fun B => by
          rw [o_addLC (g B (O.map dT)) (by rw [List.length_map, List.length_map]; unfold LIM; omega)]
          rfl
        have ad2 : ∀ B : D, addO false (.lst (ts.map dT ++ O.map dT)) (.cell (ρ.length + 1)) (B :: (ρ ++ [D.lst (O.map dT)])) = some (.lst (ts.map dT ++ O.map dT ++ O.map dT), B :: (ρ ++ [D.lst (O.map dT)])) := fun B => by
          rw [o_addLC (g B (O.map dT)) (by rw [List.length_append, List.length_map, List.length_map]; unfold LIM; omega)]
          rfl
        have ad3 : ∀ B : D, addO false (.lst (ts.map dT ++ O.map dT)) (.lst []) (B :: (ρ ++ [D.lst (O.map dT)])) = some (.lst (ts.map dT ++ O.map dT), B :: (ρ ++ [D.lst (O.map dT)])) := fun B => by
          rw [o_addLL (by rw [List.length_append, List.length_map, List.length_map]; simp; unfold LIM; omega), List.append_nil]
          rfl
        have fin : ∀ (B : D) (us : List T) (b : Bool) (q : Option D), Bag B → us.length ≤ 200 * i + 200 → Kept r n us → (∀ t ∈ us, OkT n.length r.length t ∧ t.w.length ≤ 10) → I (i + 1) [some (.cell 0), some (dN n.length), some (dW r), some (.lst (n.map dN)), some (.lst (us.map dT)), some (dN i), some (dW wd), some (.cell (ρ.length + 1)), some (D.int k), some (.bl b), q] (B :: (ρ ++ [D.lst (O.map dT)])) := fun B us b q hB hl hk ho => by
          rw [hI]
          refine ⟨B, us, ξ ++ [D.lst (O.map dT)], _, _, _, _, _, _, hB, by rw [hρ, List.append_assoc], ?_, rfl, hk, fun t ht => (ho t ht).1, fun t ht => (ho t ht).2, by omega⟩
          rw [List.all_append, hξ]
          show (true && (((O.map dT).all (pln 11)) && true)) = true
          rw [Op]; rfl
        have k1 := hk.app Ok
        have o1 : ∀ t ∈ ts ++ O, OkT n.length r.length t ∧ t.w.length ≤ 10 := fun t ht => by
          rcases List.mem_append.mp ht with z | z
          · exact ⟨ho t z, h10 t z⟩
          · exact Oo t z
        have o2 : ∀ t ∈ ts ++ O ++ O, OkT n.length r.length t ∧ t.w.length ≤ 10 := fun t ht => by
          rcases List.mem_append.mp ht with z | z
          · exact o1 t z
          · exact Oo t z
        have f1 := fun B b q hB => fin B (ts ++ O) b q hB (by rw [List.length_append]; omega) k1 o1
        have f2 := fun B b q hB => fin B (ts ++ O ++ O) b q hB (by rw [List.length_append, List.length_append]; omega) (k1.app Ok) o2
        rw [List.map_append] at f1 f2
        simp only [List.map_append] at f2
        by_cases h7 : ((k + 1 : Nat) : Int) < 7
        · rw [ll]
          have h7' : (k : Int) + 1 < 7 := by omega
          simp [h7']
          refine w_draw F hB7 (by omega) (by omega) fun d B8 hB8 d1 d2 => ?_
          by_cases d4 : d = 4
          · simp [d4, ad, ad2, truO]
            have := f2 B8 true (some (dT (mv r n (mvI r n k t0)))) hB8
            simpa using this
          · simp [d4, ad, ad3, truO, l0]
            have := f1 B8 false (some (dT (mv r n (mvI r n k t0)))) hB8
            simpa using this
        · rw [ll]
          have h7' : ¬ (k : Int) + 1 < 7 := by omega
          simp [h7', ad, ad3, truO, l0]
          have := f1 B7 false (some (dT (mv r n (mvI r n k t0)))) hB7
          simpa using this
      · have hb' : mv r n (mvI r n k t0) = mvI r n (k + 1) t0 := rfl
        rw [hb'] at hb ⊢
        simp [hb, ty, ap]
        rw [hJ]
        refine ⟨_, _, by omega, rfl, rfl, fun e => hb ?_⟩
        rw [e, mv60 hr hn r6 n6 ok0]
    · intro δ μ hh
      rw [hJ] at hh
      obtain ⟨p, q, hk60, rfl, rfl, hno⟩ := hh
      exact (hno (by rw [rng_len])).elim
  · intro δ μ hh
    rw [hI] at hh
    obtain ⟨B2, ts, ξ, x, y, z, u, v, w, hB2, rfl, hξ, rfl, hk, ho, h10, hl⟩ := hh
    rw [rng_len] at hl
    have f := fin_cut (b := ν.length + 1) (n := 12) (d := D.lst (ts.map dT)) (ν := B2 :: ν) (ξ := ξ) rfl (by
      rw [List.all_cons, pln_up 5 12 _ (by omega) (bag_pln hB2), hν]; rfl) (dTs_pln ts 11 (by omega))
    rw [List.cons_append] at f
    simp [f]
    exact h ts B2 hB2 hk ho h10 (by omega)
end K80
end
section
set_option Elab.async false
set_option linter.all false
set_option maxHeartbeats 4000000
namespace K80
open PySem PySem.Spec L2 Iv

theorem seq_src {d : D} {l : List D} (h : seqD d = some l) (μ : Mu) : srcD d μ = some (.ok (.stat l), μ) := by
  cases d with
  | lst l => cases h; rfl
  | tup l => cases h; rfl
  | _ => cases h
theorem seq_len {d : D} {l : List D} (h : seqD d = some l) (μ : Mu) : lenO [d] μ = some (.int l.length, μ) := by
  cases d with
  | lst l => cases h; rfl
  | tup l => cases h; rfl
  | _ => cases h
theorem seq_idx {d : D} {l : List D} (h : seqD d = some l) (μ : Mu) (i : Int) : idxO d (.int i) μ = wA (atD l i) μ := by
  cases d with
  | lst l => cases h; rfl
  | tup l => cases h; rfl
  | _ => cases h
theorem seq_list {d : D} {l : List D} (h : seqD d = some l) (c : Bool) (μ : Mu) : listO c [d] μ = mkL c l μ := by
  cases d with
  | lst l => cases h; rfl
  | tup l => cases h; rfl
  | _ => cases h
theorem w_undone (F : Nat) {μ : Mu} {d : D} {p : List Nat} {Q : R D → Mu → Prop} (hμ : μ.all (pln 12) = true) (hd : seqD d = some (p.map dN)) (hp : PermOk p) (h : ∀ u : List Nat, PermOk u → u.length = p.length → Q (.ok (.lst (u.map dN))) μ) : wM (r_x_law_undone F [d] μ) Q := by
  unfold r_x_law_undone
  rw [w_fn]
  unfold b_x_law_undone
  simp [seq_src hd]
  refine w_lcC (fun i acc ν => ν = μ ∧ acc = (List.replicate i 0).map dN) ⟨rfl, rfl⟩ ?_ ?_
  · rintro i d acc ν hi ⟨rfl, rfl⟩ _
    rw [List.getElem?_map] at hi
    obtain ⟨k, hk, rfl⟩ := Option.map_eq_some_iff.mp hi
    have hik := (List.getElem?_eq_some_iff.mp hk).1
    have := hp.le
    simp [wipeG]
    refine ⟨by unfold LIM; omega, ?_⟩
    rw [List.replicate_succ']
    simp
  · rintro acc ν ⟨rfl, rfl⟩ _
    rw [List.length_map]
    have er : ∀ X : Mu, rng1 [.int (p.length : Int)] X = some (.ok (.stat (rngD 0 p.length)), X) := fun X => by
      have := s_rng1 (μ := X) (j := (p.length : Nat)) (by have := hp.le; unfold LIM; omega)
      rwa [Int.toNat_natCast] at this
    simp [seq_len hd, er]
    obtain ⟨J, hJ⟩ : ∃ J : Nat → Sg → Mu → Prop, J = fun k δ ν' => ∃ (u : List Nat) (x : Option D), ν' = ν ++ [.lst (u.map dN)] ∧ δ = [some d, some (.cell ν.length), x] ∧ u.length = p.length ∧ ∀ j, j < k → j < p.length → nth u (nth p j) = j := ⟨_, rfl⟩
    refine w_forS J (by rw [hJ]; exact ⟨List.replicate p.length 0, _, by simp, rfl, by simp, by omega⟩) ?_ ?_
    · intro k e δ ν' hi hh
      rw [hJ] at hh
      obtain ⟨u, x, rfl, rfl, hu, hj⟩ := hh
      obtain ⟨hk, rfl⟩ := lt_rngN hi
      have at1 := at_dN (l := p) hk
      have st : setO (.cell ν.length) (dN (nth p k)) (dN k) (ν ++ [.lst (u.map dN)]) = some (ν ++ [.lst ((u.set (nth p k) k).map dN)]) := by
        have := o_setC (μ := ν ++ [D.lst (u.map dN)]) (n := ν.length) (k := nth p k) (d := dN k) at_end (by rw [List.length_map, hu]; exact nth_lt hp hk)
        rw [this, List.set_append_right _ _ (Nat.le_refl _), Nat.sub_self, List.map_set]
        rfl
      simp [seq_idx hd, at1, st]
      rw [hJ]
      refine ⟨u.set (nth p k) k, _, by rw [List.map_set], rfl, by rw [List.length_set, hu], fun j h1 h2 => ?_⟩
      have lp := nth_lt hp h2
      by_cases e : nth p k = nth p j
      · have := nth_inj hp hk h2 e
        subst this
        rw [nth_eq (by rw [List.length_set, hu]; exact lp)]
        simp
      · have hjk : j < k := by
          rcases Nat.lt_or_ge j k with z | z
          · exact z
          · have : j = k := by omega
            exact absurd (this ▸ rfl) e
        have := hj j hjk h2
        rw [nth_eq (by rw [hu]; exact lp)] at this
        rw [nth_eq (by rw [List.length_set, hu]; exact lp), List.getElem_set_ne e]
        exact this
    · intro δ ν' hh
      rw [hJ] at hh
      obtain ⟨u, x, rfl, rfl, hu, hj⟩ := hh
      rw [rng_len] at hj
      have fc := fin_cell (b := ν.length) (n := 12) (ds := u.map dN) (ν := ν) (ξ := [.lst (u.map dN)]) (k := ν.length) rfl hμ (Nat.le_refl _) at_end (by simp [pln])
      simp [fc]
      have inv : ∀ x, x < p.length → ∃ j, j < p.length ∧ nth p j = x ∧ nth u x = j := fun x hx => by
        obtain ⟨j, hj1, hj2⟩ := List.mem_iff_getElem.mp (perm_has hp hx)
        have e : nth p j = x := by rw [nth_eq hj1]; exact hj2
        exact ⟨j, hj1, e, by rw [← e]; exact hj j hj1 hj1⟩
      refine h u ⟨?_, ?_, by rw [hu]; exact hp.le⟩ hu
      · refine List.pairwise_iff_getElem.mpr fun a b ha hb hab e => ?_
        rw [hu] at ha hb
        obtain ⟨j1, h1, e1, f1⟩ := inv a ha
        obtain ⟨j2, h2, e2, f2⟩ := inv b hb
        rw [nth_eq (by rw [hu]; exact ha)] at f1
        rw [nth_eq (by rw [hu]; exact hb)] at f2
        have : j1 = j2 := by rw [← f1, ← f2]; exact e
        rw [this] at e1
        omega
      · intro y hy
        obtain ⟨a, ha, rfl⟩ := List.mem_iff_getElem.mp hy
        rw [hu] at ha ⊢
        obtain ⟨j1, h1, e1, f1⟩ := inv a ha
        rw [nth_eq (by rw [hu]; exact ha)] at f1
        rw [f1]; exact h1
theorem perm_ok {u p : List Nat} (h : u.Perm p) (hp : PermOk p) : PermOk u :=
  ⟨h.nodup_iff.mpr hp.nd, fun x hx => by rw [h.length_eq]; exact hp.lt x (h.mem_iff.mp hx), by rw [h.length_eq]; exact hp.le⟩
theorem w_swapped (F : Nat) {B : D} {ν : Mu} {d : D} {p : List Nat} {Q : R D → Mu → Prop} (hB : Bag B) (hν : ν.all (pln 12) = true) (hd : seqD d = some (p.map dN)) (hp : PermOk p) (h : ∀ (u : List Nat) B', Bag B' → PermOk u → u.length = p.length → Q (.ok (.lst (u.map dN))) (B' :: ν)) : wM (r_x_law_swapped F [.cell 0, d] (B :: ν)) Q := by
  unfold r_x_law_swapped
  rw [w_fn]
  unfold b_x_law_swapped
  have hle := hp.le
  have g : ∀ (B' : D) (us : List Nat), (B' :: (ν ++ [D.lst (us.map dN)]))[ν.length + 1]? = some (.lst (us.map dN)) := fun B' us => by simp
  have fin : ∀ (B' : D) (us : List Nat), Bag B' → finD false (ν.length + 1) (.cell (ν.length + 1)) (B' :: (ν ++ [D.lst (us.map dN)])) = some (.lst (us.map dN), B' :: ν) := fun B' us hB' => by
    have fc := fin_cell (b := ν.length + 1) (n := 12) (ds := us.map dN) (ν := B' :: ν) (ξ := [D.lst (us.map dN)]) (k := ν.length + 1) rfl (by
      rw [List.all_cons, Bool.and_eq_true]
      exact ⟨pln_up 5 12 _ (by omega) (bag_pln hB'), hν⟩) (by omega) (by
        rw [List.cons_append]; exact g B' us) (by simp [pln])
    rwa [List.cons_append] at fc
  have ln : ∀ B' (us : List Nat), lenO [.cell (ν.length + 1)] (B' :: (ν ++ [D.lst (us.map dN)])) = some (.int (us.length : Nat), B' :: (ν ++ [D.lst (us.map dN)])) := fun B' us => by
    have := o_lenC (g B' us)
    rwa [List.length_map] at this
  simp [seq_list hd, ln]
  by_cases h1 : (1 : Int) < p.length
  · have rg : ∀ X : Mu, lstRg1 false (.int (p.length : Int)) X = some (.lst (rngD 0 p.length), X) := fun X => by
      show (if -1 ≤ (p.length : Int) ∧ (p.length : Int) ≤ LIM then mkL false (rngD 0 (p.length : Int).toNat) X else none) = _
      rw [if_pos ⟨by omega, by unfold LIM; omega⟩, Int.toNat_natCast]
      rfl
    simp [h1, rg]
    refine w_pick F (n := 2) (ds := rngD 0 p.length) hB (by rw [List.all_append, hν]; simp [pln]) (by unfold rngD; simp [pln]) (by rw [rng_len]; omega) (by omega) fun fd rest B1 hB1 hpm hfl => ?_
    rw [rng_len] at hfl
    have h2 : fd.length = 2 := by omega
    obtain ⟨a, b, rfl⟩ : ∃ a b, fd = [a, b] := by
      match fd, h2 with
      | [a, b], _ => exact ⟨a, b, rfl⟩
    have ma : a ∈ rngD 0 p.length := hpm.mem_iff.mp (by simp)
    have mb : b ∈ rngD 0 p.length := hpm.mem_iff.mp (by simp)
    obtain ⟨i, hi, rfl⟩ : ∃ i : Nat, i < p.length ∧ a = dN i := by
      obtain ⟨j, hj⟩ := List.mem_iff_getElem?.mp ma
      obtain ⟨z1, z2⟩ := lt_rngN hj
      exact ⟨j, z1, z2⟩
    obtain ⟨k, hk, rfl⟩ : ∃ i : Nat, i < p.length ∧ b = dN i := by
      obtain ⟨j, hj⟩ := List.mem_iff_getElem?.mp mb
      obtain ⟨z1, z2⟩ := lt_rngN hj
      exact ⟨j, z1, z2⟩
    have ai := at_dN (l := p) hi
    have ak := at_dN (l := p) hk
    have ix : ∀ j, j < p.length → idxO (.cell (ν.length + 1)) (dN j) (B1 :: (ν ++ [D.lst (p.map dN)])) = some (dN (nth p j), B1 :: (ν ++ [D.lst (p.map dN)])) := fun j hj => o_idxC (g _ _) (at_dN hj)
    have t2 : ∀ (a b : D) (X : Mu), tupMk [a, b] X = some (.tup [a, b], X) := fun a b X => tup_mk (by show 2 ≤ LIM; decide)
    have st : ∀ (us : List Nat) (j x : Nat), j < us.length → setO (.cell (ν.length + 1)) (dN j) (dN x) (B1 :: (ν ++ [.lst (us.map dN)])) = some (B1 :: (ν ++ [.lst ((us.set j x).map dN)])) := fun us j x hj => by
      have := o_setC (μ := B1 :: (ν ++ [D.lst (us.map dN)])) (n := ν.length + 1) (k := j) (d := dN x) (g _ _) (by rw [List.length_map]; exact hj)
      rw [this, List.set_cons_succ, List.set_append_right _ _ (Nat.le_refl _), Nat.sub_self, List.map_set]
      rfl
    have s1 := st p i (nth p k) hi
    have s2 := st (p.set i (nth p k)) k (nth p i) (by rw [List.length_set]; exact hk)
    have f2 := fin B1 ((p.set i (nth p k)).set k (nth p i)) hB1
    have pm : ((p.set i (nth p k)).set k (nth p i)).Perm p := by
      rw [nth_eq hi, nth_eq hk]
      exact List.set_set_perm hi hk
    have hh := h _ B1 hB1 (perm_ok pm hp) pm.length_eq
    rw [List.map_set] at s1
    rw [List.map_set, List.map_set] at s2 f2 hh
    simp [ix _ hi, ix _ hk, t2, s1, s2, f2]
    exact hh
  · simp [h1, fin B p hB]
    exact h p B hB hp rfl
end K80
end
section
set_option Elab.async false
set_option linter.all false
set_option maxHeartbeats 4000000
namespace K80
open PySem PySem.Spec L2 Iv

theorem rd_wl (t : T) : (rd t).w.length = t.w.length := by
  unfold rd
  split
  · show t.w.reverse.length = _
    rw [List.length_reverse]
  · rfl
theorem rng_dN (n : Nat) : rngD 0 n = (List.range n).map dN := by
  unfold rngD
  exact List.map_congr_left fun k _ => by rw [Int.zero_add]
theorem rg1 {n : Nat} (h : n ≤ 1000) (X : Mu) : lstRg1 false (.int (n : Int)) X = some (.lst (rngD 0 n), X) := by
  show (if -1 ≤ (n : Int) ∧ (n : Int) ≤ LIM then mkL false (rngD 0 (n : Int).toNat) X else none) = _
  rw [if_pos ⟨by omega, by unfold LIM; omega⟩, Int.toNat_natCast]
  rfl
theorem trg1 {n : Nat} (h : n ≤ 1000) (X : Mu) : tupRg1 (.int (n : Int)) X = some (.tup (rngD 0 n), X) := by
  show (if -1 ≤ (n : Int) ∧ (n : Int) ≤ LIM then some (D.tup (rngD 0 (n : Int).toNat), X) else none) = _
  rw [if_pos ⟨by omega, by unfold LIM; omega⟩, Int.toNat_natCast]
theorem range_ok {n : Nat} (h : n ≤ 100) : PermOk (List.range n) :=
  ⟨List.nodup_range, fun x hx => by rw [List.length_range]; exact List.mem_range.mp hx, by rw [List.length_range]; exact h⟩
/-- a drawn order of all of a range -/
theorem w_perm (F : Nat) {B : D} {ν : Mu} {n : Nat} {Q : R D → Mu → Prop} (hB : Bag B) (hν : ν.all (pln 12) = true) (hn : n ≤ 100) (h : ∀ (p : List Nat) B', Bag B' → PermOk p → p.length = n → Q (.ok (.lst (p.map dN))) (B' :: ν)) : wM (r_x_law_pick F [.cell 0, .lst (rngD 0 n), dN n] (B :: ν)) Q := by
  refine w_pick F (ds := rngD 0 n) (n := n) hB hν (by unfold rngD; simp [pln]) (by rw [rng_len]; omega) (by omega) fun fd rest B1 hB1 hp hl => ?_
  rw [rng_len] at hl
  have hr : rest = [] := by
    have := hp.length_eq
    rw [List.length_append, hl, rng_len] at this
    exact List.eq_nil_of_length_eq_zero (by omega)
  subst hr
  rw [List.append_nil, rng_dN] at hp
  obtain ⟨p, q1, q2⟩ := perm_lift (f := dN) hp (List.range n) rfl
  subst q2
  exact h p B1 hB1 (perm_ok q1 (range_ok hn)) (by rw [q1.length_eq, List.length_range])
theorem w_law {ns : List Int} {Q : R D → Mu → Prop} (h : Q (.ok (.bl true)) []) : wM (r_law 1000 [.script ns] []) Q := by
  unfold r_law
  rw [w_fn]
  obtain ⟨bl, hbl⟩ : ∃ bl, ([] : Mu).length = bl := ⟨_, rfl⟩
  rw [hbl]
  unfold b_law
  simp
  refine w_bag 1000 fun B hB => ?_
  have l5 : ∀ ν : Mu, lstMk false [.int 2, .int 3, .int 2, .int 4, .int 1] ν = some (.lst [.int 2, .int 3, .int 2, .int 4, .int 1], ν) := fun ν => lst_mk (by show 5 ≤ LIM; decide)
  have l10 : ∀ ν : Mu, lstMk false [.int 2, .int 3, .int 1, .int 4, .int 2, .int 3, .int 4, .int 2, .int 3, .int 6] ν = some (.lst [.int 2, .int 3, .int 1, .int 4, .int 2, .int 3, .int 4, .int 2, .int 3, .int 6], ν) := fun ν => lst_mk (by show 10 ≤ LIM; decide)
  simp [l5]
  refine w_of 1000 hB (by simp) (by simp) fun d B1 hB1 hd => ?_
  obtain ⟨nu, rfl, nu1, nu4⟩ : ∃ m : Nat, d = dN m ∧ 1 ≤ m ∧ m ≤ 4 := by
    simp only [List.mem_cons, List.mem_nil_iff, or_false] at hd
    rcases hd with rfl | rfl | rfl | rfl | rfl
    · exact ⟨2, rfl, by omega, by omega⟩
    · exact ⟨3, rfl, by omega, by omega⟩
    · exact ⟨2, rfl, by omega, by omega⟩
    · exact ⟨4, rfl, by omega, by omega⟩
    · exact ⟨1, rfl, by omega, by omega⟩
  simp [l10]
  refine w_of 1000 hB1 (by simp) (by simp) fun d B2 hB2 hd => ?_
  obtain ⟨sp, rfl, sp1, sp6⟩ : ∃ m : Nat, d = dN m ∧ 1 ≤ m ∧ m ≤ 6 := by
    simp only [List.mem_cons, List.mem_nil_iff, or_false] at hd
    rcases hd with rfl | rfl | rfl | rfl | rfl | rfl | rfl | rfl | rfl | rfl
    · exact ⟨2, rfl, by omega, by omega⟩
    · exact ⟨3, rfl, by omega, by omega⟩
    · exact ⟨1, rfl, by omega, by omega⟩
    · exact ⟨4, rfl, by omega, by omega⟩
    · exact ⟨2, rfl, by omega, by omega⟩
    · exact ⟨3, rfl, by omega, by omega⟩
    · exact ⟨4, rfl, by omega, by omega⟩
    · exact ⟨2, rfl, by omega, by omega⟩
    · exact ⟨3, rfl, by omega, by omega⟩
    · exact ⟨6, rfl, by omega, by omega⟩
  simp
  refine w_names 1000 hB2 rfl nu4 fun names B3 hB3 nml nmd nmo => ?_
  have t2 : ∀ (a b : D) (X : Mu), tupMk [a, b] X = some (.tup [a, b], X) := fun a b X => tup_mk (by show 2 ≤ LIM; decide)
  simp [rg1 (show nu ≤ 1000 by omega)]
  refine w_perm 1000 hB3 rfl (by omega) fun rule B4 hB4 ru rul => ?_
  simp [t2, rg1 (show sp ≤ 1000 by omega)]
  refine w_perm 1000 hB4 rfl (by omega) fun naming B5 hB5 na nal => ?_
  simp
  have eW : D.tup (rule.map dN) = dW rule := rfl
  rw [← nal, eW]
  refine w_orbits 1000 hB5 rfl ru na (by omega) (by omega) (by omega) (by omega) fun us B6 hB6 kus ous u10 ul => ?_
  simp
  refine w_shown 1000 hB6 rfl ous (by omega) fun ts B7 hB7 pts ots => ?_
  have tl : ts.length < 900 := by
    have := pts.length_eq
    rw [List.length_map, List.length_map] at this
    omega
  have t10 : ∀ t ∈ ts, t.w.length ≤ 10 := fun t ht => by
    obtain ⟨u, hu, e⟩ := List.mem_map.mp (pts.mem_iff.mp (List.mem_map.mpr ⟨t, ht, rfl⟩))
    have := u10 u hu
    rw [← rd_wl, e, rd_wl] at this
    exact this
  have kts := kus.shown pts
  have hk := kts.keeps
  have W : World1 names naming.length := ⟨by intro z; rw [z] at nml; simp at nml; omega, nmo, nmd, by omega, by omega⟩
  have rl : rule.length = names.length := by omega
  have ots' : ∀ t ∈ ts, OkT naming.length names.length t := fun t ht => by have := ots t ht; rwa [rl] at this
  have pB : ∀ {B : D}, Bag B → ([B] : Mu).all (pln 12) = true := fun hB => by rw [List.all_cons, pln_up 5 12 _ (by omega) (bag_pln hB)]; rfl
  simp
  refine w_keeps 1000 (pB hB7) ots (by omega) (by omega) ?_
  simp [hk, truO]
  refine w_asked 1000 (pB hB7) W ots' (by omega) ru rl na rfl hk ?_
  simp [truO]
  have srcW : ∀ (l : List Nat) (ν : Mu), srcD (dW l) ν = some (.ok (.stat (l.map dN)), ν) := fun l ν => rfl
  have idW : ∀ (l : List Nat) (x : Nat) (ν : Mu), idxO (dW l) (dN x) ν = wA (atD (l.map dN) (x : Int)) ν := fun l x ν => rfl
  simp [srcW]
  refine w_lcX rule dN (fun x => dN (nth rule x)) (by have := ru.le; unfold LIM; omega) ?_ (bndL_pln (pB hB7)) (by simp [pln]) ?_
  · intro x acc K hx hK _
    have e := at_dN (l := rule) (ru.lt x hx)
    simp [wipeG, idW, e]
    exact hK
  have tsq : ∀ (l : List Nat) (ν : Mu), tupleO [.lst (l.map fun x => dN (nth l x))] ν = some (dW (sq l), ν) := fun l ν => by
    unfold dW sq
    rw [List.map_map]
    rfl
  simp only [kC_ok, w_nil, kCb_ok, kL_ok, tsq, wO_some, okQ_at]
  simp
  refine w_lcX naming dN (fun x => dN (nth naming x)) (by have := na.le; unfold LIM; omega) ?_ (bndL_pln (pB hB7)) (by simp [pln]) ?_
  · intro x acc K hx hK _
    have e := at_dN (l := naming) (na.lt x hx)
    simp [wipeG, e]
    exact hK
  have esq : (naming.map fun x => dN (nth naming x)) = (sq naming).map dN := by
    unfold sq
    rw [List.map_map]
    rfl
  rw [esq]
  simp
  refine w_asked 1000 (pB hB7) W ots' (by omega) (sq_perm ru) (by rw [sq_len]; exact rl) (sq_perm na) (sq_len naming) (Kept.sq ots kts).keeps ?_
  have e4 : ∀ ν : Mu, rng1 [.int 4] ν = some (.ok (.stat (rngD 0 4)), ν) := fun ν => s_rng1 (by unfold LIM; omega)
  simp [truO, e4]
  obtain ⟨I, hI⟩ : ∃ I : Nat → Sg → Mu → Prop, I = fun i δ μ => ∃ (B' : D) (x y : Option D), Bag B' ∧ μ = [B'] ∧ δ = [some (.script ns), some (.cell 0), some (.lst (naming.map dN)), some (.lst (ts.map dT)), x, none, some (dN nu), some (dN naming.length), some (.tup (names.map .str)), some (dW rule), some (dW (sq rule)), some (.lst ((sq naming).map dN)), y, none, none] := ⟨_, rfl⟩
  refine w_forS I (by rw [hI]; exact ⟨B7, _, _, hB7, rfl, rfl⟩) ?_ ?_
  · intro i d δ μ hi hh
    rw [hI] at hh
    obtain ⟨B8, x, y, hB8, rfl, rfl⟩ := hh
    simp
    refine w_chties 1000 (ν := []) hB8 rfl (fun t ht => by have := ots t ht; rwa [rul] at this) t10 tl (by omega) nu1 (by omega) (by omega) fun vs B9 hB9 ovs vl => ?_
    have ovs' : ∀ t ∈ vs, OkT naming.length rule.length t := fun t ht => by
      have := ovs t ht
      rwa [← rul] at this
    have ovn : ∀ t ∈ vs, OkT naming.length names.length t := fun t ht => by
      have := ovs t ht
      rwa [← nml] at this
    simp
    refine w_keeps 1000 (pB hB9) ovs' (by omega) (by omega) ?_
    simp
    refine w_asked 1000 (pB hB9) W ovn (by omega) ru rl na rfl rfl ?_
    simp [truO]
    rw [hI]
    exact ⟨B9, _, _, hB9, rfl, rfl⟩
  · intro δ μ hh
    rw [hI] at hh
    obtain ⟨B8, x, y, hB8, rfl, rfl⟩ := hh
    simp
    refine w_undone 1000 (pB hB8) rfl na fun u1 hu1 lu1 => ?_
    simp
    refine w_swapped 1000 (ν := []) hB8 rfl rfl na fun u2 B9 hB9 hu2 lu2 => ?_
    have l2 : ∀ (a b : D) (ν : Mu), lstMk false [a, b] ν = some (.lst [a, b], ν) := fun a b ν => lst_mk (by show 2 ≤ LIM; decide)
    have l3 : ∀ (a b c : D) (ν : Mu), lstMk false [a, b, c] ν = some (.lst [a, b, c], ν) := fun a b c ν => lst_mk (by show 3 ≤ LIM; decide)
    simp [l2]
    obtain ⟨J, hJ⟩ : ∃ I : Nat → Sg → Mu → Prop, I = fun i δ μ => ∃ (z : Option D), μ = [B9] ∧ δ = [some (.script ns), some (.cell 0), some (.lst (naming.map dN)), some (.lst (ts.map dT)), x, z, some (dN nu), some (dN naming.length), some (.tup (names.map .str)), some (dW rule), some (dW (sq rule)), some (.lst ((sq naming).map dN)), y, none, none] := ⟨_, rfl⟩
    refine w_forS J (by rw [hJ]; exact ⟨_, rfl, rfl⟩) ?_ ?_
    · intro i d δ μ hi hh
      rw [hJ] at hh
      obtain ⟨z, rfl, rfl⟩ := hh
      obtain ⟨u, rfl, hu, lu⟩ : ∃ u : List Nat, d = .lst (u.map dN) ∧ PermOk u ∧ u.length = naming.length := by
        have := List.mem_of_getElem? hi
        simp only [List.mem_cons, List.mem_nil_iff, or_false] at this
        rcases this with rfl | rfl
        · exact ⟨u1, rfl, hu1, lu1⟩
        · exact ⟨u2, rfl, hu2, lu2⟩
      simp
      refine w_keeps 1000 (naming := u) (pB hB9) (fun t ht => by have := ots t ht; rwa [← lu] at this) (by omega) (by omega) ?_
      simp
      refine w_asked 1000 (q := u) (pB hB9) W ots' (by omega) ru rl hu lu rfl ?_
      simp [truO]
      rw [hJ]
      exact ⟨_, rfl, rfl⟩
    · intro δ μ hh
      rw [hJ] at hh
      obtain ⟨z, rfl, rfl⟩ := hh
      simp
      refine w_undone 1000 (d := dW rule) (pB hB9) rfl ru fun u3 hu3 lu3 => ?_
      have tw : ∀ (l : List Nat) (ν : Mu), tupleO [.lst (l.map dN)] ν = some (dW l, ν) := fun l ν => rfl
      simp [tw]
      refine w_swapped 1000 (ν := []) (d := dW rule) hB9 rfl rfl ru fun u4 B10 hB10 hu4 lu4 => ?_
      have er : tupRg1 (dN nu) [B10] = some (dW (List.range nu), [B10]) := by
        rw [trg1 (by omega), rng_dN]
        rfl
      simp [tw, er, l3]
      obtain ⟨J2, hJ2⟩ : ∃ I : Nat → Sg → Mu → Prop, I = fun i δ μ => ∃ (z : Option D), μ = [B10] ∧ δ = [some (.script ns), some (.cell 0), some (.lst (naming.map dN)), some (.lst (ts.map dT)), x, z, some (dN nu), some (dN naming.length), some (.tup (names.map .str)), some (dW rule), some (dW (sq rule)), some (.lst ((sq naming).map dN)), y, none, none] := ⟨_, rfl⟩
      refine w_forS J2 (by rw [hJ2]; exact ⟨_, rfl, rfl⟩) ?_ ?_
      · intro i d δ μ hi hh
        rw [hJ2] at hh
        obtain ⟨z, rfl, rfl⟩ := hh
        obtain ⟨u, rfl, hu, lu⟩ : ∃ u : List Nat, d = dW u ∧ PermOk u ∧ u.length = rule.length := by
          have := List.mem_of_getElem? hi
          simp only [List.mem_cons, List.mem_nil_iff, or_false] at this
          rcases this with rfl | rfl | rfl
          · exact ⟨u3, rfl, hu3, lu3⟩
          · exact ⟨u4, rfl, hu4, lu4⟩
          · exact ⟨_, rfl, range_ok (by omega), by rw [List.length_range, rul]⟩
        simp
        refine w_keeps 1000 (rule := u) (pB hB10) (fun t ht => by have := ots t ht; rwa [← lu] at this) (by omega) (by omega) ?_
        simp
        refine w_asked 1000 (p := u) (pB hB10) W ots' (by omega) hu (by omega) na rfl rfl ?_
        simp [truO]
        rw [hJ2]
        exact ⟨_, rfl, rfl⟩
      · intro δ μ hh
        rw [hJ2] at hh
        obtain ⟨z, rfl, rfl⟩ := hh
        simp
        refine w_odd 1000 (pB hB10) W ots' (by omega) ru rl na rfl hk ?_
        have hbl' : bl = 0 := hbl.symm
        subst hbl'
        have f := fin_cut (b := 0) (n := 12) (d := .bl true) (ν := []) (ξ := [B10]) rfl rfl rfl
        simp only [List.nil_append] at f
        simp only [kRet_ok, fnK_rt, f, wO_some, okQ_at]
        exact h
theorem law_true (ns : List Int) (_ : ns.length ≤ 63) : ∃ μ, r_law 1000 [.script ns] [] = some (.ok (.bl true), μ) := by
  obtain ⟨r, μ, e, h⟩ := (w_law (ns := ns) (Q := fun r μ => r = .ok (.bl true)) rfl).ex
  exact ⟨μ, by rw [e, h]⟩
end K80
end
section
set_option Elab.async false
set_option linter.all false
set_option maxRecDepth 1000000
set_option maxHeartbeats 0
/-! K80: what the top has written, and the head (printed by gen.py). -/
namespace K80
open PySem PySem.Spec L2 Iv
def faOf (l : List Addr) (i : Nat) : Addr := l.getD i 0
theorem txt_mk {K : PySem.W.Frag} {h : Heap} {mg : Str → Option Value} {f0 f1 f2 f3 f4 f5 f6 f7 f8 f9 f10 f11 f12 f13 f14 f15 f16 f17 f18 f19 f20 f21 f22 f23 f24 f25 f26 f27 f28 f29 f30 f31 f32 f33 f34 f35 f36 f37 f38 f39 f40 C0 : Addr} (X : K.In h) (G : h.Ns mainGlobals mg)
    {od0 an0 : Option Addr} {sl0 : Array (Option Value)} {oc0 kV0 dc0 pm0 cd0 ct0 : Value}
    {od1 an1 : Option Addr} {sl1 : Array (Option Value)} {oc1 kV1 dc1 pm1 cd1 ct1 : Value}
    {od2 an2 : Option Addr} {sl2 : Array (Option Value)} {oc2 kV2 dc2 pm2 cd2 ct2 : Value}
    {od3 an3 : Option Addr} {sl3 : Array (Option Value)} {oc3 kV3 dc3 pm3 cd3 ct3 : Value}
    {od4 an4 : Option Addr} {sl4 : Array (Option Value)} {oc4 kV4 dc4 pm4 cd4 ct4 : Value}
    {od5 an5 : Option Addr} {sl5 : Array (Option Value)} {oc5 kV5 dc5 pm5 cd5 ct5 : Value}
    {od6 an6 : Option Addr} {sl6 : Array (Option Value)} {oc6 kV6 dc6 pm6 cd6 ct6 : Value}
    {od7 an7 : Option Addr} {sl7 : Array (Option Value)} {oc7 kV7 dc7 pm7 cd7 ct7 : Value}
    {od8 an8 : Option Addr} {sl8 : Array (Option Value)} {oc8 kV8 dc8 pm8 cd8 ct8 : Value}
    {od9 an9 : Option Addr} {sl9 : Array (Option Value)} {oc9 kV9 dc9 pm9 cd9 ct9 : Value}
    {od10 an10 : Option Addr} {sl10 : Array (Option Value)} {oc10 kV10 dc10 pm10 cd10 ct10 : Value}
    {od11 an11 : Option Addr} {sl11 : Array (Option Value)} {oc11 kV11 dc11 pm11 cd11 ct11 : Value}
    {od12 an12 : Option Addr} {sl12 : Array (Option Value)} {oc12 kV12 dc12 pm12 cd12 ct12 : Value}
    {od13 an13 : Option Addr} {sl13 : Array (Option Value)} {oc13 kV13 dc13 pm13 cd13 ct13 : Value}
    {od14 an14 : Option Addr} {sl14 : Array (Option Value)} {oc14 kV14 dc14 pm14 cd14 ct14 : Value}
    {od15 an15 : Option Addr} {sl15 : Array (Option Value)} {oc15 kV15 dc15 pm15 cd15 ct15 : Value}
    {od16 an16 : Option Addr} {sl16 : Array (Option Value)} {oc16 kV16 dc16 pm16 cd16 ct16 : Value}
    {od17 an17 : Option Addr} {sl17 : Array (Option Value)} {oc17 kV17 dc17 pm17 cd17 ct17 : Value}
    {od18 an18 : Option Addr} {sl18 : Array (Option Value)} {oc18 kV18 dc18 pm18 cd18 ct18 : Value}
    {od19 an19 : Option Addr} {sl19 : Array (Option Value)} {oc19 kV19 dc19 pm19 cd19 ct19 : Value}
    {od20 an20 : Option Addr} {sl20 : Array (Option Value)} {oc20 kV20 dc20 pm20 cd20 ct20 : Value}
    {od21 an21 : Option Addr} {sl21 : Array (Option Value)} {oc21 kV21 dc21 pm21 cd21 ct21 : Value}
    {od22 an22 : Option Addr} {sl22 : Array (Option Value)} {oc22 kV22 dc22 pm22 cd22 ct22 : Value}
    {od23 an23 : Option Addr} {sl23 : Array (Option Value)} {oc23 kV23 dc23 pm23 cd23 ct23 : Value}
    {od24 an24 : Option Addr} {sl24 : Array (Option Value)} {oc24 kV24 dc24 pm24 cd24 ct24 : Value}
    {od25 an25 : Option Addr} {sl25 : Array (Option Value)} {oc25 kV25 dc25 pm25 cd25 ct25 : Value}
    {od26 an26 : Option Addr} {sl26 : Array (Option Value)} {oc26 kV26 dc26 pm26 cd26 ct26 : Value}
    {od27 an27 : Option Addr} {sl27 : Array (Option Value)} {oc27 kV27 dc27 pm27 cd27 ct27 : Value}
    {od28 an28 : Option Addr} {sl28 : Array (Option Value)} {oc28 kV28 dc28 pm28 cd28 ct28 : Value}
    {od29 an29 : Option Addr} {sl29 : Array (Option Value)} {oc29 kV29 dc29 pm29 cd29 ct29 : Value}
    {od30 an30 : Option Addr} {sl30 : Array (Option Value)} {oc30 kV30 dc30 pm30 cd30 ct30 : Value}
    {od31 an31 : Option Addr} {sl31 : Array (Option Value)} {oc31 kV31 dc31 pm31 cd31 ct31 : Value}
    {od32 an32 : Option Addr} {sl32 : Array (Option Value)} {oc32 kV32 dc32 pm32 cd32 ct32 : Value}
    {od33 an33 : Option Addr} {sl33 : Array (Option Value)} {oc33 kV33 dc33 pm33 cd33 ct33 : Value}
    {od34 an34 : Option Addr} {sl34 : Array (Option Value)} {oc34 kV34 dc34 pm34 cd34 ct34 : Value}
    {od35 an35 : Option Addr} {sl35 : Array (Option Value)} {oc35 kV35 dc35 pm35 cd35 ct35 : Value}
    {od36 an36 : Option Addr} {sl36 : Array (Option Value)} {oc36 kV36 dc36 pm36 cd36 ct36 : Value}
    {od37 an37 : Option Addr} {sl37 : Array (Option Value)} {oc37 kV37 dc37 pm37 cd37 ct37 : Value}
    {od38 an38 : Option Addr} {sl38 : Array (Option Value)} {oc38 kV38 dc38 pm38 cd38 ct38 : Value}
    {od39 an39 : Option Addr} {sl39 : Array (Option Value)} {oc39 kV39 dc39 pm39 cd39 ct39 : Value}
    {od40 an40 : Option Addr} {sl40 : Array (Option Value)} {oc40 kV40 dc40 pm40 cd40 ct40 : Value}
    {t_LONGEST_NAME : Tok}
    {t_LETTERS : Tok}
    (aC_Tile : PySem.W.nsIn K mainGlobals "Tile" = some (some (.ref C0)))
    (aN__law_bag : PySem.W.nsIn K mainGlobals "_law_bag" = some (some (.ref f0)))
    (aN__law_draw : PySem.W.nsIn K mainGlobals "_law_draw" = some (some (.ref f1)))
    (aN__law_of : PySem.W.nsIn K mainGlobals "_law_of" = some (some (.ref f2)))
    (aN__law_names : PySem.W.nsIn K mainGlobals "_law_names" = some (some (.ref f3)))
    (aN__law_pick : PySem.W.nsIn K mainGlobals "_law_pick" = some (some (.ref f4)))
    (aN__law_shown : PySem.W.nsIn K mainGlobals "_law_shown" = some (some (.ref f5)))
    (aN__law_word : PySem.W.nsIn K mainGlobals "_law_word" = some (some (.ref f6)))
    (aN__law_strength : PySem.W.nsIn K mainGlobals "_law_strength" = some (some (.ref f7)))
    (aN__law_moved : PySem.W.nsIn K mainGlobals "_law_moved" = some (some (.ref f8)))
    (aN__law_read : PySem.W.nsIn K mainGlobals "_law_read" = some (some (.ref f9)))
    (aN__law_orbits : PySem.W.nsIn K mainGlobals "_law_orbits" = some (some (.ref f10)))
    (aN__law_sorted : PySem.W.nsIn K mainGlobals "_law_sorted" = some (some (.ref f11)))
    (aN__law_keeps : PySem.W.nsIn K mainGlobals "_law_keeps" = some (some (.ref f12)))
    (aN_is_side_name : PySem.W.nsIn K mainGlobals "is_side_name" = some (some (.ref f13)))
    (aN_is_sides : PySem.W.nsIn K mainGlobals "is_sides" = some (some (.ref f14)))
    (aN_is_number_valuechecks : PySem.W.nsIn K mainGlobals "is_number_valuechecks" = some (some (.ref f15)))
    (aN_is_spot : PySem.W.nsIn K mainGlobals "is_spot" = some (some (.ref f16)))
    (aN_is_number_indexes : PySem.W.nsIn K mainGlobals "is_number_indexes" = some (some (.ref f17)))
    (aN_is_index_indexes : PySem.W.nsIn K mainGlobals "is_index_indexes" = some (some (.ref f18)))
    (aN_is_word : PySem.W.nsIn K mainGlobals "is_word" = some (some (.ref f19)))
    (aN_is_tie : PySem.W.nsIn K mainGlobals "is_tie" = some (some (.ref f20)))
    (aN__law_same : PySem.W.nsIn K mainGlobals "_law_same" = some (some (.ref f22)))
    (aN_is_row_of : PySem.W.nsIn K mainGlobals "is_row_of" = some (some (.ref f23)))
    (aN_is_number_rowlooks : PySem.W.nsIn K mainGlobals "is_number_rowlooks" = some (some (.ref f24)))
    (aN_is_index_rowlooks : PySem.W.nsIn K mainGlobals "is_index_rowlooks" = some (some (.ref f25)))
    (aN_index_fault : PySem.W.nsIn K mainGlobals "index_fault" = some (some (.ref f26)))
    (aN_is_naming : PySem.W.nsIn K mainGlobals "is_naming" = some (some (.ref f27)))
    (aN_is_rule : PySem.W.nsIn K mainGlobals "is_rule" = some (some (.ref f28)))
    (aN_back : PySem.W.nsIn K mainGlobals "back" = some (some (.ref f30)))
    (aN__plain_tie : PySem.W.nsIn K mainGlobals "_plain_tie" = some (some (.ref f31)))
    (aN_exchanged_word : PySem.W.nsIn K mainGlobals "exchanged_word" = some (some (.ref f32)))
    (aN_is_kept : PySem.W.nsIn K mainGlobals "is_kept" = some (some (.ref f33)))
    (aN__law_asked : PySem.W.nsIn K mainGlobals "_law_asked" = some (some (.ref f34)))
    (aN__law_one_changed : PySem.W.nsIn K mainGlobals "_law_one_changed" = some (some (.ref f35)))
    (aN__law_changed_ties : PySem.W.nsIn K mainGlobals "_law_changed_ties" = some (some (.ref f36)))
    (aN__law_undone : PySem.W.nsIn K mainGlobals "_law_undone" = some (some (.ref f37)))
    (aN__law_swapped : PySem.W.nsIn K mainGlobals "_law_swapped" = some (some (.ref f38)))
    (aN__law_odd_ones : PySem.W.nsIn K mainGlobals "_law_odd_ones" = some (some (.ref f39)))
    (aR : PySem.W.nsIn K mainGlobals "law" = some (some (.ref f40)))
    (aM_Tile_ties : PySem.W.findIn K (.ref C0) "ties" = some (some (.ref f29)))
    (iM_Tile_ties : PySem.W.isFn K (.ref f29) = true)
    (aI_Tile : PySem.W.findIn K (.ref C0) "__init__" = some (some (.ref f21)))
    (iI_Tile : PySem.W.isFn K (.ref f21) = true)
    (mk_Tile : PySem.W.makesIn K C0 = true)
    (kc_Tile : PySem.W.keepIn K (.ref C0) = true)
    (pg_Tile : PySem.W.plainGet K C0 Str.empty = true)
    (hd_Tile : PySem.W.hasDictIn K C0 = true)
    (po_Tile : PySem.W.plainOver K C0 = true)
    (sa_Tile : PySem.W.findIn K (.ref C0) "__setattr__" = some (some (.builtin "object.__setattr__")))
    (n_sides_0 : PySem.W.findIn K (.ref C0) "sides" = some none)
    (n_spots_0 : PySem.W.findIn K (.ref C0) "spots" = some none)
    (n__ties_0 : PySem.W.findIn K (.ref C0) "_ties" = some none)
    (l0 : K.lookup f0 = some ⟨oc0, od0, .func (PySem.W.fnOf "_law_bag" "_law_bag" (C8.fnArgs s_x_law_bag) (C8.fnBody s_x_law_bag) (C8.fnScope s_x_law_bag) .none kV0 dc0 pm0 an0 cd0 ct0), sl0⟩)
    (c0 : PySem.W.codeIn K cd0 "_law_bag" = true)
    (k0 : PySem.W.keepIn K (.ref f0) = true)
    (l1 : K.lookup f1 = some ⟨oc1, od1, .func (PySem.W.fnOf "_law_draw" "_law_draw" (C8.fnArgs s_x_law_draw) (C8.fnBody s_x_law_draw) (C8.fnScope s_x_law_draw) .none kV1 dc1 pm1 an1 cd1 ct1), sl1⟩)
    (c1 : PySem.W.codeIn K cd1 "_law_draw" = true)
    (k1 : PySem.W.keepIn K (.ref f1) = true)
    (l2 : K.lookup f2 = some ⟨oc2, od2, .func (PySem.W.fnOf "_law_of" "_law_of" (C8.fnArgs s_x_law_of) (C8.fnBody s_x_law_of) (C8.fnScope s_x_law_of) .none kV2 dc2 pm2 an2 cd2 ct2), sl2⟩)
    (c2 : PySem.W.codeIn K cd2 "_law_of" = true)
    (k2 : PySem.W.keepIn K (.ref f2) = true)
    (l3 : K.lookup f3 = some ⟨oc3, od3, .func (PySem.W.fnOf "_law_names" "_law_names" (C8.fnArgs s_x_law_names) (C8.fnBody s_x_law_names) (C8.fnScope s_x_law_names) .none kV3 dc3 pm3 an3 cd3 ct3), sl3⟩)
    (c3 : PySem.W.codeIn K cd3 "_law_names" = true)
    (k3 : PySem.W.keepIn K (.ref f3) = true)
    (l4 : K.lookup f4 = some ⟨oc4, od4, .func (PySem.W.fnOf "_law_pick" "_law_pick" (C8.fnArgs s_x_law_pick) (C8.fnBody s_x_law_pick) (C8.fnScope s_x_law_pick) .none kV4 dc4 pm4 an4 cd4 ct4), sl4⟩)
    (c4 : PySem.W.codeIn K cd4 "_law_pick" = true)
    (k4 : PySem.W.keepIn K (.ref f4) = true)
    (l5 : K.lookup f5 = some ⟨oc5, od5, .func (PySem.W.fnOf "_law_shown" "_law_shown" (C8.fnArgs s_x_law_shown) (C8.fnBody s_x_law_shown) (C8.fnScope s_x_law_shown) .none kV5 dc5 pm5 an5 cd5 ct5), sl5⟩)
    (c5 : PySem.W.codeIn K cd5 "_law_shown" = true)
    (k5 : PySem.W.keepIn K (.ref f5) = true)
    (l6 : K.lookup f6 = some ⟨oc6, od6, .func (PySem.W.fnOf "_law_word" "_law_word" (C8.fnArgs s_x_law_word) (C8.fnBody s_x_law_word) (C8.fnScope s_x_law_word) .none kV6 dc6 pm6 an6 cd6 ct6), sl6⟩)
    (c6 : PySem.W.codeIn K cd6 "_law_word" = true)
    (k6 : PySem.W.keepIn K (.ref f6) = true)
    (l7 : K.lookup f7 = some ⟨oc7, od7, .func (PySem.W.fnOf "_law_strength" "_law_strength" (C8.fnArgs s_x_law_strength) (C8.fnBody s_x_law_strength) (C8.fnScope s_x_law_strength) .none kV7 dc7 pm7 an7 cd7 ct7), sl7⟩)
    (c7 : PySem.W.codeIn K cd7 "_law_strength" = true)
    (k7 : PySem.W.keepIn K (.ref f7) = true)
    (l8 : K.lookup f8 = some ⟨oc8, od8, .func (PySem.W.fnOf "_law_moved" "_law_moved" (C8.fnArgs s_x_law_moved) (C8.fnBody s_x_law_moved) (C8.fnScope s_x_law_moved) .none kV8 dc8 pm8 an8 cd8 ct8), sl8⟩)
    (c8 : PySem.W.codeIn K cd8 "_law_moved" = true)
    (k8 : PySem.W.keepIn K (.ref f8) = true)
    (l9 : K.lookup f9 = some ⟨oc9, od9, .func (PySem.W.fnOf "_law_read" "_law_read" (C8.fnArgs s_x_law_read) (C8.fnBody s_x_law_read) (C8.fnScope s_x_law_read) .none kV9 dc9 pm9 an9 cd9 ct9), sl9⟩)
    (c9 : PySem.W.codeIn K cd9 "_law_read" = true)
    (k9 : PySem.W.keepIn K (.ref f9) = true)
    (l10 : K.lookup f10 = some ⟨oc10, od10, .func (PySem.W.fnOf "_law_orbits" "_law_orbits" (C8.fnArgs s_x_law_orbits) (C8.fnBody s_x_law_orbits) (C8.fnScope s_x_law_orbits) .none kV10 dc10 pm10 an10 cd10 ct10), sl10⟩)
    (c10 : PySem.W.codeIn K cd10 "_law_orbits" = true)
    (k10 : PySem.W.keepIn K (.ref f10) = true)
    (l11 : K.lookup f11 = some ⟨oc11, od11, .func (PySem.W.fnOf "_law_sorted" "_law_sorted" (C8.fnArgs s_x_law_sorted) (C8.fnBody s_x_law_sorted) (C8.fnScope s_x_law_sorted) .none kV11 dc11 pm11 an11 cd11 ct11), sl11⟩)
    (c11 : PySem.W.codeIn K cd11 "_law_sorted" = true)
    (k11 : PySem.W.keepIn K (.ref f11) = true)
    (l12 : K.lookup f12 = some ⟨oc12, od12, .func (PySem.W.fnOf "_law_keeps" "_law_keeps" (C8.fnArgs s_x_law_keeps) (C8.fnBody s_x_law_keeps) (C8.fnScope s_x_law_keeps) .none kV12 dc12 pm12 an12 cd12 ct12), sl12⟩)
    (c12 : PySem.W.codeIn K cd12 "_law_keeps" = true)
    (k12 : PySem.W.keepIn K (.ref f12) = true)
    (l13 : K.lookup f13 = some ⟨oc13, od13, .func (PySem.W.fnOf "is_side_name" "is_side_name" (C8.fnArgs s_is_side_name) (C8.fnBody s_is_side_name) (C8.fnScope s_is_side_name) .none kV13 dc13 pm13 an13 cd13 ct13), sl13⟩)
    (c13 : PySem.W.codeIn K cd13 "is_side_name" = true)
    (k13 : PySem.W.keepIn K (.ref f13) = true)
    (l14 : K.lookup f14 = some ⟨oc14, od14, .func (PySem.W.fnOf "is_sides" "is_sides" (C8.fnArgs s_is_sides) (C8.fnBody s_is_sides) (C8.fnScope s_is_sides) .none kV14 dc14 pm14 an14 cd14 ct14), sl14⟩)
    (c14 : PySem.W.codeIn K cd14 "is_sides" = true)
    (k14 : PySem.W.keepIn K (.ref f14) = true)
    (l15 : K.lookup f15 = some ⟨oc15, od15, .func (PySem.W.fnOf "is_number" "is_number" (C8.fnArgs s_is_number_1) (C8.fnBody s_is_number_1) (C8.fnScope s_is_number_1) .none kV15 dc15 pm15 an15 cd15 ct15), sl15⟩)
    (c15 : PySem.W.codeIn K cd15 "is_number" = true)
    (k15 : PySem.W.keepIn K (.ref f15) = true)
    (l16 : K.lookup f16 = some ⟨oc16, od16, .func (PySem.W.fnOf "is_spot" "is_spot" (C8.fnArgs s_is_spot) (C8.fnBody s_is_spot) (C8.fnScope s_is_spot) .none kV16 dc16 pm16 an16 cd16 ct16), sl16⟩)
    (c16 : PySem.W.codeIn K cd16 "is_spot" = true)
    (k16 : PySem.W.keepIn K (.ref f16) = true)
    (l17 : K.lookup f17 = some ⟨oc17, od17, .func (PySem.W.fnOf "is_number" "is_number" (C8.fnArgs s_is_number) (C8.fnBody s_is_number) (C8.fnScope s_is_number) .none kV17 dc17 pm17 an17 cd17 ct17), sl17⟩)
    (c17 : PySem.W.codeIn K cd17 "is_number" = true)
    (k17 : PySem.W.keepIn K (.ref f17) = true)
    (l18 : K.lookup f18 = some ⟨oc18, od18, .func (PySem.W.fnOf "is_index" "is_index" (C8.fnArgs s_is_index) (C8.fnBody s_is_index) (C8.fnScope s_is_index) .none kV18 dc18 pm18 an18 cd18 ct18), sl18⟩)
    (c18 : PySem.W.codeIn K cd18 "is_index" = true)
    (k18 : PySem.W.keepIn K (.ref f18) = true)
    (l19 : K.lookup f19 = some ⟨oc19, od19, .func (PySem.W.fnOf "is_word" "is_word" (C8.fnArgs s_is_word) (C8.fnBody s_is_word) (C8.fnScope s_is_word) .none kV19 dc19 pm19 an19 cd19 ct19), sl19⟩)
    (c19 : PySem.W.codeIn K cd19 "is_word" = true)
    (k19 : PySem.W.keepIn K (.ref f19) = true)
    (l20 : K.lookup f20 = some ⟨oc20, od20, .func (PySem.W.fnOf "is_tie" "is_tie" (C8.fnArgs s_is_tie) (C8.fnBody s_is_tie) (C8.fnScope s_is_tie) .none kV20 dc20 pm20 an20 cd20 ct20), sl20⟩)
    (c20 : PySem.W.codeIn K cd20 "is_tie" = true)
    (k20 : PySem.W.keepIn K (.ref f20) = true)
    (l21 : K.lookup f21 = some ⟨oc21, od21, .func (PySem.W.fnOf "__init__" "Tile.__init__" (C8.fnArgs s_Tile___init__) (C8.fnBody s_Tile___init__) (C8.fnScope s_Tile___init__) .none kV21 dc21 pm21 an21 cd21 ct21), sl21⟩)
    (c21 : PySem.W.codeIn K cd21 "Tile.__init__" = true)
    (k21 : PySem.W.keepIn K (.ref f21) = true)
    (l22 : K.lookup f22 = some ⟨oc22, od22, .func (PySem.W.fnOf "_law_same" "_law_same" (C8.fnArgs s_x_law_same) (C8.fnBody s_x_law_same) (C8.fnScope s_x_law_same) .none kV22 dc22 pm22 an22 cd22 ct22), sl22⟩)
    (c22 : PySem.W.codeIn K cd22 "_law_same" = true)
    (k22 : PySem.W.keepIn K (.ref f22) = true)
    (l23 : K.lookup f23 = some ⟨oc23, od23, .func (PySem.W.fnOf "is_row_of" "is_row_of" (C8.fnArgs s_is_row_of) (C8.fnBody s_is_row_of) (C8.fnScope s_is_row_of) .none kV23 dc23 pm23 an23 cd23 ct23), sl23⟩)
    (c23 : PySem.W.codeIn K cd23 "is_row_of" = true)
    (k23 : PySem.W.keepIn K (.ref f23) = true)
    (l24 : K.lookup f24 = some ⟨oc24, od24, .func (PySem.W.fnOf "is_number" "is_number" (C8.fnArgs s_is_number_2) (C8.fnBody s_is_number_2) (C8.fnScope s_is_number_2) .none kV24 dc24 pm24 an24 cd24 ct24), sl24⟩)
    (c24 : PySem.W.codeIn K cd24 "is_number" = true)
    (k24 : PySem.W.keepIn K (.ref f24) = true)
    (l25 : K.lookup f25 = some ⟨oc25, od25, .func (PySem.W.fnOf "is_index" "is_index" (C8.fnArgs s_is_index_1) (C8.fnBody s_is_index_1) (C8.fnScope s_is_index_1) .none kV25 dc25 pm25 an25 cd25 ct25), sl25⟩)
    (c25 : PySem.W.codeIn K cd25 "is_index" = true)
    (k25 : PySem.W.keepIn K (.ref f25) = true)
    (l26 : K.lookup f26 = some ⟨oc26, od26, .func (PySem.W.fnOf "index_fault" "index_fault" (C8.fnArgs s_index_fault) (C8.fnBody s_index_fault) (C8.fnScope s_index_fault) .none kV26 dc26 pm26 an26 cd26 ct26), sl26⟩)
    (c26 : PySem.W.codeIn K cd26 "index_fault" = true)
    (k26 : PySem.W.keepIn K (.ref f26) = true)
    (l27 : K.lookup f27 = some ⟨oc27, od27, .func (PySem.W.fnOf "is_naming" "is_naming" (C8.fnArgs s_is_naming) (C8.fnBody s_is_naming) (C8.fnScope s_is_naming) .none kV27 dc27 pm27 an27 cd27 ct27), sl27⟩)
    (c27 : PySem.W.codeIn K cd27 "is_naming" = true)
    (k27 : PySem.W.keepIn K (.ref f27) = true)
    (l28 : K.lookup f28 = some ⟨oc28, od28, .func (PySem.W.fnOf "is_rule" "is_rule" (C8.fnArgs s_is_rule) (C8.fnBody s_is_rule) (C8.fnScope s_is_rule) .none kV28 dc28 pm28 an28 cd28 ct28), sl28⟩)
    (c28 : PySem.W.codeIn K cd28 "is_rule" = true)
    (k28 : PySem.W.keepIn K (.ref f28) = true)
    (l29 : K.lookup f29 = some ⟨oc29, od29, .func (PySem.W.fnOf "ties" "Tile.ties" (C8.fnArgs s_Tile_ties) (C8.fnBody s_Tile_ties) (C8.fnScope s_Tile_ties) .none kV29 dc29 pm29 an29 cd29 ct29), sl29⟩)
    (c29 : PySem.W.codeIn K cd29 "Tile.ties" = true)
    (k29 : PySem.W.keepIn K (.ref f29) = true)
    (l30 : K.lookup f30 = some ⟨oc30, od30, .func (PySem.W.fnOf "back" "back" (C8.fnArgs s_back) (C8.fnBody s_back) (C8.fnScope s_back) .none kV30 dc30 pm30 an30 cd30 ct30), sl30⟩)
    (c30 : PySem.W.codeIn K cd30 "back" = true)
    (k30 : PySem.W.keepIn K (.ref f30) = true)
    (l31 : K.lookup f31 = some ⟨oc31, od31, .func (PySem.W.fnOf "_plain_tie" "_plain_tie" (C8.fnArgs s_x_plain_tie) (C8.fnBody s_x_plain_tie) (C8.fnScope s_x_plain_tie) .none kV31 dc31 pm31 an31 cd31 ct31), sl31⟩)
    (c31 : PySem.W.codeIn K cd31 "_plain_tie" = true)
    (k31 : PySem.W.keepIn K (.ref f31) = true)
    (l32 : K.lookup f32 = some ⟨oc32, od32, .func (PySem.W.fnOf "exchanged_word" "exchanged_word" (C8.fnArgs s_exchanged_word) (C8.fnBody s_exchanged_word) (C8.fnScope s_exchanged_word) .none kV32 dc32 pm32 an32 cd32 ct32), sl32⟩)
    (c32 : PySem.W.codeIn K cd32 "exchanged_word" = true)
    (k32 : PySem.W.keepIn K (.ref f32) = true)
    (l33 : K.lookup f33 = some ⟨oc33, od33, .func (PySem.W.fnOf "is_kept" "is_kept" (C8.fnArgs s_is_kept) (C8.fnBody s_is_kept) (C8.fnScope s_is_kept) .none kV33 dc33 pm33 an33 cd33 ct33), sl33⟩)
    (c33 : PySem.W.codeIn K cd33 "is_kept" = true)
    (k33 : PySem.W.keepIn K (.ref f33) = true)
    (l34 : K.lookup f34 = some ⟨oc34, od34, .func (PySem.W.fnOf "_law_asked" "_law_asked" (C8.fnArgs s_x_law_asked) (C8.fnBody s_x_law_asked) (C8.fnScope s_x_law_asked) .none kV34 dc34 pm34 an34 cd34 ct34), sl34⟩)
    (c34 : PySem.W.codeIn K cd34 "_law_asked" = true)
    (k34 : PySem.W.keepIn K (.ref f34) = true)
    (l35 : K.lookup f35 = some ⟨oc35, od35, .func (PySem.W.fnOf "_law_one_changed" "_law_one_changed" (C8.fnArgs s_x_law_one_changed) (C8.fnBody s_x_law_one_changed) (C8.fnScope s_x_law_one_changed) .none kV35 dc35 pm35 an35 cd35 ct35), sl35⟩)
    (c35 : PySem.W.codeIn K cd35 "_law_one_changed" = true)
    (k35 : PySem.W.keepIn K (.ref f35) = true)
    (l36 : K.lookup f36 = some ⟨oc36, od36, .func (PySem.W.fnOf "_law_changed_ties" "_law_changed_ties" (C8.fnArgs s_x_law_changed_ties) (C8.fnBody s_x_law_changed_ties) (C8.fnScope s_x_law_changed_ties) .none kV36 dc36 pm36 an36 cd36 ct36), sl36⟩)
    (c36 : PySem.W.codeIn K cd36 "_law_changed_ties" = true)
    (k36 : PySem.W.keepIn K (.ref f36) = true)
    (l37 : K.lookup f37 = some ⟨oc37, od37, .func (PySem.W.fnOf "_law_undone" "_law_undone" (C8.fnArgs s_x_law_undone) (C8.fnBody s_x_law_undone) (C8.fnScope s_x_law_undone) .none kV37 dc37 pm37 an37 cd37 ct37), sl37⟩)
    (c37 : PySem.W.codeIn K cd37 "_law_undone" = true)
    (k37 : PySem.W.keepIn K (.ref f37) = true)
    (l38 : K.lookup f38 = some ⟨oc38, od38, .func (PySem.W.fnOf "_law_swapped" "_law_swapped" (C8.fnArgs s_x_law_swapped) (C8.fnBody s_x_law_swapped) (C8.fnScope s_x_law_swapped) .none kV38 dc38 pm38 an38 cd38 ct38), sl38⟩)
    (c38 : PySem.W.codeIn K cd38 "_law_swapped" = true)
    (k38 : PySem.W.keepIn K (.ref f38) = true)
    (l39 : K.lookup f39 = some ⟨oc39, od39, .func (PySem.W.fnOf "_law_odd_ones" "_law_odd_ones" (C8.fnArgs s_x_law_odd_ones) (C8.fnBody s_x_law_odd_ones) (C8.fnScope s_x_law_odd_ones) .none kV39 dc39 pm39 an39 cd39 ct39), sl39⟩)
    (c39 : PySem.W.codeIn K cd39 "_law_odd_ones" = true)
    (k39 : PySem.W.keepIn K (.ref f39) = true)
    (l40 : K.lookup f40 = some ⟨oc40, od40, .func (PySem.W.fnOf "law" "law" (C8.fnArgs s_law) (C8.fnBody s_law) (C8.fnScope s_law) .none kV40 dc40 pm40 an40 cd40 ct40), sl40⟩)
    (c40 : PySem.W.codeIn K cd40 "law" = true)
    (k40 : PySem.W.keepIn K (.ref f40) = true)
    (z_int : PySem.W.nsIn K mainGlobals "int" = some none)
    (z_list : PySem.W.nsIn K mainGlobals "list" = some none)
    (z_len : PySem.W.nsIn K mainGlobals "len" = some none)
    (z_abs : PySem.W.nsIn K mainGlobals "abs" = some none)
    (z_range : PySem.W.nsIn K mainGlobals "range" = some none)
    (z_tuple : PySem.W.nsIn K mainGlobals "tuple" = some none)
    (z_min : PySem.W.nsIn K mainGlobals "min" = some none)
    (z_isinstance : PySem.W.nsIn K mainGlobals "isinstance" = some none)
    (z_str : PySem.W.nsIn K mainGlobals "str" = some none)
    (q_LONGEST_NAME : PySem.W.nsIn K mainGlobals "LONGEST_NAME" = some (some (.int 3 t_LONGEST_NAME)))
    (z_all : PySem.W.nsIn K mainGlobals "all" = some none)
    (q_LETTERS : PySem.W.nsIn K mainGlobals "LETTERS" = some (some (.str "abcdefghijklmnopqrstuvwxyz" t_LETTERS)))
    (z_bool : PySem.W.nsIn K mainGlobals "bool" = some none)
    (z_enumerate : PySem.W.nsIn K mainGlobals "enumerate" = some none)
    (z_zip : PySem.W.nsIn K mainGlobals "zip" = some none)
    (z_set : PySem.W.nsIn K mainGlobals "set" = some none)
    (z_sorted : PySem.W.nsIn K mainGlobals "sorted" = some none)
    : Txt K mg (faOf [C0]) (faOf [f0, f1, f2, f3, f4, f5, f6, f7, f8, f9, f10, f11, f12, f13, f14, f15, f16, f17, f18, f19, f20, f21, f22, f23, f24, f25, f26, f27, f28, f29, f30, f31, f32, f33, f34, f35, f36, f37, f38, f39, f40]) where
  d_x_law_bag := fnAt_mk l0 c0 k0 fun _ _ _ _ _ _ us hl => match us, hl with | [_], _ => rfl
  d_x_law_draw := fnAt_mk l1 c1 k1 fun _ _ _ _ _ _ us hl => match us, hl with | [_, _], _ => rfl
  d_x_law_of := fnAt_mk l2 c2 k2 fun _ _ _ _ _ _ us hl => match us, hl with | [_, _], _ => rfl
  d_x_law_names := fnAt_mk l3 c3 k3 fun _ _ _ _ _ _ us hl => match us, hl with | [_, _], _ => rfl
  d_x_law_pick := fnAt_mk l4 c4 k4 fun _ _ _ _ _ _ us hl => match us, hl with | [_, _, _], _ => rfl
  d_x_law_shown := fnAt_mk l5 c5 k5 fun _ _ _ _ _ _ us hl => match us, hl with | [_, _], _ => rfl
  d_x_law_word := fnAt_mk l6 c6 k6 fun _ _ _ _ _ _ us hl => match us, hl with | [_, _, _], _ => rfl
  d_x_law_strength := fnAt_mk l7 c7 k7 fun _ _ _ _ _ _ us hl => match us, hl with | [_], _ => rfl
  d_x_law_moved := fnAt_mk l8 c8 k8 fun _ _ _ _ _ _ us hl => match us, hl with | [_, _, _], _ => rfl
  d_x_law_read := fnAt_mk l9 c9 k9 fun _ _ _ _ _ _ us hl => match us, hl with | [_], _ => rfl
  d_x_law_orbits := fnAt_mk l10 c10 k10 fun _ _ _ _ _ _ us hl => match us, hl with | [_, _, _, _], _ => rfl
  d_x_law_sorted := fnAt_mk l11 c11 k11 fun _ _ _ _ _ _ us hl => match us, hl with | [_], _ => rfl
  d_x_law_keeps := fnAt_mk l12 c12 k12 fun _ _ _ _ _ _ us hl => match us, hl with | [_, _, _], _ => rfl
  d_is_side_name := fnAt_mk l13 c13 k13 fun _ _ _ _ _ _ us hl => match us, hl with | [_], _ => rfl
  d_is_sides := fnAt_mk l14 c14 k14 fun _ _ _ _ _ _ us hl => match us, hl with | [_], _ => rfl
  d_is_number_1 := fnAt_mk l15 c15 k15 fun _ _ _ _ _ _ us hl => match us, hl with | [_], _ => rfl
  d_is_spot := fnAt_mk l16 c16 k16 fun _ _ _ _ _ _ us hl => match us, hl with | [_, _], _ => rfl
  d_is_number := fnAt_mk l17 c17 k17 fun _ _ _ _ _ _ us hl => match us, hl with | [_], _ => rfl
  d_is_index := fnAt_mk l18 c18 k18 fun _ _ _ _ _ _ us hl => match us, hl with | [_, _], _ => rfl
  d_is_word := fnAt_mk l19 c19 k19 fun _ _ _ _ _ _ us hl => match us, hl with | [_, _], _ => rfl
  d_is_tie := fnAt_mk l20 c20 k20 fun _ _ _ _ _ _ us hl => match us, hl with | [_, _, _], _ => rfl
  d_Tile___init__ := fnAt_mk l21 c21 k21 fun _ _ _ _ _ _ us hl => match us, hl with | [_, _, _, _], _ => rfl
  d_x_law_same := fnAt_mk l22 c22 k22 fun _ _ _ _ _ _ us hl => match us, hl with | [_, _], _ => rfl
  d_is_row_of := fnAt_mk l23 c23 k23 fun _ _ _ _ _ _ us hl => match us, hl with | [_, _], _ => rfl
  d_is_number_2 := fnAt_mk l24 c24 k24 fun _ _ _ _ _ _ us hl => match us, hl with | [_], _ => rfl
  d_is_index_1 := fnAt_mk l25 c25 k25 fun _ _ _ _ _ _ us hl => match us, hl with | [_, _], _ => rfl
  d_index_fault := fnAt_mk l26 c26 k26 fun _ _ _ _ _ _ us hl => match us, hl with | [_, _], _ => rfl
  d_is_naming := fnAt_mk l27 c27 k27 fun _ _ _ _ _ _ us hl => match us, hl with | [_, _], _ => rfl
  d_is_rule := fnAt_mk l28 c28 k28 fun _ _ _ _ _ _ us hl => match us, hl with | [_, _], _ => rfl
  d_Tile_ties := fnAt_mk l29 c29 k29 fun _ _ _ _ _ _ us hl => match us, hl with | [_], _ => rfl
  d_back := fnAt_mk l30 c30 k30 fun _ _ _ _ _ _ us hl => match us, hl with | [_], _ => rfl
  d_x_plain_tie := fnAt_mk l31 c31 k31 fun _ _ _ _ _ _ us hl => match us, hl with | [_, _, _, _], _ => rfl
  d_exchanged_word := fnAt_mk l32 c32 k32 fun _ _ _ _ _ _ us hl => match us, hl with | [_, _], _ => rfl
  d_is_kept := fnAt_mk l33 c33 k33 fun _ _ _ _ _ _ us hl => match us, hl with | [_, _, _], _ => rfl
  d_x_law_asked := fnAt_mk l34 c34 k34 fun _ _ _ _ _ _ us hl => match us, hl with | [_, _, _, _, _, _], _ => rfl
  d_x_law_one_changed := fnAt_mk l35 c35 k35 fun _ _ _ _ _ _ us hl => match us, hl with | [_, _, _, _], _ => rfl
  d_x_law_changed_ties := fnAt_mk l36 c36 k36 fun _ _ _ _ _ _ us hl => match us, hl with | [_, _, _, _], _ => rfl
  d_x_law_undone := fnAt_mk l37 c37 k37 fun _ _ _ _ _ _ us hl => match us, hl with | [_], _ => rfl
  d_x_law_swapped := fnAt_mk l38 c38 k38 fun _ _ _ _ _ _ us hl => match us, hl with | [_, _], _ => rfl
  d_x_law_odd_ones := fnAt_mk l39 c39 k39 fun _ _ _ _ _ _ us hl => match us, hl with | [_, _, _, _, _], _ => rfl
  d_law := fnAt_mk l40 c40 k40 fun _ _ _ _ _ _ us hl => match us, hl with | [_], _ => rfl
  z_int := PySem.W.mg_none_of X G z_int
  z_list := PySem.W.mg_none_of X G z_list
  N__law_bag := PySem.W.mg_of X G aN__law_bag
  z_len := PySem.W.mg_none_of X G z_len
  z_abs := PySem.W.mg_none_of X G z_abs
  N__law_draw := PySem.W.mg_of X G aN__law_draw
  N__law_of := PySem.W.mg_of X G aN__law_of
  z_range := PySem.W.mg_none_of X G z_range
  z_tuple := PySem.W.mg_none_of X G z_tuple
  N__law_names := PySem.W.mg_of X G aN__law_names
  z_min := PySem.W.mg_none_of X G z_min
  N__law_pick := PySem.W.mg_of X G aN__law_pick
  N__law_shown := PySem.W.mg_of X G aN__law_shown
  N__law_word := PySem.W.mg_of X G aN__law_word
  N__law_strength := PySem.W.mg_of X G aN__law_strength
  N__law_moved := PySem.W.mg_of X G aN__law_moved
  N__law_read := PySem.W.mg_of X G aN__law_read
  N__law_orbits := PySem.W.mg_of X G aN__law_orbits
  N__law_sorted := PySem.W.mg_of X G aN__law_sorted
  N__law_keeps := PySem.W.mg_of X G aN__law_keeps
  z_isinstance := PySem.W.mg_none_of X G z_isinstance
  z_str := PySem.W.mg_none_of X G z_str
  c_LONGEST_NAME := ⟨_, PySem.W.mg_of X G q_LONGEST_NAME⟩
  z_all := PySem.W.mg_none_of X G z_all
  c_LETTERS := ⟨_, PySem.W.mg_of X G q_LETTERS⟩
  N_is_side_name := PySem.W.mg_of X G aN_is_side_name
  N_is_sides := PySem.W.mg_of X G aN_is_sides
  z_bool := PySem.W.mg_none_of X G z_bool
  N_is_number_valuechecks := PySem.W.mg_of X G aN_is_number_valuechecks
  z_enumerate := PySem.W.mg_none_of X G z_enumerate
  N_is_spot := PySem.W.mg_of X G aN_is_spot
  N_is_number_indexes := PySem.W.mg_of X G aN_is_number_indexes
  N_is_index_indexes := PySem.W.mg_of X G aN_is_index_indexes
  N_is_word := PySem.W.mg_of X G aN_is_word
  N_is_tie := PySem.W.mg_of X G aN_is_tie
  f_sides := fun C hC => by
    have e := List.mem_singleton.mp hC
    subst e
    exact ⟨⟨pg_Tile, hd_Tile, po_Tile, sa_Tile⟩, n_sides_0⟩
  f_spots := fun C hC => by
    have e := List.mem_singleton.mp hC
    subst e
    exact ⟨⟨pg_Tile, hd_Tile, po_Tile, sa_Tile⟩, n_spots_0⟩
  f__ties := fun C hC => by
    have e := List.mem_singleton.mp hC
    subst e
    exact ⟨⟨pg_Tile, hd_Tile, po_Tile, sa_Tile⟩, n__ties_0⟩
  m_Tile := PySem.W.mg_of X G aC_Tile
  C_Tile := ⟨mk_Tile, aI_Tile, iI_Tile, kc_Tile⟩
  z_zip := PySem.W.mg_none_of X G z_zip
  N__law_same := PySem.W.mg_of X G aN__law_same
  N_is_row_of := PySem.W.mg_of X G aN_is_row_of
  N_is_number_rowlooks := PySem.W.mg_of X G aN_is_number_rowlooks
  N_is_index_rowlooks := PySem.W.mg_of X G aN_is_index_rowlooks
  N_index_fault := PySem.W.mg_of X G aN_index_fault
  z_set := PySem.W.mg_none_of X G z_set
  N_is_naming := PySem.W.mg_of X G aN_is_naming
  N_is_rule := PySem.W.mg_of X G aN_is_rule
  N_back := PySem.W.mg_of X G aN_back
  N__plain_tie := PySem.W.mg_of X G aN__plain_tie
  N_exchanged_word := PySem.W.mg_of X G aN_exchanged_word
  z_sorted := PySem.W.mg_none_of X G z_sorted
  N_is_kept := PySem.W.mg_of X G aN_is_kept
  N__law_asked := PySem.W.mg_of X G aN__law_asked
  N__law_one_changed := PySem.W.mg_of X G aN__law_one_changed
  N__law_changed_ties := PySem.W.mg_of X G aN__law_changed_ties
  N__law_undone := PySem.W.mg_of X G aN__law_undone
  N__law_swapped := PySem.W.mg_of X G aN__law_swapped
  N__law_odd_ones := PySem.W.mg_of X G aN__law_odd_ones
  cls_Tile := ⟨pg_Tile, hd_Tile, po_Tile, sa_Tile⟩
  M_Tile_ties := ⟨aM_Tile_ties, iM_Tile_ties⟩
theorem head {l : PySem.W.OpenLaw} {w : World} {K : PySem.W.Frag} {mg : Str → Option Value} {fA : Addr} {ca fa : Nat → Addr} (hfa : mg "law" = some (.ref fA)) (hR : mg "law" = some (.ref (fa 40))) (T : Txt K mg ca fa) (F : Nat)
    (law : ∀ ns : List Int, ns.length ≤ 63 → ∃ μ, r_law F [.script ns] [] = some (.ok (.bl true), μ)) :
    ∃ fd : FuncData, (∀ (s : Shared) (v : Value), BindsTo s fd ⟨[v], []⟩ [("script", v)]) ∧ ∀ base : Heap, K.In base → base.Ns mainGlobals mg → FnOk l.prog w K mg base (L2.CX l.prog w) 11 fA fd ["script"] (spLaw K 63) := by
  have e := hfa.symm.trans hR
  cases e
  exact law_head T.d_law (fun P w base => p_law T F) law
theorem all_mk {l : PySem.W.OpenLaw} {w : World} {K : PySem.W.Frag} {h : Heap} {mg : Str → Option Value} {fA : Addr} {f0 f1 f2 f3 f4 f5 f6 f7 f8 f9 f10 f11 f12 f13 f14 f15 f16 f17 f18 f19 f20 f21 f22 f23 f24 f25 f26 f27 f28 f29 f30 f31 f32 f33 f34 f35 f36 f37 f38 f39 f40 C0 : Addr} (X : K.In h) (G : h.Ns mainGlobals mg) (hfa : mg "law" = some (.ref fA)) (F : Nat)
    (law : ∀ ns : List Int, ns.length ≤ 63 → ∃ μ, r_law F [.script ns] [] = some (.ok (.bl true), μ))
    {od0 an0 : Option Addr} {sl0 : Array (Option Value)} {oc0 kV0 dc0 pm0 cd0 ct0 : Value}
    {od1 an1 : Option Addr} {sl1 : Array (Option Value)} {oc1 kV1 dc1 pm1 cd1 ct1 : Value}
    {od2 an2 : Option Addr} {sl2 : Array (Option Value)} {oc2 kV2 dc2 pm2 cd2 ct2 : Value}
    {od3 an3 : Option Addr} {sl3 : Array (Option Value)} {oc3 kV3 dc3 pm3 cd3 ct3 : Value}
    {od4 an4 : Option Addr} {sl4 : Array (Option Value)} {oc4 kV4 dc4 pm4 cd4 ct4 : Value}
    {od5 an5 : Option Addr} {sl5 : Array (Option Value)} {oc5 kV5 dc5 pm5 cd5 ct5 : Value}
    {od6 an6 : Option Addr} {sl6 : Array (Option Value)} {oc6 kV6 dc6 pm6 cd6 ct6 : Value}
    {od7 an7 : Option Addr} {sl7 : Array (Option Value)} {oc7 kV7 dc7 pm7 cd7 ct7 : Value}
    {od8 an8 : Option Addr} {sl8 : Array (Option Value)} {oc8 kV8 dc8 pm8 cd8 ct8 : Value}
    {od9 an9 : Option Addr} {sl9 : Array (Option Value)} {oc9 kV9 dc9 pm9 cd9 ct9 : Value}
    {od10 an10 : Option Addr} {sl10 : Array (Option Value)} {oc10 kV10 dc10 pm10 cd10 ct10 : Value}
    {od11 an11 : Option Addr} {sl11 : Array (Option Value)} {oc11 kV11 dc11 pm11 cd11 ct11 : Value}
    {od12 an12 : Option Addr} {sl12 : Array (Option Value)} {oc12 kV12 dc12 pm12 cd12 ct12 : Value}
    {od13 an13 : Option Addr} {sl13 : Array (Option Value)} {oc13 kV13 dc13 pm13 cd13 ct13 : Value}
    {od14 an14 : Option Addr} {sl14 : Array (Option Value)} {oc14 kV14 dc14 pm14 cd14 ct14 : Value}
    {od15 an15 : Option Addr} {sl15 : Array (Option Value)} {oc15 kV15 dc15 pm15 cd15 ct15 : Value}
    {od16 an16 : Option Addr} {sl16 : Array (Option Value)} {oc16 kV16 dc16 pm16 cd16 ct16 : Value}
    {od17 an17 : Option Addr} {sl17 : Array (Option Value)} {oc17 kV17 dc17 pm17 cd17 ct17 : Value}
    {od18 an18 : Option Addr} {sl18 : Array (Option Value)} {oc18 kV18 dc18 pm18 cd18 ct18 : Value}
    {od19 an19 : Option Addr} {sl19 : Array (Option Value)} {oc19 kV19 dc19 pm19 cd19 ct19 : Value}
    {od20 an20 : Option Addr} {sl20 : Array (Option Value)} {oc20 kV20 dc20 pm20 cd20 ct20 : Value}
    {od21 an21 : Option Addr} {sl21 : Array (Option Value)} {oc21 kV21 dc21 pm21 cd21 ct21 : Value}
    {od22 an22 : Option Addr} {sl22 : Array (Option Value)} {oc22 kV22 dc22 pm22 cd22 ct22 : Value}
    {od23 an23 : Option Addr} {sl23 : Array (Option Value)} {oc23 kV23 dc23 pm23 cd23 ct23 : Value}
    {od24 an24 : Option Addr} {sl24 : Array (Option Value)} {oc24 kV24 dc24 pm24 cd24 ct24 : Value}
    {od25 an25 : Option Addr} {sl25 : Array (Option Value)} {oc25 kV25 dc25 pm25 cd25 ct25 : Value}
    {od26 an26 : Option Addr} {sl26 : Array (Option Value)} {oc26 kV26 dc26 pm26 cd26 ct26 : Value}
    {od27 an27 : Option Addr} {sl27 : Array (Option Value)} {oc27 kV27 dc27 pm27 cd27 ct27 : Value}
    {od28 an28 : Option Addr} {sl28 : Array (Option Value)} {oc28 kV28 dc28 pm28 cd28 ct28 : Value}
    {od29 an29 : Option Addr} {sl29 : Array (Option Value)} {oc29 kV29 dc29 pm29 cd29 ct29 : Value}
    {od30 an30 : Option Addr} {sl30 : Array (Option Value)} {oc30 kV30 dc30 pm30 cd30 ct30 : Value}
    {od31 an31 : Option Addr} {sl31 : Array (Option Value)} {oc31 kV31 dc31 pm31 cd31 ct31 : Value}
    {od32 an32 : Option Addr} {sl32 : Array (Option Value)} {oc32 kV32 dc32 pm32 cd32 ct32 : Value}
    {od33 an33 : Option Addr} {sl33 : Array (Option Value)} {oc33 kV33 dc33 pm33 cd33 ct33 : Value}
    {od34 an34 : Option Addr} {sl34 : Array (Option Value)} {oc34 kV34 dc34 pm34 cd34 ct34 : Value}
    {od35 an35 : Option Addr} {sl35 : Array (Option Value)} {oc35 kV35 dc35 pm35 cd35 ct35 : Value}
    {od36 an36 : Option Addr} {sl36 : Array (Option Value)} {oc36 kV36 dc36 pm36 cd36 ct36 : Value}
    {od37 an37 : Option Addr} {sl37 : Array (Option Value)} {oc37 kV37 dc37 pm37 cd37 ct37 : Value}
    {od38 an38 : Option Addr} {sl38 : Array (Option Value)} {oc38 kV38 dc38 pm38 cd38 ct38 : Value}
    {od39 an39 : Option Addr} {sl39 : Array (Option Value)} {oc39 kV39 dc39 pm39 cd39 ct39 : Value}
    {od40 an40 : Option Addr} {sl40 : Array (Option Value)} {oc40 kV40 dc40 pm40 cd40 ct40 : Value}
    {t_LONGEST_NAME : Tok}
    {t_LETTERS : Tok}
    (aC_Tile : PySem.W.nsIn K mainGlobals "Tile" = some (some (.ref C0)))
    (aN__law_bag : PySem.W.nsIn K mainGlobals "_law_bag" = some (some (.ref f0)))
    (aN__law_draw : PySem.W.nsIn K mainGlobals "_law_draw" = some (some (.ref f1)))
    (aN__law_of : PySem.W.nsIn K mainGlobals "_law_of" = some (some (.ref f2)))
    (aN__law_names : PySem.W.nsIn K mainGlobals "_law_names" = some (some (.ref f3)))
    (aN__law_pick : PySem.W.nsIn K mainGlobals "_law_pick" = some (some (.ref f4)))
    (aN__law_shown : PySem.W.nsIn K mainGlobals "_law_shown" = some (some (.ref f5)))
    (aN__law_word : PySem.W.nsIn K mainGlobals "_law_word" = some (some (.ref f6)))
    (aN__law_strength : PySem.W.nsIn K mainGlobals "_law_strength" = some (some (.ref f7)))
    (aN__law_moved : PySem.W.nsIn K mainGlobals "_law_moved" = some (some (.ref f8)))
    (aN__law_read : PySem.W.nsIn K mainGlobals "_law_read" = some (some (.ref f9)))
    (aN__law_orbits : PySem.W.nsIn K mainGlobals "_law_orbits" = some (some (.ref f10)))
    (aN__law_sorted : PySem.W.nsIn K mainGlobals "_law_sorted" = some (some (.ref f11)))
    (aN__law_keeps : PySem.W.nsIn K mainGlobals "_law_keeps" = some (some (.ref f12)))
    (aN_is_side_name : PySem.W.nsIn K mainGlobals "is_side_name" = some (some (.ref f13)))
    (aN_is_sides : PySem.W.nsIn K mainGlobals "is_sides" = some (some (.ref f14)))
    (aN_is_number_valuechecks : PySem.W.nsIn K mainGlobals "is_number_valuechecks" = some (some (.ref f15)))
    (aN_is_spot : PySem.W.nsIn K mainGlobals "is_spot" = some (some (.ref f16)))
    (aN_is_number_indexes : PySem.W.nsIn K mainGlobals "is_number_indexes" = some (some (.ref f17)))
    (aN_is_index_indexes : PySem.W.nsIn K mainGlobals "is_index_indexes" = some (some (.ref f18)))
    (aN_is_word : PySem.W.nsIn K mainGlobals "is_word" = some (some (.ref f19)))
    (aN_is_tie : PySem.W.nsIn K mainGlobals "is_tie" = some (some (.ref f20)))
    (aN__law_same : PySem.W.nsIn K mainGlobals "_law_same" = some (some (.ref f22)))
    (aN_is_row_of : PySem.W.nsIn K mainGlobals "is_row_of" = some (some (.ref f23)))
    (aN_is_number_rowlooks : PySem.W.nsIn K mainGlobals "is_number_rowlooks" = some (some (.ref f24)))
    (aN_is_index_rowlooks : PySem.W.nsIn K mainGlobals "is_index_rowlooks" = some (some (.ref f25)))
    (aN_index_fault : PySem.W.nsIn K mainGlobals "index_fault" = some (some (.ref f26)))
    (aN_is_naming : PySem.W.nsIn K mainGlobals "is_naming" = some (some (.ref f27)))
    (aN_is_rule : PySem.W.nsIn K mainGlobals "is_rule" = some (some (.ref f28)))
    (aN_back : PySem.W.nsIn K mainGlobals "back" = some (some (.ref f30)))
    (aN__plain_tie : PySem.W.nsIn K mainGlobals "_plain_tie" = some (some (.ref f31)))
    (aN_exchanged_word : PySem.W.nsIn K mainGlobals "exchanged_word" = some (some (.ref f32)))
    (aN_is_kept : PySem.W.nsIn K mainGlobals "is_kept" = some (some (.ref f33)))
    (aN__law_asked : PySem.W.nsIn K mainGlobals "_law_asked" = some (some (.ref f34)))
    (aN__law_one_changed : PySem.W.nsIn K mainGlobals "_law_one_changed" = some (some (.ref f35)))
    (aN__law_changed_ties : PySem.W.nsIn K mainGlobals "_law_changed_ties" = some (some (.ref f36)))
    (aN__law_undone : PySem.W.nsIn K mainGlobals "_law_undone" = some (some (.ref f37)))
    (aN__law_swapped : PySem.W.nsIn K mainGlobals "_law_swapped" = some (some (.ref f38)))
    (aN__law_odd_ones : PySem.W.nsIn K mainGlobals "_law_odd_ones" = some (some (.ref f39)))
    (aR : PySem.W.nsIn K mainGlobals "law" = some (some (.ref f40)))
    (aM_Tile_ties : PySem.W.findIn K (.ref C0) "ties" = some (some (.ref f29)))
    (iM_Tile_ties : PySem.W.isFn K (.ref f29) = true)
    (aI_Tile : PySem.W.findIn K (.ref C0) "__init__" = some (some (.ref f21)))
    (iI_Tile : PySem.W.isFn K (.ref f21) = true)
    (mk_Tile : PySem.W.makesIn K C0 = true)
    (kc_Tile : PySem.W.keepIn K (.ref C0) = true)
    (pg_Tile : PySem.W.plainGet K C0 Str.empty = true)
    (hd_Tile : PySem.W.hasDictIn K C0 = true)
    (po_Tile : PySem.W.plainOver K C0 = true)
    (sa_Tile : PySem.W.findIn K (.ref C0) "__setattr__" = some (some (.builtin "object.__setattr__")))
    (n_sides_0 : PySem.W.findIn K (.ref C0) "sides" = some none)
    (n_spots_0 : PySem.W.findIn K (.ref C0) "spots" = some none)
    (n__ties_0 : PySem.W.findIn K (.ref C0) "_ties" = some none)
    (l0 : K.lookup f0 = some ⟨oc0, od0, .func (PySem.W.fnOf "_law_bag" "_law_bag" (C8.fnArgs s_x_law_bag) (C8.fnBody s_x_law_bag) (C8.fnScope s_x_law_bag) .none kV0 dc0 pm0 an0 cd0 ct0), sl0⟩)
    (c0 : PySem.W.codeIn K cd0 "_law_bag" = true)
    (k0 : PySem.W.keepIn K (.ref f0) = true)
    (l1 : K.lookup f1 = some ⟨oc1, od1, .func (PySem.W.fnOf "_law_draw" "_law_draw" (C8.fnArgs s_x_law_draw) (C8.fnBody s_x_law_draw) (C8.fnScope s_x_law_draw) .none kV1 dc1 pm1 an1 cd1 ct1), sl1⟩)
    (c1 : PySem.W.codeIn K cd1 "_law_draw" = true)
    (k1 : PySem.W.keepIn K (.ref f1) = true)
    (l2 : K.lookup f2 = some ⟨oc2, od2, .func (PySem.W.fnOf "_law_of" "_law_of" (C8.fnArgs s_x_law_of) (C8.fnBody s_x_law_of) (C8.fnScope s_x_law_of) .none kV2 dc2 pm2 an2 cd2 ct2), sl2⟩)
    (c2 : PySem.W.codeIn K cd2 "_law_of" = true)
    (k2 : PySem.W.keepIn K (.ref f2) = true)
    (l3 : K.lookup f3 = some ⟨oc3, od3, .func (PySem.W.fnOf "_law_names" "_law_names" (C8.fnArgs s_x_law_names) (C8.fnBody s_x_law_names) (C8.fnScope s_x_law_names) .none kV3 dc3 pm3 an3 cd3 ct3), sl3⟩)
    (c3 : PySem.W.codeIn K cd3 "_law_names" = true)
    (k3 : PySem.W.keepIn K (.ref f3) = true)
    (l4 : K.lookup f4 = some ⟨oc4, od4, .func (PySem.W.fnOf "_law_pick" "_law_pick" (C8.fnArgs s_x_law_pick) (C8.fnBody s_x_law_pick) (C8.fnScope s_x_law_pick) .none kV4 dc4 pm4 an4 cd4 ct4), sl4⟩)
    (c4 : PySem.W.codeIn K cd4 "_law_pick" = true)
    (k4 : PySem.W.keepIn K (.ref f4) = true)
    (l5 : K.lookup f5 = some ⟨oc5, od5, .func (PySem.W.fnOf "_law_shown" "_law_shown" (C8.fnArgs s_x_law_shown) (C8.fnBody s_x_law_shown) (C8.fnScope s_x_law_shown) .none kV5 dc5 pm5 an5 cd5 ct5), sl5⟩)
    (c5 : PySem.W.codeIn K cd5 "_law_shown" = true)
    (k5 : PySem.W.keepIn K (.ref f5) = true)
    (l6 : K.lookup f6 = some ⟨oc6, od6, .func (PySem.W.fnOf "_law_word" "_law_word" (C8.fnArgs s_x_law_word) (C8.fnBody s_x_law_word) (C8.fnScope s_x_law_word) .none kV6 dc6 pm6 an6 cd6 ct6), sl6⟩)
    (c6 : PySem.W.codeIn K cd6 "_law_word" = true)
    (k6 : PySem.W.keepIn K (.ref f6) = true)
    (l7 : K.lookup f7 = some ⟨oc7, od7, .func (PySem.W.fnOf "_law_strength" "_law_strength" (C8.fnArgs s_x_law_strength) (C8.fnBody s_x_law_strength) (C8.fnScope s_x_law_strength) .none kV7 dc7 pm7 an7 cd7 ct7), sl7⟩)
    (c7 : PySem.W.codeIn K cd7 "_law_strength" = true)
    (k7 : PySem.W.keepIn K (.ref f7) = true)
    (l8 : K.lookup f8 = some ⟨oc8, od8, .func (PySem.W.fnOf "_law_moved" "_law_moved" (C8.fnArgs s_x_law_moved) (C8.fnBody s_x_law_moved) (C8.fnScope s_x_law_moved) .none kV8 dc8 pm8 an8 cd8 ct8), sl8⟩)
    (c8 : PySem.W.codeIn K cd8 "_law_moved" = true)
    (k8 : PySem.W.keepIn K (.ref f8) = true)
    (l9 : K.lookup f9 = some ⟨oc9, od9, .func (PySem.W.fnOf "_law_read" "_law_read" (C8.fnArgs s_x_law_read) (C8.fnBody s_x_law_read) (C8.fnScope s_x_law_read) .none kV9 dc9 pm9 an9 cd9 ct9), sl9⟩)
    (c9 : PySem.W.codeIn K cd9 "_law_read" = true)
    (k9 : PySem.W.keepIn K (.ref f9) = true)
    (l10 : K.lookup f10 = some ⟨oc10, od10, .func (PySem.W.fnOf "_law_orbits" "_law_orbits" (C8.fnArgs s_x_law_orbits) (C8.fnBody s_x_law_orbits) (C8.fnScope s_x_law_orbits) .none kV10 dc10 pm10 an10 cd10 ct10), sl10⟩)
    (c10 : PySem.W.codeIn K cd10 "_law_orbits" = true)
    (k10 : PySem.W.keepIn K (.ref f10) = true)
    (l11 : K.lookup f11 = some ⟨oc11, od11, .func (PySem.W.fnOf "_law_sorted" "_law_sorted" (C8.fnArgs s_x_law_sorted) (C8.fnBody s_x_law_sorted) (C8.fnScope s_x_law_sorted) .none kV11 dc11 pm11 an11 cd11 ct11), sl11⟩)
    (c11 : PySem.W.codeIn K cd11 "_law_sorted" = true)
    (k11 : PySem.W.keepIn K (.ref f11) = true)
    (l12 : K.lookup f12 = some ⟨oc12, od12, .func (PySem.W.fnOf "_law_keeps" "_law_keeps" (C8.fnArgs s_x_law_keeps) (C8.fnBody s_x_law_keeps) (C8.fnScope s_x_law_keeps) .none kV12 dc12 pm12 an12 cd12 ct12), sl12⟩)
    (c12 : PySem.W.codeIn K cd12 "_law_keeps" = true)
    (k12 : PySem.W.keepIn K (.ref f12) = true)
    (l13 : K.lookup f13 = some ⟨oc13, od13, .func (PySem.W.fnOf "is_side_name" "is_side_name" (C8.fnArgs s_is_side_name) (C8.fnBody s_is_side_name) (C8.fnScope s_is_side_name) .none kV13 dc13 pm13 an13 cd13 ct13), sl13⟩)
    (c13 : PySem.W.codeIn K cd13 "is_side_name" = true)
    (k13 : PySem.W.keepIn K (.ref f13) = true)
    (l14 : K.lookup f14 = some ⟨oc14, od14, .func (PySem.W.fnOf "is_sides" "is_sides" (C8.fnArgs s_is_sides) (C8.fnBody s_is_sides) (C8.fnScope s_is_sides) .none kV14 dc14 pm14 an14 cd14 ct14), sl14⟩)
    (c14 : PySem.W.codeIn K cd14 "is_sides" = true)
    (k14 : PySem.W.keepIn K (.ref f14) = true)
    (l15 : K.lookup f15 = some ⟨oc15, od15, .func (PySem.W.fnOf "is_number" "is_number" (C8.fnArgs s_is_number_1) (C8.fnBody s_is_number_1) (C8.fnScope s_is_number_1) .none kV15 dc15 pm15 an15 cd15 ct15), sl15⟩)
    (c15 : PySem.W.codeIn K cd15 "is_number" = true)
    (k15 : PySem.W.keepIn K (.ref f15) = true)
    (l16 : K.lookup f16 = some ⟨oc16, od16, .func (PySem.W.fnOf "is_spot" "is_spot" (C8.fnArgs s_is_spot) (C8.fnBody s_is_spot) (C8.fnScope s_is_spot) .none kV16 dc16 pm16 an16 cd16 ct16), sl16⟩)
    (c16 : PySem.W.codeIn K cd16 "is_spot" = true)
    (k16 : PySem.W.keepIn K (.ref f16) = true)
    (l17 : K.lookup f17 = some ⟨oc17, od17, .func (PySem.W.fnOf "is_number" "is_number" (C8.fnArgs s_is_number) (C8.fnBody s_is_number) (C8.fnScope s_is_number) .none kV17 dc17 pm17 an17 cd17 ct17), sl17⟩)
    (c17 : PySem.W.codeIn K cd17 "is_number" = true)
    (k17 : PySem.W.keepIn K (.ref f17) = true)
    (l18 : K.lookup f18 = some ⟨oc18, od18, .func (PySem.W.fnOf "is_index" "is_index" (C8.fnArgs s_is_index) (C8.fnBody s_is_index) (C8.fnScope s_is_index) .none kV18 dc18 pm18 an18 cd18 ct18), sl18⟩)
    (c18 : PySem.W.codeIn K cd18 "is_index" = true)
    (k18 : PySem.W.keepIn K (.ref f18) = true)
    (l19 : K.lookup f19 = some ⟨oc19, od19, .func (PySem.W.fnOf "is_word" "is_word" (C8.fnArgs s_is_word) (C8.fnBody s_is_word) (C8.fnScope s_is_word) .none kV19 dc19 pm19 an19 cd19 ct19), sl19⟩)
    (c19 : PySem.W.codeIn K cd19 "is_word" = true)
    (k19 : PySem.W.keepIn K (.ref f19) = true)
    (l20 : K.lookup f20 = some ⟨oc20, od20, .func (PySem.W.fnOf "is_tie" "is_tie" (C8.fnArgs s_is_tie) (C8.fnBody s_is_tie) (C8.fnScope s_is_tie) .none kV20 dc20 pm20 an20 cd20 ct20), sl20⟩)
    (c20 : PySem.W.codeIn K cd20 "is_tie" = true)
    (k20 : PySem.W.keepIn K (.ref f20) = true)
    (l21 : K.lookup f21 = some ⟨oc21, od21, .func (PySem.W.fnOf "__init__" "Tile.__init__" (C8.fnArgs s_Tile___init__) (C8.fnBody s_Tile___init__) (C8.fnScope s_Tile___init__) .none kV21 dc21 pm21 an21 cd21 ct21), sl21⟩)
    (c21 : PySem.W.codeIn K cd21 "Tile.__init__" = true)
    (k21 : PySem.W.keepIn K (.ref f21) = true)
    (l22 : K.lookup f22 = some ⟨oc22, od22, .func (PySem.W.fnOf "_law_same" "_law_same" (C8.fnArgs s_x_law_same) (C8.fnBody s_x_law_same) (C8.fnScope s_x_law_same) .none kV22 dc22 pm22 an22 cd22 ct22), sl22⟩)
    (c22 : PySem.W.codeIn K cd22 "_law_same" = true)
    (k22 : PySem.W.keepIn K (.ref f22) = true)
    (l23 : K.lookup f23 = some ⟨oc23, od23, .func (PySem.W.fnOf "is_row_of" "is_row_of" (C8.fnArgs s_is_row_of) (C8.fnBody s_is_row_of) (C8.fnScope s_is_row_of) .none kV23 dc23 pm23 an23 cd23 ct23), sl23⟩)
    (c23 : PySem.W.codeIn K cd23 "is_row_of" = true)
    (k23 : PySem.W.keepIn K (.ref f23) = true)
    (l24 : K.lookup f24 = some ⟨oc24, od24, .func (PySem.W.fnOf "is_number" "is_number" (C8.fnArgs s_is_number_2) (C8.fnBody s_is_number_2) (C8.fnScope s_is_number_2) .none kV24 dc24 pm24 an24 cd24 ct24), sl24⟩)
    (c24 : PySem.W.codeIn K cd24 "is_number" = true)
    (k24 : PySem.W.keepIn K (.ref f24) = true)
    (l25 : K.lookup f25 = some ⟨oc25, od25, .func (PySem.W.fnOf "is_index" "is_index" (C8.fnArgs s_is_index_1) (C8.fnBody s_is_index_1) (C8.fnScope s_is_index_1) .none kV25 dc25 pm25 an25 cd25 ct25), sl25⟩)
    (c25 : PySem.W.codeIn K cd25 "is_index" = true)
    (k25 : PySem.W.keepIn K (.ref f25) = true)
    (l26 : K.lookup f26 = some ⟨oc26, od26, .func (PySem.W.fnOf "index_fault" "index_fault" (C8.fnArgs s_index_fault) (C8.fnBody s_index_fault) (C8.fnScope s_index_fault) .none kV26 dc26 pm26 an26 cd26 ct26), sl26⟩)
    (c26 : PySem.W.codeIn K cd26 "index_fault" = true)
    (k26 : PySem.W.keepIn K (.ref f26) = true)
    (l27 : K.lookup f27 = some ⟨oc27, od27, .func (PySem.W.fnOf "is_naming" "is_naming" (C8.fnArgs s_is_naming) (C8.fnBody s_is_naming) (C8.fnScope s_is_naming) .none kV27 dc27 pm27 an27 cd27 ct27), sl27⟩)
    (c27 : PySem.W.codeIn K cd27 "is_naming" = true)
    (k27 : PySem.W.keepIn K (.ref f27) = true)
    (l28 : K.lookup f28 = some ⟨oc28, od28, .func (PySem.W.fnOf "is_rule" "is_rule" (C8.fnArgs s_is_rule) (C8.fnBody s_is_rule) (C8.fnScope s_is_rule) .none kV28 dc28 pm28 an28 cd28 ct28), sl28⟩)
    (c28 : PySem.W.codeIn K cd28 "is_rule" = true)
    (k28 : PySem.W.keepIn K (.ref f28) = true)
    (l29 : K.lookup f29 = some ⟨oc29, od29, .func (PySem.W.fnOf "ties" "Tile.ties" (C8.fnArgs s_Tile_ties) (C8.fnBody s_Tile_ties) (C8.fnScope s_Tile_ties) .none kV29 dc29 pm29 an29 cd29 ct29), sl29⟩)
    (c29 : PySem.W.codeIn K cd29 "Tile.ties" = true)
    (k29 : PySem.W.keepIn K (.ref f29) = true)
    (l30 : K.lookup f30 = some ⟨oc30, od30, .func (PySem.W.fnOf "back" "back" (C8.fnArgs s_back) (C8.fnBody s_back) (C8.fnScope s_back) .none kV30 dc30 pm30 an30 cd30 ct30), sl30⟩)
    (c30 : PySem.W.codeIn K cd30 "back" = true)
    (k30 : PySem.W.keepIn K (.ref f30) = true)
    (l31 : K.lookup f31 = some ⟨oc31, od31, .func (PySem.W.fnOf "_plain_tie" "_plain_tie" (C8.fnArgs s_x_plain_tie) (C8.fnBody s_x_plain_tie) (C8.fnScope s_x_plain_tie) .none kV31 dc31 pm31 an31 cd31 ct31), sl31⟩)
    (c31 : PySem.W.codeIn K cd31 "_plain_tie" = true)
    (k31 : PySem.W.keepIn K (.ref f31) = true)
    (l32 : K.lookup f32 = some ⟨oc32, od32, .func (PySem.W.fnOf "exchanged_word" "exchanged_word" (C8.fnArgs s_exchanged_word) (C8.fnBody s_exchanged_word) (C8.fnScope s_exchanged_word) .none kV32 dc32 pm32 an32 cd32 ct32), sl32⟩)
    (c32 : PySem.W.codeIn K cd32 "exchanged_word" = true)
    (k32 : PySem.W.keepIn K (.ref f32) = true)
    (l33 : K.lookup f33 = some ⟨oc33, od33, .func (PySem.W.fnOf "is_kept" "is_kept" (C8.fnArgs s_is_kept) (C8.fnBody s_is_kept) (C8.fnScope s_is_kept) .none kV33 dc33 pm33 an33 cd33 ct33), sl33⟩)
    (c33 : PySem.W.codeIn K cd33 "is_kept" = true)
    (k33 : PySem.W.keepIn K (.ref f33) = true)
    (l34 : K.lookup f34 = some ⟨oc34, od34, .func (PySem.W.fnOf "_law_asked" "_law_asked" (C8.fnArgs s_x_law_asked) (C8.fnBody s_x_law_asked) (C8.fnScope s_x_law_asked) .none kV34 dc34 pm34 an34 cd34 ct34), sl34⟩)
    (c34 : PySem.W.codeIn K cd34 "_law_asked" = true)
    (k34 : PySem.W.keepIn K (.ref f34) = true)
    (l35 : K.lookup f35 = some ⟨oc35, od35, .func (PySem.W.fnOf "_law_one_changed" "_law_one_changed" (C8.fnArgs s_x_law_one_changed) (C8.fnBody s_x_law_one_changed) (C8.fnScope s_x_law_one_changed) .none kV35 dc35 pm35 an35 cd35 ct35), sl35⟩)
    (c35 : PySem.W.codeIn K cd35 "_law_one_changed" = true)
    (k35 : PySem.W.keepIn K (.ref f35) = true)
    (l36 : K.lookup f36 = some ⟨oc36, od36, .func (PySem.W.fnOf "_law_changed_ties" "_law_changed_ties" (C8.fnArgs s_x_law_changed_ties) (C8.fnBody s_x_law_changed_ties) (C8.fnScope s_x_law_changed_ties) .none kV36 dc36 pm36 an36 cd36 ct36), sl36⟩)
    (c36 : PySem.W.codeIn K cd36 "_law_changed_ties" = true)
    (k36 : PySem.W.keepIn K (.ref f36) = true)
    (l37 : K.lookup f37 = some ⟨oc37, od37, .func (PySem.W.fnOf "_law_undone" "_law_undone" (C8.fnArgs s_x_law_undone) (C8.fnBody s_x_law_undone) (C8.fnScope s_x_law_undone) .none kV37 dc37 pm37 an37 cd37 ct37), sl37⟩)
    (c37 : PySem.W.codeIn K cd37 "_law_undone" = true)
    (k37 : PySem.W.keepIn K (.ref f37) = true)
    (l38 : K.lookup f38 = some ⟨oc38, od38, .func (PySem.W.fnOf "_law_swapped" "_law_swapped" (C8.fnArgs s_x_law_swapped) (C8.fnBody s_x_law_swapped) (C8.fnScope s_x_law_swapped) .none kV38 dc38 pm38 an38 cd38 ct38), sl38⟩)
    (c38 : PySem.W.codeIn K cd38 "_law_swapped" = true)
    (k38 : PySem.W.keepIn K (.ref f38) = true)
    (l39 : K.lookup f39 = some ⟨oc39, od39, .func (PySem.W.fnOf "_law_odd_ones" "_law_odd_ones" (C8.fnArgs s_x_law_odd_ones) (C8.fnBody s_x_law_odd_ones) (C8.fnScope s_x_law_odd_ones) .none kV39 dc39 pm39 an39 cd39 ct39), sl39⟩)
    (c39 : PySem.W.codeIn K cd39 "_law_odd_ones" = true)
    (k39 : PySem.W.keepIn K (.ref f39) = true)
    (l40 : K.lookup f40 = some ⟨oc40, od40, .func (PySem.W.fnOf "law" "law" (C8.fnArgs s_law) (C8.fnBody s_law) (C8.fnScope s_law) .none kV40 dc40 pm40 an40 cd40 ct40), sl40⟩)
    (c40 : PySem.W.codeIn K cd40 "law" = true)
    (k40 : PySem.W.keepIn K (.ref f40) = true)
    (z_int : PySem.W.nsIn K mainGlobals "int" = some none)
    (z_list : PySem.W.nsIn K mainGlobals "list" = some none)
    (z_len : PySem.W.nsIn K mainGlobals "len" = some none)
    (z_abs : PySem.W.nsIn K mainGlobals "abs" = some none)
    (z_range : PySem.W.nsIn K mainGlobals "range" = some none)
    (z_tuple : PySem.W.nsIn K mainGlobals "tuple" = some none)
    (z_min : PySem.W.nsIn K mainGlobals "min" = some none)
    (z_isinstance : PySem.W.nsIn K mainGlobals "isinstance" = some none)
    (z_str : PySem.W.nsIn K mainGlobals "str" = some none)
    (q_LONGEST_NAME : PySem.W.nsIn K mainGlobals "LONGEST_NAME" = some (some (.int 3 t_LONGEST_NAME)))
    (z_all : PySem.W.nsIn K mainGlobals "all" = some none)
    (q_LETTERS : PySem.W.nsIn K mainGlobals "LETTERS" = some (some (.str "abcdefghijklmnopqrstuvwxyz" t_LETTERS)))
    (z_bool : PySem.W.nsIn K mainGlobals "bool" = some none)
    (z_enumerate : PySem.W.nsIn K mainGlobals "enumerate" = some none)
    (z_zip : PySem.W.nsIn K mainGlobals "zip" = some none)
    (z_set : PySem.W.nsIn K mainGlobals "set" = some none)
    (z_sorted : PySem.W.nsIn K mainGlobals "sorted" = some none)
    : ∃ fd : FuncData, (∀ (s : Shared) (v : Value), BindsTo s fd ⟨[v], []⟩ [("script", v)]) ∧ ∀ base : Heap, K.In base → base.Ns mainGlobals mg → FnOk l.prog w K mg base (L2.CX l.prog w) 11 fA fd ["script"] (spLaw K 63) :=
  head hfa (PySem.W.mg_of X G aR) (txt_mk X G aC_Tile aN__law_bag aN__law_draw aN__law_of aN__law_names aN__law_pick aN__law_shown aN__law_word aN__law_strength aN__law_moved aN__law_read aN__law_orbits aN__law_sorted aN__law_keeps aN_is_side_name aN_is_sides aN_is_number_valuechecks aN_is_spot aN_is_number_indexes aN_is_index_indexes aN_is_word aN_is_tie aN__law_same aN_is_row_of aN_is_number_rowlooks aN_is_index_rowlooks aN_index_fault aN_is_naming aN_is_rule aN_back aN__plain_tie aN_exchanged_word aN_is_kept aN__law_asked aN__law_one_changed aN__law_changed_ties aN__law_undone aN__law_swapped aN__law_odd_ones aR aM_Tile_ties iM_Tile_ties aI_Tile iI_Tile mk_Tile kc_Tile pg_Tile hd_Tile po_Tile sa_Tile n_sides_0 n_spots_0 n__ties_0 l0 c0 k0 l1 c1 k1 l2 c2 k2 l3 c3 k3 l4 c4 k4 l5 c5 k5 l6 c6 k6 l7 c7 k7 l8 c8 k8 l9 c9 k9 l10 c10 k10 l11 c11 k11 l12 c12 k12 l13 c13 k13 l14 c14 k14 l15 c15 k15 l16 c16 k16 l17 c17 k17 l18 c18 k18 l19 c19 k19 l20 c20 k20 l21 c21 k21 l22 c22 k22 l23 c23 k23 l24 c24 k24 l25 c25 k25 l26 c26 k26 l27 c27 k27 l28 c28 k28 l29 c29 k29 l30 c30 k30 l31 c31 k31 l32 c32 k32 l33 c33 k33 l34 c34 k34 l35 c35 k35 l36 c36 k36 l37 c37 k37 l38 c38 k38 l39 c39 k39 l40 c40 k40 z_int z_list z_len z_abs z_range z_tuple z_min z_isinstance z_str q_LONGEST_NAME z_all q_LETTERS z_bool z_enumerate z_zip z_set z_sorted) F law
end K80
open PySem PySem.W PyProof.Rows
set_option maxRecDepth 1000000 in
set_option maxHeartbeats 0 in
theorem PySem.Challenge.cw_sametones_k80_whole_kept_tiles_judged_holds : PySem.Challenge.rw_sametones_k80_whole_kept_tiles_judged.Holds := by
  w_on; o_law; k_head; (case hw => w_witness2)
  k_fill
  refine Iv.walk_iv (l := PySem.Challenge.rw_sametones_k80_whole_kept_tiles_judged) (k := 11) (x := "script") rfl rfl (by decide) ⟨rfl, by decide, by decide⟩ (fun w h Y => PySem.W.kIn_of Y) ?F
  case F =>
    intro w mg fa h KX G hmg
    refine' K80.all_mk KX G hmg 1000 K80.law_true ?aC_Tile ?aN__law_bag ?aN__law_draw ?aN__law_of ?aN__law_names ?aN__law_pick ?aN__law_shown ?aN__law_word ?aN__law_strength ?aN__law_moved ?aN__law_read ?aN__law_orbits ?aN__law_sorted ?aN__law_keeps ?aN_is_side_name ?aN_is_sides ?aN_is_number_valuechecks ?aN_is_spot ?aN_is_number_indexes ?aN_is_index_indexes ?aN_is_word ?aN_is_tie ?aN__law_same ?aN_is_row_of ?aN_is_number_rowlooks ?aN_is_index_rowlooks ?aN_index_fault ?aN_is_naming ?aN_is_rule ?aN_back ?aN__plain_tie ?aN_exchanged_word ?aN_is_kept ?aN__law_asked ?aN__law_one_changed ?aN__law_changed_ties ?aN__law_undone ?aN__law_swapped ?aN__law_odd_ones ?aR ?aM_Tile_ties ?iM_Tile_ties ?aI_Tile ?iI_Tile ?mk_Tile ?kc_Tile ?pg_Tile ?hd_Tile ?po_Tile ?sa_Tile ?n_sides_0 ?n_spots_0 ?n__ties_0 ?l0 ?c0 ?k0 ?l1 ?c1 ?k1 ?l2 ?c2 ?k2 ?l3 ?c3 ?k3 ?l4 ?c4 ?k4 ?l5 ?c5 ?k5 ?l6 ?c6 ?k6 ?l7 ?c7 ?k7 ?l8 ?c8 ?k8 ?l9 ?c9 ?k9 ?l10 ?c10 ?k10 ?l11 ?c11 ?k11 ?l12 ?c12 ?k12 ?l13 ?c13 ?k13 ?l14 ?c14 ?k14 ?l15 ?c15 ?k15 ?l16 ?c16 ?k16 ?l17 ?c17 ?k17 ?l18 ?c18 ?k18 ?l19 ?c19 ?k19 ?l20 ?c20 ?k20 ?l21 ?c21 ?k21 ?l22 ?c22 ?k22 ?l23 ?c23 ?k23 ?l24 ?c24 ?k24 ?l25 ?c25 ?k25 ?l26 ?c26 ?k26 ?l27 ?c27 ?k27 ?l28 ?c28 ?k28 ?l29 ?c29 ?k29 ?l30 ?c30 ?k30 ?l31 ?c31 ?k31 ?l32 ?c32 ?k32 ?l33 ?c33 ?k33 ?l34 ?c34 ?k34 ?l35 ?c35 ?k35 ?l36 ?c36 ?k36 ?l37 ?c37 ?k37 ?l38 ?c38 ?k38 ?l39 ?c39 ?k39 ?l40 ?c40 ?k40 ?z_int ?z_list ?z_len ?z_abs ?z_range ?z_tuple ?z_min ?z_isinstance ?z_str ?q_LONGEST_NAME ?z_all ?q_LETTERS ?z_bool ?z_enumerate ?z_zip ?z_set ?z_sorted
    (case aC_Tile => k_is); (case aN__law_bag => k_is); (case aN__law_draw => k_is); (case aN__law_of => k_is); (case aN__law_names => k_is); (case aN__law_pick => k_is)
    (case aN__law_shown => k_is); (case aN__law_word => k_is); (case aN__law_strength => k_is); (case aN__law_moved => k_is); (case aN__law_read => k_is); (case aN__law_orbits => k_is)
    (case aN__law_sorted => k_is); (case aN__law_keeps => k_is); (case aN_is_side_name => k_is); (case aN_is_sides => k_is); (case aN_is_number_valuechecks => k_is); (case aN_is_spot => k_is)
    (case aN_is_number_indexes => k_is); (case aN_is_index_indexes => k_is); (case aN_is_word => k_is); (case aN_is_tie => k_is); (case aN__law_same => k_is); (case aN_is_row_of => k_is)
    (case aN_is_number_rowlooks => k_is); (case aN_is_index_rowlooks => k_is); (case aN_index_fault => k_is); (case aN_is_naming => k_is); (case aN_is_rule => k_is); (case aN_back => k_is)
    (case aN__plain_tie => k_is); (case aN_exchanged_word => k_is); (case aN_is_kept => k_is); (case aN__law_asked => k_is); (case aN__law_one_changed => k_is); (case aN__law_changed_ties => k_is)
    (case aN__law_undone => k_is); (case aN__law_swapped => k_is); (case aN__law_odd_ones => k_is); (case aR => k_is); (case aM_Tile_ties => k_is); (case iM_Tile_ties => k_is)
    (case aI_Tile => k_is); (case iI_Tile => k_is); (case mk_Tile => k_is); (case kc_Tile => k_is); (case pg_Tile => k_is); (case hd_Tile => k_is)
    (case po_Tile => k_is); (case sa_Tile => k_is); (case n_sides_0 => k_is); (case n_spots_0 => k_is); (case n__ties_0 => k_is); (case l0 => k_is)
    (case c0 => k_is); (case k0 => k_is); (case l1 => k_is); (case c1 => k_is); (case k1 => k_is); (case l2 => k_is)
    (case c2 => k_is); (case k2 => k_is); (case l3 => k_is); (case c3 => k_is); (case k3 => k_is); (case l4 => k_is)
    (case c4 => k_is); (case k4 => k_is); (case l5 => k_is); (case c5 => k_is); (case k5 => k_is); (case l6 => k_is)
    (case c6 => k_is); (case k6 => k_is); (case l7 => k_is); (case c7 => k_is); (case k7 => k_is); (case l8 => k_is)
    (case c8 => k_is); (case k8 => k_is); (case l9 => k_is); (case c9 => k_is); (case k9 => k_is); (case l10 => k_is)
    (case c10 => k_is); (case k10 => k_is); (case l11 => k_is); (case c11 => k_is); (case k11 => k_is); (case l12 => k_is)
    (case c12 => k_is); (case k12 => k_is); (case l13 => k_is); (case c13 => k_is); (case k13 => k_is); (case l14 => k_is)
    (case c14 => k_is); (case k14 => k_is); (case l15 => k_is); (case c15 => k_is); (case k15 => k_is); (case l16 => k_is)
    (case c16 => k_is); (case k16 => k_is); (case l17 => k_is); (case c17 => k_is); (case k17 => k_is); (case l18 => k_is)
    (case c18 => k_is); (case k18 => k_is); (case l19 => k_is); (case c19 => k_is); (case k19 => k_is); (case l20 => k_is)
    (case c20 => k_is); (case k20 => k_is); (case l21 => k_is); (case c21 => k_is); (case k21 => k_is); (case l22 => k_is)
    (case c22 => k_is); (case k22 => k_is); (case l23 => k_is); (case c23 => k_is); (case k23 => k_is); (case l24 => k_is)
    (case c24 => k_is); (case k24 => k_is); (case l25 => k_is); (case c25 => k_is); (case k25 => k_is); (case l26 => k_is)
    (case c26 => k_is); (case k26 => k_is); (case l27 => k_is); (case c27 => k_is); (case k27 => k_is); (case l28 => k_is)
    (case c28 => k_is); (case k28 => k_is); (case l29 => k_is); (case c29 => k_is); (case k29 => k_is); (case l30 => k_is)
    (case c30 => k_is); (case k30 => k_is); (case l31 => k_is); (case c31 => k_is); (case k31 => k_is); (case l32 => k_is)
    (case c32 => k_is); (case k32 => k_is); (case l33 => k_is); (case c33 => k_is); (case k33 => k_is); (case l34 => k_is)
    (case c34 => k_is); (case k34 => k_is); (case l35 => k_is); (case c35 => k_is); (case k35 => k_is); (case l36 => k_is)
    (case c36 => k_is); (case k36 => k_is); (case l37 => k_is); (case c37 => k_is); (case k37 => k_is); (case l38 => k_is)
    (case c38 => k_is); (case k38 => k_is); (case l39 => k_is); (case c39 => k_is); (case k39 => k_is); (case l40 => k_is)
    (case c40 => k_is); (case k40 => k_is); (case z_int => k_is); (case z_list => k_is); (case z_len => k_is); (case z_abs => k_is)
    (case z_range => k_is); (case z_tuple => k_is); (case z_min => k_is); (case z_isinstance => k_is); (case z_str => k_is); (case q_LONGEST_NAME => k_is)
    (case z_all => k_is); (case q_LETTERS => k_is); (case z_bool => k_is); (case z_enumerate => k_is); (case z_zip => k_is); (case z_set => k_is)
    (case z_sorted => k_is)
end
