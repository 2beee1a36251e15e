import PyProof.Rows.All
import Wide.All
import OpenK.AllK
import Wide.FinOn
import HandS.ForMost
import HandS.ForExc
import HandS.CallSlots
import HandS.Zip
import HandS.Wide
import HandS.Deep
import HandS.SortInts
import HandS.SortRule
import HandS.Conv
import HandS.IsInst
import KE.SortData
import HandS.OwnEq
import HandS.Small
import HandS.TryOnly
import KE.GoesEnum
import HandS.Words
import HandS.EndBits
import HandS.SetFor
import HandS.Strs
import KE.KDictZip
import KE.GoesZip
import HandS.ExcInit
import HandS.ExcField
import HandS.TryMany
import HandS.ExcIs
import HandS.DictComp
import KE.DataMinMax
import HandS.TupAny
import HandS.Text
import HandS.Defaults
import HandS.Property
import HandS.Gcd
import HandS.Star
import HandS.Style
import HandS.Iter
import HandS.Steps
import HandS.RaiseMore
import HandS.Codes
import PyProof.ExcBaseAll.ValueError
import PySem.Challenge.RW_tellsmore_k18_webs_refused_and_read
set_option Elab.async false
set_option linter.all false
set_option maxRecDepth 100000
section
/-! Dn1: data trees, their reading in the heap, results, readings as functions. -/
namespace Dn
open PySem L2

/-- pure data -/
inductive D where
  | non | bl (b : Bool) | int (i : Int) | str (x : Str)
  | lst (xs : List D) | tup (xs : List D) | obj (c : Nat) (xs : List D) | scr (ns : List Int) | dct (ks : List Key) (xs : List D)
/-- what a slot holds: data, or the name of a cell (a thing that is changed) -/
inductive S where
  | d (x : D) | c (n : Nat) | x (k : Nat) (xs : List D)
inductive CC where
  | lst (xs : List D) | dct (kvs : List (Key × D)) | obj (c : Nat) (xs : List D) | lS (xs : List S) | tS (xs : List S)
abbrev Cs := List CC
abbrev Sl := List (Option S)
inductive R (α : Type) where
  | ok (a : α) (c : Cs) | ex (k : Nat) (xs : List D) (c : Cs) | bad
inductive RS where
  | nx (δ : Sl) (c : Cs) | rt (s : S) (c : Cs) | bk (δ : Sl) (c : Cs) | ct (δ : Sl) (c : Cs) | ex (k : Nat) (xs : List D) (δ : Sl) (c : Cs) | bad
abbrev M := Sl → Cs → R S
abbrev MT := Sl → Cs → R Bool
abbrev MA := Sl → Cs → R (List S)
abbrev MS := Sl → Cs → RS

structure Tb where
  K : PySem.W.Frag
  cl : Nat → Addr
  fl : Nat → List Str
  /-- the exception that an except suite has in hand: where, its dict, its class -/
  x : Option (Addr × Option Addr × Nat) := none

def Ex (H H' : Hp) : Prop := ∀ a o, H a = some o → H' a = some o
theorem Ex.refl (H : Hp) : Ex H H := fun _ _ h => h
theorem Ex.trans {H H1 H2 : Hp} (a : Ex H H1) (b : Ex H1 H2) : Ex H H2 := fun x o h => b x o (a x o h)
theorem Ex.new {H : Hp} {p : Addr} {o : HO} (h : H p = none) : Ex H (upd H p o) := fun a u e => by
  rw [upd_ne (ne_of_none e h)]
  exact e
theorem ex_rd {H H' : Hp} {a : Addr} {u : HO} (e : Ex H H') (h : Rd H a u) : Rd H' a u := by
  rcases h with h | ⟨o, h⟩
  · exact Or.inl (e a _ h)
  · exact Or.inr ⟨o, e a _ h⟩
theorem ex_l {K : PySem.W.Frag} {H H' : Hp} {a : Addr} {xs : List V} (e : Ex H H') (h : SqL K H a xs) : SqL K H' a xs := by
  rcases h with h | h
  · exact Or.inl (ex_rd e h)
  · exact Or.inr h
theorem ex_t {K : PySem.W.Frag} {H H' : Hp} {a : Addr} {xs : List V} (e : Ex H H') (h : SqT K H a xs) : SqT K H' a xs := by
  rcases h with h | h
  · exact Or.inl (ex_rd e h)
  · exact Or.inr h
theorem Ex.back {H H' : Hp} {p : Addr} (e : Ex H H') (h : H' p = none) : H p = none := by
  cases h1 : H p with
  | none => rfl
  | some o =>
    rw [e p o h1] at h
    cases h

/-! ### what stands for what -/
mutual
def Rep (T : Tb) (G : Hp) : D → V → Prop
  | .non, v => v = .non
  | .bl b, v => v = .bl b
  | .int i, v => v = .int i
  | .str x, v => v = .str x
  | .scr ns, v => ∃ p, v = .ref p ∧ SqL T.K G p (ns.map V.int) ∧ ns.length ≤ sizeLine
  | .lst xs, v => ∃ p vs, v = .ref p ∧ G p = some (.lst vs) ∧ xs.length ≤ sizeLine ∧ Reps T G xs vs
  | .tup xs, v => ∃ p vs, v = .ref p ∧ G p = some (.tup vs) ∧ xs.length ≤ sizeLine ∧ Reps T G xs vs
  | .obj c xs, v => ∃ p dx fv, v = .ref p ∧ G p = some (.ins (T.cl c) dx fv) ∧ fv.map (·.1) = T.fl c ∧ Reps T G xs (fv.map (·.2))
  | .dct ks xs, v => ∃ p kv, v = .ref p ∧ G p = some (.dK kv) ∧ kv.map (·.1) = ks ∧ Reps T G xs (kv.map (·.2))
def Reps (T : Tb) (G : Hp) : List D → List V → Prop
  | [], vs => vs = []
  | d :: ds, vs => ∃ v r, vs = v :: r ∧ Rep T G d v ∧ Reps T G ds r
end
mutual
theorem Rep.mono {T : Tb} {G G' : Hp} (h : Ex G G') : ∀ (d : D) (v : V), Rep T G d v → Rep T G' d v
  | .non, v, e => by unfold Rep at *; exact e
  | .bl _, v, e => by unfold Rep at *; exact e
  | .int _, v, e => by unfold Rep at *; exact e
  | .str _, v, e => by unfold Rep at *; exact e
  | .scr ns, v, e => by unfold Rep at *; obtain ⟨p, a, b, l⟩ := e; exact ⟨p, a, ex_l h b, l⟩
  | .lst xs, v, e => by unfold Rep at *; obtain ⟨p, vs, a, b, l, c⟩ := e; exact ⟨p, vs, a, h _ _ b, l, Reps.mono h xs vs c⟩
  | .tup xs, v, e => by unfold Rep at *; obtain ⟨p, vs, a, b, l, c⟩ := e; exact ⟨p, vs, a, h _ _ b, l, Reps.mono h xs vs c⟩
  | .obj _ xs, v, e => by unfold Rep at *; obtain ⟨p, dx, fv, a, b, l, c⟩ := e; exact ⟨p, dx, fv, a, h _ _ b, l, Reps.mono h xs _ c⟩
  | .dct _ xs, v, e => by unfold Rep at *; obtain ⟨p, kv, a, b, l, c⟩ := e; exact ⟨p, kv, a, h _ _ b, l, Reps.mono h xs _ c⟩
theorem Reps.mono {T : Tb} {G G' : Hp} (h : Ex G G') : ∀ (d : List D) (v : List V), Reps T G d v → Reps T G' d v
  | [], v, e => by unfold Reps at *; exact e
  | d :: ds, v, e => by unfold Reps at *; obtain ⟨x, r, a, b, c⟩ := e; exact ⟨x, r, a, Rep.mono h d x b, Reps.mono h ds r c⟩
end
section
variable {T : Tb} {G G' H H' : Hp} {v u : V} {vs : List V} {xs : List D}
theorem Reps.length : ∀ {xs : List D} {vs : List V}, Reps T G xs vs → vs.length = xs.length
  | [], vs, h => by unfold Reps at h; subst h; rfl
  | d :: ds, vs, h => by unfold Reps at h; obtain ⟨x, r, rfl, _, c⟩ := h; simp [Reps.length c]
theorem Reps.nil : Reps T G [] [] := by unfold Reps; rfl
theorem Reps.cons {d : D} {ds : List D} {v : V} {vs : List V} (h : Rep T G d v) (t : Reps T G ds vs) : Reps T G (d :: ds) (v :: vs) := by unfold Reps; exact ⟨v, vs, rfl, h, t⟩
theorem Reps.nil_inv {vs : List V} (h : Reps T G [] vs) : vs = [] := by unfold Reps at h; exact h
theorem Reps.cons_inv {d : D} {ds : List D} {vs : List V} (h : Reps T G (d :: ds) vs) : ∃ v r, vs = v :: r ∧ Rep T G d v ∧ Reps T G ds r := by unfold Reps at h; exact h
theorem Reps.get : ∀ {xs : List D} {vs : List V} {i : Nat} {d : D}, Reps T G xs vs → xs[i]? = some d → ∃ v, vs[i]? = some v ∧ Rep T G d v
  | [], _, _, _, _, e => by simp at e
  | d :: ds, _, 0, d', h, e => by
    obtain ⟨v, r, rfl, a, b⟩ := h.cons_inv
    simp at e; subst e
    exact ⟨v, rfl, a⟩
  | d :: ds, _, i + 1, d', h, e => by
    obtain ⟨v, r, rfl, a, b⟩ := h.cons_inv
    obtain ⟨z, h1, h2⟩ := Reps.get (i := i) b (by simpa using e)
    exact ⟨z, by simpa using h1, h2⟩
theorem Reps.get' : ∀ {xs : List D} {vs : List V} {i : Nat} {v : V}, Reps T G xs vs → vs[i]? = some v → ∃ d, xs[i]? = some d ∧ Rep T G d v := fun {xs vs i v} h e => by
  have hl := h.length
  have hi : i < xs.length := by
    have := (List.getElem?_eq_some_iff.mp e).1
    omega
  obtain ⟨z, h1, h2⟩ := h.get (i := i) (List.getElem?_eq_getElem hi)
  rw [e] at h1; cases h1
  exact ⟨_, List.getElem?_eq_getElem hi, h2⟩
theorem Reps.append : ∀ {xs ys : List D} {vs us : List V}, Reps T G xs vs → Reps T G ys us → Reps T G (xs ++ ys) (vs ++ us)
  | [], _, _, _, h, k => by cases h.nil_inv; exact k
  | d :: ds, _, _, _, h, k => by
    obtain ⟨v, r, rfl, a, b⟩ := h.cons_inv
    exact Reps.cons a (Reps.append b k)
theorem Reps.set : ∀ {xs : List D} {vs : List V} {d : D} {v : V} (i : Nat), Reps T G xs vs → Rep T G d v → Reps T G (xs.set i d) (vs.set i v)
  | [], _, _, _, _, h, _ => by cases h.nil_inv; exact Reps.nil
  | d :: ds, _, _, _, 0, h, k => by
    obtain ⟨v, r, rfl, a, b⟩ := h.cons_inv
    exact Reps.cons k b
  | d :: ds, _, _, _, i + 1, h, k => by
    obtain ⟨v, r, rfl, a, b⟩ := h.cons_inv
    exact Reps.cons a (Reps.set i b k)
theorem Reps.of_get : ∀ {xs : List D} {vs : List V}, vs.length = xs.length → (∀ (i : Nat) (d : D) (v : V), xs[i]? = some d → vs[i]? = some v → Rep T G d v) → Reps T G xs vs
  | [], [], _, _ => Reps.nil
  | [], _ :: _, e, _ => by simp at e
  | _ :: _, [], e, _ => by simp at e
  | d :: ds, v :: vs, e, h => Reps.cons (h 0 d v rfl rfl) (Reps.of_get (by simpa using e) fun i d v a b => h (i + 1) d v (by simpa using a) (by simpa using b))
theorem Reps.map_int : ∀ (ns : List Int), Reps T G (ns.map D.int) (ns.map V.int)
  | [] => Reps.nil
  | n :: ns => Reps.cons (by unfold Rep; rfl) (Reps.map_int ns)
theorem Rep.int_inv {i : Int} (h : Rep T G (.int i) v) : v = .int i := by unfold Rep at h; exact h
theorem Rep.bl_inv {b : Bool} (h : Rep T G (.bl b) v) : v = .bl b := by unfold Rep at h; exact h
theorem Rep.str_inv {x : Str} (h : Rep T G (.str x) v) : v = .str x := by unfold Rep at h; exact h
theorem Rep.non_inv (h : Rep T G .non v) : v = .non := by unfold Rep at h; exact h
theorem Rep.int {i : Int} : Rep T G (.int i) (.int i) := by unfold Rep; rfl
theorem Rep.bl {b : Bool} : Rep T G (.bl b) (.bl b) := by unfold Rep; rfl
theorem Rep.str {x : Str} : Rep T G (.str x) (.str x) := by unfold Rep; rfl
theorem Rep.non : Rep T G .non .non := by unfold Rep; rfl
theorem Rep.lst {p : Addr} (h : G p = some (.lst vs)) (l : xs.length ≤ sizeLine) (r : Reps T G xs vs) : Rep T G (.lst xs) (.ref p) := by unfold Rep; exact ⟨p, vs, rfl, h, l, r⟩
theorem Rep.tup {p : Addr} (h : G p = some (.tup vs)) (l : xs.length ≤ sizeLine) (r : Reps T G xs vs) : Rep T G (.tup xs) (.ref p) := by unfold Rep; exact ⟨p, vs, rfl, h, l, r⟩
theorem Rep.obj {c : Nat} {p dx : Addr} {fv : List (Str × V)} (h : G p = some (.ins (T.cl c) dx fv)) (l : fv.map (·.1) = T.fl c) (r : Reps T G xs (fv.map (·.2))) : Rep T G (.obj c xs) (.ref p) := by unfold Rep; exact ⟨p, dx, fv, rfl, h, l, r⟩
theorem Rep.dct {ks : List Key} {p : Addr} {kv : List (Key × V)} (h : G p = some (.dK kv)) (l : kv.map (·.1) = ks) (r : Reps T G xs (kv.map (·.2))) : Rep T G (.dct ks xs) (.ref p) := by unfold Rep; exact ⟨p, kv, rfl, h, l, r⟩
theorem Rep.dct_inv {ks : List Key} (h : Rep T G (.dct ks xs) v) : ∃ p kv, v = .ref p ∧ G p = some (.dK kv) ∧ kv.map (·.1) = ks ∧ Reps T G xs (kv.map (·.2)) := by unfold Rep at h; exact h
theorem Rep.scr {p : Addr} {ns : List Int} (h : SqL T.K G p (ns.map V.int)) (l : ns.length ≤ sizeLine) : Rep T G (.scr ns) (.ref p) := by unfold Rep; exact ⟨p, rfl, h, l⟩
theorem Rep.scr_inv {ns : List Int} (h : Rep T G (.scr ns) v) : ∃ p, v = .ref p ∧ SqL T.K G p (ns.map V.int) ∧ ns.length ≤ sizeLine := by unfold Rep at h; exact h
theorem Rep.lst_inv (h : Rep T G (.lst xs) v) : ∃ p vs, v = .ref p ∧ G p = some (.lst vs) ∧ xs.length ≤ sizeLine ∧ Reps T G xs vs := by unfold Rep at h; exact h
theorem Rep.tup_inv (h : Rep T G (.tup xs) v) : ∃ p vs, v = .ref p ∧ G p = some (.tup vs) ∧ xs.length ≤ sizeLine ∧ Reps T G xs vs := by unfold Rep at h; exact h
theorem Rep.obj_inv {c : Nat} (h : Rep T G (.obj c xs) v) : ∃ p dx fv, v = .ref p ∧ G p = some (.ins (T.cl c) dx fv) ∧ fv.map (·.1) = T.fl c ∧ Reps T G xs (fv.map (·.2)) := by unfold Rep at h; exact h
end

/-- a thing that is read: at its top in H, below in G -/
def View (T : Tb) (G H : Hp) : D → V → Prop
  | .scr ns, v => ∃ p, v = .ref p ∧ SqL T.K H p (ns.map V.int) ∧ ns.length ≤ sizeLine
  | .lst xs, v => ∃ p vs, v = .ref p ∧ H p = some (.lst vs) ∧ xs.length ≤ sizeLine ∧ Reps T G xs vs
  | .obj c xs, v => ∃ p dx fv, v = .ref p ∧ H p = some (.ins (T.cl c) dx fv) ∧ fv.map (·.1) = (T.fl c).take xs.length ∧ Reps T G xs (fv.map (·.2))
  | d, v => Rep T G d v
theorem Reps.len_fl {T : Tb} {G : Hp} {c : Nat} {xs : List D} {fv : List (Str × V)} (l : fv.map (·.1) = T.fl c) (r : Reps T G xs (fv.map (·.2))) : fv.map (·.1) = (T.fl c).take xs.length := by
  have := r.length
  rw [List.length_map] at this
  rw [← l, ← this, List.take_of_length_le (by simp)]
theorem Rep.view {T : Tb} {G H : Hp} (e : Ex G H) : ∀ {d : D} {v : V}, Rep T G d v → View T G H d v
  | .non, _, h => h
  | .bl _, _, h => h
  | .int _, _, h => h
  | .str _, _, h => h
  | .scr ns, v, h => by obtain ⟨p, a, b, c⟩ := h.scr_inv; exact ⟨p, a, ex_l e b, c⟩
  | .lst xs, v, h => by obtain ⟨p, vs, a, b, c, r⟩ := h.lst_inv; exact ⟨p, vs, a, e _ _ b, c, r⟩
  | .tup xs, v, h => h
  | .dct _ _, v, h => h
  | .obj c xs, v, h => by obtain ⟨p, dx, fv, a, b, c, r⟩ := h.obj_inv; exact ⟨p, dx, fv, a, e _ _ b, Reps.len_fl c r, r⟩
inductive Views (T : Tb) (G H : Hp) : List D → List V → Prop
  | nil : Views T G H [] []
  | cons {d : D} {ds : List D} {v : V} {vs : List V} : View T G H d v → Views T G H ds vs → Views T G H (d :: ds) (v :: vs)

/-! ### cells -/
/-- what stands in a cell: data or another cell -/
def CRep (T : Tb) (G : Hp) (ρ : List Addr) : S → V → Prop
  | .d x, v => Rep T G x v
  | .c n, v => ∃ p, ρ[n]? = some p ∧ v = .ref p
  | .x _ _, _ => False
inductive CReps (T : Tb) (G : Hp) (ρ : List Addr) : List S → List V → Prop
  | nil : CReps T G ρ [] []
  | cons {s : S} {ss : List S} {v : V} {vs : List V} : CRep T G ρ s v → CReps T G ρ ss vs → CReps T G ρ (s :: ss) (v :: vs)
/-- ρ: the older cells -/
def CellOk (T : Tb) (G H : Hp) (ρ : List Addr) (p : Addr) : CC → Prop
  | .lst xs => ∃ vs, H p = some (.lst vs) ∧ xs.length ≤ sizeLine ∧ Reps T G xs vs
  | .dct kvs => ∃ kv, H p = some (.dK kv) ∧ kvs.length ≤ 1000 ∧ kv.map (·.1) = kvs.map (·.1) ∧ Reps T G (kvs.map (·.2)) (kv.map (·.2))
  | .obj c xs => ∃ dx fv, H p = some (.ins (T.cl c) dx fv) ∧ fv.map (·.1) = (T.fl c).take xs.length ∧ Reps T G xs (fv.map (·.2))
  | .lS xs => ∃ vs, H p = some (.lst vs) ∧ xs.length ≤ sizeLine ∧ CReps T G ρ xs vs
  | .tS xs => ∃ vs, H p = some (.tup vs) ∧ xs.length ≤ sizeLine ∧ CReps T G ρ xs vs
structure RelH (T : Tb) (H : Hp) (c : Cs) (G : Hp) (ρ : List Addr) : Prop where
  ex : Ex G H
  len : ρ.length = c.length
  nd : ρ.Nodup
  at_ : ∀ (i : Nat) (p : Addr) (x : CC), ρ[i]? = some p → c[i]? = some x → G p = none ∧ CellOk T G H (ρ.take i) p x
def XRep (T : Tb) (G : Hp) (k : Nat) (xs : List D) (d : Option Addr) : Prop :=
  (xs = [] ∧ d = none) ∨ ∃ dx fv, d = some dx ∧ G dx = some (.xd fv) ∧ fv.map (·.1) = T.fl k ∧ Reps T G xs (fv.map (·.2))
theorem XRep.mono {T : Tb} {G G' : Hp} {k : Nat} {xs : List D} {d : Option Addr} (h : Ex G G') (r : XRep T G k xs d) : XRep T G' k xs d := by
  rcases r with r | ⟨dx, fv, a, b, c, r⟩
  · exact .inl r
  · exact .inr ⟨dx, fv, a, h _ _ b, c, Reps.mono h _ _ r⟩
def SRep (T : Tb) (G : Hp) (ρ : List Addr) : S → V → Prop
  | .d x, v => Rep T G x v
  | .c n, v => ∃ p, ρ[n]? = some p ∧ v = .ref p
  | .x k xs, v => ∀ a d k', T.x = some (a, d, k') → v = .ref a ∧ k' = k ∧ XRep T G k xs d
inductive SReps (T : Tb) (G : Hp) (ρ : List Addr) : List S → List V → Prop
  | nil : SReps T G ρ [] []
  | cons {s : S} {ss : List S} {v : V} {vs : List V} : SRep T G ρ s v → SReps T G ρ ss vs → SReps T G ρ (s :: ss) (v :: vs)
structure RelS (T : Tb) (G : Hp) (ρ : List Addr) (σ : St) (δ : Sl) : Prop where
  len : σ.length = δ.length
  at_ : ∀ (i : Nat) (s : S), δ[i]? = some (some s) → ∃ v, σ[i]? = some (some v) ∧ SRep T G ρ s v

theorem pre_get {ρ ρ' : List Addr} (h : ρ <+: ρ') {n : Nat} {p : Addr} (e : ρ[n]? = some p) : ρ'[n]? = some p := by
  obtain ⟨t, rfl⟩ := h
  rw [List.getElem?_append_left (List.getElem?_eq_some_iff.mp e).1]
  exact e
section
variable {T : Tb} {G G' H H' : Hp} {ρ ρ' : List Addr} {c : Cs} {σ : St} {δ : Sl}
theorem SRep.mono (h : Ex G G') (k : ρ <+: ρ') : ∀ {s : S} {v : V}, SRep T G ρ s v → SRep T G' ρ' s v
  | .d _, _, e => Rep.mono h _ _ e
  | .c _, _, ⟨p, a, b⟩ => ⟨p, pre_get k a, b⟩
  | .x _ _, _, e => fun a d k' z => let ⟨q1, q2, q3⟩ := e a d k' z; ⟨q1, q2, q3.mono h⟩
theorem CRep.mono (h : Ex G G') (k : ρ <+: ρ') : ∀ {s : S} {v : V}, CRep T G ρ s v → CRep T G' ρ' s v
  | .d _, _, e => Rep.mono h _ _ e
  | .c _, _, ⟨p, a, b⟩ => ⟨p, pre_get k a, b⟩
theorem CReps.mono (h : Ex G G') (k : ρ <+: ρ') {ss : List S} {vs : List V} (r : CReps T G ρ ss vs) : CReps T G' ρ' ss vs := by
  induction r with
  | nil => exact .nil
  | cons a _ ih => exact .cons (a.mono h k) ih
theorem CReps.length {ss : List S} {vs : List V} (r : CReps T G ρ ss vs) : vs.length = ss.length := by
  induction r with
  | nil => rfl
  | cons _ _ ih => simp [ih]
theorem CRep.srep : ∀ {s : S} {v : V}, CRep T G ρ s v → SRep T G ρ s v
  | .d _, _, e => e
  | .c _, _, e => e
theorem SReps.mono (h : Ex G G') (k : ρ <+: ρ') {ss : List S} {vs : List V} (r : SReps T G ρ ss vs) : SReps T G' ρ' ss vs := by
  induction r with
  | nil => exact .nil
  | cons a _ ih => exact .cons (a.mono h k) ih
theorem SReps.length {ss : List S} {vs : List V} (r : SReps T G ρ ss vs) : vs.length = ss.length := by
  induction r with
  | nil => rfl
  | cons _ _ ih => simp [ih]
theorem SReps.append {ss ts : List S} {vs us : List V} (r : SReps T G ρ ss vs) (q : SReps T G ρ ts us) : SReps T G ρ (ss ++ ts) (vs ++ us) := by
  induction r with
  | nil => exact q
  | cons a _ ih => exact .cons a ih
theorem RelS.mono (h : Ex G G') (k : ρ <+: ρ') (r : RelS T G ρ σ δ) : RelS T G' ρ' σ δ :=
  ⟨r.len, fun i s e => let ⟨v, a, b⟩ := r.at_ i s e; ⟨v, a, b.mono h k⟩⟩
theorem RelS.set (r : RelS T G ρ σ δ) (i : Nat) {s : S} {v : V} (h : SRep T G ρ s v) : RelS T G ρ (σ.set i (some v)) (δ.set i (some s)) := by
  refine ⟨by simp [r.len], fun j t e => ?_⟩
  by_cases hj : i = j
  · subst hj
    have hi : i < δ.length := by
      rcases Nat.lt_or_ge i δ.length with z | z
      · exact z
      · rw [List.getElem?_eq_none (by simpa using z)] at e; cases e
    rw [List.getElem?_set_self hi] at e
    cases e
    exact ⟨v, by rw [List.getElem?_set_self (by rw [r.len]; exact hi)], h⟩
  · rw [List.getElem?_set_ne hj] at e
    obtain ⟨u, a, b⟩ := r.at_ j t e
    exact ⟨u, by rw [List.getElem?_set_ne hj]; exact a, b⟩
theorem RelS.unset (r : RelS T G ρ σ δ) (i : Nat) (o : Option V) : RelS T G ρ (σ.set i o) (δ.set i none) := by
  refine ⟨by simp [r.len], fun j t e => ?_⟩
  by_cases hj : i = j
  · subst hj
    by_cases hi : i < δ.length
    · rw [List.getElem?_set_self hi] at e; cases e
    · rw [List.getElem?_eq_none (by simpa using hi)] at e; cases e
  · rw [List.getElem?_set_ne hj] at e
    obtain ⟨u, a, b⟩ := r.at_ j t e
    exact ⟨u, by rw [List.getElem?_set_ne hj]; exact a, b⟩
end
section
variable {T : Tb} {G : Hp} {ρ : List Addr} {v : V}
theorem SRep.int {i : Int} : SRep T G ρ (.d (.int i)) (.int i) := Rep.int (T := T) (G := G)
theorem SRep.bl {b : Bool} : SRep T G ρ (.d (.bl b)) (.bl b) := Rep.bl (T := T) (G := G)
theorem SRep.str {x : Str} : SRep T G ρ (.d (.str x)) (.str x) := Rep.str (T := T) (G := G)
theorem SRep.non : SRep T G ρ (.d .non) .non := Rep.non (T := T) (G := G)
theorem SRep.int_inv {i : Int} (h : SRep T G ρ (.d (.int i)) v) : v = .int i := Rep.int_inv (T := T) (G := G) h
theorem SRep.bl_inv {b : Bool} (h : SRep T G ρ (.d (.bl b)) v) : v = .bl b := Rep.bl_inv (T := T) (G := G) h
theorem SRep.str_inv {x : Str} (h : SRep T G ρ (.d (.str x)) v) : v = .str x := Rep.str_inv (T := T) (G := G) h
theorem SRep.non_inv (h : SRep T G ρ (.d .non) v) : v = .non := Rep.non_inv (T := T) (G := G) h
theorem View.int_inv {H : Hp} {i : Int} (h : View T G H (.int i) v) : v = .int i := Rep.int_inv (T := T) (G := G) h
theorem View.bl_inv {H : Hp} {b : Bool} (h : View T G H (.bl b) v) : v = .bl b := Rep.bl_inv (T := T) (G := G) h
theorem View.str_inv {H : Hp} {x : Str} (h : View T G H (.str x) v) : v = .str x := Rep.str_inv (T := T) (G := G) h
theorem View.tup_inv {H : Hp} {xs : List D} (h : View T G H (.tup xs) v) : ∃ p vs, v = .ref p ∧ G p = some (.tup vs) ∧ xs.length ≤ sizeLine ∧ Reps T G xs vs := Rep.tup_inv (T := T) (G := G) h
theorem View.non_inv {H : Hp} (h : View T G H .non v) : v = .non := Rep.non_inv (T := T) (G := G) h
end
/-- the heap grows by data alone -/
structure Step (G H G' H' : Hp) : Prop where
  g : Ex G G'
  h : Ex H H'
  gh : Ex G' H'
  cells : ∀ p o, H p = some o → G p = none → G' p = none
section
variable {T : Tb} {G G' H H' : Hp} {ρ ρ' : List Addr} {c : Cs}
theorem Step.refl (h : Ex G H) : Step G H G H := ⟨.refl _, .refl _, h, fun _ _ _ q => q⟩
theorem Step.new {p : Addr} {o : HO} (e : Ex G H) (h : H p = none) : Step G H (upd G p o) (upd H p o) := by
  refine ⟨.new (e.back h), .new h, fun a u q => ?_, fun q u a b => ?_⟩
  · by_cases z : a = p
    · subst z; rw [upd_same] at q ⊢; exact q
    · rw [upd_ne z] at q ⊢; exact e _ _ q
  · rw [upd_ne (ne_of_none a h)]; exact b
theorem Step.trans {G1 H1 G2 H2 : Hp} (a : Step G H G1 H1) (b : Step G1 H1 G2 H2) : Step G H G2 H2 :=
  ⟨a.g.trans b.g, a.h.trans b.h, b.gh, fun p o x y => b.cells p o (a.h _ _ x) (a.cells p o x y)⟩
theorem CellOk.step (s : Step G H G' H') {p : Addr} : ∀ {x : CC}, CellOk T G H ρ p x → CellOk T G' H' ρ p x
  | .lS xs, ⟨vs, a, b, r⟩ => ⟨vs, s.h _ _ a, b, r.mono s.g (List.prefix_refl _)⟩
  | .tS xs, ⟨vs, a, b, r⟩ => ⟨vs, s.h _ _ a, b, r.mono s.g (List.prefix_refl _)⟩
  | .lst xs, ⟨vs, a, b, r⟩ => ⟨vs, s.h _ _ a, b, Reps.mono s.g _ _ r⟩
  | .dct kvs, ⟨kv, a, b, k, r⟩ => ⟨kv, s.h _ _ a, b, k, Reps.mono s.g _ _ r⟩
  | .obj c xs, ⟨dx, fv, a, b, r⟩ => ⟨dx, fv, s.h _ _ a, b, Reps.mono s.g _ _ r⟩
/-- what the cell holds stays; its data may stand in a larger part -/
theorem CellOk.keep (e : Ex G G') {p : Addr} (h : H' p = H p) (k : ρ <+: ρ') : ∀ {x : CC}, CellOk T G H ρ p x → CellOk T G' H' ρ' p x
  | .lst xs, ⟨vs, a, b, r⟩ => ⟨vs, h.trans a, b, Reps.mono e _ _ r⟩
  | .dct kvs, ⟨kv, a, b, k, r⟩ => ⟨kv, h.trans a, b, k, Reps.mono e _ _ r⟩
  | .obj c xs, ⟨dx, fv, a, b, r⟩ => ⟨dx, fv, h.trans a, b, Reps.mono e _ _ r⟩
  | .lS xs, ⟨vs, a, b, r⟩ => ⟨vs, h.trans a, b, r.mono e k⟩
  | .tS xs, ⟨vs, a, b, r⟩ => ⟨vs, h.trans a, b, r.mono e k⟩
theorem take_pre {ρ ρ' : List Addr} (h : ρ <+: ρ') {i : Nat} (hi : i ≤ ρ.length) : ρ'.take i = ρ.take i := by
  obtain ⟨t, rfl⟩ := h
  rw [List.take_append_of_le_length hi]
theorem CellOk.some {p : Addr} : ∀ {x : CC}, CellOk T G H ρ p x → ∃ o, H p = some o
  | .lS xs, ⟨vs, a, b, r⟩ => ⟨_, a⟩
  | .tS xs, ⟨vs, a, b, r⟩ => ⟨_, a⟩
  | .lst xs, ⟨vs, a, b, r⟩ => ⟨_, a⟩
  | .dct kvs, ⟨kv, a, b, k, r⟩ => ⟨_, a⟩
  | .obj c xs, ⟨dx, fv, a, b, r⟩ => ⟨_, a⟩
theorem RelH.step (r : RelH T H c G ρ) (s : Step G H G' H') : RelH T H' c G' ρ :=
  ⟨s.gh, r.len, r.nd, fun i p x a b => let ⟨g, k⟩ := r.at_ i p x a b; let ⟨o, ho⟩ := k.some; ⟨s.cells p o ho g, k.step s⟩⟩
end
/-- what is read of a slot's value -/
def deref : S → Cs → Option D
  | .d x, _ => some x
  | .c n, c => match c[n]? with
    | some (.lst xs) => some (.lst xs)
    | some (.obj k xs) => some (.obj k xs)
    | _ => none
  | .x _ _, _ => none
def derefs : List S → Cs → Option (List D)
  | [], _ => some []
  | s :: ss, c => match deref s c with
    | some d => match derefs ss c with
      | some ds => some (d :: ds)
      | none => none
    | none => none
section
variable {T : Tb} {G G' H H' : Hp} {ρ ρ' : List Addr} {c : Cs}
theorem deref_view (r : RelH T H c G ρ) : ∀ {s : S} {v : V} {d : D}, SRep T G ρ s v → deref s c = some d → View T G H d v
  | .d x, v, d, h, e => by
    cases e
    exact Rep.view r.ex h
  | .c n, v, d, ⟨p, hp, hv⟩, e => by
    subst hv
    unfold deref at e
    cases hc : c[n]? with
    | none => simp only [hc] at e; cases e
    | some x =>
      simp only [hc] at e
      obtain ⟨g, k⟩ := r.at_ n p x hp hc
      cases x with
      | lst xs =>
        cases e
        obtain ⟨vs, a, b, q⟩ := k
        exact ⟨p, vs, rfl, a, b, q⟩
      | dct _ => cases e
      | lS _ => cases e
      | tS _ => cases e
      | obj k2 xs =>
        cases e
        obtain ⟨dx, fv, a, b, q⟩ := k
        exact ⟨p, dx, fv, rfl, a, b, q⟩
theorem derefs_views (r : RelH T H c G ρ) : ∀ {ss : List S} {vs : List V} {ds : List D}, SReps T G ρ ss vs → derefs ss c = some ds → Views T G H ds vs
  | [], _, _, h, e => by cases h; cases e; exact .nil
  | s :: ss, _, ds, h, e => by
    cases h with
    | cons a b =>
      unfold derefs at e
      cases h1 : deref s c with
      | none => rw [h1] at e; cases e
      | some d =>
        rw [h1] at e
        cases h2 : derefs ss c with
        | none => rw [h2] at e; cases e
        | some d2 =>
          rw [h2] at e
          cases e
          exact .cons (deref_view r a h1) (derefs_views r b h2)
end

/-! ### results -/
def R.bind {α β : Type} : R α → (α → Cs → R β) → R β
  | .ok a c, f => f a c
  | .ex k xs c, _ => .ex k xs c
  | .bad, _ => .bad
def Post {α β : Type} (rel : Hp → List Addr → α → β → Prop) (T : Tb) (W : WX) (σ : St) (G : Hp) (ρ : List Addr) (r : R α) (Q : β → Hp → Prop) : Prop :=
  match r with
  | .ok a c => ∀ v H' G' ρ', Ex G G' → ρ <+: ρ' → RelH T H' c G' ρ' → rel G' ρ' a v → Q v H'
  | .ex k xs c => ∀ d H' G' ρ', Ex G G' → ρ <+: ρ' → RelH T H' c G' ρ' → XRep T G' k xs d → W (.ref (T.cl k)) d σ H'
  | .bad => False
abbrev PostV (T : Tb) := Post (SRep T) T
abbrev relB : Hp → List Addr → Bool → Bool → Prop := fun _ _ a b => b = a
section
variable {α β γ ε : Type} {rel : Hp → List Addr → α → β → Prop} {rel2 : Hp → List Addr → γ → ε → Prop} {T : Tb} {W : WX} {σ : St} {G G' : Hp} {ρ ρ' : List Addr} {r : R α} {Q Q' : β → Hp → Prop}
theorem Post.imp (h : Post rel T W σ G ρ r Q) (k : ∀ v H, Q v H → Q' v H) : Post rel T W σ G ρ r Q' := by
  cases r with
  | ok a c => exact fun v H' G' ρ' e p q z => k _ _ (h v H' G' ρ' e p q z)
  | ex k xs c => exact h
  | bad => exact h
theorem Post.mono (h : Post rel T W σ G ρ r Q) (e : Ex G G') (p : ρ <+: ρ') : Post rel T W σ G' ρ' r Q := by
  cases r with
  | ok a c => exact fun v H' G'' ρ'' e' p' q z => h v H' G'' ρ'' (e.trans e') (p.trans p') q z
  | ex k xs c => exact fun v H' G'' ρ'' e' p' q z => h v H' G'' ρ'' (e.trans e') (p.trans p') q z
  | bad => exact h
theorem Post.bind {f : α → Cs → R γ} {Q2 : ε → Hp → Prop} (h : Post rel2 T W σ G ρ (r.bind f) Q2) :
    Post rel T W σ G ρ r (fun v H1 => ∃ a c G1 ρ1, Ex G G1 ∧ ρ <+: ρ1 ∧ RelH T H1 c G1 ρ1 ∧ rel G1 ρ1 a v ∧ Post rel2 T W σ G1 ρ1 (f a c) Q2) := by
  cases r with
  | ok a c => exact fun v H' G' ρ' e p q z => ⟨a, c, G', ρ', e, p, q, z, Post.mono (r := f a c) h e p⟩
  | ex k xs c => exact h
  | bad => exact h
end
def tD (T : Tb) (W : WX) (m : M) : TE := fun σ H Q => ∃ δ c G ρ, RelS T G ρ σ δ ∧ RelH T H c G ρ ∧ Post (SRep T) T W σ G ρ (m δ c) Q
def tDT (T : Tb) (W : WX) (m : MT) : TT := fun σ H Q => ∃ δ c G ρ, RelS T G ρ σ δ ∧ RelH T H c G ρ ∧ Post relB T W σ G ρ (m δ c) Q
def tDA (T : Tb) (W : WX) (m : MA) : TA := fun σ H Q => ∃ δ c G ρ, RelS T G ρ σ δ ∧ RelH T H c G ρ ∧ Post (SReps T) T W σ G ρ (m δ c) Q

/-! ### readings weaker than others -/
theorem PE.imp {X : Cx} {e : Expr} {t t' : TE} (h : PE X e t) (k : ∀ σ H Q, t' σ H Q → t σ H Q) : PE X e t' := ⟨fun pins s σ H Q I q => h.run pins s σ H Q I (k σ H Q q)⟩
theorem PT.imp {X : Cx} {e : Expr} {t t' : TT} (h : PT X e t) (k : ∀ σ H Q, t' σ H Q → t σ H Q) : PT X e t' := ⟨fun pins s σ H Q I q => h.run pins s σ H Q I (k σ H Q q)⟩
theorem PW.imp {X : Cx} {e : Expr} {t t' : TT} (h : PW X e t) (k : ∀ σ H Q, t' σ H Q → t σ H Q) : PW X e t' := ⟨fun wh pins s σ H Q I q => h.run wh pins s σ H Q I (k σ H Q q)⟩
theorem PA.imp {X : Cx} {e : List Expr} {t t' : TA} (h : PA X e t) (k : ∀ σ H Q, t' σ H Q → t σ H Q) : PA X e t' := ⟨fun pos pins s σ H Q I q => h.run pos pins s σ H Q I (k σ H Q q)⟩
theorem PS.imp {X : Cx} {e : Stmt} {t t' : TS} (h : PS X e t) (k : ∀ D σ H, t' D σ H → t D σ H) : PS X e t' := ⟨fun pins s σ H D I q => h.run pins s σ H D I (k D σ H q)⟩
theorem PSs.imp {X : Cx} {e : List Stmt} {t t' : TS} (h : PSs X e t) (k : ∀ D σ H, t' D σ H → t D σ H) : PSs X e t' := ⟨fun pins s σ H D I q => h.run pins s σ H D I (k D σ H q)⟩

/-! ### expressions -/
section
variable {X : Cx} {T : Tb} {W : WX} {a b : Expr} {A B : M} {pos : Pos}
def mVar (i : Nat) : M := fun δ c => match δ[i]? with
  | some (some s) => .ok s c
  | _ => .bad
def mC (x : D) : M := fun _ c => .ok (.d x) c
theorem dn_var {i : Nat} {x : Str} (hN : X.N[i]? = some x) (hv : Vis X.env.scope x) (hd : (x == ("__debug__" : Str)) = false := by decide) (hcd : (x == ("__classdict__" : Str)) = false := by decide) : PE X (.Name x pos) (tD T W (mVar i)) := by
  refine PE.imp (pe_var hN hv hd hcd) fun σ H Q ⟨δ, c, G, ρ, hs, hh, p⟩ => ?_
  unfold mVar at p
  cases e : δ[i]? with
  | none => simp only [e] at p; exact p.elim
  | some o =>
    cases o with
    | none => simp only [e] at p; exact p.elim
    | some s =>
      simp only [e] at p
      obtain ⟨v, hv, r⟩ := hs.at_ i s e
      exact ⟨v, hv, p v H G ρ (.refl _) (List.prefix_refl _) hh r⟩
theorem tD_c {d : D} {v : V} (hr : ∀ G, Rep T G d v) {σ : St} {H : Hp} {Q : VK} (h : tD T W (mC d) σ H Q) : tC v σ H Q := by
  obtain ⟨δ, c, G, ρ, hs, hh, p⟩ := h
  exact p v H G ρ (.refl _) (List.prefix_refl _) hh (hr G)
theorem dn_int {i j} : PE X (.Constant (.int i) j pos) (tD T W (mC (.int i))) := PE.imp pe_int fun _ _ _ h => tD_c (fun _ => Rep.int) h
theorem dn_str {x j} : PE X (.Constant (.str x) j pos) (tD T W (mC (.str x))) := PE.imp pe_str fun _ _ _ h => tD_c (fun _ => Rep.str) h
theorem dn_bl {x j} : PE X (.Constant (.bool x) j pos) (tD T W (mC (.bl x))) := PE.imp pe_bl fun _ _ _ h => tD_c (fun _ => Rep.bl) h
theorem dn_non {j} : PE X (.Constant .none j pos) (tD T W (mC .non)) := PE.imp pe_non fun _ _ _ h => tD_c (fun _ => Rep.non) h
theorem dn_glob {x : Str} {d : D} {v : V} {u : Value} (hg : Gl X x) (hm : X.mg x = some u) (r : RelV v u) (hr : ∀ G, Rep T G d v) (hd : (x == ("__debug__" : Str)) = false := by decide) : PE X (.Name x pos) (tD T W (mC d)) :=
  PE.imp (pe_glob hg hm r hd) fun _ _ _ h => tD_c hr h

/-- two operands, then f -/
def mBin (f : S → S → Cs → R S) (A B : M) : M := fun δ c => (A δ c).bind fun x c => (B δ c).bind fun y c => f x y c
def mUn (f : S → Cs → R S) (A : M) : M := fun δ c => (A δ c).bind fun x c => f x c
def Prim2 (T : Tb) (f : S → S → Cs → R S) (r : R2) : Prop := ∀ (W : WX) (σ : St) (G : Hp) (ρ : List Addr) (H : Hp) (c : Cs) (x y : S) (v u : V) (Q : VK), RelH T H c G ρ → SRep T G ρ x v → SRep T G ρ y u → Post (SRep T) T W σ G ρ (f x y c) Q → r v u H Q
def Prim1 (T : Tb) (f : S → Cs → R S) (r : V → Hp → VK → Prop) : Prop := ∀ (W : WX) (σ : St) (G : Hp) (ρ : List Addr) (H : Hp) (c : Cs) (x : S) (v : V) (Q : VK), RelH T H c G ρ → SRep T G ρ x v → Post (SRep T) T W σ G ρ (f x c) Q → r v H Q
theorem tD_bin {f : S → S → Cs → R S} {r : R2} (hp : Prim2 T f r) {σ : St} {H : Hp} {Q : VK} (h : tD T W (mBin f A B) σ H Q) : tOp r (tD T W A) (tD T W B) σ H Q := by
  obtain ⟨δ, c, G, ρ, hs, hh, p⟩ := h
  refine ⟨δ, c, G, ρ, hs, hh, (Post.bind (rel := SRep T) p).imp ?_⟩
  rintro v H1 ⟨x, c1, G1, ρ1, e1, p1, h1, r1, q1⟩
  refine ⟨δ, c1, G1, ρ1, hs.mono e1 p1, h1, (Post.bind (rel := SRep T) q1).imp ?_⟩
  rintro u H2 ⟨y, c2, G2, ρ2, e2, p2, h2, r2, q2⟩
  exact hp W σ G2 ρ2 H2 c2 x y v u Q h2 (r1.mono e2 p2) r2 q2
theorem tD_un {f : S → Cs → R S} {r : V → Hp → VK → Prop} (hp : Prim1 T f r) {σ : St} {H : Hp} {Q : VK} (h : tD T W (mUn f A) σ H Q) : tUn r (tD T W A) σ H Q := by
  obtain ⟨δ, c, G, ρ, hs, hh, p⟩ := h
  refine ⟨δ, c, G, ρ, hs, hh, (Post.bind (rel := SRep T) p).imp ?_⟩
  rintro v H1 ⟨x, c1, G1, ρ1, e1, p1, h1, r1, q1⟩
  exact hp W σ G1 ρ1 H1 c1 x v Q h1 r1 q1
theorem dn_op {op : Operator} {r : R2} {f : S → S → Cs → R S} (ho : OpR X (binaryOp op) r) (hp : Prim2 T f r) (ha : PE X a (tD T W A)) (hb : PE X b (tD T W B)) : PE X (.BinOp a op b pos) (tD T W (mBin f A B)) :=
  PE.imp (pe_op ho ha hb) fun _ _ _ h => tD_bin hp h
theorem dn_cmp {op : CmpOp} {r : R2} {f : S → S → Cs → R S} (ho : OpR X (compareOp op) r) (hp : Prim2 T f r) (ha : PE X a (tD T W A)) (hb : PE X b (tD T W B)) (hm : behindInMarks op b = false) : PE X (.Compare a [op] [b] pos) (tD T W (mBin f A B)) :=
  PE.imp (pe_cmpR ho ha hb hm) fun _ _ _ h => tD_bin hp h
theorem dn_un {op : UnaryOp} {r : V → Hp → VK → Prop} {f : S → Cs → R S} (ho : UnR X (unaryOp op) r) (hp : Prim1 T f r) (ha : PE X a (tD T W A)) : PE X (.UnaryOp op a pos) (tD T W (mUn f A)) :=
  PE.imp (pe_un ho ha) fun _ _ _ h => tD_un hp h

/-- pure functions on data -/
def lift2 (g : D → D → Option D) : S → S → Cs → R S := fun x y c => match deref x c, deref y c with
  | some dx, some dy => match g dx dy with
    | some d => .ok (.d d) c
    | none => .bad
  | _, _ => .bad
def lift1 (g : D → Option D) : S → Cs → R S := fun x c => match deref x c with
  | some dx => match g dx with
    | some d => .ok (.d d) c
    | none => .bad
  | none => .bad
def liftN (g : List D → Option D) : List S → Cs → R S := fun x c => match derefs x c with
  | some dx => match g dx with
    | some d => .ok (.d d) c
    | none => .bad
  | none => .bad
def Fresh2 (T : Tb) (g : D → D → Option D) (r : R2) : Prop := ∀ (G H : Hp) (x y d : D) (v u : V) (Q : VK), Ex G H → View T G H x v → View T G H y u → g x y = some d → (∀ v' H' G', Step G H G' H' → Rep T G' d v' → Q v' H') → r v u H Q
def Fresh1 (T : Tb) (g : D → Option D) (r : V → Hp → VK → Prop) : Prop := ∀ (G H : Hp) (x d : D) (v : V) (Q : VK), Ex G H → View T G H x v → g x = some d → (∀ v' H' G', Step G H G' H' → Rep T G' d v' → Q v' H') → r v H Q
def FreshN (T : Tb) (g : List D → Option D) (r : List V → Hp → VK → Prop) : Prop := ∀ (G H : Hp) (x : List D) (d : D) (v : List V) (Q : VK), Ex G H → Views T G H x v → g x = some d → (∀ v' H' G', Step G H G' H' → Rep T G' d v' → Q v' H') → r v H Q
theorem prim2 {g : D → D → Option D} {r : R2} (h : Fresh2 T g r) : Prim2 T (lift2 g) r := by
  intro W σ G ρ H c x y v u Q hh rx ry p
  unfold lift2 at p
  cases e1 : deref x c with
  | none => simp only [e1] at p; exact p.elim
  | some dx =>
    cases e2 : deref y c with
    | none => simp only [e1, e2] at p; exact p.elim
    | some dy =>
      simp only [e1, e2] at p
      cases e3 : g dx dy with
      | none => simp only [e3] at p; exact p.elim
      | some d =>
        simp only [e3] at p
        exact h G H dx dy d v u Q hh.ex (deref_view hh rx e1) (deref_view hh ry e2) e3 fun v' H' G' st r' => p v' H' G' ρ st.g (List.prefix_refl _) (hh.step st) r'
theorem prim1 {g : D → Option D} {r : V → Hp → VK → Prop} (h : Fresh1 T g r) : Prim1 T (lift1 g) r := by
  intro W σ G ρ H c x v Q hh rx p
  unfold lift1 at p
  cases e1 : deref x c with
  | none => simp only [e1] at p; exact p.elim
  | some dx =>
    simp only [e1] at p
    cases e3 : g dx with
    | none => simp only [e3] at p; exact p.elim
    | some d =>
      simp only [e3] at p
      exact h G H dx d v Q hh.ex (deref_view hh rx e1) e3 fun v' H' G' st r' => p v' H' G' ρ st.g (List.prefix_refl _) (hh.step st) r'

/-! ### arguments -/
def mNil : MA := fun _ c => .ok [] c
def mCons (A : M) (B : MA) : MA := fun δ c => (A δ c).bind fun x c => (B δ c).bind fun xs c => .ok (x :: xs) c
theorem da_nil : PA X [] (tDA T W mNil) := PA.imp pa_nil fun σ H Q ⟨δ, c, G, ρ, hs, hh, p⟩ => p [] H G ρ (.refl _) (List.prefix_refl _) hh .nil
theorem da_cons {e : Expr} {es : List Expr} {A : M} {B : MA} (ha : PE X e (tD T W A)) (hb : PA X es (tDA T W B)) (hs : starEach (e :: es) X.env = (false, eval e X.env) :: starEach es X.env := by rfl) : PA X (e :: es) (tDA T W (mCons A B)) := by
  refine PA.imp (pa_cons ha hb hs) fun σ H Q ⟨δ, c, G, ρ, hs, hh, p⟩ => ?_
  refine ⟨δ, c, G, ρ, hs, hh, (Post.bind (rel := SRep T) p).imp ?_⟩
  rintro v H1 ⟨x, c1, G1, ρ1, e1, p1, h1, r1, q1⟩
  refine ⟨δ, c1, G1, ρ1, hs.mono e1 p1, h1, (Post.bind (rel := SReps T) q1).imp ?_⟩
  rintro u H2 ⟨y, c2, G2, ρ2, e2, p2, h2, r2, q2⟩
  exact q2 (v :: u) H2 G2 ρ2 (.refl _) (List.prefix_refl _) h2 (.cons (r1.mono e2 p2) r2)
/-- a call of a built-in -/
def mBlt (f : List S → Cs → R S) (A : MA) : M := fun δ c => (A δ c).bind fun xs c => f xs c
def PrimN (T : Tb) (f : List S → Cs → R S) (r : List V → Hp → VK → Prop) : Prop := ∀ (W : WX) (σ : St) (G : Hp) (ρ : List Addr) (H : Hp) (c : Cs) (x : List S) (v : List V) (Q : VK), RelH T H c G ρ → SReps T G ρ x v → Post (SRep T) T W σ G ρ (f x c) Q → r v H Q
theorem primN {g : List D → Option D} {r : List V → Hp → VK → Prop} (h : FreshN T g r) : PrimN T (liftN g) r := by
  intro W σ G ρ H c x v Q hh rx p
  unfold liftN at p
  cases e1 : derefs x c with
  | none => simp only [e1] at p; exact p.elim
  | some dx =>
    simp only [e1] at p
    cases e3 : g dx with
    | none => simp only [e3] at p; exact p.elim
    | some d =>
      simp only [e3] at p
      exact h G H dx d v Q hh.ex (derefs_views hh rx e1) e3 fun v' H' G' st r' => p v' H' G' ρ st.g (List.prefix_refl _) (hh.step st) r'
theorem tD_blt {f : List S → Cs → R S} {r : List V → Hp → VK → Prop} {B : MA} (hp : PrimN T f r) {σ : St} {H : Hp} {Q : VK} (h : tD T W (mBlt f B) σ H Q) : tCB r (tDA T W B) σ H Q := by
  obtain ⟨δ, c, G, ρ, hs, hh, p⟩ := h
  refine ⟨δ, c, G, ρ, hs, hh, (Post.bind (rel := SReps T) p).imp ?_⟩
  rintro v H1 ⟨x, c1, G1, ρ1, e1, p1, h1, r1, q1⟩
  exact hp W σ G1 ρ1 H1 c1 x v Q h1 r1 q1
theorem dn_callB {id : String} {x : Str} {p : Pos} {e : Expr} {es : List Expr} {f : List S → Cs → R S} {r : List V → Hp → VK → Prop} {B : MA} (hc : CallR X (.builtin id) r) (hp : PrimN T f r) (hg : Gl X x) (hm : X.mg x = none) (hv : bootBuiltins x = some (.builtin id)) (ha : PA X (e :: es) (tDA T W B)) (hn : x ≠ "__name__" := by decide) (hdb : (x == ("__debug__" : Str)) = false := by decide)
    (he : starEach (e :: es) X.env = (false, eval e X.env) :: starEach es X.env := by rfl) (hpl : (backTo pos (starEach es X.env)).any (·.1) = false := by rfl) : PE X (.Call (.Name x p) (e :: es) [] pos) (tD T W (mBlt f B)) :=
  PE.imp (pe_callB hc hg hm hv ha hn hdb he hpl) fun _ _ _ h => tD_blt hp h
theorem dn_callTy {id : String} {x : Str} {p : Pos} {e : Expr} {es : List Expr} {f : List S → Cs → R S} {r : List V → Hp → VK → Prop} {B : MA} (hc : CallR X (.type id) r) (hp : PrimN T f r) (hg : Gl X x) (hm : X.mg x = none) (hv : bootBuiltins x = some (.type id)) (ha : PA X (e :: es) (tDA T W B)) (hn : x ≠ "__name__" := by decide) (hdb : (x == ("__debug__" : Str)) = false := by decide)
    (he : starEach (e :: es) X.env = (false, eval e X.env) :: starEach es X.env := by rfl) (hpl : (backTo pos (starEach es X.env)).any (·.1) = false := by rfl) : PE X (.Call (.Name x p) (e :: es) [] pos) (tD T W (mBlt f B)) :=
  PE.imp (pe_callTy hc hg hm hv ha hn hdb he hpl) fun _ _ _ h => tD_blt hp h
end
end Dn

end
section
/-! Dn2: tests, statements, loops. -/
namespace Dn
open PySem L2

section
variable {X : Cx} {T : Tb} {W : WX} {a b : Expr} {A B : M} {pos : Pos}
/-! ### tests -/
def asB : S → Cs → R Bool
  | .d (.bl b), c => .ok b c
  | _, _ => .bad
def mTB (A : M) : MT := fun δ c => (A δ c).bind asB
theorem asB_inv {W : WX} {σ : St} {G H : Hp} {ρ : List Addr} {c : Cs} {Q : Bool → Hp → Prop} {s : S} {v : V} (hh : RelH T H c G ρ) (r : SRep T G ρ s v) (p : Post relB T W σ G ρ (asB s c) Q) : ∃ k, v = .bl k ∧ Q k H := by
  cases s with
  | c n => exact p.elim
  | x _ _ => exact p.elim
  | d x =>
    cases x with
    | bl k => exact ⟨k, SRep.bl_inv r, p k H G ρ (.refl _) (List.prefix_refl _) hh rfl⟩
    | _ => exact p.elim
theorem tDT_B {σ : St} {H : Hp} {Q : Bool → Hp → Prop} (h : tDT T W (mTB A) σ H Q) : tB (tD T W A) σ H Q := by
  obtain ⟨δ, c, G, ρ, hs, hh, p⟩ := h
  refine ⟨δ, c, G, ρ, hs, hh, (Post.bind (rel := SRep T) p).imp ?_⟩
  rintro v H1 ⟨s, c1, G1, ρ1, e1, p1, h1, r1, q1⟩
  exact asB_inv h1 r1 q1
theorem dt_val {e : Expr} (h : PE X e (tD T W A)) (he : ∀ whole, isTrue e X.env whole = (do let v ← whole; standAt e.pos; holding [v] (truthy v)) := by intro _; rfl) : PT X e (tDT T W (mTB A)) :=
  PT.imp (pt_val h he) fun _ _ _ h => tDT_B h
theorem dt_cmp {op : CmpOp} {r : R2} {f : S → S → Cs → R S} (ho : OpR X (compareOp op) r) (hp : Prim2 T f r) (ha : PE X a (tD T W A)) (hb : PE X b (tD T W B)) (hm : behindInMarks op b = false) : PT X (.Compare a [op] [b] pos) (tDT T W (mTB (mBin f A B))) := by
  refine PT.imp (pt_cmpR ho ha hb hm) fun σ H Q h => ?_
  have h2 := tDT_B h
  exact tD_bin hp h2
/-- the chain a op b op' c -/
def mChain (f g : S → S → Cs → R S) (A B C : M) : M := fun δ c => (A δ c).bind fun x c => (B δ c).bind fun y c => (f x y c).bind fun z c => (asB z c).bind fun k c => if k = true then (C δ c).bind fun w c => g y w c else .ok (.d (.bl false)) c
variable {C : M} {c : Expr}
def mAnd (A B : M) : M := fun δ c => (A δ c).bind fun x c => (asB x c).bind fun k c => if k = true then B δ c else .ok (.d (.bl false)) c
def mOr (A B : M) : M := fun δ c => (A δ c).bind fun x c => (asB x c).bind fun k c => if k = true then .ok (.d (.bl true)) c else B δ c
def mNot (A : M) : M := fun δ c => (A δ c).bind fun x c => (asB x c).bind fun k c => .ok (.d (.bl (!k))) c
def mtAnd (A B : MT) : MT := fun δ c => (A δ c).bind fun k c => if k = true then B δ c else .ok false c
def mtOr (A B : MT) : MT := fun δ c => (A δ c).bind fun k c => if k = true then .ok true c else B δ c
def mtNot (A : MT) : MT := fun δ c => (A δ c).bind fun k c => .ok (!k) c
def mIf (C : MT) (A B : M) : M := fun δ c => (C δ c).bind fun k c => if k = true then A δ c else B δ c
theorem bl_of {W : WX} {σ : St} {G H : Hp} {ρ : List Addr} {c : Cs} {γ ε : Type} {rel2 : Hp → List Addr → γ → ε → Prop} {f : Bool → Cs → R γ} {Q : ε → Hp → Prop} {s : S} {v : V} (hh : RelH T H c G ρ) (r : SRep T G ρ s v) (p : Post rel2 T W σ G ρ ((asB s c).bind f) Q) :
    ∃ k, v = .bl k ∧ Post rel2 T W σ G ρ (f k c) Q := by
  cases s with
  | c n => exact p.elim
  | x _ _ => exact p.elim
  | d x =>
    cases x with
    | bl k => exact ⟨k, SRep.bl_inv r, p⟩
    | _ => exact p.elim
theorem dn_one {op} (h : PE X a (tD T W A)) : PE X (.BoolOp op [a] pos) (tD T W A) := pe_one h
theorem dn_and {rest : List Expr} (ha : PE X a (tD T W A)) (hb : PE X (.BoolOp .And (b :: rest) pos) (tD T W B)) : PE X (.BoolOp .And (a :: b :: rest) pos) (tD T W (mAnd A B)) := by
  refine PE.imp (pe_and ha hb) fun σ H Q ⟨δ, c, G, ρ, hs, hh, p⟩ => ?_
  refine ⟨δ, c, G, ρ, hs, hh, (Post.bind (rel := SRep T) p).imp ?_⟩
  rintro v H1 ⟨s, c1, G1, ρ1, e1, p1, h1, r1, q1⟩
  obtain ⟨k, rfl, q⟩ := bl_of h1 r1 q1
  refine ⟨k, rfl, ?_⟩
  cases k with
  | true => exact ⟨δ, c1, G1, ρ1, hs.mono e1 p1, h1, q⟩
  | false => exact q _ H1 G1 ρ1 (.refl _) (List.prefix_refl _) h1 SRep.bl
theorem dn_or {rest : List Expr} (ha : PE X a (tD T W A)) (hb : PE X (.BoolOp .Or (b :: rest) pos) (tD T W B)) : PE X (.BoolOp .Or (a :: b :: rest) pos) (tD T W (mOr A B)) := by
  refine PE.imp (pe_or ha hb) fun σ H Q ⟨δ, c, G, ρ, hs, hh, p⟩ => ?_
  refine ⟨δ, c, G, ρ, hs, hh, (Post.bind (rel := SRep T) p).imp ?_⟩
  rintro v H1 ⟨s, c1, G1, ρ1, e1, p1, h1, r1, q1⟩
  obtain ⟨k, rfl, q⟩ := bl_of h1 r1 q1
  refine ⟨k, rfl, ?_⟩
  cases k with
  | false => exact ⟨δ, c1, G1, ρ1, hs.mono e1 p1, h1, q⟩
  | true => exact q _ H1 G1 ρ1 (.refl _) (List.prefix_refl _) h1 SRep.bl
theorem dn_not (ha : PE X a (tD T W A)) : PE X (.UnaryOp .Not a pos) (tD T W (mNot A)) := by
  refine PE.imp (pe_not ha) fun σ H Q ⟨δ, c, G, ρ, hs, hh, p⟩ => ?_
  refine ⟨δ, c, G, ρ, hs, hh, (Post.bind (rel := SRep T) p).imp ?_⟩
  rintro v H1 ⟨s, c1, G1, ρ1, e1, p1, h1, r1, q1⟩
  obtain ⟨k, rfl, q⟩ := bl_of h1 r1 q1
  exact ⟨k, rfl, q _ H1 G1 ρ1 (.refl _) (List.prefix_refl _) h1 SRep.bl⟩
section
variable {tA tBB : MT}
theorem dw_and1 (ha : PT X a (tDT T W tA)) : PW X (.BoolOp .And [a] pos) (tDT T W tA) := pw_and1 ha
theorem dw_or1 (ha : PT X a (tDT T W tA)) : PW X (.BoolOp .Or [a] pos) (tDT T W tA) := pw_or1 ha
theorem dw_and {rest : List Expr} (ha : PT X a (tDT T W tA)) (hb : PW X (.BoolOp .And (b :: rest) pos) (tDT T W tBB)) : PW X (.BoolOp .And (a :: b :: rest) pos) (tDT T W (mtAnd tA tBB)) := by
  refine PW.imp (pw_and ha hb) fun σ H Q ⟨δ, c, G, ρ, hs, hh, p⟩ => ?_
  refine ⟨δ, c, G, ρ, hs, hh, (Post.bind (rel := relB) p).imp ?_⟩
  rintro v H1 ⟨k, c1, G1, ρ1, e1, p1, h1, r1, q1⟩
  have r1 : v = k := r1
  subst r1
  cases v with
  | true => exact ⟨δ, c1, G1, ρ1, hs.mono e1 p1, h1, q1⟩
  | false => exact q1 _ H1 G1 ρ1 (.refl _) (List.prefix_refl _) h1 rfl
theorem dw_or {rest : List Expr} (ha : PT X a (tDT T W tA)) (hb : PW X (.BoolOp .Or (b :: rest) pos) (tDT T W tBB)) : PW X (.BoolOp .Or (a :: b :: rest) pos) (tDT T W (mtOr tA tBB)) := by
  refine PW.imp (pw_or ha hb) fun σ H Q ⟨δ, c, G, ρ, hs, hh, p⟩ => ?_
  refine ⟨δ, c, G, ρ, hs, hh, (Post.bind (rel := relB) p).imp ?_⟩
  rintro v H1 ⟨k, c1, G1, ρ1, e1, p1, h1, r1, q1⟩
  have r1 : v = k := r1
  subst r1
  cases v with
  | false => exact ⟨δ, c1, G1, ρ1, hs.mono e1 p1, h1, q1⟩
  | true => exact q1 _ H1 G1 ρ1 (.refl _) (List.prefix_refl _) h1 rfl
theorem dt_not (ha : PT X a (tDT T W tA)) : PT X (.UnaryOp .Not a pos) (tDT T W (mtNot tA)) := by
  refine PT.imp (pt_not ha) fun σ H Q ⟨δ, c, G, ρ, hs, hh, p⟩ => ?_
  refine ⟨δ, c, G, ρ, hs, hh, (Post.bind (rel := relB) p).imp ?_⟩
  rintro v H1 ⟨k, c1, G1, ρ1, e1, p1, h1, r1, q1⟩
  have r1 : v = k := r1
  subst r1
  exact q1 _ H1 G1 ρ1 (.refl _) (List.prefix_refl _) h1 rfl
theorem dn_if {c : Expr} (hc : PT X c (tDT T W tA)) (ha : PE X a (tD T W A)) (hb : PE X b (tD T W B)) : PE X (.IfExp c a b pos) (tD T W (mIf tA A B)) := by
  refine PE.imp (pe_ifExp hc ha hb) fun σ H Q ⟨δ, c, G, ρ, hs, hh, p⟩ => ?_
  refine ⟨δ, c, G, ρ, hs, hh, (Post.bind (rel := relB) p).imp ?_⟩
  rintro v H1 ⟨k, c1, G1, ρ1, e1, p1, h1, r1, q1⟩
  have r1 : v = k := r1
  subst r1
  cases v with
  | true => exact ⟨δ, c1, G1, ρ1, hs.mono e1 p1, h1, q1⟩
  | false => exact ⟨δ, c1, G1, ρ1, hs.mono e1 p1, h1, q1⟩
end
theorem tD_chain {f g : S → S → Cs → R S} {r r' : R2} (hp : Prim2 T f r) (hp' : Prim2 T g r') {σ : St} {H : Hp} {Q : VK} (h : tD T W (mChain f g A B C) σ H Q) : tChain r r' (tD T W A) (tD T W B) (tD T W C) σ H Q := by
  obtain ⟨δ, c, G, ρ, hs, hh, p⟩ := h
  refine ⟨δ, c, G, ρ, hs, hh, (Post.bind (rel := SRep T) p).imp ?_⟩
  rintro v H1 ⟨x, c1, G1, ρ1, e1, p1, h1, r1, q1⟩
  refine ⟨δ, c1, G1, ρ1, hs.mono e1 p1, h1, (Post.bind (rel := SRep T) q1).imp ?_⟩
  rintro u H2 ⟨y, c2, G2, ρ2, e2, p2, h2, r2, q2⟩
  refine hp W σ G2 ρ2 H2 c2 x y v u _ h2 (r1.mono e2 p2) r2 ((Post.bind (rel := SRep T) q2).imp ?_)
  rintro z H3 ⟨w, c3, G3, ρ3, e3, p3, h3, r3, q3⟩
  obtain ⟨k, rfl, q⟩ := bl_of h3 r3 q3
  refine ⟨k, rfl, ?_⟩
  cases k with
  | false => exact q _ H3 G3 ρ3 (.refl _) (List.prefix_refl _) h3 SRep.bl
  | true =>
    refine ⟨δ, c3, G3, ρ3, ((hs.mono e1 p1).mono e2 p2).mono e3 p3, h3, (Post.bind (rel := SRep T) q).imp ?_⟩
    rintro t H4 ⟨w', c4, G4, ρ4, e4, p4, h4, r4, q4⟩
    exact hp' W σ G4 ρ4 H4 c4 y w' u t _ h4 ((r2.mono e3 p3).mono e4 p4) r4 q4
theorem dn_chain {op op' : CmpOp} {r r' : R2} {f g : S → S → Cs → R S} (ho : OpR X (compareOp op) r) (ho' : OpR X (compareOp op') r') (hp : Prim2 T f r) (hp' : Prim2 T g r') (ha : PE X a (tD T W A)) (hb : PE X b (tD T W B)) (hc : PE X c (tD T W C))
    (h : ∀ {ta tb tc : TE}, PE X a ta → PE X b tb → PE X c tc → PE X (.Compare a [op, op'] [b, c] pos) (tChain r r' ta tb tc)) : PE X (.Compare a [op, op'] [b, c] pos) (tD T W (mChain f g A B C)) :=
  PE.imp (h ha hb hc) fun _ _ _ h => tD_chain hp hp' h
end

/-! ### statements -/
def PostS (T : Tb) (W : WX) (G : Hp) (ρ : List Addr) (r : RS) (E : Ends) : Prop :=
  match r with
  | .nx δ c => ∀ σ' H' G' ρ', Ex G G' → ρ <+: ρ' → RelS T G' ρ' σ' δ → RelH T H' c G' ρ' → E.nx σ' H'
  | .bk δ c => ∀ σ' H' G' ρ', Ex G G' → ρ <+: ρ' → RelS T G' ρ' σ' δ → RelH T H' c G' ρ' → E.bk σ' H'
  | .ct δ c => ∀ σ' H' G' ρ', Ex G G' → ρ <+: ρ' → RelS T G' ρ' σ' δ → RelH T H' c G' ρ' → E.ct σ' H'
  | .rt s c => ∀ v H' G' ρ', Ex G G' → ρ <+: ρ' → SRep T G' ρ' s v → RelH T H' c G' ρ' → E.rt v H'
  | .ex k xs δ c => ∀ d σ' H' G' ρ', Ex G G' → ρ <+: ρ' → RelS T G' ρ' σ' δ → RelH T H' c G' ρ' → XRep T G' k xs d → W (.ref (T.cl k)) d σ' H'
  | .bad => False
theorem PostS.mono {T : Tb} {W : WX} {G G' : Hp} {ρ ρ' : List Addr} {r : RS} {E : Ends} (h : PostS T W G ρ r E) (e : Ex G G') (p : ρ <+: ρ') : PostS T W G' ρ' r E := by
  cases r with
  | nx δ c => exact fun σ' H' G'' ρ'' e' p' => h σ' H' G'' ρ'' (e.trans e') (p.trans p')
  | bk δ c => exact fun σ' H' G'' ρ'' e' p' => h σ' H' G'' ρ'' (e.trans e') (p.trans p')
  | ct δ c => exact fun σ' H' G'' ρ'' e' p' => h σ' H' G'' ρ'' (e.trans e') (p.trans p')
  | rt s c => exact fun σ' H' G'' ρ'' e' p' => h σ' H' G'' ρ'' (e.trans e') (p.trans p')
  | ex k xs δ c => exact fun d σ' H' G'' ρ'' e' p' => h d σ' H' G'' ρ'' (e.trans e') (p.trans p')
  | bad => exact h
/-- an expression's result, then f; an error keeps the slots -/
def R.andS {α : Type} (δ : Sl) : R α → (α → Cs → RS) → RS
  | .ok a c, f => f a c
  | .ex k xs c, _ => .ex k xs δ c
  | .bad, _ => .bad
def tS (T : Tb) (W : WX) (m : MS) : TS := fun E σ H => ∃ δ c G ρ, RelS T G ρ σ δ ∧ RelH T H c G ρ ∧ PostS T W G ρ (m δ c) E
section
variable {X : Cx} {T : Tb} {W : WX} {a b : Expr} {A B : M} {pos : Pos} {st : Stmt} {rest : List Stmt} {m m' : MS}
theorem PostS.andS {α β : Type} {rel : Hp → List Addr → α → β → Prop} {G : Hp} {ρ : List Addr} {r : R α} {f : α → Cs → RS} {σ : St} {δ : Sl} {E : Ends} (hs : RelS T G ρ σ δ) (h : PostS T W G ρ (r.andS δ f) E) :
    Post rel T W σ G ρ r (fun v H1 => ∃ a c G1 ρ1, Ex G G1 ∧ ρ <+: ρ1 ∧ RelH T H1 c G1 ρ1 ∧ rel G1 ρ1 a v ∧ PostS T W G1 ρ1 (f a c) E) := by
  cases r with
  | ok a c => exact fun v H' G' ρ' e p q z => ⟨a, c, G', ρ', e, p, q, z, PostS.mono (r := f a c) h e p⟩
  | ex k xs c => exact fun d H' G' ρ' e p q z => h d σ H' G' ρ' e p (hs.mono e p) q z
  | bad => exact h
def sNil : MS := fun δ c => .nx δ c
def sSeq (m m' : MS) : MS := fun δ c => match m δ c with
  | .nx δ c => m' δ c
  | r => r
theorem ss_nil : PSs X [] (tS T W sNil) := PSs.imp pss_nil fun E σ H ⟨δ, c, G, ρ, hs, hh, p⟩ => p σ H G ρ (.refl _) (List.prefix_refl _) hs hh
theorem ss_cons (h1 : PS X st (tS T W m)) (h2 : PSs X rest (tS T W m')) : PSs X (st :: rest) (tS T W (sSeq m m')) := by
  refine PSs.imp (pss_cons h1 h2) fun E σ H ⟨δ, c, G, ρ, hs, hh, p⟩ => ?_
  refine ⟨δ, c, G, ρ, hs, hh, ?_⟩
  unfold sSeq at p
  cases e : m δ c with
  | nx δ1 c1 =>
    simp only [e] at p
    exact fun σ' H' G' ρ' e1 p1 s1 h1 => ⟨δ1, c1, G', ρ', s1, h1, p.mono e1 p1⟩
  | bk δ1 c1 => simp only [e] at p; exact p
  | ct δ1 c1 => simp only [e] at p; exact p
  | rt s1 c1 => simp only [e] at p; exact p
  | ex k xs δ1 c1 => simp only [e] at p; exact p
  | bad => simp only [e] at p; exact p
theorem ss_one (h1 : PS X st (tS T W m)) : PSs X [st] (tS T W m) := pss_one h1
theorem ds_pass : PS X (.Pass pos) (tS T W sNil) := PS.imp ps_pass fun E σ H ⟨δ, c, G, ρ, hs, hh, p⟩ => p σ H G ρ (.refl _) (List.prefix_refl _) hs hh
def sBreak : MS := fun δ c => .bk δ c
def sCont : MS := fun δ c => .ct δ c
theorem ds_break : PS X (.Break pos) (tS T W sBreak) := PS.imp ps_break fun E σ H ⟨δ, c, G, ρ, hs, hh, p⟩ => p σ H G ρ (.refl _) (List.prefix_refl _) hs hh
theorem ds_cont : PS X (.Continue pos) (tS T W sCont) := PS.imp ps_continue fun E σ H ⟨δ, c, G, ρ, hs, hh, p⟩ => p σ H G ρ (.refl _) (List.prefix_refl _) hs hh
def sExpr (A : M) : MS := fun δ c => (A δ c).andS δ fun _ c => .nx δ c
theorem ds_expr (he : PE X a (tD T W A)) (hs : swapsWith a none pos.line X.env = pure false := by rfl) : PS X (.Expr a pos) (tS T W (sExpr A)) := by
  refine PS.imp (ps_expr he hs) fun E σ H ⟨δ, c, G, ρ, hs, hh, p⟩ => ?_
  refine ⟨δ, c, G, ρ, hs, hh, (PostS.andS (rel := SRep T) hs p).imp ?_⟩
  rintro v H1 ⟨s, c1, G1, ρ1, e1, p1, h1, r1, q1⟩
  exact q1 σ H1 G1 ρ1 (.refl _) (List.prefix_refl _) (hs.mono e1 p1) h1
def sRet (A : M) : MS := fun δ c => (A δ c).andS δ fun s c => .rt s c
theorem ds_ret (he : PE X a (tD T W A)) : PS X (.Return (some a) pos) (tS T W (sRet A)) := by
  refine PS.imp (ps_ret he) fun E σ H ⟨δ, c, G, ρ, hs, hh, p⟩ => ?_
  refine ⟨δ, c, G, ρ, hs, hh, (PostS.andS (rel := SRep T) hs p).imp ?_⟩
  rintro v H1 ⟨s, c1, G1, ρ1, e1, p1, h1, r1, q1⟩
  exact q1 v H1 G1 ρ1 (.refl _) (List.prefix_refl _) r1 h1
def sRetN : MS := fun δ c => .rt (.d .non) c
theorem ds_retN : PS X (.Return none pos) (tS T W sRetN) := PS.imp ps_retN fun E σ H ⟨δ, c, G, ρ, hs, hh, p⟩ => p _ H G ρ (.refl _) (List.prefix_refl _) SRep.non hh
def sIf (C : MT) (m m' : MS) : MS := fun δ c => (C δ c).andS δ fun k c => if k = true then m δ c else m' δ c
theorem ds_if {c : Expr} {x y : List Stmt} {C : MT} (hc : PT X c (tDT T W C)) (ha : PSs X x (tS T W m)) (hb : PSs X y (tS T W m')) : PS X (.If c x y pos) (tS T W (sIf C m m')) := by
  refine PS.imp (ps_if hc ha hb) fun E σ H ⟨δ, c, G, ρ, hs, hh, p⟩ => ?_
  refine ⟨δ, c, G, ρ, hs, hh, (PostS.andS (rel := relB) hs p).imp ?_⟩
  rintro v H1 ⟨k, c1, G1, ρ1, e1, p1, h1, r1, q1⟩
  have r1 : v = k := r1
  subst r1
  cases v with
  | true => exact ⟨δ, c1, G1, ρ1, hs.mono e1 p1, h1, q1⟩
  | false => exact ⟨δ, c1, G1, ρ1, hs.mono e1 p1, h1, q1⟩
def sSet (i : Nat) (A : M) : MS := fun δ c => (A δ c).andS δ fun s c => .nx (δ.set i (some s)) c
theorem tS_set {i : Nat} {E : Ends} {σ : St} {H : Hp} (h : tS T W (sSet i A) E σ H) : tAsg (tD T W A) (gName i) E σ H := by
  obtain ⟨δ, c, G, ρ, hs, hh, p⟩ := h
  refine ⟨δ, c, G, ρ, hs, hh, (PostS.andS (rel := SRep T) hs p).imp ?_⟩
  rintro v H1 ⟨s, c1, G1, ρ1, e1, p1, h1, r1, q1⟩
  exact q1 _ H1 G1 ρ1 (.refl _) (List.prefix_refl _) ((hs.mono e1 p1).set i r1) h1
theorem ds_set {i : Nat} {x : Str} {pos' : Pos} (hN : X.N.Nodup) (hi : X.N[i]? = some x) (hx : Loc X.env.scope x) (he : PE X a (tD T W A)) (hs : swapsWith a (some (.Name x pos')) pos.line X.env = pure false := by rfl) (hf : X.fn x = true ∨ X.env.scope.names.lookup x = some .local := by first | exact .inl rfl | exact .inr rfl | assumption) :
    PS X (.Assign [.Name x pos'] a pos) (tS T W (sSet i A)) := PS.imp (ps_set hN hi hx he hs hf) fun _ _ _ h => tS_set h
/-- targets that take data -/
abbrev GT := D → Sl → Option Sl
def tG (T : Tb) (g : GT) : TG := fun v σ H Q => ∃ d δ G ρ δ', Ex G H ∧ Rep T G d v ∧ RelS T G ρ σ δ ∧ g d δ = some δ' ∧ ∀ σ', RelS T G ρ σ' δ' → Q σ' H
theorem PG.imp {e : Expr} {t t' : TG} (h : PG X e t) (k : ∀ v σ H Q, t' v σ H Q → t v σ H Q) : PG X e t' := ⟨fun pins s σ H v u Q I r q => h.run pins s σ H v u Q I r (k v σ H Q q)⟩
def gtName (i : Nat) : GT := fun d δ => some (δ.set i (some (.d d)))
theorem tG_name {i : Nat} {v : V} {σ : St} {H : Hp} {Q : St → Hp → Prop} (h : tG T (gtName i) v σ H Q) : gName i v σ H Q := by
  obtain ⟨d, δ, G, ρ, δ', e, r, hs, hd, q⟩ := h
  cases hd
  exact q _ (hs.set i (s := .d d) r)
theorem dg_name {i : Nat} {x : Str} (hN : X.N.Nodup) (hi : X.N[i]? = some x) (hx : Loc X.env.scope x) (hf : X.fn x = true ∨ X.env.scope.names.lookup x = some .local := by first | exact .inl rfl | exact .inr rfl | assumption) : PG X (.Name x pos) (tG T (gtName i)) :=
  PG.imp (pg_name hN hi hx hf) fun _ _ _ _ h => tG_name h
/-- several -/
abbrev GTs := List D → Sl → Option Sl
def tGs (T : Tb) (g : GTs) : TGs := fun vs σ H Q => ∃ ds δ G ρ δ', Ex G H ∧ Reps T G ds vs ∧ RelS T G ρ σ δ ∧ g ds δ = some δ' ∧ ∀ σ', RelS T G ρ σ' δ' → Q σ' H
theorem PGs.imp {e : List Expr} {t t' : TGs} (h : PGs X e t) (k : ∀ v σ H Q, t' v σ H Q → t v σ H Q) : PGs X e t' := ⟨fun pins s σ H v u Q I r q => h.run pins s σ H v u Q I r (k v σ H Q q)⟩
def gtNil : GTs
  | [], δ => some δ
  | _ :: _, _ => none
def gtCons (g : GT) (gs : GTs) : GTs
  | [], _ => none
  | d :: ds, δ => match g d δ with
    | some δ => gs ds δ
    | none => none
theorem dgs_nil : PGs X [] (tGs T gtNil) := PGs.imp pgs_nil fun v σ H Q ⟨ds, δ, G, ρ, δ', e, r, hs, hd, q⟩ => by
  cases ds with
  | nil => cases hd; exact ⟨r.nil_inv, q _ hs⟩
  | cons _ _ => cases hd
theorem dgs_cons {e : Expr} {es : List Expr} {g : GT} {gs : GTs} (h1 : PG X e (tG T g)) (h2 : PGs X es (tGs T gs))
    (hs : (assignEach (e :: es) X.env).map (·.2) = assign e X.env :: (assignEach es X.env).map (·.2) := by rfl) : PGs X (e :: es) (tGs T (gtCons g gs)) := by
  refine PGs.imp (pgs_cons h1 h2 hs) fun v σ H Q ⟨ds, δ, G, ρ, δ', e, r, hs, hd, q⟩ => ?_
  cases ds with
  | nil => cases hd
  | cons d ds =>
    obtain ⟨v0, vr, rfl, r0, rr⟩ := r.cons_inv
    unfold gtCons at hd
    cases h : g d δ with
    | none => simp only [h] at hd; cases hd
    | some δ1 =>
      simp only [h] at hd
      exact ⟨v0, vr, rfl, d, δ, G, ρ, δ1, e, r0, hs, h, fun σ' s' => ⟨ds, δ1, G, ρ, δ', e, rr, s', hd, q⟩⟩
def gtTup (gs : GTs) : GT
  | .tup ds, δ => gs ds δ
  | _, _ => none
theorem gtlen : ∀ {gs : GTs} {n : Nat}, True := trivial
theorem dg_tup {es : List Expr} {k : Nat} {gs : GTs} {n : Nat} (hc : X.calm = true) (hT : X.K = T.K) (h : PGs X es (tGs T gs)) (hl : ∀ ds δ δ', gs ds δ = some δ' → ds.length = n)
    (hn : (assignEach es X.env).length = n := by rfl) (hst : (assignEach es X.env).findIdx? (·.1) = none := by rfl) : PG X (.Tuple es k pos) (tG T (gtTup gs)) := by
  refine PG.imp (pg_tup hc h hn hst) fun v σ H Q ⟨d, δ, G, ρ, δ', e, r, hs, hd, q⟩ => ?_
  cases d with
  | tup ds =>
    obtain ⟨p, vs, rfl, sq, l, rr⟩ := r.tup_inv
    have hd : gs ds δ = some δ' := hd
    exact ⟨p, vs, rfl, SqT.of (e _ _ sq), by rw [rr.length]; exact hl ds δ δ' hd, ds, δ, G, ρ, δ', e, rr, hs, hd, q⟩
  | _ => cases hd
theorem gtNil_len : ∀ ds δ δ', gtNil ds δ = some δ' → ds.length = 0 := fun ds δ δ' h => by
  cases ds with
  | nil => rfl
  | cons _ _ => cases h
theorem gtCons_len {g : GT} {gs : GTs} {n : Nat} (k : ∀ ds δ δ', gs ds δ = some δ' → ds.length = n) : ∀ ds δ δ', gtCons g gs ds δ = some δ' → ds.length = n + 1 := fun ds δ δ' h => by
  cases ds with
  | nil => cases h
  | cons d ds =>
    unfold gtCons at h
    cases e : g d δ with
    | none => simp only [e] at h; cases h
    | some δ1 => simp only [e] at h; simp [k ds δ1 δ' h]
/-- target = e, e's value is data -/
def sAsg (g : GT) (A : M) : MS := fun δ c => (A δ c).andS δ fun s c => match s with
  | .d x => match g x δ with
    | some δ => .nx δ c
    | none => .bad
  | _ => .bad
theorem ds_asg {tg : Expr} {g : GT} (he : PE X a (tD T W A)) (hg : PG X tg (tG T g)) (hs : swapsWithSole [tg] a pos.line X.env = pure false := by rfl) (hw : swappedStores [tg] a X.env = pure none := by rfl)
    (h1 : (assignEach [tg] X.env).map (·.2) = [assign tg X.env] := by rfl) : PS X (.Assign [tg] a pos) (tS T W (sAsg g A)) := by
  refine PS.imp (ps_asg he hg hs hw h1) fun E σ H ⟨δ, c, G, ρ, hs, hh, p⟩ => ?_
  refine ⟨δ, c, G, ρ, hs, hh, (PostS.andS (rel := SRep T) hs p).imp ?_⟩
  rintro v H1 ⟨s, c1, G1, ρ1, e1, p1, h1, r1, q1⟩
  cases s with
  | c n => exact q1.elim
  | x _ _ => exact q1.elim
  | d x =>
    cases h : g x δ with
    | none => simp only [h] at q1; exact q1.elim
    | some δ1 =>
      simp only [h] at q1
      exact ⟨x, δ, G1, ρ1, δ1, h1.ex, r1, hs.mono e1 p1, h, fun σ' s' => q1 σ' H1 G1 ρ1 (.refl _) (List.prefix_refl _) s' h1⟩
/-- a, b = x, y -/
def sPar (i j : Nat) (B : MA) : MS := fun δ c => (B δ c).andS δ fun ss c => match ss with
  | [x, y] => .nx ((δ.set i (some x)).set j (some y)) c
  | _ => .bad
theorem ds_par {i j : Nat} {x y : Str} {B : MA} {px py pt : Pos} {kt k2 pt2} (hc : X.calm = true) (hN : X.N.Nodup) (hi : X.N[i]? = some x) (hj : X.N[j]? = some y) (hij : i ≠ j)
    (hx : X.env.scope.names.lookup x = some .local) (hy : X.env.scope.names.lookup y = some .local) (ha : PA X [a, b] (tDA T W B))
    (hw : swappedStores [.Tuple [.Name x px, .Name y py] kt pt] (.Tuple [a, b] k2 pt2) X.env = pure (some [x, y]))
    (hs : swapsWithSole [.Tuple [.Name x px, .Name y py] kt pt] (.Tuple [a, b] k2 pt2) pos.line X.env = pure false := by rfl) :
    PS X (.Assign [.Tuple [.Name x px, .Name y py] kt pt] (.Tuple [a, b] k2 pt2) pos) (tS T W (sPar i j B)) := by
  refine PS.imp (ps_par hc hN hi hj hij hx hy ha hw hs) fun E σ H ⟨δ, c, G, ρ, hs, hh, p⟩ => ?_
  refine ⟨δ, c, G, ρ, hs, hh, (PostS.andS (rel := SReps T) hs p).imp ?_⟩
  rintro v H1 ⟨ss, c1, G1, ρ1, e1, p1, h1, r1, q1⟩
  cases r1 with
  | nil => exact q1.elim
  | cons r1 r2 =>
    cases r2 with
    | nil => exact q1.elim
    | cons r2 r3 =>
      cases r3 with
      | cons _ _ => exact q1.elim
      | nil => exact ⟨_, _, rfl, q1 _ H1 G1 ρ1 (.refl _) (List.prefix_refl _) (((hs.mono e1 p1).set i r1).set j r2) h1⟩

/-! ### what is walked -/
structure Walk (T : Tb) (G : Hp) (xs : List D) (J : It) : Prop where
  go : ∀ i H, Ex G H → i < xs.length → J.go i H
  stop : ∀ i H, Ex G H → xs.length ≤ i → J.stop i H
  yld : ∀ i H G1 x H', Ex G G1 → Ex G1 H → J.yld i H x H' → ∀ d, xs[i]? = some d → ∃ G2, Step G1 H G2 H' ∧ Rep T G2 d x
abbrev MI := Sl → Cs → R (List D)
abbrev relI (T : Tb) : Hp → List Addr → List D → It → Prop := fun G _ xs J => Walk T G xs J ∧ xs.length ≤ sizeLine
def tI (T : Tb) (W : WX) (m : MI) : TI := fun σ H Q => ∃ δ c G ρ, RelS T G ρ σ δ ∧ RelH T H c G ρ ∧ Post (relI T) T W σ G ρ (m δ c) Q
theorem PI.imp {tg e : Expr} {t t' : TI} (h : PI X tg e t) (k : ∀ σ H Q, t' σ H Q → t σ H Q) : PI X tg e t' := ⟨fun pins s σ H Q I q => h.run pins s σ H Q I (k σ H Q q)⟩
def loop (g : GT) (B : MS) : List D → MS
  | [], δ, c => .nx δ c
  | d :: ds, δ, c => match g d δ with
    | none => .bad
    | some δ => match B δ c with
      | .nx δ c => loop g B ds δ c
      | .ct δ c => loop g B ds δ c
      | .bk δ c => .nx δ c
      | r => r
def sFor (I : MI) (g : GT) (B : MS) : MS := fun δ c => (I δ c).andS δ fun xs c => loop g B xs δ c
theorem ds_for {tg iter : Expr} {body : List Stmt} {I : MI} {g : GT} (hp : PassesOwn (model X.prog X.w) X.A X.env X.xe) (hc : X.calm = true) (hi : PI X tg iter (tI T W I)) (hg : PG X tg (tG T g)) (hb : PSs X body (tS T W m))
    (hs : ∀ x, foldedSetIterable iter X.env x = pure x := by intro _; rfl) : PS X (.For tg iter body [] pos) (tS T W (sFor I g m)) := by
  refine PS.imp (ps_for hp hc hi hg hb hs) fun E σ H ⟨δ, c, G, ρ, hs, hh, p⟩ => ?_
  refine ⟨δ, c, G, ρ, hs, hh, (PostS.andS (rel := relI T) hs p).imp ?_⟩
  rintro J H1 ⟨xs, c1, G1, ρ1, e1, p1, h1, ⟨wk, hlen⟩, q1⟩
  refine ⟨fun i n σ H => n = xs.length - i ∧ i ≤ xs.length ∧ ∃ δ c G2 ρ2, Ex G1 G2 ∧ RelS T G2 ρ2 σ δ ∧ RelH T H c G2 ρ2 ∧ PostS T W G2 ρ2 (loop g m (xs.drop i) δ c) E,
    ⟨xs.length, by simp, Nat.zero_le _, δ, c1, G1, ρ1, .refl _, hs.mono e1 p1, h1, by simpa using q1⟩, ?_⟩
  rintro i n σ H ⟨rfl, hi, δ, c, G2, ρ2, e2, s2, h2, q2⟩
  by_cases hlt : i < xs.length
  · refine .inr ⟨wk.go i H (e2.trans h2.ex) hlt, fun σ' H' => i + 1 ≤ xs.length ∧ ∃ δ c G2 ρ2, Ex G1 G2 ∧ RelS T G2 ρ2 σ' δ ∧ RelH T H' c G2 ρ2 ∧ PostS T W G2 ρ2 (loop g m (xs.drop (i + 1)) δ c) E,
      fun σ' H' ⟨z1, z2⟩ => ⟨xs.length - (i + 1), by omega, rfl, z1, z2⟩, fun x H' y => ?_⟩
    obtain ⟨G3, st, rx⟩ := wk.yld i H G2 x H' e2 h2.ex y xs[i] (List.getElem?_eq_getElem hlt)
    rw [List.drop_eq_getElem_cons hlt] at q2
    unfold loop at q2
    cases hg : g xs[i] δ with
    | none => simp only [hg] at q2; exact q2.elim
    | some δ1 =>
      simp only [hg] at q2
      refine ⟨xs[i], δ, G3, ρ2, δ1, st.gh, rx, s2.mono st.g (List.prefix_refl _), hg, fun σ' s' => ?_⟩
      refine ⟨δ1, c, G3, ρ2, s', h2.step st, ?_⟩
      cases hm : m δ1 c with
      | nx δ3 c3 =>
        simp only [hm] at q2
        exact fun σ4 H4 G4 ρ4 e4 p4 s4 h4 => ⟨hlt, δ3, c3, G4, ρ4, (e2.trans st.g).trans e4, s4, h4, q2.mono (st.g.trans e4) p4⟩
      | ct δ3 c3 =>
        simp only [hm] at q2
        exact fun σ4 H4 G4 ρ4 e4 p4 s4 h4 => ⟨hlt, δ3, c3, G4, ρ4, (e2.trans st.g).trans e4, s4, h4, q2.mono (st.g.trans e4) p4⟩
      | bk δ3 c3 =>
        simp only [hm] at q2
        exact fun σ4 H4 G4 ρ4 e4 p4 s4 h4 => q2 σ4 H4 G4 ρ4 (st.g.trans e4) p4 s4 h4
      | rt s3 c3 => simp only [hm] at q2; exact q2.mono (E := E) st.g (List.prefix_refl _)
      | ex k ys δ3 c3 => simp only [hm] at q2; exact q2.mono (E := E) st.g (List.prefix_refl _)
      | bad => simp only [hm] at q2; exact q2
  · have e : i = xs.length := by omega
    subst e
    rw [List.drop_length] at q2
    exact .inl ⟨wk.stop _ H (e2.trans h2.ex) (Nat.le_refl _), q2 σ H G2 ρ2 (.refl _) (List.prefix_refl _) s2 h2⟩
def wloop (C : MT) (B : MS) : Nat → MS
  | 0, _, _ => .bad
  | n + 1, δ, c => (C δ c).andS δ fun k c => if k = true then (match B δ c with
      | .nx δ c => wloop C B n δ c
      | .ct δ c => wloop C B n δ c
      | .bk δ c => .nx δ c
      | r => r) else .nx δ c
theorem ds_while {c : Expr} {body : List Stmt} {C : MT} (n : Nat) (hp : PassesOwn (model X.prog X.w) X.A X.env X.xe) (hc : PT X c (tDT T W C)) (hb : PSs X body (tS T W m)) : PS X (.While c body [] pos) (tS T W (wloop C m n)) := by
  refine PS.imp (ps_while hp hc hb) fun E σ H ⟨δ, c, G, ρ, hs, hh, p⟩ => ?_
  refine ⟨fun n σ H => ∃ δ c G ρ, RelS T G ρ σ δ ∧ RelH T H c G ρ ∧ PostS T W G ρ (wloop C m n δ c) E, ⟨n, δ, c, G, ρ, hs, hh, p⟩, ?_⟩
  rintro n σ H ⟨δ, c, G, ρ, hs, hh, p⟩
  cases n with
  | zero => exact p.elim
  | succ n =>
    refine ⟨δ, c, G, ρ, hs, hh, (PostS.andS (rel := relB) hs p).imp ?_⟩
    rintro v H1 ⟨k, c1, G1, ρ1, e1, p1, h1, r1, q1⟩
    have r1 : v = k := r1
    subst r1
    cases v with
    | false => exact q1 σ H1 G1 ρ1 (.refl _) (List.prefix_refl _) (hs.mono e1 p1) h1
    | true =>
      refine ⟨fun σ H => ∃ δ c G ρ, RelS T G ρ σ δ ∧ RelH T H c G ρ ∧ PostS T W G ρ (wloop C m n δ c) E, fun σ' H' z => ⟨n, Nat.lt_succ_self n, z⟩, ?_⟩
      have q1 : PostS T W G1 ρ1 (match m δ c1 with
        | .nx δ c => wloop C m n δ c
        | .ct δ c => wloop C m n δ c
        | .bk δ c => .nx δ c
        | r => r) E := q1
      refine ⟨δ, c1, G1, ρ1, hs.mono e1 p1, h1, ?_⟩
      cases hm : m δ c1 with
      | nx δ3 c3 => simp only [hm] at q1; exact fun σ4 H4 G4 ρ4 e4 p4 s4 h4 => ⟨δ3, c3, G4, ρ4, s4, h4, q1.mono e4 p4⟩
      | ct δ3 c3 => simp only [hm] at q1; exact fun σ4 H4 G4 ρ4 e4 p4 s4 h4 => ⟨δ3, c3, G4, ρ4, s4, h4, q1.mono e4 p4⟩
      | bk δ3 c3 => simp only [hm] at q1; exact q1
      | rt s3 c3 => simp only [hm] at q1; exact q1
      | ex k ys δ3 c3 => simp only [hm] at q1; exact q1
      | bad => simp only [hm] at q1; exact q1
end
end Dn

end
section
/-! Dn3: defs and their calls, methods, fields, new objects. -/
namespace Dn
open PySem PySem.Spec PyProof.Rows L2

/-! ### leaving a def: its own cells become data -/
/-- kp: an own list that is handed back stays a cell, the caller's newest one -/
def exitR (kp : Bool) (n0 : Nat) : RS → R S
  | .nx _ c => .ok (.d .non) (c.take n0)
  | .rt (.c k) c => if k < n0 then .ok (.c k) (c.take n0) else match c[k]? with
    | some (.lst xs) => if kp = true then .ok (.c n0) (c.take n0 ++ [.lst xs]) else .ok (.d (.lst xs)) (c.take n0)
    | _ => .bad
  | .rt (.d x) c => .ok (.d x) (c.take n0)
  | .ex k xs _ c => .ex k xs (c.take n0)
  | _ => .bad
def fnG (kp : Bool) (np n : Nat) (body : MS) : List S → Cs → R S := fun ss c => if ss.length = np then exitR kp c.length (body (ss.map some ++ List.replicate (n - np) none) c) else .bad
abbrev fnD (np n : Nat) (body : MS) : List S → Cs → R S := fnG false np n body
abbrev fnK (np n : Nat) (body : MS) : List S → Cs → R S := fnG true np n body
def PostF (T : Tb) (G : Hp) (ρ : List Addr) (r : R S) (Q : VK) (E : XK) : Prop :=
  match r with
  | .ok s c => ∀ v H' G' ρ', Ex G G' → ρ <+: ρ' → RelH T H' c G' ρ' → SRep T G' ρ' s v → Q v H'
  | .ex k xs c => ∀ d H' G', Ex G G' → RelH T H' c G' ρ → XRep T G' k xs d → E (.ref (T.cl k)) d H'
  | .bad => False
def spD (T : Tb) (fn : List S → Cs → R S) : Sp := fun vs H Q E => ∃ ss c G ρ, SReps T G ρ ss vs ∧ RelH T H c G ρ ∧ PostF T G ρ (fn ss c) Q E
section
variable {T : Tb} {G G' H H' : Hp} {ρ ρ' : List Addr} {c c' : Cs} {σ : L2.St} {δ : Sl} {Q : VK} {E : XK}
theorem RelH.take (r : RelH T H c G ρ') (p : ρ <+: ρ') : RelH T H (c.take ρ.length) G ρ := by
  obtain ⟨t, rfl⟩ := p
  have hl := r.len
  rw [List.length_append] at hl
  refine ⟨r.ex, by rw [List.length_take]; omega, r.nd.sublist (List.sublist_append_left _ _), fun i q x a b => ?_⟩
  have hi : i < ρ.length := (List.getElem?_eq_some_iff.mp a).1
  rw [List.getElem?_take_of_lt hi] at b
  obtain ⟨g, k⟩ := r.at_ i q x (by rw [List.getElem?_append_left hi]; exact a) b
  rw [List.take_append_of_le_length (by omega)] at k
  exact ⟨g, k⟩
theorem RelH.frozen {p : Addr} {o : HO} {k : Nat} (r : RelH T H c G ρ') (pr : ρ <+: ρ') (hk : ρ.length ≤ k) (hp : ρ'[k]? = some p) (ho : H p = some o) (hg : G p = none) : Ex G (upd G p o) ∧ RelH T H (c.take ρ.length) (upd G p o) ρ := by
  have e : Ex G (upd G p o) := Ex.new hg
  have r1 := r.take pr
  refine ⟨e, ⟨fun a u q => ?_, r1.len, r1.nd, fun i q x a b => ?_⟩⟩
  · by_cases z : a = p
    · subst z; rw [upd_same] at q; cases q; exact ho
    · rw [upd_ne z] at q; exact r.ex a u q
  · obtain ⟨g, k1⟩ := r1.at_ i q x a b
    have hi : i < ρ.length := (List.getElem?_eq_some_iff.mp a).1
    have ne : q ≠ p := by
      intro z
      subst z
      have a' : ρ'[i]? = some q := pre_get pr a
      obtain ⟨h1, e1⟩ := List.getElem?_eq_some_iff.mp a'
      obtain ⟨h2, e2⟩ := List.getElem?_eq_some_iff.mp hp
      have := (List.getElem_inj r.nd).mp (e1.trans e2.symm)
      omega
    refine ⟨by rw [upd_ne ne]; exact g, ?_⟩
    exact k1.keep e rfl (List.prefix_refl _)
/-- an own cell at the end of the def stays one of the caller's -/
theorem RelH.kept {p : Addr} {xs : List D} {k : Nat} (r : RelH T H c G ρ') (pr : ρ <+: ρ') (hk : ρ.length ≤ k) (hp : ρ'[k]? = some p) (hx : c[k]? = some (.lst xs)) : RelH T H (c.take ρ.length ++ [.lst xs]) G (ρ ++ [p]) := by
  have r1 := r.take pr
  have hl : (c.take ρ.length).length = ρ.length := r1.len.symm
  refine ⟨r1.ex, by simp [hl], ?_, fun i q y a b => ?_⟩
  · rw [List.nodup_append]
    refine ⟨r1.nd, by simp, fun a ha b hb => ?_⟩
    rw [List.mem_singleton] at hb
    subst hb
    intro e
    subst e
    obtain ⟨i, hi⟩ := List.getElem?_of_mem ha
    have hil : i < ρ.length := (List.getElem?_eq_some_iff.mp hi).1
    obtain ⟨h1, e1⟩ := List.getElem?_eq_some_iff.mp (pre_get pr hi)
    obtain ⟨h2, e2⟩ := List.getElem?_eq_some_iff.mp hp
    have := (List.getElem_inj r.nd).mp (e1.trans e2.symm)
    omega
  · by_cases hi : i < ρ.length
    · rw [List.getElem?_append_left hi] at a
      rw [List.getElem?_append_left (by omega)] at b
      rw [List.take_append_of_le_length (by omega)]
      exact r1.at_ i q y a b
    · rw [List.getElem?_append_right (by omega)] at a
      rw [List.getElem?_append_right (by omega), hl] at b
      cases hz : i - ρ.length with
      | succ n => rw [hz] at a; simp at a
      | zero =>
        rw [hz] at a b
        simp at a b
        subst a; subst b
        obtain ⟨g, z⟩ := r.at_ k _ _ hp hx
        exact ⟨g, z⟩
theorem exit_ok {kp : Bool} {r : RS} (h : PostF T G ρ (exitR kp ρ.length r) Q E) : PostS T (fun cls d _ H => E cls d H) G ρ r { nx := fun _ H' => Q .non H', rt := Q } := by
  cases r with
  | nx δ c => exact fun σ' H' G' ρ' e p rs rh => h .non H' G' ρ e (List.prefix_refl _) (rh.take p) SRep.non
  | bk δ c => exact False.elim h
  | ct δ c => exact False.elim h
  | bad => exact h
  | ex k xs δ c => exact fun d σ' H' G' ρ' e p rs rh x => h d H' G' e (rh.take p) x
  | rt s c =>
    cases s with
    | x _ _ => exact h.elim
    | d x => exact fun v H' G' ρ' e p rs rh => h v H' G' ρ e (List.prefix_refl _) (rh.take p) rs
    | c k =>
      unfold exitR at h
      by_cases hk : k < ρ.length
      · simp only [hk, if_true] at h
        rintro v H' G' ρ' e p ⟨q, hq, rfl⟩ rh
        refine h _ H' G' ρ e (List.prefix_refl _) (rh.take p) ⟨q, ?_, rfl⟩
        obtain ⟨t, rfl⟩ := p
        rw [List.getElem?_append_left hk] at hq
        exact hq
      · simp only [hk, if_false] at h
        cases hc : c[k]? with
        | none => simp only [hc] at h; exact h.elim
        | some x =>
          cases x with
          | lst xs =>
            simp only [hc] at h
            rintro v H' G' ρ' e p ⟨q, hq, rfl⟩ rh
            by_cases hkp : kp = true
            · rw [if_pos hkp] at h
              exact h _ H' G' (ρ ++ [q]) e (List.prefix_append _ _) (rh.kept p (by omega) hq hc) ⟨q, by simp, rfl⟩
            · rw [if_neg hkp] at h
              obtain ⟨g, vs, ho, hl, rr⟩ := rh.at_ k q _ hq hc
              obtain ⟨e2, r2⟩ := rh.frozen p (by omega) hq ho g
              exact h _ H' _ ρ (e.trans e2) (List.prefix_refl _) r2 (Rep.lst upd_same hl (Reps.mono e2 _ _ rr))
          | dct _ => simp only [hc] at h; exact h.elim
          | lS _ => simp only [hc] at h; exact h.elim
          | tS _ => simp only [hc] at h; exact h.elim
          | obj _ _ => simp only [hc] at h; exact h.elim
theorem SReps.start {ss : List S} {vs : List V} {N : List Str} {np : Nat} (r : SReps T G ρ ss vs) (h : ss.length = np) : RelS T G ρ (L2.start N vs) (ss.map some ++ List.replicate (N.length - np) none) := by
  have hl := r.length
  refine ⟨by simp [L2.start, hl, h], fun i s e => ?_⟩
  unfold L2.start
  by_cases hi : i < ss.length
  · rw [List.getElem?_append_left (by simpa using hi), List.getElem?_map] at e
    have aux : ∀ {ss : List S} {vs : List V}, SReps T G ρ ss vs → ∀ (i : Nat) (s : S), ss[i]? = some s → ∃ v, vs[i]? = some v ∧ SRep T G ρ s v := by
      intro ss vs r
      induction r with
      | nil => intro i s e; simp at e
      | cons a _ ih =>
        intro i s e
        cases i with
        | zero => simp at e; subst e; exact ⟨_, rfl, a⟩
        | succ i => simpa using ih i s (by simpa using e)
    cases e2 : ss[i]? with
    | none => rw [e2] at e; cases e
    | some s2 =>
      rw [e2] at e
      cases e
      obtain ⟨v, hv, rv⟩ := aux r i _ e2
      exact ⟨v, by rw [List.getElem?_append_left (by simp [hl]; exact hi), List.getElem?_map, hv]; rfl, rv⟩
  · rw [List.getElem?_append_right (by simpa using hi)] at e
    rw [List.getElem?_replicate] at e
    split at e <;> cases e
end

section
variable {P : Program} {w : World} {K : PySem.W.Frag} {mg : Str → Option Value} {base : Heap} {T : Tb}
/-- a def keeps to its function -/
theorem fn_ok {kp : Bool} {x qual : Str} {st : Stmt} {f : Addr} {fd : FuncData} {N ps : List Str} {k : Nat} {body : MS} (F : Fun K x qual st f fd) (S : FnScope N ps (defScope st))
    (hbody : ∀ (cdv : Value) (A : Around) (outer : List Env) (s : Shared) (H : Hp) (E : XK), Room k (A.deeper (envOfC qual (defScope st) s.heap.objs.size f cdv)) →
      PSs (cxOf (L2.CX P w) P w K mg base N qual (defScope st) f cdv A outer s H E) (defBody st) (tS T (fun cls d _ H => E cls d H) body)) : FnOk P w K mg base (L2.CX P w) (k + 1) f fd ps (spD T (fnG kp ps.length N.length body)) := by
  refine F.okX S ?_ ?_
  · rintro vs H Q E ⟨ss, c, G, ρ, rs, rh, p⟩
    rw [rs.length]
    unfold fnG at p
    by_cases h : ss.length = ps.length
    · exact h
    · rw [if_neg h] at p; exact p.elim
  · rintro cdv A outer s H vs Q E hr ⟨ss, c, G, ρ, rs, rh, p⟩
    refine ⟨_, hbody cdv A outer s H E hr, ?_⟩
    unfold fnG at p
    by_cases h : ss.length = ps.length
    · rw [if_pos h] at p
      refine ⟨_, c, G, ρ, rs.start h, rh, ?_⟩
      rw [← rh.len] at p
      exact exit_ok p
    · rw [if_neg h] at p; exact p.elim
/-- the def x of the module keeps to fn, by level k -/
def FnAt (P : Program) (w : World) (K : PySem.W.Frag) (mg : Str → Option Value) (base : Heap) (T : Tb) (x : Str) (k : Nat) (fn : List S → Cs → R S) : Prop :=
  ∃ f fd ps, FnOk P w K mg base (L2.CX P w) k f fd ps (spD T fn) ∧ mg x = some (.ref f) ∧ PySem.W.keepIn K (.ref f) = true ∧ Binds K fd ps []
/-- the method m of class c keeps to fn -/
def MethAt (P : Program) (w : World) (K : PySem.W.Frag) (mg : Str → Option Value) (base : Heap) (T : Tb) (m : Str) (c : Nat) (k : Nat) (fn : List S → Cs → R S) : Prop :=
  ∃ f fd ps, FnOk P w K mg base (L2.CX P w) k f fd ps (spD T fn) ∧ Meth K (T.cl c) m f ∧ Cls K (T.cl c) ∧ m ∉ T.fl c ∧ Binds K fd ps []
/-- the class x, number c, is made by fn, its __init__ (its defaults ds) -/
def MakeAt (P : Program) (w : World) (K : PySem.W.Frag) (mg : Str → Option Value) (base : Heap) (T : Tb) (x : Str) (c : Nat) (nf : Nat) (k : Nat) (fn : List S → Cs → R S) : Prop :=
  ∃ f fd ps, FnOk P w K mg base (L2.CX P w) k f fd ps (spD T fn) ∧ Mk K (T.cl c) f ∧ mg x = some (.ref (T.cl c)) ∧ (T.fl c).length = nf ∧ Binds K fd ps []
end

section
variable {X : Cx} {T : Tb} {W : WX} {a b o e : Expr} {es : List Expr} {A B : M} {pos p apos : Pos} {fn : List S → Cs → R S} {k : Nat}
theorem PostF.of {G : Hp} {ρ : List Addr} {σ : L2.St} {r : R S} {Q : VK} (h : Post (SRep T) T W σ G ρ r Q) : PostF T G ρ r Q (WE W σ) := by
  cases r with
  | ok s c => exact fun v H' G' ρ' e p rh rs => h v H' G' ρ' e p rh rs
  | ex k xs c => exact fun d H' G' e rh x => h d H' G' ρ e (List.prefix_refl _) rh x
  | bad => exact h
theorem dn_call {x : Str} {B : MA} (hf : FnAt X.prog X.w X.K X.mg X.base T x k fn) (hr : Room k X.A) (tk : Takes X W) (hg : Gl X x) (ha : PA X (e :: es) (tDA T W B)) (hdb : (x == ("__debug__" : Str)) = false := by decide)
    (he : starEach (e :: es) X.env = (false, eval e X.env) :: starEach es X.env := by rfl) (hpl : (backTo pos (starEach es X.env)).any (·.1) = false := by rfl) : PE X (.Call (.Name x p) (e :: es) [] pos) (tD T W (mBlt fn B)) := by
  obtain ⟨f, fd, ps, F, hm, hk, hb⟩ := hf
  refine PE.imp (pe_callS (E := WE W) F hr hg hm hk hb (fun σ => passAt tk σ) ha hdb he hpl) fun σ H Q ⟨δ, c, G, ρ, hs, hh, p⟩ => ?_
  refine ⟨δ, c, G, ρ, hs, hh, (Post.bind (rel := SReps T) p).imp ?_⟩
  rintro v H1 ⟨ss, c1, G1, ρ1, e1, p1, h1, r1, q1⟩
  exact ⟨ss, c1, G1, ρ1, r1, h1, PostF.of q1⟩
/-- f() -/
theorem dn_call0 {x : Str} (hf : FnAt X.prog X.w X.K X.mg X.base T x k fn) (hr : Room k X.A) (tk : Takes X W) (hg : Gl X x) (hdb : (x == ("__debug__" : Str)) = false := by decide) : PE X (.Call (.Name x p) [] [] pos) (tD T W (mBlt fn mNil)) := by
  obtain ⟨f, fd, ps, F, hm, hk, hb⟩ := hf
  refine ⟨fun pins s σ H Q I ⟨δ, c, G, ρ, hs, hh, p⟩ => ?_⟩
  refine wpAny_Call_Name_kw (ld_glob I hg hm ?_ hdb)
  exact PySem.W.callWith_K0 I.kIn hk (run_fnS (E := WE W) (us := []) (vs := []) F hr hb (passAt tk σ) I .nil ⟨[], c, G, ρ, .nil, hh, PostF.of p⟩)

/-! ### methods -/
def look {α : Type} : List (Nat × α) → Nat → Option α
  | [], _ => none
  | (k, a) :: r, n => if k = n then some a else look r n
theorem look_mem {α : Type} {l : List (Nat × α)} {n : Nat} {a : α} (h : look l n = some a) : (n, a) ∈ l := by
  induction l with
  | nil => cases h
  | cons q r ih =>
    obtain ⟨k, b⟩ := q
    unfold look at h
    by_cases z : k = n
    · rw [if_pos z] at h; cases h; subst z; exact List.mem_cons_self
    · rw [if_neg z] at h; exact List.mem_cons_of_mem _ (ih h)
def mMeth (tbl : List (Nat × (List S → Cs → R S))) (A : M) (B : MA) : M := fun δ c => (A δ c).bind fun o c => match deref o c with
  | some (.obj k _) => match look tbl k with
    | some fn => (B δ c).bind fun ss c => fn (o :: ss) c
    | none => .bad
  | _ => .bad
inductive MethsAt (P : Program) (w : World) (K : PySem.W.Frag) (mg : Str → Option Value) (base : Heap) (T : Tb) (m : Str) (k : Nat) : List (Nat × (List S → Cs → R S)) → Prop
  | nil : MethsAt P w K mg base T m k []
  | cons {c j : Nat} {fn : List S → Cs → R S} {l : List (Nat × (List S → Cs → R S))} : MethAt P w K mg base T m c j fn → j ≤ k → MethsAt P w K mg base T m k l → MethsAt P w K mg base T m k ((c, fn) :: l)
theorem MethsAt.get {P : Program} {w : World} {K : PySem.W.Frag} {mg : Str → Option Value} {base : Heap} {T : Tb} {m : Str} {k : Nat} {l : List (Nat × (List S → Cs → R S))} (h : MethsAt P w K mg base T m k l) {c : Nat} {fn : List S → Cs → R S} (hm : (c, fn) ∈ l) :
    ∃ j, j ≤ k ∧ MethAt P w K mg base T m c j fn := by
  induction h with
  | nil => cases hm
  | cons a b _ ih =>
    cases hm with
    | head => exact ⟨_, b, a⟩
    | tail _ hm => exact ih hm
theorem lookup_none {fv : List (Str × V)} {m : Str} (h : m ∉ fv.map (·.1)) : fv.lookup m = none := by
  induction fv with
  | nil => rfl
  | cons q r ih =>
    obtain ⟨g, v⟩ := q
    simp only [List.map_cons, List.mem_cons, not_or] at h
    have hb : (m == g) = false := beq_eq_false_iff_ne.mpr h.1
    simp only [List.lookup, hb]
    exact ih h.2
theorem dn_meth {m : Str} {pl : Sem Bool} {B : MA} {tbl : List (Nat × (List S → Cs → R S))} (he : PE X o (tD T W A)) (hf : MethsAt X.prog X.w X.K X.mg X.base T m k tbl) (hr : Room k X.A) (tk : Takes X W) (ha : PA X (e :: es) (tDA T W B))
    (hst : starEach (e :: es) X.env = (false, eval e X.env) :: starEach es X.env := by rfl) (hpl : (backTo pos (starEach es X.env)).any (·.1) = false := by rfl)
    (ht : eval (.Call (.Attribute o m apos) (e :: es) [] pos) X.env = (do
      let ov ← eval o X.env
      standAt apos.atName
      let (f, first) ← holding [ov] (getMethod ov m pl)
      callWith pos f first (backTo pos (starEach (e :: es) X.env)) (backToKw pos (keywordEach [] X.env))) := by rfl) :
    PE X (.Call (.Attribute o m apos) (e :: es) [] pos) (tD T W (mMeth tbl A B)) := by
  refine ⟨fun pins s σ H Q I ⟨δ, c, G, ρ, hs, hh, p⟩ => ?_⟩
  refine PySem.W.methodCall_KW (pl := pl) (thn (he.run pins s σ H _ I ⟨δ, c, G, ρ, hs, hh, Post.bind (rel := SRep T) p⟩) ?_) ht
  rintro u s1 ⟨x, H1, I1, rx, sv, c1, G1, ρ1, e1, p1, h1, r1, q1⟩
  cases hd : deref sv c1 with
  | none => simp only [hd] at q1; exact q1.elim
  | some d =>
    cases d with
    | obj k2 xs =>
      simp only [hd] at q1
      cases hl : look tbl k2 with
      | none => simp only [hl] at q1; exact q1.elim
      | some fn =>
        simp only [hl] at q1
        obtain ⟨j, hj, f, fd, ps, F, hm, hc, nf, hb⟩ := hf.get (look_mem hl)
        obtain ⟨a, dx, fv, rfl, ea, hfl, rr⟩ := deref_view h1 r1 hd
        obtain rfl : u = Value.ref a := rx
        refine getmeth_ok I1 ea hc hm (lookup_none (by rw [hfl]; exact fun z => nf (List.mem_of_mem_take z))) ?_
        refine PySem.W.callWith_K (first := [.ref a]) (h₀ := X.base) I.ok.mod.kin hm.kp (thn (ha.run pos pins s1 σ H1 _ I1 ⟨δ, c1, G1, ρ1, hs.mono e1 p1, h1, Post.bind (rel := SReps T) q1⟩) ?_) hst hpl
        rintro us s2 ⟨vs, H2, I2, r, ss, c2, G2, ρ2, e2, p2, h2, r2, q2⟩
        exact ⟨I2.kIn, run_fnS (E := WE W) (us := .ref a :: us) (vs := .ref a :: vs) F (hr.mono hj) hb (passAt tk σ) I2 (.cons rfl r) ⟨sv :: ss, c2, G2, ρ2, .cons (r1.mono e2 p2) r2, h2, PostF.of q2⟩⟩
    | _ => simp only [hd] at q1; exact q1.elim
theorem dn_meth0 {m : Str} {pl : Sem Bool} {tbl : List (Nat × (List S → Cs → R S))} (he : PE X o (tD T W A)) (hf : MethsAt X.prog X.w X.K X.mg X.base T m k tbl) (hr : Room k X.A) (tk : Takes X W)
    (ht : eval (.Call (.Attribute o m apos) [] [] pos) X.env = (do
      let ov ← eval o X.env
      standAt apos.atName
      let (f, first) ← holding [ov] (getMethod ov m pl)
      callWith pos f first (backTo pos (starEach [] X.env)) (backToKw pos (keywordEach [] X.env))) := by rfl) :
    PE X (.Call (.Attribute o m apos) [] [] pos) (tD T W (mMeth tbl A mNil)) := by
  refine ⟨fun pins s σ H Q I ⟨δ, c, G, ρ, hs, hh, p⟩ => ?_⟩
  refine PySem.W.methodCall_KW (pl := pl) (thn (he.run pins s σ H _ I ⟨δ, c, G, ρ, hs, hh, Post.bind (rel := SRep T) p⟩) ?_) ht
  rintro u s1 ⟨x, H1, I1, rx, sv, c1, G1, ρ1, e1, p1, h1, r1, q1⟩
  cases hd : deref sv c1 with
  | none => simp only [hd] at q1; exact q1.elim
  | some d =>
    cases d with
    | obj k2 xs =>
      simp only [hd] at q1
      cases hl : look tbl k2 with
      | none => simp only [hl] at q1; exact q1.elim
      | some fn =>
        simp only [hl] at q1
        obtain ⟨j, hj, f, fd, ps, F, hm, hc, nf, hb⟩ := hf.get (look_mem hl)
        obtain ⟨a, dx, fv, rfl, ea, hfl, rr⟩ := deref_view h1 r1 hd
        obtain rfl : u = Value.ref a := rx
        refine getmeth_ok I1 ea hc hm (lookup_none (by rw [hfl]; exact fun z => nf (List.mem_of_mem_take z))) ?_
        exact PySem.W.callWith_K0 (first := [.ref a]) I1.kIn hm.kp (run_fnS (E := WE W) (us := [.ref a]) (vs := [.ref a]) F (hr.mono hj) hb (passAt tk σ) I1 (.cons rfl .nil) ⟨[sv], c1, G1, ρ1, .cons r1 .nil, h1, PostF.of q1⟩)
    | _ => simp only [hd] at q1; exact q1.elim

/-! ### fields -/
def FldAt (K : PySem.W.Frag) (T : Tb) (f : Str) (c i : Nat) : Prop := Cls K (T.cl c) ∧ NoAttr K (T.cl c) f ∧ (T.fl c)[i]? = some f ∧ (T.fl c).Nodup ∧ (T.fl c).length < 900
inductive FldsAt (K : PySem.W.Frag) (T : Tb) (f : Str) : List (Nat × Nat) → Prop
  | nil : FldsAt K T f []
  | cons {c i : Nat} {l : List (Nat × Nat)} : FldAt K T f c i → FldsAt K T f l → FldsAt K T f ((c, i) :: l)
theorem FldsAt.get {K : PySem.W.Frag} {T : Tb} {f : Str} {l : List (Nat × Nat)} (h : FldsAt K T f l) {c i : Nat} (hm : (c, i) ∈ l) : FldAt K T f c i := by
  induction h with
  | nil => cases hm
  | cons a _ ih =>
    cases hm with
    | head => exact a
    | tail _ hm => exact ih hm
theorem lookup_at : ∀ {fv : List (Str × V)} {i : Nat} {f : Str} {v : V}, (fv.map (·.1)).Nodup → (fv.map (·.1))[i]? = some f → (fv.map (·.2))[i]? = some v → fv.lookup f = some v
  | [], i, _, _, _, h, _ => by simp at h
  | (g, x) :: r, 0, f, v, nd, h, k => by
    simp at h k; subst h; subst k
    have hb : (g == g) = true := beq_iff_eq.mpr rfl
    simp only [List.lookup, hb]
  | (g, x) :: r, i + 1, f, v, nd, h, k => by
    simp only [List.map_cons, List.nodup_cons] at nd
    have h' : (r.map (·.1))[i]? = some f := by simpa using h
    have ne : ¬ f = g := fun z => nd.1 (z ▸ List.mem_of_getElem? h')
    have hb : (f == g) = false := beq_eq_false_iff_ne.mpr ne
    simp only [List.lookup, hb]
    exact lookup_at nd.2 h' (by simpa using k)
def mAttr (tbl : List (Nat × Nat)) (A : M) : M := fun δ c => (A δ c).bind fun o c => match deref o c with
  | some (.obj k xs) => match look tbl k with
    | some i => match xs[i]? with
      | some x => .ok (.d x) c
      | none => .bad
    | none => .bad
  | _ => .bad
theorem nd_take {l : List Str} (h : l.Nodup) (n : Nat) : (l.take n).Nodup := h.sublist (List.take_sublist n l)
theorem dn_attr {f : Str} {tbl : List (Nat × Nat)} (hT : X.K = T.K) (he : PE X o (tD T W A)) (hf : FldsAt X.K T f tbl) (hb : attributeBase o f X.env (eval o X.env) = eval o X.env) : PE X (.Attribute o f pos) (tD T W (mAttr tbl A)) := by
  refine PE.imp (pe_fld he hb) fun σ H Q ⟨δ, c, G, ρ, hs, hh, p⟩ => ?_
  refine ⟨δ, c, G, ρ, hs, hh, (Post.bind (rel := SRep T) p).imp ?_⟩
  rintro v H1 ⟨sv, c1, G1, ρ1, e1, p1, h1, r1, q1⟩
  cases hd : deref sv c1 with
  | none => simp only [hd] at q1; exact q1.elim
  | some d =>
    cases d with
    | obj k2 xs =>
      simp only [hd] at q1
      cases hl : look tbl k2 with
      | none => simp only [hl] at q1; exact q1.elim
      | some i =>
        simp only [hl] at q1
        cases hx : xs[i]? with
        | none => simp only [hx] at q1; exact q1.elim
        | some x =>
          simp only [hx] at q1
          obtain ⟨hc, hn, hi, nd, hlen⟩ := hf.get (look_mem hl)
          obtain ⟨a, dx, fv, rfl, ea, hfl, rr⟩ := deref_view h1 r1 hd
          obtain ⟨w, hw, rw'⟩ := rr.get hx
          have hil : i < xs.length := (List.getElem?_eq_some_iff.mp hx).1
          refine ⟨a, T.cl k2, dx, fv, w, rfl, ea, hc, hn, lookup_at (i := i) (by rw [hfl]; exact nd_take nd _) ?_ hw, q1 w H1 G1 ρ1 (.refl _) (List.prefix_refl _) h1 rw'⟩
          rw [hfl, List.getElem?_take_of_lt hil]
          exact hi
    | _ => simp only [hd] at q1; exact q1.elim
/-- o.f = e, o an object that is being made (a cell) -/
def setF (i : Nat) (x : D) (xs : List D) : Option (List D) := if i < xs.length then some (xs.set i x) else if i = xs.length then some (xs ++ [x]) else none
def sFldSet (tbl : List (Nat × Nat)) (A V : M) : MS := fun δ c => (V δ c).andS δ fun s c => (A δ c).andS δ fun o c => match s, o with
  | .d x, .c n => match c[n]? with
    | some (.obj k xs) => match look tbl k with
      | some i => match setF i x xs with
        | some ys => .nx δ (c.set n (.obj k ys))
        | none => .bad
      | none => .bad
    | _ => .bad
  | _, _ => .bad
theorem putF_new {f : Str} {v : V} : ∀ {fv : List (Str × V)}, f ∉ fv.map (·.1) → putF f v fv = fv ++ [(f, v)]
  | [], _ => rfl
  | (g, x) :: r, h => by
    simp only [List.map_cons, List.mem_cons, not_or] at h
    show (if g = f then (g, v) :: r else (g, x) :: putF f v r) = _
    rw [if_neg (Ne.symm h.1), putF_new h.2]
    rfl
theorem putF_old {f : Str} {v : V} : ∀ {fv : List (Str × V)} {i : Nat}, (fv.map (·.1)).Nodup → (fv.map (·.1))[i]? = some f → (putF f v fv).map (·.1) = fv.map (·.1) ∧ (putF f v fv).map (·.2) = (fv.map (·.2)).set i v
  | [], i, _, h => by simp at h
  | (g, x) :: r, 0, nd, h => by
    simp at h; subst h
    show List.map _ (if g = g then (g, v) :: r else (g, x) :: putF g v r) = _ ∧ _
    rw [if_pos rfl]
    refine ⟨rfl, ?_⟩
    show List.map _ (if g = g then (g, v) :: r else (g, x) :: putF g v r) = _
    rw [if_pos rfl]; rfl
  | (g, x) :: r, i + 1, nd, h => by
    simp only [List.map_cons, List.nodup_cons] at nd
    have h' : (r.map (·.1))[i]? = some f := by simpa using h
    have ne : ¬ g = f := fun z => nd.1 (z ▸ List.mem_of_getElem? h')
    obtain ⟨i1, i2⟩ := putF_old (v := v) nd.2 h'
    have e : putF f v ((g, x) :: r) = (g, x) :: putF f v r := by
      show (if g = f then (g, v) :: r else (g, x) :: putF f v r) = _
      rw [if_neg ne]
    rw [e]
    exact ⟨by simp [i1], by simp [i2]⟩
theorem RelH.cell {H : Hp} {c : Cs} {G : Hp} {ρ : List Addr} (r : RelH T H c G ρ) {n : Nat} {p : Addr} {ob : HO} {x : CC} (hp : ρ[n]? = some p) (hx : ∀ H', H' p = some ob → Ex G H' → CellOk T G H' (ρ.take n) p x) : RelH T (upd H p ob) (c.set n x) G ρ := by
  have hn : n < ρ.length := (List.getElem?_eq_some_iff.mp hp).1
  have hc : n < c.length := by rw [← r.len]; exact hn
  obtain ⟨y, hy⟩ : ∃ y, c[n]? = some y := ⟨c[n], List.getElem?_eq_getElem hc⟩
  obtain ⟨g, _⟩ := r.at_ n p y hp hy
  have ex' : Ex G (upd H p ob) := fun a u q => by
    rw [upd_ne (ne_of_none q g)]
    exact r.ex a u q
  refine ⟨ex', by simp [r.len], r.nd, fun i q z a b => ?_⟩
  by_cases hi : n = i
  · subst hi
    rw [List.getElem?_set_self hc] at b
    cases b
    rw [hp] at a; cases a
    exact ⟨g, hx _ upd_same ex'⟩
  · rw [List.getElem?_set_ne hi] at b
    obtain ⟨g2, k⟩ := r.at_ i q z a b
    have ne : q ≠ p := by
      intro e
      subst e
      obtain ⟨h1, e1⟩ := List.getElem?_eq_some_iff.mp a
      obtain ⟨h2, e2⟩ := List.getElem?_eq_some_iff.mp hp
      exact hi ((List.getElem_inj r.nd).mp (e1.trans e2.symm)).symm
    exact ⟨g2, k.keep (.refl _) (upd_ne ne) (List.prefix_refl _)⟩
theorem ds_fld {f : Str} {tbl : List (Nat × Nat)} {VV : M} {value : Expr} {pos' : Pos} (ha : PE X o (tD T W A)) (hv : PE X value (tD T W VV)) (hf : FldsAt X.K T f tbl) (hs : swapsWith value (some (.Attribute o f pos')) pos.line X.env = pure false := by rfl) :
    PS X (.Assign [.Attribute o f pos'] value pos) (tS T W (sFldSet tbl A VV)) := by
  refine PS.imp (ps_fld ha hv hs) fun E σ H ⟨δ, c, G, ρ, hs, hh, p⟩ => ?_
  refine ⟨δ, c, G, ρ, hs, hh, (PostS.andS (rel := SRep T) hs p).imp ?_⟩
  rintro y H1 ⟨s1, c1, G1, ρ1, e1, p1, h1, r1, q1⟩
  refine ⟨δ, c1, G1, ρ1, hs.mono e1 p1, h1, (PostS.andS (rel := SRep T) (hs.mono e1 p1) q1).imp ?_⟩
  rintro v H2 ⟨s2, c2, G2, ρ2, e2, p2, h2, r2, q2⟩
  cases s1 with
  | c _ => exact q2.elim
  | x _ _ => exact q2.elim
  | d x =>
    cases s2 with
    | d _ => exact q2.elim
    | x _ _ => exact q2.elim
    | c n =>
      obtain ⟨pa, hpa, rfl⟩ := r2
      cases hc : c2[n]? with
      | none => simp only [hc] at q2; exact q2.elim
      | some cc =>
        cases cc with
        | lst _ => simp only [hc] at q2; exact q2.elim
        | lS _ => simp only [hc] at q2; exact q2.elim
        | tS _ => simp only [hc] at q2; exact q2.elim
        | dct _ => simp only [hc] at q2; exact q2.elim
        | obj k2 xs =>
          simp only [hc] at q2
          cases hl : look tbl k2 with
          | none => simp only [hl] at q2; exact q2.elim
          | some i =>
            simp only [hl] at q2
            cases hz : setF i x xs with
            | none => simp only [hz] at q2; exact q2.elim
            | some ys =>
              simp only [hz] at q2
              obtain ⟨hcl, hn, hi, nd, hlen⟩ := hf.get (look_mem hl)
              obtain ⟨g, dx, fv, ho, hfl, rr⟩ := h2.at_ n pa _ hpa hc
              have hfvl : fv.length ≤ (T.fl k2).length := by
                have := congrArg List.length hfl
                simp at this; omega
              refine ⟨pa, T.cl k2, dx, fv, rfl, ho, hcl, hn, by omega, ?_⟩
              refine q2 σ _ G2 ρ2 (.refl _) (List.prefix_refl _) ((hs.mono e1 p1).mono e2 p2) (h2.cell hpa fun H' hH' ex' => ?_)
              have hfx : fv.length = xs.length := by have := rr.length; simpa using this
              refine ⟨dx, _, hH', ?_⟩
              have rx := Rep.mono e2 x y r1
              unfold setF at hz
              by_cases hlt : i < xs.length
              · rw [if_pos hlt] at hz; cases hz
                obtain ⟨z1, z2⟩ := putF_old (v := y) (i := i) (f := f) (fv := fv) (by rw [hfl]; exact nd_take nd _) (by rw [hfl, List.getElem?_take_of_lt hlt]; exact hi)
                exact ⟨by rw [z1, hfl, List.length_set], by rw [z2]; exact Reps.set i rr rx⟩
              · rw [if_neg hlt] at hz
                by_cases heq : i = xs.length
                · rw [if_pos heq] at hz; cases hz
                  subst heq
                  have hil := (List.getElem?_eq_some_iff.mp hi).1
                  have hgi := (List.getElem?_eq_some_iff.mp hi).2
                  have hnf : f ∉ fv.map (·.1) := by
                    rw [hfl]
                    intro hm
                    obtain ⟨j, hj, ej⟩ := List.getElem_of_mem hm
                    rw [List.getElem_take] at ej
                    rw [List.length_take] at hj
                    have := (List.getElem_inj nd).mp (ej.trans hgi.symm)
                    omega
                  rw [putF_new hnf]
                  refine ⟨?_, by rw [List.map_append]; exact Reps.append rr (Reps.cons rx Reps.nil)⟩
                  rw [List.map_append, hfl, List.length_append]
                  show _ ++ [f] = List.take (xs.length + 1) _
                  rw [List.take_succ_eq_append_getElem hil, hgi]
                · rw [if_neg heq] at hz; cases hz

/-! ### new objects -/
def fin (k nf n : Nat) : R S → R S
  | .ok (.d .non) c => match c[n]? with
    | some (.obj k2 xs) => if k2 = k ∧ xs.length = nf ∧ c.length = n + 1 then .ok (.d (.obj k xs)) (c.take n) else .bad
    | _ => .bad
  | .ex e xs c => .ex e xs (c.take n)
  | _ => .bad
def mMake (k nf : Nat) (fn : List S → Cs → R S) (B : MA) : M := fun δ c => (B δ c).bind fun ss c => fin k nf c.length (fn (.c c.length :: ss) (c ++ [.obj k []]))
theorem make_core {k nf : Nat} {σ : L2.St} {H : Hp} {Q : VK} {ss : List S} {vs : List V} {c : Cs} {G : Hp} {ρ : List Addr} (hfl : (T.fl k).length = nf) (hh : RelH T H c G ρ) (rs : SReps T G ρ ss vs) (q : Post (SRep T) T W σ G ρ (fin k nf c.length (fn (.c c.length :: ss) (c ++ [.obj k []]))) Q) :
    ∀ x dx, H x = none → H dx = none → dx ≠ x → spD T fn (.ref x :: vs) (upd (upd H dx (.own x)) x (.ins (T.cl k) dx [])) (fun v H2 => v = .non ∧ Q (.ref x) H2) (WE W σ) := by
  intro x dx hx hdx ne
  have s1 : Step G H (upd G dx (.own x)) (upd H dx (.own x)) := Step.new hh.ex hdx
  have h1 := hh.step s1
  have hx1 : upd H dx (.own x) x = none := by rw [upd_ne (Ne.symm ne)]; exact hx
  have gx : upd G dx (.own x) x = none := h1.ex.back hx1
  have exx : Ex (upd G dx (.own x)) (upd (upd H dx (.own x)) x (.ins (T.cl k) dx [])) := h1.ex.trans (Ex.new hx1)
  have h2 : RelH T (upd (upd H dx (.own x)) x (.ins (T.cl k) dx [])) (c ++ [.obj k []]) (upd G dx (.own x)) (ρ ++ [x]) := by
    refine ⟨exx, by simp [h1.len], ?_, fun i p y a b => ?_⟩
    · refine List.nodup_append.mpr ⟨h1.nd, by simp, fun a ha b hb => ?_⟩
      have e : b = x := by simpa using hb
      subst e
      intro z
      subst z
      obtain ⟨i, hi, e⟩ := List.getElem_of_mem ha
      have hic : i < c.length := by rw [← h1.len]; exact hi
      obtain ⟨_, k1⟩ := h1.at_ i a c[i] (by rw [List.getElem?_eq_getElem hi, e]) (List.getElem?_eq_getElem hic)
      obtain ⟨o, ho⟩ := k1.some
      rw [hx1] at ho; cases ho
    · by_cases hi : i < ρ.length
      · rw [List.getElem?_append_left hi] at a
        rw [List.getElem?_append_left (by rw [← h1.len]; exact hi)] at b
        obtain ⟨g1, k1⟩ := h1.at_ i p y a b
        obtain ⟨o, ho⟩ := k1.some
        have np : p ≠ x := ne_of_none ho hx1
        exact ⟨g1, k1.keep (.refl _) (upd_ne np) (by rw [List.take_append_of_le_length (Nat.le_of_lt hi)]; exact List.prefix_refl _)⟩
      · have hc2 : i < (c ++ [CC.obj k []]).length := (List.getElem?_eq_some_iff.mp b).1
        have hi2 : i = ρ.length := by rw [List.length_append, ← h1.len] at hc2; simp at hc2; omega
        subst hi2
        rw [List.getElem?_append_right (Nat.le_refl _), Nat.sub_self] at a
        rw [List.getElem?_append_right (by rw [h1.len]; exact Nat.le_refl _), h1.len, Nat.sub_self] at b
        cases a; cases b
        exact ⟨gx, dx, [], upd_same, rfl, Reps.nil⟩
  refine ⟨.c c.length :: ss, c ++ [.obj k []], _, ρ ++ [x], .cons ⟨x, by rw [← hh.len]; simp, rfl⟩ (rs.mono s1.g (List.prefix_append _ _)), h2, ?_⟩
  cases hr : fn (.c c.length :: ss) (c ++ [.obj k []]) with
  | bad => rw [hr] at q; exact q
  | ex e xs c' =>
    rw [hr] at q
    intro d H' G' eg rh xr
    refine q d H' G' ρ (s1.g.trans eg) (List.prefix_refl _) ?_ xr
    have := rh.take (ρ := ρ) (List.prefix_append _ _)
    rw [hh.len] at this
    exact this
  | ok s c' =>
    rw [hr] at q
    cases s with
    | c n => exact q.elim
    | x _ _ => exact q.elim
    | d y =>
      cases y with
      | non =>
        unfold fin at q
        cases hc : c'[c.length]? with
        | none => simp only [hc] at q; exact q.elim
        | some cc =>
          cases cc with
          | lst _ => simp only [hc] at q; exact q.elim
          | lS _ => simp only [hc] at q; exact q.elim
          | tS _ => simp only [hc] at q; exact q.elim
          | dct _ => simp only [hc] at q; exact q.elim
          | obj k2 xs =>
            simp only [hc] at q
            by_cases hz : k2 = k ∧ xs.length = nf ∧ c'.length = c.length + 1
            · rw [if_pos hz] at q
              obtain ⟨rfl, hxl, hcl⟩ := hz
              intro v H' G' ρ' eg pr rh rv
              obtain rfl : ρ ++ [x] = ρ' := pr.eq_of_length (by rw [rh.len, hcl, List.length_append, hh.len]; rfl)
              have ev : v = .non := SRep.non_inv rv
              subst ev
              refine ⟨rfl, ?_⟩
              have hpx : (ρ ++ [x])[c.length]? = some x := by rw [← hh.len]; simp
              obtain ⟨g3, dx3, fv, ho, hfl3, rr⟩ := rh.at_ c.length x _ hpx hc
              obtain ⟨e3, r3⟩ := rh.frozen (ρ := ρ) (k := c.length) (List.prefix_append _ _) (by rw [hh.len]; exact Nat.le_refl _) hpx ho g3
              rw [hh.len] at r3
              refine q _ H' _ ρ ((s1.g.trans eg).trans e3) (List.prefix_refl _) r3 (Rep.obj upd_same ?_ (Reps.mono e3 _ _ rr))
              rw [hfl3, hxl, ← hfl, List.take_length]
            · rw [if_neg hz] at q; exact q.elim
      | _ => exact q.elim
theorem run_makeS {CX : CXT} {f C : Addr} {fd : FuncData} {ps : List Str} {sp : Sp} {E : L2.St → XK} {pins : List (Addr × Obj)} {σ : L2.St} {H : Hp} {s : Shared} {Q : VK} {us : List Value} {vs : List V} (M : Mk X.K C f) (F : FnOk X.prog X.w X.K X.mg X.base CX k f fd ps sp) (hr : Room (k + 1) X.A) (hb : Binds X.K fd ps [])
    (hx : PassesAt CX X σ (E σ)) (I : Inv X pins σ H s) (r : Vals vs us)
    (h : ∀ x dx, H x = none → H dx = none → dx ≠ x → sp (.ref x :: vs) (upd (upd H dx (.own x)) x (.ins C dx [])) (fun v H2 => v = .non ∧ Q (.ref x) H2) (E σ)) :
    wpAny (model X.prog X.w) X.A (call (.ref C) us) (EP X pins σ Q) X.xe s := by
  have hq := h (s.heap.objs.size + 1) s.heap.objs.size (I.hok.fresh (Nat.le_succ _)) (I.hok.fresh (Nat.le_refl _)) (Nat.ne_of_lt (Nat.lt_succ_self _))
  have I2 := Inv.made (C := C) I
  have r2 : Vals (V.ref (s.heap.objs.size + 1) :: vs) (Value.ref (s.heap.objs.size + 1) :: us) := .cons rfl r
  have hl : (Value.ref (s.heap.objs.size + 1) :: us).length = ps.length := by
    have e := r2.length
    rw [F.len _ _ _ _ hq] at e
    exact e.symm
  have b := hb _ (Value.ref (s.heap.objs.size + 1) :: us) I2.kIn (by rw [List.append_nil]; exact hl)
  rw [List.append_nil] at b
  refine wpAny_call (make_map (f := f) I.kIn M.makes M.init (beq_iff_eq.mp M.fn) (codeAny_mono (F.run _ X.stack _ _ ⟨Value.ref (s.heap.objs.size + 1) :: us, []⟩ (Value.ref (s.heap.objs.size + 1) :: us) _ _ (E σ) (hr.make C us [])
    (I2.env0.make C us []) b r2 hq) fun r s' hq' => ?_))
  cases r with
  | error e => exact hx pins _ _ e s' I2 hq'
  | ok fl =>
    cases fl with
    | ret u =>
      obtain ⟨v, H', I3, rv, ev, q3⟩ := I2.after hq'
      subst ev
      exact ⟨rv, ⟨V.ref (s.heap.objs.size + 1), H', I3, rfl, q3⟩⟩
    | next => exact False.elim hq'
    | brk => exact False.elim hq'
    | cont => exact False.elim hq'
theorem dn_make {x : Str} {n nf : Nat} {B : MA} (hf : MakeAt X.prog X.w X.K X.mg X.base T x n nf k fn) (hr : Room (k + 1) X.A) (tk : Takes X W) (hg : Gl X x) (ha : PA X (e :: es) (tDA T W B)) (hdb : (x == ("__debug__" : Str)) = false := by decide)
    (he : starEach (e :: es) X.env = (false, eval e X.env) :: starEach es X.env := by rfl) (hpl : (backTo pos (starEach es X.env)).any (·.1) = false := by rfl) : PE X (.Call (.Name x p) (e :: es) [] pos) (tD T W (mMake n nf fn B)) := by
  obtain ⟨f, fd, ps, F, hM, hm, hn, hb⟩ := hf
  refine ⟨fun pins s σ H Q I ⟨δ, c, G, ρ, hs, hh, p⟩ => ?_⟩
  refine wpAny_Call_Name_kw (ld_glob I hg hm ?_ hdb)
  refine PySem.W.callWith_K (h₀ := X.base) I.ok.mod.kin hM.kp (thn (ha.run pos pins s σ H _ I ⟨δ, c, G, ρ, hs, hh, Post.bind (rel := SReps T) p⟩) ?_) he hpl
  rintro us s1 ⟨vs, H1, I1, r, ss, c1, G1, ρ1, e1, p1, h1, r1, q1⟩
  exact ⟨I1.kIn, run_makeS (E := WE W) hM F hr hb (passAt tk σ) I1 r (make_core hn h1 r1 q1)⟩
end
end Dn

end
section
/-! Dn4: displays, what is walked, comprehensions, cells. -/
namespace Dn
open PySem PySem.Spec PyProof.Rows L2

section
variable {X : Cx} {T : Tb} {W : WX} {a b o e : Expr} {es : List Expr} {A B : M} {pos p apos : Pos}
/-! ### displays -/
def datas : List S → Option (List D)
  | [] => some []
  | .d x :: r => match datas r with
    | some xs => some (x :: xs)
    | none => none
  | _ :: _ => none
theorem datas_reps {G : Hp} {ρ : List Addr} : ∀ {ss : List S} {vs : List V} {ds : List D}, SReps T G ρ ss vs → datas ss = some ds → Reps T G ds vs
  | [], _, _, h, e => by cases h; cases e; exact Reps.nil
  | .c _ :: _, _, _, _, e => by cases e
  | .x _ _ :: _, _, _, _, e => by cases e
  | .d x :: r, _, ds, h, e => by
    cases h with
    | cons h1 h2 =>
      unfold datas at e
      cases e2 : datas r with
      | none => rw [e2] at e; cases e
      | some xs =>
        rw [e2] at e
        cases e
        exact Reps.cons h1 (datas_reps h2 e2)
def mkLst (ss : List S) (c : Cs) : R S := match datas ss with
  | some xs => if xs.length ≤ sizeLine then .ok (.d (.lst xs)) c else .bad
  | none => .bad
def mkTup (ss : List S) (c : Cs) : R S := match datas ss with
  | some xs => if xs.length ≤ sizeLine then .ok (.d (.tup xs)) c else .bad
  | none => .bad
def mkCell (ss : List S) (c : Cs) : R S := match datas ss with
  | some xs => if xs.length ≤ sizeLine then .ok (.c c.length) (c ++ [.lst xs]) else .bad
  | none => .bad
def mLst (B : MA) : M := fun δ c => (B δ c).bind mkLst
def mTup (B : MA) : M := fun δ c => (B δ c).bind mkTup
/-- a list that will be changed -/
def mCell (B : MA) : M := fun δ c => (B δ c).bind mkCell
theorem dn_lst {B : MA} (h : PA X es (tDA T W B)) : PE X (.List es pos) (tD T W (mLst B)) := by
  refine PE.imp (pe_lst h) fun σ H Q ⟨δ, c, G, ρ, hs, hh, p⟩ => ?_
  refine ⟨δ, c, G, ρ, hs, hh, (Post.bind (rel := SReps T) p).imp ?_⟩
  rintro vs H1 ⟨ss, c1, G1, ρ1, e1, p1, h1, r1, q1⟩
  unfold mkLst at q1
  cases hd : datas ss with
  | none => simp only [hd] at q1; exact q1.elim
  | some xs =>
    simp only [hd] at q1
    have rr := datas_reps r1 hd
    by_cases hl : xs.length ≤ sizeLine
    · rw [if_pos hl] at q1
      refine ⟨by rw [rr.length]; exact hl, fun p hp => ?_⟩
      have st : Step G1 H1 (upd G1 p (.lst vs)) (upd H1 p (.lst vs)) := Step.new h1.ex hp
      exact q1 _ _ _ ρ1 st.g (List.prefix_refl _) (h1.step st) (Rep.lst upd_same hl (Reps.mono st.g _ _ rr))
    · rw [if_neg hl] at q1; exact q1.elim
theorem dn_tup {B : MA} {x1} (h : PA X es (tDA T W B)) : PE X (.Tuple es x1 pos) (tD T W (mTup B)) := by
  refine PE.imp (pe_tup h) fun σ H Q ⟨δ, c, G, ρ, hs, hh, p⟩ => ?_
  refine ⟨δ, c, G, ρ, hs, hh, (Post.bind (rel := SReps T) p).imp ?_⟩
  rintro vs H1 ⟨ss, c1, G1, ρ1, e1, p1, h1, r1, q1⟩
  unfold mkTup at q1
  cases hd : datas ss with
  | none => simp only [hd] at q1; exact q1.elim
  | some xs =>
    simp only [hd] at q1
    have rr := datas_reps r1 hd
    by_cases hl : xs.length ≤ sizeLine
    · rw [if_pos hl] at q1
      refine ⟨by rw [rr.length]; exact hl, fun p hp => ?_⟩
      have st : Step G1 H1 (upd G1 p (.tup vs)) (upd H1 p (.tup vs)) := Step.new h1.ex hp
      exact q1 _ _ _ ρ1 st.g (List.prefix_refl _) (h1.step st) (Rep.tup upd_same hl (Reps.mono st.g _ _ rr))
    · rw [if_neg hl] at q1; exact q1.elim
/-- a new cell -/
theorem RelH.newCell {H : Hp} {c : Cs} {G : Hp} {ρ : List Addr} {p : Addr} {ob : HO} {x : CC} (r : RelH T H c G ρ) (hp : H p = none) (hx : ∀ H', H' p = some ob → CellOk T G H' ρ p x) : RelH T (upd H p ob) (c ++ [x]) G (ρ ++ [p]) := by
  have gp : G p = none := r.ex.back hp
  have ex' : Ex G (upd H p ob) := r.ex.trans (Ex.new hp)
  refine ⟨ex', by simp [r.len], ?_, fun i q z a b => ?_⟩
  · refine List.nodup_append.mpr ⟨r.nd, by simp, fun a ha b hb => ?_⟩
    have e : b = p := by simpa using hb
    subst e
    intro z
    subst z
    obtain ⟨i, hi, e⟩ := List.getElem_of_mem ha
    have hic : i < c.length := by rw [← r.len]; exact hi
    obtain ⟨_, k1⟩ := r.at_ i a c[i] (by rw [List.getElem?_eq_getElem hi, e]) (List.getElem?_eq_getElem hic)
    obtain ⟨o, ho⟩ := k1.some
    rw [hp] at ho; cases ho
  · by_cases hi : i < ρ.length
    · rw [List.getElem?_append_left hi] at a
      rw [List.getElem?_append_left (by rw [← r.len]; exact hi)] at b
      obtain ⟨g1, k1⟩ := r.at_ i q z a b
      obtain ⟨o, ho⟩ := k1.some
      have np : q ≠ p := ne_of_none ho hp
      exact ⟨g1, k1.keep (.refl _) (upd_ne np) (by rw [List.take_append_of_le_length (Nat.le_of_lt hi)]; exact List.prefix_refl _)⟩
    · have hc2 : i < (c ++ [x]).length := (List.getElem?_eq_some_iff.mp b).1
      have hi2 : i = ρ.length := by rw [List.length_append, ← r.len] at hc2; simp at hc2; omega
      subst hi2
      rw [List.getElem?_append_right (Nat.le_refl _), Nat.sub_self] at a
      rw [List.getElem?_append_right (by rw [r.len]; exact Nat.le_refl _), r.len, Nat.sub_self] at b
      cases a; cases b
      rw [List.take_append_of_le_length (Nat.le_refl _), List.take_length]
      exact ⟨gp, hx _ upd_same⟩
theorem dn_cell {B : MA} (h : PA X es (tDA T W B)) : PE X (.List es pos) (tD T W (mCell B)) := by
  refine PE.imp (pe_lst h) fun σ H Q ⟨δ, c, G, ρ, hs, hh, p⟩ => ?_
  refine ⟨δ, c, G, ρ, hs, hh, (Post.bind (rel := SReps T) p).imp ?_⟩
  rintro vs H1 ⟨ss, c1, G1, ρ1, e1, p1, h1, r1, q1⟩
  unfold mkCell at q1
  cases hd : datas ss with
  | none => simp only [hd] at q1; exact q1.elim
  | some xs =>
    simp only [hd] at q1
    have rr := datas_reps r1 hd
    by_cases hl : xs.length ≤ sizeLine
    · rw [if_pos hl] at q1
      refine ⟨by rw [rr.length]; exact hl, fun p hp => ?_⟩
      exact q1 _ _ G1 (ρ1 ++ [p]) (.refl _) (List.prefix_append _ _) (h1.newCell hp fun H' hH' => ⟨vs, hH', hl, rr⟩) ⟨p, by rw [← h1.len]; simp, rfl⟩
    · rw [if_neg hl] at q1; exact q1.elim

/-! ### what is walked -/
theorem walk_tup {G : Hp} {q : Addr} {xs : List D} {vs : List V} (h : SqT T.K G q vs) (r : Reps T G xs vs) : Walk T G xs (Itt T.K q) := by
  refine ⟨fun i H e hi => ⟨vs, vs[i]'(by rw [r.length]; exact hi), ex_t e h, List.getElem?_eq_getElem _⟩, fun i H e hi => ⟨vs, ex_t e h, by rw [r.length]; exact hi⟩, fun i H G1 x H' e1 e2 y d hd => ?_⟩
  obtain ⟨rfl, y⟩ := y
  obtain ⟨v, hv, rv⟩ := r.get hd
  have := y vs (ex_t (e1.trans e2) h)
  rw [hv] at this; cases this
  exact ⟨G1, Step.refl e2, Rep.mono e1 _ _ rv⟩
theorem PI.or {tg l : Expr} {t u : TI} (h : PI X tg l t) (k : PI X tg l u) : PI X tg l (fun σ H Q => t σ H Q ∨ u σ H Q) := ⟨fun pins s σ H Q I q => q.elim (h.run pins s σ H Q I) (k.run pins s σ H Q I)⟩
/-- the items of a list or a tuple (data) -/
def items : S → Cs → R (List D)
  | .d (.scr ns), c => .ok (ns.map D.int) c
  | .d (.lst xs), c => .ok xs c
  | .d (.tup xs), c => .ok xs c
  | _, _ => .bad
def iSeq (A : M) : MI := fun δ c => (A δ c).bind items
theorem walk_list' {G : Hp} {q : Addr} {xs : List D} {vs : List V} (h : SqL T.K G q vs) (r : Reps T G xs vs) : Walk T G xs (Itl T.K q) := by
  refine ⟨fun i H e hi => ⟨vs, vs[i]'(by rw [r.length]; exact hi), ex_l e h, List.getElem?_eq_getElem _⟩, fun i H e hi => ⟨vs, ex_l e h, by rw [r.length]; exact hi⟩, fun i H G1 x H' e1 e2 y d hd => ?_⟩
  obtain ⟨rfl, y⟩ := y
  obtain ⟨v, hv, rv⟩ := r.get hd
  have := y vs (ex_l (e1.trans e2) h)
  rw [hv] at this; cases this
  exact ⟨G1, Step.refl e2, Rep.mono e1 _ _ rv⟩
theorem di_seq {tg l : Expr} (hT : X.K = T.K) (hl : PE X l (tD T W A)) : PI X tg l (tI T W (iSeq A)) := by
  refine PI.imp (PI.or (pi_list hl) (pi_tup hl)) fun σ H Q ⟨δ, c, G, ρ, hs, hh, p⟩ => ?_
  rw [hT]
  unfold iSeq at p
  cases hA : A δ c with
  | bad => rw [hA] at p; exact p.elim
  | ex k xs c' =>
    rw [hA] at p
    exact .inl ⟨δ, c, G, ρ, hs, hh, by rw [hA]; exact p⟩
  | ok s c' =>
    rw [hA] at p
    cases s with
    | c n => exact p.elim
    | x _ _ => exact p.elim
    | d x =>
      cases x with
      | lst xs =>
        refine .inl ⟨δ, c, G, ρ, hs, hh, ?_⟩
        rw [hA]
        intro v H1 G1 ρ1 e1 p1 h1 r1
        obtain ⟨q, vs, rfl, sq, hl, rr⟩ := Rep.lst_inv (show Rep T G1 (.lst xs) v from r1)
        exact ⟨q, rfl, ⟨vs, SqL.of (h1.ex _ _ sq)⟩, p _ H1 G1 ρ1 e1 p1 h1 ⟨walk_list' (SqL.of sq) rr, hl⟩⟩
      | scr ns =>
        refine .inl ⟨δ, c, G, ρ, hs, hh, ?_⟩
        rw [hA]
        intro v H1 G1 ρ1 e1 p1 h1 r1
        obtain ⟨q, rfl, sq, hl⟩ := Rep.scr_inv (show Rep T G1 (.scr ns) v from r1)
        exact ⟨q, rfl, ⟨_, ex_l h1.ex sq⟩, p _ H1 G1 ρ1 e1 p1 h1 ⟨walk_list' sq (Reps.map_int ns), by simpa using hl⟩⟩
      | tup xs =>
        refine .inr ⟨δ, c, G, ρ, hs, hh, ?_⟩
        rw [hA]
        intro v H1 G1 ρ1 e1 p1 h1 r1
        obtain ⟨q, vs, rfl, sq, hl, rr⟩ := Rep.tup_inv (show Rep T G1 (.tup xs) v from r1)
        exact ⟨q, rfl, ⟨vs, SqT.of (h1.ex _ _ sq)⟩, p _ H1 G1 ρ1 e1 p1 h1 ⟨walk_tup (SqT.of sq) rr, hl⟩⟩
      | _ => exact p.elim
def rngL (lo : Int) (n : Nat) : List D := (List.range n).map fun (i : Nat) => D.int (lo + (i : Int))
theorem rngL_len {lo : Int} {n : Nat} : (rngL lo n).length = n := by simp [rngL]
theorem walk_range {G : Hp} {lo : Int} {n : Nat} : Walk T G (rngL lo n) (Itr lo n) := by
  refine ⟨fun i H e hi => by rw [rngL_len] at hi; exact hi, fun i H e hi => by rw [rngL_len] at hi; exact hi, fun i H G1 x H' e1 e2 y d hd => ?_⟩
  obtain ⟨rfl, rfl⟩ := y
  refine ⟨G1, Step.refl e2, ?_⟩
  unfold rngL at hd
  rw [List.getElem?_map] at hd
  cases h : (List.range n)[i]? with
  | none => rw [h] at hd; cases hd
  | some j =>
    rw [h] at hd
    have := (List.getElem?_eq_some_iff.mp h).2
    simp at this
    subst this
    cases hd
    exact Rep.int
def rng1 : List S → Cs → R (List D)
  | [.d (.int j)], c => if j ≤ 16777216 ∧ -(2 ^ 62) ≤ j then .ok (rngL 0 j.toNat) c else .bad
  | _, _ => .bad
def rng2 : List S → Cs → R (List D)
  | [.d (.int i), .d (.int j)], c => if j ≤ 16777216 ∧ -(2 ^ 62) ≤ j ∧ 0 ≤ i ∧ i ≤ 16777216 then .ok (rngL i (j - i).toNat) c else .bad
  | _, _ => .bad
def iRng (B : MA) : MI := fun δ c => (B δ c).bind rng1
def iRng2' (B : MA) : MI := fun δ c => (B δ c).bind rng2
theorem SReps.one {G : Hp} {ρ : List Addr} {s : S} {vs : List V} (h : SReps T G ρ [s] vs) : ∃ v, vs = [v] ∧ SRep T G ρ s v := by
  cases h with
  | cons a b => cases b; exact ⟨_, rfl, a⟩
theorem SReps.two {G : Hp} {ρ : List Addr} {s t : S} {vs : List V} (h : SReps T G ρ [s, t] vs) : ∃ v u, vs = [v, u] ∧ SRep T G ρ s v ∧ SRep T G ρ t u := by
  cases h with
  | cons a b =>
    obtain ⟨u, rfl, r⟩ := b.one
    exact ⟨_, _, rfl, a, r⟩
theorem di_range {tg : Expr} {B : MA} (hg : Gl X "range") (hm : X.mg "range" = none) (ha : PA X [a] (tDA T W B)) (hs : starEach [a] X.env = [(false, eval a X.env)] := by rfl) : PI X tg (.Call (.Name "range" p) [a] [] pos) (tI T W (iRng B)) := by
  refine PI.imp (pi_range1 hg hm ha hs) fun σ H Q ⟨δ, c, G, ρ, hs, hh, p⟩ => ?_
  refine ⟨δ, c, G, ρ, hs, hh, (Post.bind (rel := SReps T) p).imp ?_⟩
  rintro vs H1 ⟨ss, c1, G1, ρ1, e1, p1, h1, r1, q1⟩
  unfold rng1 at q1
  split at q1
  · rename_i c j
    split at q1
    · rename_i hj
      obtain ⟨v, rfl, r⟩ := r1.one
      have := SRep.int_inv r
      subst this
      refine ⟨j, rfl, by omega, by omega, q1 _ H1 G1 ρ1 (.refl _) (List.prefix_refl _) h1 ⟨walk_range, ?_⟩⟩
      rw [rngL_len, sizeLine_eq]; omega
    · exact q1.elim
  · exact q1.elim
theorem di_range2 {tg : Expr} {B : MA} (hg : Gl X "range") (hm : X.mg "range" = none) (ha : PA X [a, b] (tDA T W B)) (hs : starEach [a, b] X.env = [(false, eval a X.env), (false, eval b X.env)] := by rfl) (hs2 : starEach [b] X.env = [(false, eval b X.env)] := by rfl) : PI X tg (.Call (.Name "range" p) [a, b] [] pos) (tI T W (iRng2' B)) := by
  refine PI.imp (pi_range2 hg hm ha hs hs2) fun σ H Q ⟨δ, c, G, ρ, hs, hh, p⟩ => ?_
  refine ⟨δ, c, G, ρ, hs, hh, (Post.bind (rel := SReps T) p).imp ?_⟩
  rintro vs H1 ⟨ss, c1, G1, ρ1, e1, p1, h1, r1, q1⟩
  unfold rng2 at q1
  split at q1
  · rename_i c i j
    split at q1
    · rename_i hj
      obtain ⟨v, u, rfl, r, r'⟩ := r1.two
      have := SRep.int_inv r
      subst this
      have := SRep.int_inv r'
      subst this
      refine ⟨i, j, rfl, ⟨by omega, by omega, by omega, by omega⟩, q1 _ H1 G1 ρ1 (.refl _) (List.prefix_refl _) h1 ⟨walk_range, ?_⟩⟩
      rw [rngL_len, sizeLine_eq]; omega
    · exact q1.elim
  · exact q1.elim
/-- zip of two lists, or of two tuples -/
def zipL : List D → List D → List D
  | x :: xs, y :: ys => .tup [x, y] :: zipL xs ys
  | _, _ => []
theorem zipL_get : ∀ {xs ys : List D} {i : Nat} {x y : D}, xs[i]? = some x → ys[i]? = some y → (zipL xs ys)[i]? = some (.tup [x, y])
  | [], _, _, _, _, h, _ => by simp at h
  | _ :: _, [], _, _, _, _, h => by simp at h
  | x :: xs, y :: ys, 0, _, _, h, k => by simp at h k; subst h; subst k; rfl
  | x :: xs, y :: ys, i + 1, _, _, h, k => by
    show (zipL xs ys)[i]? = _
    exact zipL_get (by simpa using h) (by simpa using k)
theorem zipL_len : ∀ (xs ys : List D), (zipL xs ys).length = min xs.length ys.length
  | [], ys => by simp [zipL]
  | _ :: _, [] => by simp [zipL]
  | x :: xs, y :: ys => by simp [zipL, zipL_len xs ys]
theorem zipL_inv {xs ys : List D} {i : Nat} {d : D} (h : (zipL xs ys)[i]? = some d) : ∃ x y, xs[i]? = some x ∧ ys[i]? = some y ∧ d = .tup [x, y] := by
  have hi := (List.getElem?_eq_some_iff.mp h).1
  rw [zipL_len] at hi
  have h1 : i < xs.length := by omega
  have h2 : i < ys.length := by omega
  have := zipL_get (List.getElem?_eq_getElem h1) (List.getElem?_eq_getElem h2)
  rw [h] at this
  exact ⟨_, _, List.getElem?_eq_getElem h1, List.getElem?_eq_getElem h2, Option.some.inj this⟩
theorem walk_zip {G : Hp} {p q : Addr} {xs ys : List D} {vs us : List V} (h : SqL T.K G p vs) (k : SqL T.K G q us) (r : Reps T G xs vs) (r' : Reps T G ys us) : Walk T G (zipL xs ys) (Itz T.K p q) := by
  refine ⟨fun i H e hi => ?_, fun i H e hi => ⟨vs, us, ex_l e h, ex_l e k, ?_⟩, fun i H G1 x H' e1 e2 y d hd => ?_⟩
  · rw [zipL_len] at hi
    exact ⟨vs, us, vs[i]'(by rw [r.length]; omega), us[i]'(by rw [r'.length]; omega), ex_l e h, ex_l e k, List.getElem?_eq_getElem _, List.getElem?_eq_getElem _⟩
  · rw [zipL_len] at hi
    rw [r.length, r'.length]; omega
  · obtain ⟨Tt, x1, y1, rfl, hT, rfl, y1h, y2h⟩ := y
    obtain ⟨d1, d2, hd1, hd2, rfl⟩ := zipL_inv hd
    obtain ⟨v1, hv1, rv1⟩ := r.get hd1
    obtain ⟨v2, hv2, rv2⟩ := r'.get hd2
    have z1 := y1h vs (ex_l (e1.trans e2) h)
    have z2 := y2h us (ex_l (e1.trans e2) k)
    rw [hv1] at z1
    rw [hv2] at z2
    obtain rfl : v1 = x1 := Option.some.inj z1
    obtain rfl : v2 = y1 := Option.some.inj z2
    have st : Step G1 H (upd G1 Tt (.tup [v1, v2])) (upd H Tt (.tup [v1, v2])) := Step.new e2 hT
    exact ⟨_, st, Rep.tup upd_same (by show 2 ≤ sizeLine; decide) (Reps.cons (Rep.mono (e1.trans st.g) _ _ rv1) (Reps.cons (Rep.mono (e1.trans st.g) _ _ rv2) Reps.nil))⟩
theorem walk_zipT {G : Hp} {p q : Addr} {xs ys : List D} {vs us : List V} (h : SqT T.K G p vs) (k : SqT T.K G q us) (r : Reps T G xs vs) (r' : Reps T G ys us) : Walk T G (zipL xs ys) (RZ.ItzT T.K p q) := by
  refine ⟨fun i H e hi => ?_, fun i H e hi => ⟨vs, us, ex_t e h, ex_t e k, ?_⟩, fun i H G1 x H' e1 e2 y d hd => ?_⟩
  · rw [zipL_len] at hi
    exact ⟨vs, us, vs[i]'(by rw [r.length]; omega), us[i]'(by rw [r'.length]; omega), ex_t e h, ex_t e k, List.getElem?_eq_getElem _, List.getElem?_eq_getElem _⟩
  · rw [zipL_len] at hi
    rw [r.length, r'.length]; omega
  · obtain ⟨Tt, x1, y1, rfl, hT, rfl, y1h, y2h⟩ := y
    obtain ⟨d1, d2, hd1, hd2, rfl⟩ := zipL_inv hd
    obtain ⟨v1, hv1, rv1⟩ := r.get hd1
    obtain ⟨v2, hv2, rv2⟩ := r'.get hd2
    have z1 := y1h vs (ex_t (e1.trans e2) h)
    have z2 := y2h us (ex_t (e1.trans e2) k)
    rw [hv1] at z1
    rw [hv2] at z2
    obtain rfl : v1 = x1 := Option.some.inj z1
    obtain rfl : v2 = y1 := Option.some.inj z2
    have st : Step G1 H (upd G1 Tt (.tup [v1, v2])) (upd H Tt (.tup [v1, v2])) := Step.new e2 hT
    exact ⟨_, st, Rep.tup upd_same (by show 2 ≤ sizeLine; decide) (Reps.cons (Rep.mono (e1.trans st.g) _ _ rv1) (Reps.cons (Rep.mono (e1.trans st.g) _ _ rv2) Reps.nil))⟩
def zip2 : List S → Cs → R (List D)
  | [.d (.lst xs), .d (.lst ys)], c => .ok (zipL xs ys) c
  | [.d (.tup xs), .d (.tup ys)], c => .ok (zipL xs ys) c
  | _, _ => .bad
def iZip' (B : MA) : MI := fun δ c => (B δ c).bind zip2
theorem di_zip {elts : List Expr} {kk : Nat} {tpos : Pos} {B : MA} (hT : X.K = T.K) (hg : Gl X "zip") (hm : X.mg "zip" = none) (ha : PA X [a, b] (tDA T W B)) (hs : starEach [a, b] X.env = (false, eval a X.env) :: starEach [b] X.env := by rfl) (hpl : (backTo pos (starEach [b] X.env)).any (·.1) = false := by rfl) :
    PI X (.Tuple elts kk tpos) (.Call (.Name "zip" p) [a, b] [] pos) (tI T W (iZip' B)) := by
  refine PI.imp (RZ.pi_zipA hg hm ha hs hpl) fun σ H Q ⟨δ, c, G, ρ, hs, hh, p⟩ => ?_
  refine ⟨δ, c, G, ρ, hs, hh, (Post.bind (rel := SReps T) p).imp ?_⟩
  rintro vs H1 ⟨ss, c1, G1, ρ1, e1, p1, h1, r1, q1⟩
  unfold zip2 at q1
  rw [hT]
  split at q1
  · rename_i c xs ys
    obtain ⟨v, u, rfl, r, r'⟩ := r1.two
    obtain ⟨q, vs, rfl, sq, hl, rr⟩ := Rep.lst_inv (show Rep T G1 (.lst xs) v from r)
    obtain ⟨q', vs', rfl, sq', hl', rr'⟩ := Rep.lst_inv (show Rep T G1 (.lst ys) u from r')
    refine ⟨q, q', vs, vs', rfl, .inl ⟨SqL.of (h1.ex _ _ sq), SqL.of (h1.ex _ _ sq'), q1 _ H1 G1 ρ1 (.refl _) (List.prefix_refl _) h1 ⟨walk_zip (SqL.of sq) (SqL.of sq') rr rr', ?_⟩⟩⟩
    rw [zipL_len]; omega
  · rename_i c xs ys
    obtain ⟨v, u, rfl, r, r'⟩ := r1.two
    obtain ⟨q, vs, rfl, sq, hl, rr⟩ := Rep.tup_inv (show Rep T G1 (.tup xs) v from r)
    obtain ⟨q', vs', rfl, sq', hl', rr'⟩ := Rep.tup_inv (show Rep T G1 (.tup ys) u from r')
    refine ⟨q, q', vs, vs', rfl, .inr ⟨SqT.of (h1.ex _ _ sq), SqT.of (h1.ex _ _ sq'), q1 _ H1 G1 ρ1 (.refl _) (List.prefix_refl _) h1 ⟨walk_zipT (SqT.of sq) (SqT.of sq') rr rr', ?_⟩⟩⟩
    rw [zipL_len]; omega
  · exact q1.elim

/-! ### comprehensions -/
def wipeD (δ : Sl) : List Nat → Sl
  | [] => δ
  | v :: vs => (wipeD δ vs).set v none
theorem wipeD_length (δ : Sl) : ∀ vs : List Nat, (wipeD δ vs).length = δ.length
  | [] => rfl
  | v :: vs => by unfold wipeD; rw [List.length_set, wipeD_length δ vs]
theorem RelS.wipe {G : Hp} {ρ : List Addr} {σ : L2.St} {δ : Sl} (r : RelS T G ρ σ δ) : ∀ vs : List Nat, RelS T G ρ (wipe σ vs) (wipeD δ vs)
  | [] => r
  | v :: vs => by unfold L2.wipe wipeD; exact (RelS.wipe r vs).unset v none
def mtYes : MT := fun _ c => .ok true c
theorem dts_nil : PTs X [] (tDT T W mtYes) := by
  refine ⟨fun pins s σ H Q I ⟨δ, c, G, ρ, hs, hh, p⟩ => ?_⟩
  exact pts_nil.run pins s σ H Q I (p true H G ρ (.refl _) (List.prefix_refl _) hh rfl)
theorem dts_one {c : Expr} {C : MT} (h : PT X c (tDT T W C)) : PTs X [c] (tDT T W C) := pts_one h
abbrev W0 : WX := fun _ _ _ _ => False
theorem wipe_get {σ : L2.St} {j : Nat} : ∀ {vs : List Nat}, (wipe σ vs)[j]? = if j ∈ vs then (if j < σ.length then some none else none) else σ[j]?
  | [] => by simp [L2.wipe]
  | v :: vs => by
    unfold L2.wipe
    by_cases h : v = j
    · subst h
      by_cases hl : v < σ.length
      · rw [List.getElem?_set_self (by rw [wipe_length]; exact hl)]; simp [hl]
      · rw [List.getElem?_eq_none (by rw [List.length_set, wipe_length]; omega)]; simp [hl]
    · rw [List.getElem?_set_ne h, wipe_get]
      have : ¬ j = v := fun z => h z.symm
      simp [this]
theorem wipe_set {σ : L2.St} {vs : List Nat} {i : Nat} {o : Option V} (h : i ∈ vs) : wipe (σ.set i o) vs = wipe σ vs := by
  apply List.ext_getElem?
  intro j
  rw [wipe_get, wipe_get]
  by_cases hj : j ∈ vs
  · simp [hj]
  · simp only [hj, if_false]
    rw [List.getElem?_set_ne]
    intro z
    subst z
    exact hj h
theorem wipe_wipe {σ : L2.St} {vs : List Nat} : wipe (wipe σ vs) vs = wipe σ vs := by
  apply List.ext_getElem?
  intro j
  rw [wipe_get, wipe_get, wipe_length]
  by_cases hj : j ∈ vs
  · simp [hj]
  · simp [hj]
/-- targets of a comprehension: the slots vs alone are changed -/
def tGv (T : Tb) (g : GT) (vs : List Nat) : TG := fun v σ H Q => ∃ d δ G ρ δ', Ex G H ∧ Rep T G d v ∧ RelS T G ρ σ δ ∧ g d δ = some δ' ∧ ∀ σ', RelS T G ρ σ' δ' → wipe σ' vs = wipe σ vs → Q σ' H
def tGvs (T : Tb) (g : GTs) (vs : List Nat) : TGs := fun v σ H Q => ∃ d δ G ρ δ', Ex G H ∧ Reps T G d v ∧ RelS T G ρ σ δ ∧ g d δ = some δ' ∧ ∀ σ', RelS T G ρ σ' δ' → wipe σ' vs = wipe σ vs → Q σ' H
theorem dv_name {i : Nat} {x : Str} {vs : List Nat} (hN : X.N.Nodup) (hi : X.N[i]? = some x) (hx : Loc X.env.scope x) (hv : i ∈ vs) (hf : X.fn x = true ∨ X.env.scope.names.lookup x = some .local := by first | exact .inl rfl | exact .inr rfl | assumption) : PG X (.Name x pos) (tGv T (gtName i) vs) := by
  refine PG.imp (pg_name hN hi hx hf) ?_
  rintro v σ H Q ⟨d, δ, G, ρ, δ', e, r, hs, hd, q⟩
  cases hd
  exact q _ (hs.set i (s := .d d) r) (wipe_set hv)
theorem dvs_nil {vs : List Nat} : PGs X [] (tGvs T gtNil vs) := PGs.imp pgs_nil fun v σ H Q ⟨ds, δ, G, ρ, δ', e, r, hs, hd, q⟩ => by
  cases ds with
  | nil => cases hd; exact ⟨r.nil_inv, q _ hs rfl⟩
  | cons _ _ => cases hd
theorem dvs_cons {e : Expr} {es : List Expr} {g : GT} {gs : GTs} {vs : List Nat} (h1 : PG X e (tGv T g vs)) (h2 : PGs X es (tGvs T gs vs))
    (hs : (assignEach (e :: es) X.env).map (·.2) = assign e X.env :: (assignEach es X.env).map (·.2) := by rfl) : PGs X (e :: es) (tGvs T (gtCons g gs) vs) := by
  refine PGs.imp (pgs_cons h1 h2 hs) fun v σ H Q ⟨ds, δ, G, ρ, δ', e, r, hs, hd, q⟩ => ?_
  cases ds with
  | nil => cases hd
  | cons d ds =>
    obtain ⟨v0, vr, rfl, r0, rr⟩ := r.cons_inv
    unfold gtCons at hd
    cases h : g d δ with
    | none => simp only [h] at hd; cases hd
    | some δ1 =>
      simp only [h] at hd
      exact ⟨v0, vr, rfl, d, δ, G, ρ, δ1, e, r0, hs, h, fun σ' s' w1 => ⟨ds, δ1, G, ρ, δ', e, rr, s', hd, fun σ2 s2 w2 => q σ2 s2 (w2.trans w1)⟩⟩
theorem dv_tup {es : List Expr} {k : Nat} {gs : GTs} {n : Nat} {vs : List Nat} (hc : X.calm = true) (hT : X.K = T.K) (h : PGs X es (tGvs T gs vs)) (hl : ∀ ds δ δ', gs ds δ = some δ' → ds.length = n)
    (hn : (assignEach es X.env).length = n := by rfl) (hst : (assignEach es X.env).findIdx? (·.1) = none := by rfl) : PG X (.Tuple es k pos) (tGv T (gtTup gs) vs) := by
  refine PG.imp (pg_tup hc h hn hst) fun v σ H Q ⟨d, δ, G, ρ, δ', e, r, hs, hd, q⟩ => ?_
  cases d with
  | tup ds =>
    obtain ⟨p, vs, rfl, sq, l, rr⟩ := r.tup_inv
    have hd : gs ds δ = some δ' := hd
    exact ⟨p, vs, rfl, SqT.of (e _ _ sq), by rw [rr.length]; exact hl ds δ δ' hd, ds, δ, G, ρ, δ', e, rr, hs, hd, q⟩
  | _ => cases hd
/-- an error is not carried on -/
def R.bindN {α β : Type} : R α → (α → Cs → R β) → R β
  | .ok a c, f => f a c
  | _, _ => .bad
theorem Post.bindN {α β γ ε : Type} {rel : Hp → List Addr → α → β → Prop} {rel2 : Hp → List Addr → γ → ε → Prop} {r : R α} {f : α → Cs → R γ} {Q2 : ε → Hp → Prop} {σ σ' : L2.St} {Go G : Hp} {ρo ρ : List Addr} {Wx : WX} (h : Post rel2 T W σ Go ρo (r.bindN f) Q2) :
    Post rel T Wx σ' G ρ r (fun v H1 => ∃ a c G1 ρ1, Ex G G1 ∧ ρ <+: ρ1 ∧ RelH T H1 c G1 ρ1 ∧ rel G1 ρ1 a v ∧ Post rel2 T W σ Go ρo (f a c) Q2) := by
  cases r with
  | ok a c => exact fun v H' G' ρ' e p q z => ⟨a, c, G', ρ', e, p, q, z, h⟩
  | ex k xs c => exact False.elim h
  | bad => exact h
def cloop (g : GT) (C : MT) (body : Sl → Cs → R Unit) (δ : Sl) : List D → Cs → R Unit
  | [], c => .ok () c
  | d :: ds, c => match g d δ with
    | none => .bad
    | some δ1 => (C δ1 c).bindN fun k c => if k = true then (body δ1 c).bindN fun _ c => cloop g C body δ ds c else cloop g C body δ ds c
theorem bindN_assoc {α β γ : Type} {r : R α} {f : α → Cs → R β} {k : β → Cs → R γ} : (r.bindN f).bindN k = r.bindN fun a c => (f a c).bindN k := by
  cases r <;> rfl
theorem lc_loop {G1 : Hp} {ρm : List Addr} {xs : List D} {J : It} {g : GT} {C : MT} {body : Sl → Cs → R Unit} {δ : Sl} {σw : L2.St} {vs : List Nat} {H0 : Hp} {c0 : Cs} {Go : Hp} {ρo : List Addr} {σ : L2.St} {Q : VK} {kf : Unit → Cs → R S} {BODY : L2.St → Hp → (Hp → Prop) → Prop} {Qend : Hp → Prop}
    (hw : Walk T G1 xs J) (hs : RelS T G1 ρm σw δ) (hww : wipe σw vs = σw) (h0 : RelH T H0 c0 G1 ρm) (p0 : Post (SRep T) T W σ Go ρo ((cloop g C body δ xs c0).bindN kf) Q)
    (hend : ∀ H c G ρ', Ex G1 G → ρm <+: ρ' → RelH T H c G ρ' → Post (SRep T) T W σ Go ρo (kf () c) Q → Qend H)
    (hbody : ∀ (δ1 : Sl) (σ2 : L2.St) (H3 : Hp) (c : Cs) (G : Hp) (ρ' : List Addr) (N : Hp → Prop) (f : Unit → Cs → R S), Ex G1 G → ρm <+: ρ' → RelS T G ρ' σ2 δ1 → RelH T H3 c G ρ' → Post (SRep T) T W σ Go ρo ((body δ1 c).bindN f) Q →
      (∀ H' c' G' ρ'', Ex G G' → ρ' <+: ρ'' → RelH T H' c' G' ρ'' → Post (SRep T) T W σ Go ρo (f () c') Q → N H') → BODY σ2 H3 N) :
    ∃ Wv : Nat → Nat → Hp → Prop, (∃ m, Wv 0 m H0) ∧ ∀ i m H, Wv i m H → (J.stop i H ∧ Qend H) ∨ (J.go i H ∧ ∃ Nx : Hp → Prop, (∀ H', Nx H' → ∃ m', m' < m ∧ Wv (i + 1) m' H') ∧ ∀ x H', J.yld i H x H' →
      tGv T g vs x σw H' fun σ2 H2 => wipe σ2 vs = σw ∧ tDT T W0 C σ2 H2 fun b H3 => if b = true then BODY σ2 H3 Nx else Nx H3) := by
  refine ⟨fun i m H => m = xs.length - i ∧ i ≤ xs.length ∧ ∃ c G ρ', Ex G1 G ∧ ρm <+: ρ' ∧ RelH T H c G ρ' ∧ Post (SRep T) T W σ Go ρo ((cloop g C body δ (xs.drop i) c).bindN kf) Q,
    ⟨xs.length, by simp, Nat.zero_le _, c0, G1, ρm, .refl _, List.prefix_refl _, h0, by simpa using p0⟩, ?_⟩
  rintro i m H ⟨rfl, hi, c, G, ρ', e1, q1, hh, p⟩
  by_cases hlt : i < xs.length
  · refine .inr ⟨hw.go i H (e1.trans hh.ex) hlt, fun H' => i + 1 ≤ xs.length ∧ ∃ c G ρ', Ex G1 G ∧ ρm <+: ρ' ∧ RelH T H' c G ρ' ∧ Post (SRep T) T W σ Go ρo ((cloop g C body δ (xs.drop (i + 1)) c).bindN kf) Q,
      fun H' ⟨z1, z2⟩ => ⟨xs.length - (i + 1), by omega, rfl, z1, z2⟩, fun x H' y => ?_⟩
    obtain ⟨G3, st, rx⟩ := hw.yld i H G x H' e1 hh.ex y xs[i] (List.getElem?_eq_getElem hlt)
    rw [List.drop_eq_getElem_cons hlt] at p
    unfold cloop at p
    cases hg : g xs[i] δ with
    | none => simp only [hg] at p; exact p.elim
    | some δ1 =>
      simp only [hg] at p
      rw [bindN_assoc] at p
      refine ⟨xs[i], δ, G3, ρ', δ1, st.gh, rx, (hs.mono e1 q1).mono st.g (List.prefix_refl _), hg, fun σ2 s2 w2 => ⟨w2.trans hww, ?_⟩⟩
      refine ⟨δ1, c, G3, ρ', s2, hh.step st, (Post.bindN (rel := relB) p).imp ?_⟩
      rintro v H3 ⟨k, c3, G4, ρ4, e4, p4, h4, r4, q4⟩
      have r4 : v = k := r4
      subst r4
      cases v with
      | false => exact ⟨hlt, c3, G4, ρ4, (e1.trans st.g).trans e4, q1.trans p4, h4, q4⟩
      | true =>
        have q4 : Post (SRep T) T W σ Go ρo (((body δ1 c3).bindN fun _ c => cloop g C body δ (List.drop (i + 1) xs) c).bindN kf) Q := q4
        rw [bindN_assoc] at q4
        refine hbody δ1 σ2 H3 c3 G4 ρ4 _ (fun _ c => (cloop g C body δ (List.drop (i + 1) xs) c).bindN kf) ((e1.trans st.g).trans e4) (q1.trans p4) (s2.mono e4 p4) h4 q4 ?_
        exact fun H' c' G' ρ'' e' p' h' q' => ⟨hlt, c', G', ρ'', ((e1.trans st.g).trans e4).trans e', (q1.trans p4).trans p', h', q'⟩
  · have e : i = xs.length := by omega
    subst e
    rw [List.drop_length] at p
    exact .inl ⟨hw.stop _ H (e1.trans hh.ex) (Nat.le_refl _), hend H c G ρ' e1 q1 hh p⟩
/-- a new item at the end of cell n -/
def push (n : Nat) : S → Cs → R Unit
  | .d x, c => match c[n]? with
    | some (.lst acc) => if acc.length < sizeLine then .ok () (c.set n (.lst (acc ++ [x]))) else .bad
    | _ => .bad
  | _, _ => .bad
/-- the cell n becomes data; the cells from n on are left -/
def finC (n : Nat) (c : Cs) : R S := match c[n]? with
  | some (.lst acc) => .ok (.d (.lst acc)) (c.take n)
  | _ => .bad
/-- .. it stays a cell -/
def finK (n : Nat) (c : Cs) : R S := if c.length = n + 1 then .ok (.c n) c else .bad
def mComp (I : MI) (g : GT) (C : MT) (A : M) (vs : List Nat) : M := fun δ c => (I δ c).bind fun xs c => (cloop g C (fun δ1 c1 => (A δ1 c1).bindN (push c.length)) (wipeD δ vs) xs (c ++ [.lst []])).bindN fun _ c2 => finC c.length c2
def mCompK (I : MI) (g : GT) (C : MT) (A : M) (vs : List Nat) : M := fun δ c => (I δ c).bind fun xs c => (cloop g C (fun δ1 c1 => (A δ1 c1).bindN (push c.length)) (wipeD δ vs) xs (c ++ [.lst []])).bindN fun _ c2 => finK c.length c2
def mComp2 (I : MI) (g : GT) (C : MT) (I1 : MI) (g1 : GT) (C1 : MT) (A : M) (vs vs1 : List Nat) : M := fun δ c => (I δ c).bind fun xs c =>
  (cloop g C (fun δ1 c1 => (I1 δ1 c1).bindN fun ys c1 => cloop g1 C1 (fun δ2 c2 => (A δ2 c2).bindN (push c.length)) (wipeD δ1 vs1) ys c1) (wipeD δ vs) xs (c ++ [.lst []])).bindN fun _ c2 => finC c.length c2
theorem push_ok {D0 : Addr} {n : Nat} {s : S} {y : V} {c : Cs} {G H : Hp} {ρ : List Addr} {Go : Hp} {ρo : List Addr} {σ : L2.St} {Q : VK} {f : Unit → Cs → R S} {N : Hp → Prop} (hh : RelH T H c G ρ) (hD : ρ[n]? = some D0) (rs : SRep T G ρ s y) (p : Post (SRep T) T W σ Go ρo ((push n s c).bindN f) Q)
    (k : ∀ H' c' G' ρ'', Ex G G' → ρ <+: ρ'' → RelH T H' c' G' ρ'' → Post (SRep T) T W σ Go ρo (f () c') Q → N H') : ∃ acc, H D0 = some (.lst acc) ∧ acc.length < sizeLine ∧ N (upd H D0 (.lst (acc ++ [y]))) := by
  cases s with
  | c _ => exact p.elim
  | x _ _ => exact p.elim
  | d x =>
    unfold push at p
    cases hc : c[n]? with
    | none => simp only [hc] at p; exact p.elim
    | some cc =>
      cases cc with
      | lst acc =>
        simp only [hc] at p
        by_cases hl : acc.length < sizeLine
        · rw [if_pos hl] at p
          obtain ⟨g, vs, ho, hl2, rr⟩ := hh.at_ n D0 _ hD hc
          refine ⟨vs, ho, by rw [rr.length]; exact hl, k _ (c.set n (.lst (acc ++ [x]))) G ρ (.refl _) (List.prefix_refl _) (hh.cell (x := .lst (acc ++ [x])) hD fun H' hH' _ => ⟨_, hH', by rw [List.length_append]; simp; omega, Reps.append rr (Reps.cons rs Reps.nil)⟩) p⟩
        · rw [if_neg hl] at p; exact p.elim
      | dct _ => simp only [hc] at p; exact p.elim
      | lS _ => simp only [hc] at p; exact p.elim
      | tS _ => simp only [hc] at p; exact p.elim
      | obj _ _ => simp only [hc] at p; exact p.elim
theorem finC_ok {D0 : Addr} {c : Cs} {G H : Hp} {ρ : List Addr} {Go : Hp} {ρo : List Addr} {σ : L2.St} {Q : VK} (eg : Ex Go G) (hp : ρo ++ [D0] <+: ρ) (hh : RelH T H c G ρ) (p : Post (SRep T) T W σ Go ρo (finC ρo.length c) Q) : Q (.ref D0) H := by
  have hD : ρ[ρo.length]? = some D0 := pre_get hp (by simp)
  unfold finC at p
  cases hc : c[ρo.length]? with
  | none => simp only [hc] at p; exact p.elim
  | some cc =>
    cases cc with
    | lst acc =>
      simp only [hc] at p
      obtain ⟨g, vs, ho, hl2, rr⟩ := hh.at_ _ D0 _ hD hc
      obtain ⟨e3, r3⟩ := hh.frozen (ρ := ρo) ((List.prefix_append _ _).trans hp) (Nat.le_refl _) hD ho g
      exact p _ H _ ρo (eg.trans e3) (List.prefix_refl _) r3 (Rep.lst upd_same hl2 (Reps.mono e3 _ _ rr))
    | dct _ => simp only [hc] at p; exact p.elim
    | lS _ => simp only [hc] at p; exact p.elim
    | tS _ => simp only [hc] at p; exact p.elim
    | obj _ _ => simp only [hc] at p; exact p.elim
theorem finK_ok {D0 : Addr} {c : Cs} {G H : Hp} {ρ : List Addr} {Go : Hp} {ρo : List Addr} {σ : L2.St} {Q : VK} (eg : Ex Go G) (hp : ρo ++ [D0] <+: ρ) (hh : RelH T H c G ρ) (p : Post (SRep T) T W σ Go ρo (finK ρo.length c) Q) : Q (.ref D0) H := by
  have hD : ρ[ρo.length]? = some D0 := pre_get hp (by simp)
  unfold finK at p
  by_cases hl : c.length = ρo.length + 1
  · rw [if_pos hl] at p
    exact p _ H _ ρ eg ((List.prefix_append _ _).trans hp) hh ⟨D0, hD, rfl⟩
  · rw [if_neg hl] at p; exact p.elim
section
variable {elt tg iter : Expr} {ifs : List Expr} {scope : Scope} {own : List (Str × Nat)} {I : MI} {g : GT} {C : MT}
theorem tD_comp {fin : Nat → Cs → R S} (hfin : ∀ {D0 : Addr} {c : Cs} {G H : Hp} {ρ : List Addr} {Go : Hp} {ρo : List Addr} {σ : L2.St} {Q : VK}, Ex Go G → ρo ++ [D0] <+: ρ → RelH T H c G ρ → Post (SRep T) T W σ Go ρo (fin ρo.length c) Q → Q (.ref D0) H)
    {vs : List Nat} {σ : L2.St} {H : Hp} {Q : VK} (h : tD T W (fun δ c => (I δ c).bind fun xs c => (cloop g C (fun δ1 c1 => (A δ1 c1).bindN (push c.length)) (wipeD δ vs) xs (c ++ [.lst []])).bindN fun _ c2 => fin c.length c2) σ H Q) :
    tLc (tI T W I) (tGv T g vs) (tDT T W0 C) (tD T W0 A) vs σ H Q := by
  obtain ⟨δ, c, G, ρ, hs, hh, p⟩ := h
  refine ⟨δ, c, G, ρ, hs, hh, (Post.bind (rel := relI T) p).imp ?_⟩
  rintro J H1 ⟨xs, c1, G1, ρ1, e1, p1, h1, ⟨wk, hlen⟩, q1⟩ D0 hD0
  have hn : RelH T (upd H1 D0 (.lst [])) (c1 ++ [.lst []]) G1 (ρ1 ++ [D0]) := h1.newCell hD0 fun H' hH' => ⟨[], hH', Nat.zero_le _, Reps.nil⟩
  refine lc_loop (ρm := ρ1 ++ [D0]) (BODY := fun σ2 H3 N => tD T W0 A σ2 H3 fun y H4 => ∃ acc, H4 D0 = some (.lst acc) ∧ acc.length < sizeLine ∧ N (upd H4 D0 (.lst (acc ++ [y])))) wk (((hs.mono e1 p1).mono (.refl _) (List.prefix_append _ _)).wipe vs) wipe_wipe hn q1 ?_ ?_
  · intro H c G ρ' e q hh p
    rw [← h1.len] at p
    exact hfin e q hh p
  · intro δ1 σ2 H3 c3 G3 ρ3 N f e3 p3 s3 h3 q3 kk
    rw [bindN_assoc] at q3
    refine ⟨δ1, c3, G3, ρ3, s3, h3, (Post.bindN (rel := SRep T) q3).imp ?_⟩
    rintro y H4 ⟨s, c4, G4, ρ4, e4, p4, h4, r4, q4⟩
    exact push_ok h4 (pre_get (p3.trans p4) (by rw [← h1.len]; simp)) r4 q4 fun H' c' G' ρ'' e' p' h' q' => kk H' c' G' ρ'' (e4.trans e') (p4.trans p') h' q'
theorem dn_comp (hc : X.calm = true) (hN : X.N.Nodup) (hi : PI X tg iter (tI T W I)) (ok : BlkOk X.N X.env.scope scope own)
    (hg : ∀ (s : Shared) (H : Hp) (C : Addr) (cl : List (Str × Addr)) (fp : List Addr), PG (X.blk s H scope (compEnvC scope cl C X.env) fp) tg (tGv T g (own.map (·.2)))) (ht : ∀ (s : Shared) (H : Hp) (C0 : Addr) (cl : List (Str × Addr)) (fp : List Addr), PTs (X.blk s H scope (compEnvC scope cl C0 X.env) fp) ifs (tDT T W0 C))
    (he : ∀ (s : Shared) (H : Hp) (C : Addr) (cl : List (Str × Addr)) (fp : List Addr), PE (X.blk s H scope (compEnvC scope cl C X.env) fp) elt (tD T W0 A)) (hs : ∀ x, foldedSetIterable iter X.env x = pure x := by intro _; rfl) :
    PE X (.ListComp elt [⟨tg, iter, ifs, 0⟩] scope pos) (tD T W (mComp I g C A (own.map (·.2)))) :=
  PE.imp (pe_lc hc hN hi ok hg ht he hs) fun _ _ _ h => tD_comp (fin := finC) finC_ok h
theorem dn_compK (hc : X.calm = true) (hN : X.N.Nodup) (hi : PI X tg iter (tI T W I)) (ok : BlkOk X.N X.env.scope scope own)
    (hg : ∀ (s : Shared) (H : Hp) (C : Addr) (cl : List (Str × Addr)) (fp : List Addr), PG (X.blk s H scope (compEnvC scope cl C X.env) fp) tg (tGv T g (own.map (·.2)))) (ht : ∀ (s : Shared) (H : Hp) (C0 : Addr) (cl : List (Str × Addr)) (fp : List Addr), PTs (X.blk s H scope (compEnvC scope cl C0 X.env) fp) ifs (tDT T W0 C))
    (he : ∀ (s : Shared) (H : Hp) (C : Addr) (cl : List (Str × Addr)) (fp : List Addr), PE (X.blk s H scope (compEnvC scope cl C X.env) fp) elt (tD T W0 A)) (hs : ∀ x, foldedSetIterable iter X.env x = pure x := by intro _; rfl) :
    PE X (.ListComp elt [⟨tg, iter, ifs, 0⟩] scope pos) (tD T W (mCompK I g C A (own.map (·.2)))) :=
  PE.imp (pe_lc hc hN hi ok hg ht he hs) fun _ _ _ h => tD_comp (fin := finK) finK_ok h
theorem tS_setR {i : Nat} {E : Ends} {σ : L2.St} {H : Hp} {te : TE} (hte : ∀ σ H Q, tD T W A σ H Q → te σ H Q) (h : tS T W (sSet i A) E σ H) : tAsg te (gName i) E σ H := hte _ _ _ (tS_set h)
theorem ds_setComp {i : Nat} {y : Str} {py spos : Pos} (hc : X.calm = true) (hN : X.N.Nodup) (hy : X.N[i]? = some y) (hyl : X.env.scope.names.lookup y = some .local)
    (hsw : swapsWith (.ListComp elt [⟨tg, iter, ifs, 0⟩] scope pos) (some (.Name y py)) spos.line X.env = pure true) (hi : PI X tg iter (tI T W I)) (ok : BlkOk X.N X.env.scope scope own)
    (hg : ∀ (s : Shared) (H : Hp) (C : Addr) (cl : List (Str × Addr)) (fp : List Addr), PG (X.blk s H scope (compEnvC scope cl C X.env) fp) tg (tGv T g (own.map (·.2)))) (ht : ∀ (s : Shared) (H : Hp) (C0 : Addr) (cl : List (Str × Addr)) (fp : List Addr), PTs (X.blk s H scope (compEnvC scope cl C0 X.env) fp) ifs (tDT T W0 C))
    (he : ∀ (s : Shared) (H : Hp) (C : Addr) (cl : List (Str × Addr)) (fp : List Addr), PE (X.blk s H scope (compEnvC scope cl C X.env) fp) elt (tD T W0 A)) (hs : ∀ x, foldedSetIterable iter X.env x = pure x := by intro _; rfl) :
    PS X (.Assign [.Name y py] (.ListComp elt [⟨tg, iter, ifs, 0⟩] scope pos) spos) (tS T W (sSet i (mComp I g C A (own.map (·.2))))) :=
  PS.imp (ps_setLc hc hN hy hyl hsw hi ok hg ht he hs) fun _ _ _ h => tS_setR (fun _ _ _ h => tD_comp (fin := finC) finC_ok h) h
theorem ds_setCompK {i : Nat} {y : Str} {py spos : Pos} (hc : X.calm = true) (hN : X.N.Nodup) (hy : X.N[i]? = some y) (hyl : X.env.scope.names.lookup y = some .local)
    (hsw : swapsWith (.ListComp elt [⟨tg, iter, ifs, 0⟩] scope pos) (some (.Name y py)) spos.line X.env = pure true) (hi : PI X tg iter (tI T W I)) (ok : BlkOk X.N X.env.scope scope own)
    (hg : ∀ (s : Shared) (H : Hp) (C : Addr) (cl : List (Str × Addr)) (fp : List Addr), PG (X.blk s H scope (compEnvC scope cl C X.env) fp) tg (tGv T g (own.map (·.2)))) (ht : ∀ (s : Shared) (H : Hp) (C0 : Addr) (cl : List (Str × Addr)) (fp : List Addr), PTs (X.blk s H scope (compEnvC scope cl C0 X.env) fp) ifs (tDT T W0 C))
    (he : ∀ (s : Shared) (H : Hp) (C : Addr) (cl : List (Str × Addr)) (fp : List Addr), PE (X.blk s H scope (compEnvC scope cl C X.env) fp) elt (tD T W0 A)) (hs : ∀ x, foldedSetIterable iter X.env x = pure x := by intro _; rfl) :
    PS X (.Assign [.Name y py] (.ListComp elt [⟨tg, iter, ifs, 0⟩] scope pos) spos) (tS T W (sSet i (mCompK I g C A (own.map (·.2))))) :=
  PS.imp (ps_setLc hc hN hy hyl hsw hi ok hg ht he hs) fun _ _ _ h => tS_setR (fun _ _ _ h => tD_comp (fin := finK) finK_ok h) h
variable {tg1 iter1 : Expr} {ifs1 : List Expr} {I1 : MI} {g1 : GT} {C1 : MT}
theorem tD_comp2 {vs vs1 : List Nat} {σ : L2.St} {H : Hp} {Q : VK} (h : tD T W (mComp2 I g C I1 g1 C1 A vs vs1) σ H Q) :
    tLc2 (tI T W I) (tGv T g vs) (tDT T W0 C) (tI T W0 I1) (tGv T g1 vs1) (tDT T W0 C1) (tD T W0 A) vs vs1 σ H Q := by
  obtain ⟨δ, c, G, ρ, hs, hh, p⟩ := h
  refine ⟨δ, c, G, ρ, hs, hh, (Post.bind (rel := relI T) p).imp ?_⟩
  rintro J H1 ⟨xs, c1, G1, ρ1, e1, p1, h1, ⟨wk, hlen⟩, q1⟩ D0 hD0
  have hn : RelH T (upd H1 D0 (.lst [])) (c1 ++ [.lst []]) G1 (ρ1 ++ [D0]) := h1.newCell hD0 fun H' hH' => ⟨[], hH', Nat.zero_le _, Reps.nil⟩
  refine lc_loop (ρm := ρ1 ++ [D0]) (BODY := fun σ2 H3 N => tI T W0 I1 σ2 H3 fun J1 H4 => ∃ W1 : Nat → Nat → Hp → Prop, (∃ m, W1 0 m H4) ∧ ∀ j k H, W1 j k H →
      (J1.stop j H ∧ N H) ∨ (J1.go j H ∧ ∃ Nx1 : Hp → Prop, (∀ H', Nx1 H' → ∃ k', k' < k ∧ W1 (j + 1) k' H') ∧ ∀ x H', J1.yld j H x H' → tGv T g1 vs1 x (wipe σ2 vs1) H' fun σ3 H5 => wipe σ3 vs1 = wipe σ2 vs1 ∧ tDT T W0 C1 σ3 H5 fun b H6 =>
        if b = true then tD T W0 A σ3 H6 fun y H7 => ∃ acc, H7 D0 = some (.lst acc) ∧ acc.length < sizeLine ∧ Nx1 (upd H7 D0 (.lst (acc ++ [y]))) else Nx1 H6))
    wk (((hs.mono e1 p1).mono (.refl _) (List.prefix_append _ _)).wipe vs) wipe_wipe hn q1 ?_ ?_
  · intro H c G ρ' e q hh p
    rw [← h1.len] at p
    exact finC_ok e q hh p
  · intro δ1 σ2 H3 c3 G3 ρ3 N f e3 p3 s3 h3 q3 kk
    rw [bindN_assoc] at q3
    refine ⟨δ1, c3, G3, ρ3, s3, h3, (Post.bindN (rel := relI T) q3).imp ?_⟩
    rintro J1 H4 ⟨ys, c4, G4, ρ4, e4, p4, h4, ⟨wk4, hlen4⟩, q4⟩
    refine lc_loop (ρm := ρ4) (BODY := fun σ2 H3 N => tD T W0 A σ2 H3 fun y H4 => ∃ acc, H4 D0 = some (.lst acc) ∧ acc.length < sizeLine ∧ N (upd H4 D0 (.lst (acc ++ [y])))) wk4 ((s3.mono e4 p4).wipe vs1) wipe_wipe h4 q4 ?_ ?_
    · intro H c G ρ' e q hh p
      exact kk H c G ρ' (e4.trans e) (p4.trans q) hh p
    · intro δ5 σ5 H5 c5 G5 ρ5 N5 f5 e5 p5 s5 h5 q5 kk5
      rw [bindN_assoc] at q5
      refine ⟨δ5, c5, G5, ρ5, s5, h5, (Post.bindN (rel := SRep T) q5).imp ?_⟩
      rintro y H6 ⟨s, c6, G6, ρ6, e6, p6, h6, r6, q6⟩
      exact push_ok h6 (pre_get (((p3.trans p4).trans p5).trans p6) (by rw [← h1.len]; simp)) r6 q6 fun H' c' G' ρ'' e' p' h' q' => kk5 H' c' G' ρ'' (e6.trans e') (p6.trans p') h' q'
theorem dn_comp2 {vs1 : List Nat} (hc : X.calm = true) (hN : X.N.Nodup) (hi : PI X tg iter (tI T W I)) (ok : BlkOk X.N X.env.scope scope own) (hv : ∀ i ∈ vs1, i ∈ own.map (·.2))
    (hg : ∀ (s : Shared) (H : Hp) (C : Addr) (cl : List (Str × Addr)) (fp : List Addr), PG (X.blk s H scope (compEnvC scope cl C X.env) fp) tg (tGv T g (own.map (·.2)))) (ht : ∀ (s : Shared) (H : Hp) (C0 : Addr) (cl : List (Str × Addr)) (fp : List Addr), PTs (X.blk s H scope (compEnvC scope cl C0 X.env) fp) ifs (tDT T W0 C))
    (hi1 : ∀ (s : Shared) (H : Hp) (C : Addr) (cl : List (Str × Addr)) (fp : List Addr), PI (X.blk s H scope (compEnvC scope cl C X.env) fp) tg1 iter1 (tI T W0 I1))
    (hg1 : ∀ (s : Shared) (H : Hp) (C : Addr) (cl : List (Str × Addr)) (fp : List Addr), PG (X.blk s H scope (compEnvC scope cl C X.env) fp) tg1 (tGv T g1 vs1)) (ht1 : ∀ (s : Shared) (H : Hp) (C0 : Addr) (cl : List (Str × Addr)) (fp : List Addr), PTs (X.blk s H scope (compEnvC scope cl C0 X.env) fp) ifs1 (tDT T W0 C1))
    (he : ∀ (s : Shared) (H : Hp) (C : Addr) (cl : List (Str × Addr)) (fp : List Addr), PE (X.blk s H scope (compEnvC scope cl C X.env) fp) elt (tD T W0 A)) (hs : ∀ x, foldedSetIterable iter X.env x = pure x := by intro _; rfl) (hs1 : ∀ env x, foldedSetIterable iter1 env x = pure x := by intro _ _; rfl) :
    PE X (.ListComp elt [⟨tg, iter, ifs, 0⟩, ⟨tg1, iter1, ifs1, 0⟩] scope pos) (tD T W (mComp2 I g C I1 g1 C1 A (own.map (·.2)) vs1)) :=
  PE.imp (pe_lc2 hc hN hi ok hv hg ht hi1 hg1 ht1 he hs hs1) fun _ _ _ h => tD_comp2 h
theorem ds_setComp2 {vs1 : List Nat} {i : Nat} {y : Str} {py spos : Pos} (hc : X.calm = true) (hN : X.N.Nodup) (hy : X.N[i]? = some y) (hyl : X.env.scope.names.lookup y = some .local)
    (hsw : swapsWith (.ListComp elt [⟨tg, iter, ifs, 0⟩, ⟨tg1, iter1, ifs1, 0⟩] scope pos) (some (.Name y py)) spos.line X.env = pure true) (hi : PI X tg iter (tI T W I)) (ok : BlkOk X.N X.env.scope scope own) (hv : ∀ i ∈ vs1, i ∈ own.map (·.2))
    (hg : ∀ (s : Shared) (H : Hp) (C : Addr) (cl : List (Str × Addr)) (fp : List Addr), PG (X.blk s H scope (compEnvC scope cl C X.env) fp) tg (tGv T g (own.map (·.2)))) (ht : ∀ (s : Shared) (H : Hp) (C0 : Addr) (cl : List (Str × Addr)) (fp : List Addr), PTs (X.blk s H scope (compEnvC scope cl C0 X.env) fp) ifs (tDT T W0 C))
    (hi1 : ∀ (s : Shared) (H : Hp) (C : Addr) (cl : List (Str × Addr)) (fp : List Addr), PI (X.blk s H scope (compEnvC scope cl C X.env) fp) tg1 iter1 (tI T W0 I1))
    (hg1 : ∀ (s : Shared) (H : Hp) (C : Addr) (cl : List (Str × Addr)) (fp : List Addr), PG (X.blk s H scope (compEnvC scope cl C X.env) fp) tg1 (tGv T g1 vs1)) (ht1 : ∀ (s : Shared) (H : Hp) (C0 : Addr) (cl : List (Str × Addr)) (fp : List Addr), PTs (X.blk s H scope (compEnvC scope cl C0 X.env) fp) ifs1 (tDT T W0 C1))
    (he : ∀ (s : Shared) (H : Hp) (C : Addr) (cl : List (Str × Addr)) (fp : List Addr), PE (X.blk s H scope (compEnvC scope cl C X.env) fp) elt (tD T W0 A)) (hs : ∀ x, foldedSetIterable iter X.env x = pure x := by intro _; rfl) (hs1 : ∀ env x, foldedSetIterable iter1 env x = pure x := by intro _ _; rfl) :
    PS X (.Assign [.Name y py] (.ListComp elt [⟨tg, iter, ifs, 0⟩, ⟨tg1, iter1, ifs1, 0⟩] scope pos) spos) (tS T W (sSet i (mComp2 I g C I1 g1 C1 A (own.map (·.2)) vs1))) :=
  PS.imp (ps_setLc2 hc hN hy hyl hsw hi ok hv hg ht hi1 hg1 ht1 he hs hs1) fun _ _ _ h => tS_setR (fun _ _ _ h => tD_comp2 h) h
end
end
end Dn

end
section
/-! Dn5: the operations on data. -/
namespace Dn
open PySem PySem.Spec PyProof.Rows L2

section
variable {X : Cx} {T : Tb} {W : WX} {a b o e : Expr} {es : List Expr} {A B : M} {pos p apos : Pos}
/-! ### ints -/
def bitsOk (i j : Int) : Bool := decide (i.natAbs.log2 + j.natAbs.log2 < 1000000)
def repL (k : Int) (xs : List D) : List D := (List.replicate k.toNat xs).flatten
def addD : D → D → Option D
  | .int i, .int j => some (.int (i + j))
  | .str x, .str y => if x.length + y.length ≤ sizeLine then some (.str (x ++ y)) else none
  | .lst xs, .lst ys => if xs.length + ys.length ≤ sizeLine then some (.lst (xs ++ ys)) else none
  | .tup (x :: xs), .tup ys => if (x :: xs).length + ys.length ≤ sizeLine then some (.tup ((x :: xs) ++ ys)) else none
  | _, _ => none
def subD : D → D → Option D
  | .int i, .int j => some (.int (i - j))
  | _, _ => none
def mulD : D → D → Option D
  | .int i, .int j => if bitsOk i j = true then some (.int (i * j)) else none
  | .lst xs, .int k => if k < 1000000 ∧ -1000000 < k ∧ xs.length * k.toNat ≤ sizeLine then some (.lst (repL k xs)) else none
  | _, _ => none
def divOk (j : Int) : Bool := decide (j ≠ 0 ∧ j.natAbs.log2 < 9000)
def fdivD : D → D → Option D
  | .int i, .int j => if divOk j = true then some (.int (i.fdiv j)) else none
  | _, _ => none
def modD : D → D → Option D
  | .int i, .int j => if j ≠ 0 then some (.int (i.fmod j)) else none
  | _, _ => none
def powOk (i j : Int) : Bool := decide (0 ≤ j ∧ j ≤ 64 ∧ i.natAbs.log2 < 100000)
def powD : D → D → Option D
  | .int i, .int j => if powOk i j = true then some (.int (i ^ j.toNat)) else none
  | _, _ => none
def negD : D → Option D
  | .int i => some (.int (-i))
  | _ => none
def rAll (K : PySem.W.Frag) : R2 := fun x y H Q => rI0 (fun i j => .int (i + j)) x y H Q ∨ (∃ i j, x = .str i ∧ y = .str j ∧ i.length + j.length ≤ sizeLine ∧ Q (.str (i ++ j)) H) ∨ rCat x y H Q ∨ rCatT K x y H Q
theorem op_addA : OpR X (binaryOp .Add) (rAll X.K) := op_add.or (op_add_str.or (op_cat.or op_catT))
theorem fresh_add : Fresh2 T addD (rAll T.K) := by
  intro G H x y d v u Q e hx hy hd k
  unfold addD at hd
  split at hd
  · cases hd
    have := View.int_inv hx; subst this
    have := View.int_inv hy; subst this
    exact .inl ⟨_, _, rfl, rfl, k _ H G (Step.refl e) Rep.int⟩
  · split at hd
    · cases hd
      have := View.str_inv hx; subst this
      have := View.str_inv hy; subst this
      rename_i h
      exact .inr (.inl ⟨_, _, rfl, rfl, h, k _ H G (Step.refl e) Rep.str⟩)
    · cases hd
  · split at hd
    · rename_i h
      cases hd
      obtain ⟨p, vs, rfl, sq, l, r⟩ := hx
      obtain ⟨q, us, rfl, sq', l', r'⟩ := hy
      refine .inr (.inr (.inl ⟨p, q, vs, us, rfl, rfl, sq, sq', by rw [r.length, r'.length]; exact h, fun t ht => ?_⟩))
      have st : Step G H (upd G t (.lst (vs ++ us))) (upd H t (.lst (vs ++ us))) := Step.new e ht
      exact k _ _ _ st (Rep.lst upd_same (by rw [List.length_append]; exact h) (Reps.mono st.g _ _ (r.append r')))
    · cases hd
  · rename_i x0 xs ys
    split at hd
    · rename_i h
      cases hd
      obtain ⟨p, vs, rfl, sq, l, r⟩ := View.tup_inv hx
      obtain ⟨q, us, rfl, sq', l', r'⟩ := View.tup_inv hy
      refine .inr (.inr (.inr ⟨p, q, vs, us, rfl, rfl, SqT.of (e _ _ sq), SqT.of (e _ _ sq'), ?_, by rw [r.length, r'.length]; exact h, fun z => ?_, fun z t ht => ?_⟩))
      · intro z; subst z; have := r.length; simp at this
      · subst z
        have := r'.length
        have hys : ys = [] := List.length_eq_zero_iff.mp (by simpa using this.symm)
        subst hys
        rw [List.append_nil] at k
        exact k _ H G (Step.refl e) (Rep.tup sq l r)
      · have st : Step G H (upd G t (.tup (vs ++ us))) (upd H t (.tup (vs ++ us))) := Step.new e ht
        exact k _ _ _ st (Rep.tup upd_same (by rw [List.length_append]; exact h) (Reps.mono st.g _ _ (r.append r')))
    · cases hd
  · cases hd
theorem dn_add (hT : X.K = T.K) (ha : PE X a (tD T W A)) (hb : PE X b (tD T W B)) : PE X (.BinOp a .Add b pos) (tD T W (mBin (lift2 addD) A B)) := dn_op (r := rAll T.K) (by rw [← hT]; exact op_addA) (prim2 fresh_add) ha hb
theorem fresh_sub : Fresh2 T subD (rI0 fun i j => .int (i - j)) := by
  intro G H x y d v u Q e hx hy hd k
  unfold subD at hd
  split at hd
  · cases hd
    have := View.int_inv hx; subst this
    have := View.int_inv hy; subst this
    exact ⟨_, _, rfl, rfl, k _ H G (Step.refl e) Rep.int⟩
  · cases hd
theorem dn_sub (ha : PE X a (tD T W A)) (hb : PE X b (tD T W B)) : PE X (.BinOp a .Sub b pos) (tD T W (mBin (lift2 subD) A B)) := dn_op op_sub (prim2 fresh_sub) ha hb
theorem Reps.rep {G : Hp} {xs : List D} {vs : List V} (r : Reps T G xs vs) : ∀ n : Nat, Reps T G (List.replicate n xs).flatten (List.replicate n vs).flatten
  | 0 => Reps.nil
  | n + 1 => by
    rw [List.replicate_succ, List.replicate_succ, List.flatten_cons, List.flatten_cons]
    exact Reps.append r (Reps.rep r n)
theorem bitsOk_ok {i j : Int} (h : bitsOk i j = true) : CMulW i j := by unfold bitsOk at h; unfold CMulW; exact of_decide_eq_true h
theorem fresh_mul : Fresh2 T mulD (fun x y H Q => rI CMulW (fun i j => .int (i * j)) x y H Q ∨ rRep x y H Q) := by
  intro G H x y d v u Q e hx hy hd k
  unfold mulD at hd
  split at hd
  · split at hd
    · rename_i h
      cases hd
      have := View.int_inv hx; subst this
      have := View.int_inv hy; subst this
      exact .inl ⟨_, _, rfl, rfl, bitsOk_ok h, k _ H G (Step.refl e) Rep.int⟩
    · cases hd
  · split at hd
    · rename_i kk h
      cases hd
      obtain ⟨p, vs, rfl, sq, l, r⟩ := hx
      have := View.int_inv hy; subst this
      refine .inr ⟨p, kk, vs, rfl, rfl, sq, by omega, by omega, by rw [r.length]; exact h.2.2, fun t ht => ?_⟩
      have st : Step G H (upd G t (.lst (List.replicate kk.toNat vs).flatten)) (upd H t (.lst (List.replicate kk.toNat vs).flatten)) := Step.new e ht
      refine k _ _ _ st (Rep.lst upd_same ?_ (Reps.mono st.g _ _ (r.rep _)))
      unfold repL
      rw [List.length_flatten]
      simp only [List.map_replicate, List.sum_replicate_nat]
      rw [Nat.mul_comm]; exact h.2.2
    · cases hd
  · cases hd
theorem dn_mul (ha : PE X a (tD T W A)) (hb : PE X b (tD T W B)) : PE X (.BinOp a .Mult b pos) (tD T W (mBin (lift2 mulD) A B)) := dn_op (op_mulW.or op_rep) (prim2 fresh_mul) ha hb
def CDivD (_ j : Int) : Prop := j ≠ 0 ∧ j.natAbs.log2 < 9000
theorem op_fdivD : OpR X (binaryOp .FloorDiv) (rI CDivD fun i j => .int (i.fdiv j)) := opI fun _ _ _ _ _ _ _ hc q => floordiv_int hc.1 q (.inl (PyProof.noPylong_of_log2 hc.2))
theorem divOk_ok {i j : Int} (h : divOk j = true) : CDivD i j := by unfold divOk at h; unfold CDivD; exact of_decide_eq_true h
theorem fresh_fdiv : Fresh2 T fdivD (rI CDivD fun i j => .int (i.fdiv j)) := by
  intro G H x y d v u Q e hx hy hd k
  unfold fdivD at hd
  split at hd
  · split at hd
    · rename_i h
      cases hd
      have := View.int_inv hx; subst this
      have := View.int_inv hy; subst this
      exact ⟨_, _, rfl, rfl, divOk_ok h, k _ H G (Step.refl e) Rep.int⟩
    · cases hd
  · cases hd
theorem dn_fdiv (ha : PE X a (tD T W A)) (hb : PE X b (tD T W B)) : PE X (.BinOp a .FloorDiv b pos) (tD T W (mBin (lift2 fdivD) A B)) := dn_op op_fdivD (prim2 fresh_fdiv) ha hb
theorem fresh_mod : Fresh2 T modD (rI (fun _ j => j ≠ 0) fun i j => .int (i.fmod j)) := by
  intro G H x y d v u Q e hx hy hd k
  unfold modD at hd
  split at hd
  · split at hd
    · rename_i h
      cases hd
      have := View.int_inv hx; subst this
      have := View.int_inv hy; subst this
      exact ⟨_, _, rfl, rfl, h, k _ H G (Step.refl e) Rep.int⟩
    · cases hd
  · cases hd
theorem dn_mod (ha : PE X a (tD T W A)) (hb : PE X b (tD T W B)) : PE X (.BinOp a .Mod b pos) (tD T W (mBin (lift2 modD) A B)) := dn_op op_modN (prim2 fresh_mod) ha hb
def CPowD (i j : Int) : Prop := 0 ≤ j ∧ j ≤ 64 ∧ i.natAbs.log2 < 100000
theorem op_powD : OpR X (binaryOp .Pow) (rI CPowD fun i j => .int (i ^ j.toNat)) := opI fun i j _ _ _ _ _ hc q => by
  obtain ⟨h1, h2, h3⟩ := hc
  refine pow_int h1 ?_ q
  have hb : Builtin.Int.intBits i ≤ i.natAbs.log2 + 1 := by
    unfold Builtin.Int.intBits
    split <;> omega
  have hb2 : (Builtin.Int.intBits i : Int) ≤ 100000 := by omega
  have : (Builtin.Int.intBits i : Int) * j ≤ 100000 * 64 := Int.mul_le_mul hb2 h2 h1 (by decide)
  exact Int.le_trans this (by decide)
theorem powOk_ok {i j : Int} (h : powOk i j = true) : CPowD i j := by unfold powOk at h; unfold CPowD; exact of_decide_eq_true h
theorem fresh_pow : Fresh2 T powD (rI CPowD fun i j => .int (i ^ j.toNat)) := by
  intro G H x y d v u Q e hx hy hd k
  unfold powD at hd
  split at hd
  · split at hd
    · rename_i h
      cases hd
      have := View.int_inv hx; subst this
      have := View.int_inv hy; subst this
      exact ⟨_, _, rfl, rfl, powOk_ok h, k _ H G (Step.refl e) Rep.int⟩
    · cases hd
  · cases hd
theorem dn_pow (ha : PE X a (tD T W A)) (hb : PE X b (tD T W B)) : PE X (.BinOp a .Pow b pos) (tD T W (mBin (lift2 powD) A B)) := dn_op op_powD (prim2 fresh_pow) ha hb
theorem fresh_neg : Fresh1 T negD (rU fun i => .int (-i)) := by
  intro G H x d v Q e hx hd k
  unfold negD at hd
  split at hd
  · cases hd
    have := View.int_inv hx; subst this
    exact ⟨_, rfl, k _ H G (Step.refl e) Rep.int⟩
  · cases hd
theorem dn_neg (ha : PE X a (tD T W A)) : PE X (.UnaryOp .USub a pos) (tD T W (mUn (lift1 negD) A)) := dn_un un_neg (prim1 fresh_neg) ha

/-! ### comparisons of ints -/
def cmpD (f : Int → Int → Bool) : D → D → Option D
  | .int i, .int j => some (.bl (f i j))
  | _, _ => none
theorem fresh_cmp {f : Int → Int → Bool} : Fresh2 T (cmpD f) (rI0 fun i j => .bl (f i j)) := by
  intro G H x y d v u Q e hx hy hd k
  unfold cmpD at hd
  split at hd
  · cases hd
    have := View.int_inv hx; subst this
    have := View.int_inv hy; subst this
    exact ⟨_, _, rfl, rfl, k _ H G (Step.refl e) Rep.bl⟩
  · cases hd
abbrev ltD := cmpD fun i j => decide (i < j)
abbrev leD := cmpD fun i j => decide (i ≤ j)
abbrev gtD := cmpD fun i j => decide (j < i)
abbrev geD := cmpD fun i j => decide (j ≤ i)
theorem dn_lt (ha : PE X a (tD T W A)) (hb : PE X b (tD T W B)) : PE X (.Compare a [.Lt] [b] pos) (tD T W (mBin (lift2 ltD) A B)) := dn_cmp op_lt (prim2 fresh_cmp) ha hb (nomark _)
theorem dn_le (ha : PE X a (tD T W A)) (hb : PE X b (tD T W B)) : PE X (.Compare a [.LtE] [b] pos) (tD T W (mBin (lift2 leD) A B)) := dn_cmp op_le (prim2 fresh_cmp) ha hb (nomark _)
theorem dn_gt (ha : PE X a (tD T W A)) (hb : PE X b (tD T W B)) : PE X (.Compare a [.Gt] [b] pos) (tD T W (mBin (lift2 gtD) A B)) := dn_cmp op_gt (prim2 fresh_cmp) ha hb (nomark _)
theorem dn_ge (ha : PE X a (tD T W A)) (hb : PE X b (tD T W B)) : PE X (.Compare a [.GtE] [b] pos) (tD T W (mBin (lift2 geD) A B)) := dn_cmp op_ge (prim2 fresh_cmp) ha hb (nomark _)
theorem dt_lt (ha : PE X a (tD T W A)) (hb : PE X b (tD T W B)) : PT X (.Compare a [.Lt] [b] pos) (tDT T W (mTB (mBin (lift2 ltD) A B))) := dt_cmp op_lt (prim2 fresh_cmp) ha hb (nomark _)
theorem dt_le (ha : PE X a (tD T W A)) (hb : PE X b (tD T W B)) : PT X (.Compare a [.LtE] [b] pos) (tDT T W (mTB (mBin (lift2 leD) A B))) := dt_cmp op_le (prim2 fresh_cmp) ha hb (nomark _)
theorem dt_gt (ha : PE X a (tD T W A)) (hb : PE X b (tD T W B)) : PT X (.Compare a [.Gt] [b] pos) (tDT T W (mTB (mBin (lift2 gtD) A B))) := dt_cmp op_gt (prim2 fresh_cmp) ha hb (nomark _)
theorem dt_ge (ha : PE X a (tD T W A)) (hb : PE X b (tD T W B)) : PT X (.Compare a [.GtE] [b] pos) (tDT T W (mTB (mBin (lift2 geD) A B))) := dt_cmp op_ge (prim2 fresh_cmp) ha hb (nomark _)
section
variable {c : Expr} {C : M}
theorem dn_le_lt (ha : PE X a (tD T W A)) (hb : PE X b (tD T W B)) (hc : PE X c (tD T W C)) (hm : lastMarks [.LtE, .Lt] [b, c] = false := by with_unfolding_all rfl) : PE X (.Compare a [.LtE, .Lt] [b, c] pos) (tD T W (mChain (lift2 leD) (lift2 ltD) A B C)) := PE.imp (pe_chain op_le op_lt ha hb hc hm) fun _ _ _ h => tD_chain (prim2 fresh_cmp) (prim2 fresh_cmp) h
theorem dn_le_le (ha : PE X a (tD T W A)) (hb : PE X b (tD T W B)) (hc : PE X c (tD T W C)) (hm : lastMarks [.LtE, .LtE] [b, c] = false := by with_unfolding_all rfl) : PE X (.Compare a [.LtE, .LtE] [b, c] pos) (tD T W (mChain (lift2 leD) (lift2 leD) A B C)) := PE.imp (pe_chain op_le op_le ha hb hc hm) fun _ _ _ h => tD_chain (prim2 fresh_cmp) (prim2 fresh_cmp) h
theorem dt_chain {op op' : CmpOp} {r r' : R2} {f g : S → S → Cs → R S} (hp : Prim2 T f r) (hp' : Prim2 T g r') (h : PT X (.Compare a [op, op'] [b, c] pos) (tTest (tChain r r' (tD T W A) (tD T W B) (tD T W C)))) : PT X (.Compare a [op, op'] [b, c] pos) (tDT T W (mTB (mChain f g A B C))) :=
  PT.imp h fun σ H Q q => tD_chain hp hp' (tDT_B q)
theorem dt_le_lt (ha : PE X a (tD T W A)) (hb : PE X b (tD T W B)) (hc : PE X c (tD T W C)) (hm : lastMarks [.LtE, .Lt] [b, c] = false := by with_unfolding_all rfl) : PT X (.Compare a [.LtE, .Lt] [b, c] pos) (tDT T W (mTB (mChain (lift2 leD) (lift2 ltD) A B C))) := dt_chain (prim2 fresh_cmp) (prim2 fresh_cmp) (pt_chain op_le op_lt ha hb hc hm)
theorem dt_le_le (ha : PE X a (tD T W A)) (hb : PE X b (tD T W B)) (hc : PE X c (tD T W C)) (hm : lastMarks [.LtE, .LtE] [b, c] = false := by with_unfolding_all rfl) : PT X (.Compare a [.LtE, .LtE] [b, c] pos) (tDT T W (mTB (mChain (lift2 leD) (lift2 leD) A B C))) := dt_chain (prim2 fresh_cmp) (prim2 fresh_cmp) (pt_chain op_le op_le ha hb hc hm)
end
end
end Dn

end
section
/-! Dn6: equality, membership, places, built-ins. -/
namespace Dn
open PySem PySem.Spec PyProof.Rows L2

/-! ### data as PyData -/
mutual
def D.py : D → PyData
  | .non => .none
  | .bl b => .bool b
  | .int i => .int i
  | .str x => .str x
  | .lst xs => .list (pys xs)
  | .tup xs => .tuple (pys xs)
  | .obj _ _ => .none
  | .scr _ => .none
  | .dct _ _ => .none
def pys : List D → List PyData
  | [] => []
  | x :: xs => D.py x :: pys xs
end
theorem pys_map : ∀ xs : List D, pys xs = xs.map D.py
  | [] => by unfold pys; rfl
  | x :: xs => by unfold pys; rw [pys_map xs]; rfl
mutual
/-- plain data, at most n deep -/
def D.ok (n : Nat) : D → Bool
  | .non => true
  | .bl _ => true
  | .int _ => true
  | .str x => PyData.strOk x
  | .lst xs => decide (0 < n) && oks (n - 1) xs
  | .tup xs => decide (0 < n) && oks (n - 1) xs
  | .obj _ _ => false
  | .scr _ => false
  | .dct _ _ => false
def oks (n : Nat) : List D → Bool
  | [] => true
  | x :: xs => D.ok n x && oks n xs
end
mutual
def eqD : D → D → Bool
  | .non, .non => true
  | .bl a, .bl b => a == b
  | .bl a, .int j => (if a then 1 else 0) == j
  | .int i, .bl b => i == (if b then 1 else 0)
  | .int i, .int j => i == j
  | .str x, .str y => x == y
  | .lst xs, .lst ys => eqDs xs ys
  | .tup xs, .tup ys => eqDs xs ys
  | _, _ => false
def eqDs : List D → List D → Bool
  | [], [] => true
  | x :: xs, y :: ys => eqD x y && eqDs xs ys
  | [], _ :: _ => false
  | _ :: _, [] => false
end
theorem oks_all (n : Nat) : ∀ xs : List D, oks n xs = xs.all (D.ok n)
  | [] => by unfold oks; rfl
  | x :: xs => by unfold oks; rw [oks_all n xs]; rfl
mutual
theorem lay_py : ∀ (n : Nat) (d : D), d.ok n = true → d.py.canLay0 = true
  | n, .non, _ => by unfold D.py; simp [PyData.canLay0]
  | n, .bl b, _ => by unfold D.py; simp [PyData.canLay0]
  | n, .int i, _ => by unfold D.py; simp [PyData.canLay0]
  | n, .str x, h => by unfold D.ok at h; unfold D.py; simp [PyData.canLay0]; exact h
  | n, .lst xs, h => by
    unfold D.ok at h
    simp only [Bool.and_eq_true, decide_eq_true_eq] at h
    unfold D.py; simp [PyData.canLay0]; exact lay_pys (n - 1) xs h.2
  | n, .tup xs, h => by
    unfold D.ok at h
    simp only [Bool.and_eq_true, decide_eq_true_eq] at h
    unfold D.py; simp [PyData.canLay0]; exact lay_pys (n - 1) xs h.2
  | n, .obj _ _, _ => by unfold D.py; simp [PyData.canLay0]
  | n, .scr _, _ => by unfold D.py; simp [PyData.canLay0]
  | n, .dct _ _, _ => by unfold D.py; simp [PyData.canLay0]
theorem lay_pys : ∀ (n : Nat) (ds : List D), oks n ds = true → PyData.canLayAll0 (pys ds) = true
  | n, [], _ => by unfold pys; simp [PyData.canLayAll0]
  | n, x :: xs, h => by
    unfold oks at h
    simp only [Bool.and_eq_true] at h
    unfold pys; simp [PyData.canLayAll0]; exact ⟨lay_py n x h.1, lay_pys n xs h.2⟩
end
mutual
theorem depth_py : ∀ (n : Nat) (d : D), d.ok n = true → d.py.depth ≤ n
  | n, .non, _ => by unfold D.py; simp [PyData.depth]
  | n, .bl b, _ => by unfold D.py; simp [PyData.depth]
  | n, .int i, _ => by unfold D.py; simp [PyData.depth]
  | n, .str x, _ => by unfold D.py; simp [PyData.depth]
  | n, .lst xs, h => by
    unfold D.py; simp only [PyData.depth]
    unfold D.ok at h
    simp only [Bool.and_eq_true, decide_eq_true_eq] at h
    have := depth_pys (n - 1) xs h.2
    omega
  | n, .tup xs, h => by
    unfold D.py; simp only [PyData.depth]
    unfold D.ok at h
    simp only [Bool.and_eq_true, decide_eq_true_eq] at h
    have := depth_pys (n - 1) xs h.2
    omega
  | n, .obj _ _, _ => by unfold D.py; simp [PyData.depth]
  | n, .scr _, _ => by unfold D.py; simp [PyData.depth]
  | n, .dct _ _, _ => by unfold D.py; simp [PyData.depth]
theorem depth_pys : ∀ (n : Nat) (ds : List D), oks n ds = true → PyData.depthAll (pys ds) ≤ n
  | n, [], _ => by unfold pys; simp [PyData.depthAll]
  | n, x :: xs, h => by
    unfold pys; simp only [PyData.depthAll]
    unfold oks at h
    simp only [Bool.and_eq_true] at h
    have := depth_py n x h.1
    have := depth_pys n xs h.2
    omega
end
theorem shaped_py {d : D} (h : d.ok 60 = true) : SeqAt.shaped d.py = true := by
  unfold SeqAt.shaped
  rw [Bool.and_eq_true]
  exact ⟨lay_py 60 d h, decide_eq_true (Nat.le_trans (depth_py 60 d h) (by decide))⟩
mutual
theorem eqv_py : ∀ (n : Nat) (x y : D), x.ok n = true → y.ok n = true → PyData.eqv x.py y.py = eqD x y
  | n, x, y, hx, hy => by
    cases x <;> cases y <;> first
      | (unfold D.ok at hx; cases hx; done)
      | (unfold D.ok at hy; cases hy; done)
      | (unfold D.py eqD; simp [PyData.eqv]; done)
      | (rename_i xs ys
         unfold D.py eqD; simp only [PyData.eqv]
         unfold D.ok at hx hy
         simp only [Bool.and_eq_true, decide_eq_true_eq] at hx hy
         exact eqv_pys (n - 1) xs ys hx.2 hy.2)
theorem eqv_pys : ∀ (n : Nat) (xs ys : List D), oks n xs = true → oks n ys = true → PyData.eqvAll (pys xs) (pys ys) = eqDs xs ys
  | n, [], [], _, _ => by unfold pys eqDs; simp [PyData.eqvAll]
  | n, [], y :: ys, _, _ => by unfold pys eqDs; simp [PyData.eqvAll]
  | n, x :: xs, [], _, _ => by unfold pys eqDs; simp [PyData.eqvAll]
  | n, x :: xs, y :: ys, hx, hy => by
    unfold oks at hx hy
    simp only [Bool.and_eq_true] at hx hy
    unfold pys eqDs
    simp only [PyData.eqvAll]
    rw [eqv_py n x y hx.1 hy.1, eqv_pys n xs ys hx.2 hy.2]
end
section
variable {T : Tb} {G H : Hp}
mutual
theorem Rep.dp : ∀ (n : Nat) (d : D) (v : V), d.ok n = true → Rep T G d v → Dp T.K G v d.py
  | n, .non, v, _, h => by have := Rep.non_inv h; subst this; unfold D.py; exact .non
  | n, .bl b, v, _, h => by have := Rep.bl_inv h; subst this; unfold D.py; exact .bl b
  | n, .int i, v, _, h => by have := Rep.int_inv h; subst this; unfold D.py; exact .int i
  | n, .str x, v, _, h => by have := Rep.str_inv h; subst this; unfold D.py; exact .str x
  | n, .lst xs, v, k, h => by
    obtain ⟨p, vs, rfl, sq, l, r⟩ := h.lst_inv
    unfold D.ok at k
    simp only [Bool.and_eq_true, decide_eq_true_eq] at k
    unfold D.py; exact .lst (SqL.of sq) (Reps.dp (n - 1) xs vs k.2 r)
  | n, .tup xs, v, k, h => by
    obtain ⟨p, vs, rfl, sq, l, r⟩ := h.tup_inv
    unfold D.ok at k
    simp only [Bool.and_eq_true, decide_eq_true_eq] at k
    unfold D.py; exact .tup (SqT.of sq) (Reps.dp (n - 1) xs vs k.2 r)
  | n, .obj _ _, v, k, h => by unfold D.ok at k; cases k
  | n, .scr _, v, k, h => by unfold D.ok at k; cases k
  | n, .dct _ _, v, k, h => by unfold D.ok at k; cases k
theorem Reps.dp : ∀ (n : Nat) (ds : List D) (vs : List V), oks n ds = true → Reps T G ds vs → DpAll T.K G vs (pys ds)
  | n, [], vs, _, h => by cases h.nil_inv; unfold pys; exact .nil
  | n, x :: xs, vs, k, h => by
    obtain ⟨v, r, rfl, a, b⟩ := h.cons_inv
    unfold oks at k
    simp only [Bool.and_eq_true] at k
    unfold pys
    exact .cons (Rep.dp n x v k.1 a) (Reps.dp n xs r k.2 b)
end
mutual
theorem Dp.mono {K : PySem.W.Frag} {G H : Hp} (e : Ex G H) : ∀ (d : PyData) (v : V), Dp K G v d → Dp K H v d
  | .none, v, h => by cases h; exact .non
  | .bool _, v, h => by cases h; exact .bl _
  | .int _, v, h => by cases h; exact .int _
  | .str _, v, h => by cases h; exact .str _
  | .list ds, v, h => by cases h with | lst s a => exact .lst (ex_l e s) (DpAll.mono e ds _ a)
  | .tuple ds, v, h => by cases h with | tup s a => exact .tup (ex_t e s) (DpAll.mono e ds _ a)
  | .dict _, v, h => by cases h
theorem DpAll.mono {K : PySem.W.Frag} {G H : Hp} (e : Ex G H) : ∀ (ds : List PyData) (vs : List V), DpAll K G vs ds → DpAll K H vs ds
  | [], vs, h => by cases h; exact .nil
  | d :: ds, vs, h => by cases h with | cons a b => exact .cons (Dp.mono e d _ a) (DpAll.mono e ds _ b)
end
theorem View.dp (e : Ex G H) {d : D} {v : V} (k : d.ok 60 = true) (h : View T G H d v) : Dp T.K H v d.py := by
  cases d with
  | lst xs =>
    obtain ⟨p, vs, rfl, sq, l, r⟩ := h
    unfold D.ok at k
    simp only [Bool.and_eq_true, decide_eq_true_eq] at k
    unfold D.py; exact .lst (SqL.of sq) (DpAll.mono e _ _ (Reps.dp _ xs vs k.2 r))
  | obj _ _ => unfold D.ok at k; cases k
  | scr _ => unfold D.ok at k; cases k
  | _ => exact Dp.mono e _ _ (Rep.dp 60 _ _ k h)
end

section
variable {X : Cx} {T : Tb} {W : WX} {a b o e : Expr} {es : List Expr} {A B : M} {pos p apos : Pos}
/-! ### == , != , in -/
def eqP (neg : Bool) (x y : D) : Option D := if (x.ok 60 && y.ok 60) = true then some (.bl (if neg then !eqD x y else eqD x y)) else none
theorem fresh_eq : Fresh2 T (eqP false) (rEqD T.K) := by
  intro G H x y d v u Q e hx hy hd k
  unfold eqP at hd
  split at hd
  · rename_i h
    simp only [Bool.and_eq_true] at h
    cases hd
    refine ⟨x.py, y.py, View.dp e h.1 hx, View.dp e h.2 hy, shaped_py h.1, shaped_py h.2, ?_⟩
    rw [eqv_py 60 x y h.1 h.2]
    exact k _ H G (Step.refl e) Rep.bl
  · cases hd
theorem fresh_ne : Fresh2 T (eqP true) (rNeD T.K) := by
  intro G H x y d v u Q e hx hy hd k
  unfold eqP at hd
  split at hd
  · rename_i h
    simp only [Bool.and_eq_true] at h
    cases hd
    refine ⟨x.py, y.py, View.dp e h.1 hx, View.dp e h.2 hy, shaped_py h.1, shaped_py h.2, ?_⟩
    rw [eqv_py 60 x y h.1 h.2]
    exact k _ H G (Step.refl e) Rep.bl
  · cases hd
theorem dn_eq {k : Nat} (hT : X.K = T.K) (hr : Room k X.A) (ha : PE X a (tD T W A)) (hb : PE X b (tD T W B)) : PE X (.Compare a [.Eq] [b] pos) (tD T W (mBin (lift2 (eqP false)) A B)) := dn_cmp (r := rEqD T.K) (by rw [← hT]; exact op_eqD hr.units) (prim2 fresh_eq) ha hb (nomark _)
theorem dn_ne {k : Nat} (hT : X.K = T.K) (hr : Room k X.A) (ha : PE X a (tD T W A)) (hb : PE X b (tD T W B)) : PE X (.Compare a [.NotEq] [b] pos) (tD T W (mBin (lift2 (eqP true)) A B)) := dn_cmp (r := rNeD T.K) (by rw [← hT]; exact op_neD hr.units) (prim2 fresh_ne) ha hb (nomark _)
theorem dt_eq {k : Nat} (hT : X.K = T.K) (hr : Room k X.A) (ha : PE X a (tD T W A)) (hb : PE X b (tD T W B)) : PT X (.Compare a [.Eq] [b] pos) (tDT T W (mTB (mBin (lift2 (eqP false)) A B))) := dt_cmp (r := rEqD T.K) (by rw [← hT]; exact op_eqD hr.units) (prim2 fresh_eq) ha hb (nomark _)
theorem dt_ne {k : Nat} (hT : X.K = T.K) (hr : Room k X.A) (ha : PE X a (tD T W A)) (hb : PE X b (tD T W B)) : PT X (.Compare a [.NotEq] [b] pos) (tDT T W (mTB (mBin (lift2 (eqP true)) A B))) := dt_cmp (r := rNeD T.K) (by rw [← hT]; exact op_neD hr.units) (prim2 fresh_ne) ha hb (nomark _)
def flatD : D → Bool
  | .non => true
  | .bl _ => true
  | .int _ => true
  | .str _ => true
  | _ => false
def inP (neg : Bool) : D → D → Option D
  | x, .lst ys => if (x.ok 60 && oks 59 ys) = true then some (.bl (if neg then !ys.any (fun z => eqD z x) else ys.any fun z => eqD z x)) else none
  | x, .tup ys => if (flatD x && ys.all flatD) = true then some (.bl (if neg then !ys.any (fun z => eqD z x) else ys.any fun z => eqD z x)) else none
  | _, _ => none
theorem flat_of {G : Hp} {x : D} {v : V} (h : flatD x = true) (r : Rep T G x v) : flatV v = true := by
  cases x <;> first
    | (cases h; done)
    | (have := Rep.non_inv r; subst this; rfl)
    | (have := Rep.bl_inv r; subst this; rfl)
    | (have := Rep.int_inv r; subst this; rfl)
    | (have := Rep.str_inv r; subst this; rfl)
theorem eqV_of {G : Hp} {x y : D} {v u : V} (hx : flatD x = true) (hy : flatD y = true) (r : Rep T G x v) (q : Rep T G y u) : eqV v u = eqD x y := by
  cases x <;> first
    | (cases hx; done)
    | (have := Rep.non_inv r; subst this
       cases y <;> first
        | (cases hy; done)
        | (have := Rep.non_inv q; subst this; unfold eqD; rfl)
        | (have := Rep.bl_inv q; subst this; unfold eqD; rfl)
        | (have := Rep.int_inv q; subst this; unfold eqD; rfl)
        | (have := Rep.str_inv q; subst this; unfold eqD; rfl))
    | (have := Rep.bl_inv r; subst this
       cases y <;> first
        | (cases hy; done)
        | (have := Rep.non_inv q; subst this; unfold eqD; rfl)
        | (have := Rep.bl_inv q; subst this; unfold eqD; rfl)
        | (have := Rep.int_inv q; subst this; unfold eqD; rfl)
        | (have := Rep.str_inv q; subst this; unfold eqD; rfl))
    | (have := Rep.int_inv r; subst this
       cases y <;> first
        | (cases hy; done)
        | (have := Rep.non_inv q; subst this; unfold eqD; rfl)
        | (have := Rep.bl_inv q; subst this; unfold eqD; rfl)
        | (have := Rep.int_inv q; subst this; unfold eqD; rfl)
        | (have := Rep.str_inv q; subst this; unfold eqD; rfl))
    | (have := Rep.str_inv r; subst this
       cases y <;> first
        | (cases hy; done)
        | (have := Rep.non_inv q; subst this; unfold eqD; rfl)
        | (have := Rep.bl_inv q; subst this; unfold eqD; rfl)
        | (have := Rep.int_inv q; subst this; unfold eqD; rfl)
        | (have := Rep.str_inv q; subst this; unfold eqD; rfl))
theorem any_of {G : Hp} {x : D} {v : V} (hx : flatD x = true) (r : Rep T G x v) : ∀ {ys : List D} {us : List V}, ys.all flatD = true → Reps T G ys us → us.all flatV = true ∧ inV v us = ys.any fun z => eqD z x
  | [], us, _, q => by cases q.nil_inv; exact ⟨rfl, rfl⟩
  | y :: ys, us, h, q => by
    obtain ⟨u, us, rfl, a, b⟩ := q.cons_inv
    simp only [List.all_cons, Bool.and_eq_true] at h
    obtain ⟨i1, i2⟩ := any_of hx r h.2 b
    refine ⟨by simp [flat_of h.1 a, i1], ?_⟩
    unfold inV at i2 ⊢
    rw [List.any_cons, List.any_cons, i2, eqV_of h.1 hx a r]
theorem eqv_any {x : D} (hx : x.ok 60 = true) : ∀ {ys : List D}, oks 59 ys = true → ((pys ys).any fun z => PyData.eqv z x.py) = ys.any fun z => eqD z x
  | [], _ => by unfold pys; rfl
  | y :: ys, h => by
    unfold oks at h
    simp only [Bool.and_eq_true] at h
    unfold pys
    have hy : y.ok 60 = true := ok_mono h.1
    rw [List.any_cons, List.any_cons, eqv_any hx h.2, eqv_py 60 y x hy hx]
where
  ok_mono : ∀ {d : D}, d.ok 59 = true → d.ok 60 = true := fun {d} h => okm 59 60 (by decide) d h
  okm : ∀ (n m : Nat), n ≤ m → ∀ d : D, d.ok n = true → d.ok m = true
    | n, m, l, .non, _ => by unfold D.ok; rfl
    | n, m, l, .bl _, _ => by unfold D.ok; rfl
    | n, m, l, .int _, _ => by unfold D.ok; rfl
    | n, m, l, .str _, h => by unfold D.ok at h ⊢; exact h
    | n, m, l, .lst xs, h => by
      unfold D.ok at h ⊢
      simp only [Bool.and_eq_true, decide_eq_true_eq] at h ⊢
      exact ⟨by omega, oksm (n - 1) (m - 1) (by omega) xs h.2⟩
    | n, m, l, .tup xs, h => by
      unfold D.ok at h ⊢
      simp only [Bool.and_eq_true, decide_eq_true_eq] at h ⊢
      exact ⟨by omega, oksm (n - 1) (m - 1) (by omega) xs h.2⟩
    | n, m, l, .obj _ _, h => by unfold D.ok at h; cases h
    | n, m, l, .scr _, h => by unfold D.ok at h; cases h
  oksm : ∀ (n m : Nat), n ≤ m → ∀ ds : List D, oks n ds = true → oks m ds = true
    | n, m, l, [], _ => by unfold oks; rfl
    | n, m, l, x :: xs, h => by
      unfold oks at h ⊢
      simp only [Bool.and_eq_true] at h ⊢
      exact ⟨okm n m l x h.1, oksm n m l xs h.2⟩
theorem ok_lst {ys : List D} (h : oks 59 ys = true) : (D.lst ys).ok 60 = true := by unfold D.ok; simp [h]
theorem fresh_in : Fresh2 T (inP false) (fun x y H Q => rInD T.K x y H Q ∨ rIn T.K false x y H Q) := by
  intro G H x y d v u Q e hx hy hd k
  unfold inP at hd
  split at hd
  · rename_i ys
    split at hd
    · rename_i h
      simp only [Bool.and_eq_true] at h
      cases hd
      have hy2 := View.dp e (ok_lst h.2) hy
      have hs := shaped_py (ok_lst h.2)
      unfold D.py at hy2 hs
      refine .inl ⟨x.py, pys ys, View.dp e h.1 hx, hy2, shaped_py h.1, hs, ?_⟩
      rw [eqv_any h.1 h.2]
      exact k _ H G (Step.refl e) Rep.bl
    · cases hd
  · rename_i ys
    split at hd
    · rename_i h
      simp only [Bool.and_eq_true] at h
      cases hd
      obtain ⟨q, us, rfl, sq, l, r⟩ := View.tup_inv hy
      have hx' : Rep T G x v := by cases x <;> first | (cases h.1; done) | exact hx
      obtain ⟨f1, f2⟩ := any_of h.1 hx' h.2 r
      refine .inr ⟨q, us, rfl, .inr (SqT.of (e _ _ sq)), flat_of h.1 hx', f1, ?_⟩
      rw [f2]
      exact k _ H G (Step.refl e) Rep.bl
    · cases hd
  · cases hd
theorem fresh_notIn : Fresh2 T (inP true) (fun x y H Q => rNotInD T.K x y H Q ∨ rIn T.K true x y H Q) := by
  intro G H x y d v u Q e hx hy hd k
  unfold inP at hd
  split at hd
  · rename_i ys
    split at hd
    · rename_i h
      simp only [Bool.and_eq_true] at h
      cases hd
      have hy2 := View.dp e (ok_lst h.2) hy
      have hs := shaped_py (ok_lst h.2)
      unfold D.py at hy2 hs
      refine .inl ⟨x.py, pys ys, View.dp e h.1 hx, hy2, shaped_py h.1, hs, ?_⟩
      rw [eqv_any h.1 h.2]
      exact k _ H G (Step.refl e) Rep.bl
    · cases hd
  · rename_i ys
    split at hd
    · rename_i h
      simp only [Bool.and_eq_true] at h
      cases hd
      obtain ⟨q, us, rfl, sq, l, r⟩ := View.tup_inv hy
      have hx' : Rep T G x v := by cases x <;> first | (cases h.1; done) | exact hx
      obtain ⟨f1, f2⟩ := any_of h.1 hx' h.2 r
      refine .inr ⟨q, us, rfl, .inr (SqT.of (e _ _ sq)), flat_of h.1 hx', f1, ?_⟩
      rw [f2]
      exact k _ H G (Step.refl e) Rep.bl
    · cases hd
  · cases hd
theorem dn_in {k : Nat} (hT : X.K = T.K) (hr : Room (k + 1) X.A) (ha : PE X a (tD T W A)) (hb : PE X b (tD T W B)) (hm : behindInMarks .In b = false := by rfl) : PE X (.Compare a [.In] [b] pos) (tD T W (mBin (lift2 (inP false)) A B)) :=
  dn_cmp (r := fun x y H Q => rInD T.K x y H Q ∨ rIn T.K false x y H Q) (by rw [← hT]; exact (op_inD (by have := hr.un; omega)).or op_in_seq) (prim2 fresh_in) ha hb hm
theorem dt_in {k : Nat} (hT : X.K = T.K) (hr : Room (k + 1) X.A) (ha : PE X a (tD T W A)) (hb : PE X b (tD T W B)) (hm : behindInMarks .In b = false := by rfl) : PT X (.Compare a [.In] [b] pos) (tDT T W (mTB (mBin (lift2 (inP false)) A B))) :=
  dt_cmp (r := fun x y H Q => rInD T.K x y H Q ∨ rIn T.K false x y H Q) (by rw [← hT]; exact (op_inD (by have := hr.un; omega)).or op_in_seq) (prim2 fresh_in) ha hb hm
theorem dn_notIn {k : Nat} (hT : X.K = T.K) (hr : Room (k + 1) X.A) (ha : PE X a (tD T W A)) (hb : PE X b (tD T W B)) (hm : behindInMarks .NotIn b = false := by rfl) : PE X (.Compare a [.NotIn] [b] pos) (tD T W (mBin (lift2 (inP true)) A B)) :=
  dn_cmp (r := fun x y H Q => rNotInD T.K x y H Q ∨ rIn T.K true x y H Q) (by rw [← hT]; exact (op_notInD (by have := hr.un; omega)).or op_notIn_seq) (prim2 fresh_notIn) ha hb hm
theorem dt_notIn {k : Nat} (hT : X.K = T.K) (hr : Room (k + 1) X.A) (ha : PE X a (tD T W A)) (hb : PE X b (tD T W B)) (hm : behindInMarks .NotIn b = false := by rfl) : PT X (.Compare a [.NotIn] [b] pos) (tDT T W (mTB (mBin (lift2 (inP true)) A B))) :=
  dt_cmp (r := fun x y H Q => rNotInD T.K x y H Q ∨ rIn T.K true x y H Q) (by rw [← hT]; exact (op_notInD (by have := hr.un; omega)).or op_notIn_seq) (prim2 fresh_notIn) ha hb hm

/-! ### places -/
def ixD : D → D → Option D
  | .lst xs, .int i => atI xs i
  | .tup xs, .int i => atI xs i
  | .scr ns, .int i => atI (ns.map D.int) i
  | .str z, .int i => if z.length ≤ sizeLine then (atI z.cps.toList i).map fun c => .str ⟨#[c]⟩ else none
  | _, _ => none
theorem Reps.atI {G : Hp} {xs : List D} {vs : List V} {i : Int} {d : D} (r : Reps T G xs vs) (h : L2.atI xs i = some d) : ∃ v, L2.atI vs i = some v ∧ Rep T G d v := by
  unfold L2.atI at h ⊢
  rw [r.length]
  cases e : ixN xs.length i with
  | none => rw [e] at h; cases h
  | some j =>
    rw [e] at h
    exact r.get h
theorem fresh_ix : Fresh2 T ixD (rIx T.K) := by
  intro G H x y d v u Q e hx hy hd k
  unfold ixD at hd
  split at hd
  · obtain ⟨q, vs, rfl, sq, l, r⟩ := hx
    have := View.int_inv hy; subst this
    obtain ⟨w, hw, rw'⟩ := r.atI hd
    exact .inl ⟨q, vs, _, w, rfl, rfl, SqL.of sq, hw, k _ H G (Step.refl e) rw'⟩
  · obtain ⟨q, vs, rfl, sq, l, r⟩ := View.tup_inv hx
    have := View.int_inv hy; subst this
    obtain ⟨w, hw, rw'⟩ := r.atI hd
    exact .inr (.inl ⟨q, vs, _, w, rfl, rfl, SqT.of (e _ _ sq), hw, k _ H G (Step.refl e) rw'⟩)
  · obtain ⟨q, rfl, sq, l⟩ := hx
    have := View.int_inv hy; subst this
    obtain ⟨w, hw, rw'⟩ := (Reps.map_int (T := T) (G := G) _).atI hd
    exact .inl ⟨q, _, _, w, rfl, rfl, sq, hw, k _ H G (Step.refl e) rw'⟩
  · rename_i z i
    split at hd
    · rename_i hl
      have := View.str_inv hx; subst this
      have := View.int_inv hy; subst this
      cases h : atI z.cps.toList i with
      | none => rw [h] at hd; cases hd
      | some c =>
        rw [h] at hd
        cases hd
        exact .inr (.inr ⟨z, i, c, rfl, rfl, hl, h, k _ H G (Step.refl e) Rep.str⟩)
    · cases hd
  · cases hd
theorem dn_ix (hT : X.K = T.K) (ha : PE X a (tD T W A)) (hb : PE X b (tD T W B)) (hs : PlainIx b := by exact fun _ _ => rfl) : PE X (.Subscript a b pos) (tD T W (mBin (lift2 ixD) A B)) :=
  PE.imp (pe_ix (r := rIx T.K) (by rw [← hT]; exact ix_seq) ha hb hs) fun _ _ _ h => tD_bin (prim2 fresh_ix) h

/-! ### built-ins -/
def lenD : List D → Option D
  | [.lst xs] => some (.int xs.length)
  | [.tup xs] => some (.int xs.length)
  | [.scr xs] => some (.int xs.length)
  | [.str z] => if z.length ≤ sizeLine then some (.int z.length) else none
  | _ => none
theorem Views.one {G H : Hp} {x : D} {vs : List V} (h : Views T G H [x] vs) : ∃ v, vs = [v] ∧ View T G H x v := by
  cases h with
  | cons a b => cases b; exact ⟨_, rfl, a⟩
theorem Views.two {G H : Hp} {x y : D} {vs : List V} (h : Views T G H [x, y] vs) : ∃ v u, vs = [v, u] ∧ View T G H x v ∧ View T G H y u := by
  cases h with
  | cons a b => obtain ⟨u, rfl, r⟩ := b.one; exact ⟨_, _, rfl, a, r⟩
theorem fresh_len : FreshN T lenD (fun xs H Q => (∃ p ys, xs = [.ref p] ∧ (SqL T.K H p ys ∨ SqT T.K H p ys) ∧ Q (.int ys.length) H) ∨ ∃ z, xs = [.str z] ∧ z.length ≤ sizeLine ∧ Q (.int z.length) H) := by
  intro G H x d v Q e hx hd k
  unfold lenD at hd
  split at hd
  · cases hd
    obtain ⟨v, rfl, q, vs, rfl, sq, l, r⟩ := hx.one
    exact .inl ⟨q, vs, rfl, .inl (SqL.of sq), by rw [r.length]; exact k _ H G (Step.refl e) Rep.int⟩
  · cases hd
    obtain ⟨v, rfl, h⟩ := hx.one
    obtain ⟨q, vs, rfl, sq, l, r⟩ := View.tup_inv h
    exact .inl ⟨q, vs, rfl, .inr (SqT.of (e _ _ sq)), by rw [r.length]; exact k _ H G (Step.refl e) Rep.int⟩
  · cases hd
    obtain ⟨v, rfl, q, rfl, sq, l⟩ := hx.one
    exact .inl ⟨q, _, rfl, .inl sq, by rw [List.length_map]; exact k _ H G (Step.refl e) Rep.int⟩
  · split at hd
    · rename_i hl
      cases hd
      obtain ⟨v, rfl, h⟩ := hx.one
      have := View.str_inv h; subst this
      exact .inr ⟨_, rfl, hl, k _ H G (Step.refl e) Rep.int⟩
    · cases hd
  · cases hd
theorem dn_len {B : MA} (hT : X.K = T.K) (hg : Gl X "len") (hm : X.mg "len" = none) (ha : PA X (e :: es) (tDA T W B)) (he : starEach (e :: es) X.env = (false, eval e X.env) :: starEach es X.env := by rfl) (hpl : (backTo pos (starEach es X.env)).any (·.1) = false := by rfl) : PE X (.Call (.Name "len" p) (e :: es) [] pos) (tD T W (mBlt (liftN lenD) B)) :=
  dn_callB (by have := (call_len_seq (X := X)).or call_len_str; rw [hT] at this; exact this) (primN fresh_len) hg hm PySem.boot_len ha (by decide) (by decide) he hpl
def listD : List D → Option D
  | [.lst xs] => some (.lst xs)
  | [.tup xs] => some (.lst xs)
  | [.scr ns] => some (.lst (ns.map D.int))
  | _ => none
theorem fresh_list : FreshN T listD (fun xs H Q => ∃ p ys, xs = [.ref p] ∧ (SqL T.K H p ys ∨ SqT T.K H p ys) ∧ ∀ l, H l = none → Q (.ref l) (upd H l (.lst ys))) := by
  intro G H x d v Q e hx hd k
  have fin : ∀ {xs : List D} {vs : List V} (l : Addr), Reps T G xs vs → xs.length ≤ sizeLine → d = .lst xs → H l = none → Q (.ref l) (upd H l (.lst vs)) := fun {xs vs} l r hl hd hn => by
    subst hd
    have st : Step G H (upd G l (.lst vs)) (upd H l (.lst vs)) := Step.new e hn
    exact k _ _ _ st (Rep.lst upd_same hl (Reps.mono st.g _ _ r))
  unfold listD at hd
  split at hd
  · cases hd
    obtain ⟨v, rfl, q, vs, rfl, sq, l, r⟩ := hx.one
    exact ⟨q, vs, rfl, .inl (SqL.of sq), fun t ht => fin t r l rfl ht⟩
  · cases hd
    obtain ⟨v, rfl, h⟩ := hx.one
    obtain ⟨q, vs, rfl, sq, l, r⟩ := View.tup_inv h
    exact ⟨q, vs, rfl, .inr (SqT.of (e _ _ sq)), fun t ht => fin t r l rfl ht⟩
  · cases hd
    obtain ⟨v, rfl, q, rfl, sq, l⟩ := hx.one
    exact ⟨q, _, rfl, .inl sq, fun t ht => fin t (Reps.map_int _) (by simpa using l) rfl ht⟩
  · cases hd
theorem dn_list {B : MA} (hT : X.K = T.K) (hg : Gl X "list") (hm : X.mg "list" = none) (ha : PA X (e :: es) (tDA T W B)) (he : starEach (e :: es) X.env = (false, eval e X.env) :: starEach es X.env := by rfl) (hpl : (backTo pos (starEach es X.env)).any (·.1) = false := by rfl) : PE X (.Call (.Name "list" p) (e :: es) [] pos) (tD T W (mBlt (liftN listD) B)) :=
  dn_callTy (by have := call_list_of (X := X); rw [hT] at this; exact this) (primN fresh_list) hg hm (by decide +kernel) ha (by decide) (by decide) he hpl
def tupleD : List D → Option D
  | [.lst xs] => some (.tup xs)
  | [.tup xs] => some (.tup xs)
  | _ => none
theorem fresh_tuple : FreshN T tupleD (fun xs H Q => ∃ p ys, xs = [.ref p] ∧ ((SqL T.K H p ys ∧ ∀ l, H l = none → Q (.ref l) (upd H l (.tup ys))) ∨ (SqT T.K H p ys ∧ Q (.ref p) H))) := by
  intro G H x d v Q e hx hd k
  unfold tupleD at hd
  split at hd
  · cases hd
    obtain ⟨v, rfl, q, vs, rfl, sq, l, r⟩ := hx.one
    refine ⟨q, vs, rfl, .inl ⟨SqL.of sq, fun t ht => ?_⟩⟩
    have st : Step G H (upd G t (.tup vs)) (upd H t (.tup vs)) := Step.new e ht
    exact k _ _ _ st (Rep.tup upd_same l (Reps.mono st.g _ _ r))
  · cases hd
    obtain ⟨v, rfl, h⟩ := hx.one
    obtain ⟨q, vs, rfl, sq, l, r⟩ := View.tup_inv h
    exact ⟨q, vs, rfl, .inr ⟨SqT.of (e _ _ sq), k _ H G (Step.refl e) (Rep.tup sq l r)⟩⟩
  · cases hd
theorem dn_tuple {B : MA} (hT : X.K = T.K) (hg : Gl X "tuple") (hm : X.mg "tuple" = none) (ha : PA X (e :: es) (tDA T W B)) (he : starEach (e :: es) X.env = (false, eval e X.env) :: starEach es X.env := by rfl) (hpl : (backTo pos (starEach es X.env)).any (·.1) = false := by rfl) : PE X (.Call (.Name "tuple" p) (e :: es) [] pos) (tD T W (mBlt (liftN tupleD) B)) :=
  dn_callTy (by have := call_tuple_of (X := X); rw [hT] at this; exact this) (primN fresh_tuple) hg hm (by decide +kernel) ha (by decide) (by decide) he hpl
def ints? : List D → Option (List Int)
  | [] => some []
  | .int i :: r => match ints? r with
    | some ns => some (i :: ns)
    | none => none
  | _ :: _ => none
theorem ints?_map : ∀ ns : List Int, ints? (ns.map D.int) = some ns
  | [] => rfl
  | n :: ns => by show (match ints? (ns.map D.int) with | some ns => some (n :: ns) | none => none) = _; rw [ints?_map ns]
theorem ints?_inv : ∀ {xs : List D} {ns : List Int}, ints? xs = some ns → xs = ns.map D.int
  | [], _, h => by cases h; rfl
  | .int i :: r, ns, h => by
    unfold ints? at h
    cases e : ints? r with
    | none => rw [e] at h; cases h
    | some ms => rw [e] at h; cases h; rw [ints?_inv e]; rfl
  | .non :: _, _, h => by cases h
  | .bl _ :: _, _, h => by cases h
  | .str _ :: _, _, h => by cases h
  | .lst _ :: _, _, h => by cases h
  | .tup _ :: _, _, h => by cases h
  | .obj _ _ :: _, _, h => by cases h
  | .scr _ :: _, _, h => by cases h
theorem Reps.ints {G : Hp} : ∀ {ns : List Int} {vs : List V}, Reps T G (ns.map D.int) vs → vs = ns.map V.int
  | [], vs, h => h.nil_inv
  | n :: ns, vs, h => by
    obtain ⟨v, r, rfl, a, b⟩ := h.cons_inv
    have := Rep.int_inv a; subst this
    rw [Reps.ints b]; rfl
def sumD : List D → Option D
  | [.lst xs] => (ints? xs).map fun ns => .int ns.sum
  | [.scr ns] => some (.int ns.sum)
  | _ => none
theorem fresh_sum : FreshN T sumD (rSum T.K) := by
  intro G H x d v Q e hx hd k
  unfold sumD at hd
  split at hd
  · rename_i xs
    cases h : ints? xs with
    | none => rw [h] at hd; cases hd
    | some ns =>
      rw [h] at hd
      cases hd
      have := ints?_inv h; subst this
      obtain ⟨v, rfl, q, vs, rfl, sq, l, r⟩ := hx.one
      rw [r.ints] at sq
      exact ⟨q, ns, rfl, SqL.of sq, k _ H G (Step.refl e) Rep.int⟩
  · cases hd
    obtain ⟨v, rfl, q, rfl, sq, l⟩ := hx.one
    exact ⟨q, _, rfl, sq, k _ H G (Step.refl e) Rep.int⟩
  · cases hd
theorem dn_sum {B : MA} (hT : X.K = T.K) (hc : X.calm = true) (hg : Gl X "sum") (hm : X.mg "sum" = none) (ha : PA X (e :: es) (tDA T W B)) (he : starEach (e :: es) X.env = (false, eval e X.env) :: starEach es X.env := by rfl) (hpl : (backTo pos (starEach es X.env)).any (·.1) = false := by rfl) : PE X (.Call (.Name "sum" p) (e :: es) [] pos) (tD T W (mBlt (liftN sumD) B)) :=
  dn_callB (by have := cr_sum (X := X) hc; rw [hT] at this; exact this) (primN fresh_sum) hg hm (by decide +kernel) ha (by decide) (by decide) he hpl
def absD : List D → Option D
  | [.int i] => some (.int (if i < 0 then -i else i))
  | _ => none
theorem fresh_abs : FreshN T absD (fun xs H Q => ∃ i, xs = [.int i] ∧ Q (.int (if i < 0 then -i else i)) H) := by
  intro G H x d v Q e hx hd k
  unfold absD at hd
  split at hd
  · cases hd
    obtain ⟨v, rfl, h⟩ := hx.one
    have := View.int_inv h; subst this
    exact ⟨_, rfl, k _ H G (Step.refl e) Rep.int⟩
  · cases hd
theorem dn_abs {B : MA} (hg : Gl X "abs") (hm : X.mg "abs" = none) (ha : PA X (e :: es) (tDA T W B)) (he : starEach (e :: es) X.env = (false, eval e X.env) :: starEach es X.env := by rfl) (hpl : (backTo pos (starEach es X.env)).any (·.1) = false := by rfl) : PE X (.Call (.Name "abs" p) (e :: es) [] pos) (tD T W (mBlt (liftN absD) B)) :=
  dn_callB call_abs (primN fresh_abs) hg hm (by decide +kernel) ha (by decide) (by decide) he hpl
def intD : List D → Option D
  | [.int i] => some (.int i)
  | _ => none
theorem fresh_int : FreshN T intD (fun xs H Q => (∃ i, xs = [.int i] ∧ Q (.int i) H) ∨ ∃ k, xs = [.bl k] ∧ Q (.int (if k then 1 else 0)) H) := by
  intro G H x d v Q e hx hd k
  unfold intD at hd
  split at hd
  · cases hd
    obtain ⟨v, rfl, h⟩ := hx.one
    have := View.int_inv h; subst this
    exact .inl ⟨_, rfl, k _ H G (Step.refl e) Rep.int⟩
  · cases hd
theorem dn_intc {B : MA} (hg : Gl X "int") (hm : X.mg "int" = none) (ha : PA X (e :: es) (tDA T W B)) (he : starEach (e :: es) X.env = (false, eval e X.env) :: starEach es X.env := by rfl) (hpl : (backTo pos (starEach es X.env)).any (·.1) = false := by rfl) : PE X (.Call (.Name "int" p) (e :: es) [] pos) (tD T W (mBlt (liftN intD) B)) :=
  dn_callTy call_int1 (primN fresh_int) hg hm (by decide +kernel) ha (by decide) (by decide) he hpl
def max2D : List D → Option D
  | [.int i, .int j] => some (.int (if j > i then j else i))
  | _ => none
def min2D : List D → Option D
  | [.int i, .int j] => some (.int (if j < i then j else i))
  | _ => none
theorem fresh_max2 : FreshN T max2D (fun xs H Q => ∃ i j, xs = [.int i, .int j] ∧ Q (.int (if j > i then j else i)) H) := by
  intro G H x d v Q e hx hd k
  unfold max2D at hd
  split at hd
  · cases hd
    obtain ⟨v, u, rfl, h, h'⟩ := hx.two
    have := View.int_inv h; subst this
    have := View.int_inv h'; subst this
    exact ⟨_, _, rfl, k _ H G (Step.refl e) Rep.int⟩
  · cases hd
theorem fresh_min2 : FreshN T min2D (fun xs H Q => ∃ i j, xs = [.int i, .int j] ∧ Q (.int (if j < i then j else i)) H) := by
  intro G H x d v Q e hx hd k
  unfold min2D at hd
  split at hd
  · cases hd
    obtain ⟨v, u, rfl, h, h'⟩ := hx.two
    have := View.int_inv h; subst this
    have := View.int_inv h'; subst this
    exact ⟨_, _, rfl, k _ H G (Step.refl e) Rep.int⟩
  · cases hd
theorem dn_max2 {B : MA} (hc : X.calm = true) (hg : Gl X "max") (hm : X.mg "max" = none) (ha : PA X (e :: es) (tDA T W B)) (he : starEach (e :: es) X.env = (false, eval e X.env) :: starEach es X.env := by rfl) (hpl : (backTo pos (starEach es X.env)).any (·.1) = false := by rfl) : PE X (.Call (.Name "max" p) (e :: es) [] pos) (tD T W (mBlt (liftN max2D) B)) :=
  dn_callB (call_max2 hc) (primN fresh_max2) hg hm (by decide +kernel) ha (by decide) (by decide) he hpl
theorem dn_min2 {B : MA} (hc : X.calm = true) (hg : Gl X "min") (hm : X.mg "min" = none) (ha : PA X (e :: es) (tDA T W B)) (he : starEach (e :: es) X.env = (false, eval e X.env) :: starEach es X.env := by rfl) (hpl : (backTo pos (starEach es X.env)).any (·.1) = false := by rfl) : PE X (.Call (.Name "min" p) (e :: es) [] pos) (tD T W (mBlt (liftN min2D) B)) :=
  dn_callB (call_min2 hc) (primN fresh_min2) hg hm (by decide +kernel) ha (by decide) (by decide) he hpl
def bls? : List D → Option (List Bool)
  | [] => some []
  | .bl i :: r => match bls? r with
    | some ns => some (i :: ns)
    | none => none
  | _ :: _ => none
theorem bls?_map : ∀ ns : List Bool, bls? (ns.map D.bl) = some ns
  | [] => rfl
  | n :: ns => by show (match bls? (ns.map D.bl) with | some ns => some (n :: ns) | none => none) = _; rw [bls?_map ns]
theorem bls?_inv : ∀ {xs : List D} {ns : List Bool}, bls? xs = some ns → xs = ns.map D.bl
  | [], _, h => by cases h; rfl
  | .bl i :: r, ns, h => by
    unfold bls? at h
    cases e : bls? r with
    | none => rw [e] at h; cases h
    | some ms => rw [e] at h; cases h; rw [bls?_inv e]; rfl
  | .non :: _, _, h => by cases h
  | .int _ :: _, _, h => by cases h
  | .str _ :: _, _, h => by cases h
  | .lst _ :: _, _, h => by cases h
  | .tup _ :: _, _, h => by cases h
  | .obj _ _ :: _, _, h => by cases h
  | .scr _ :: _, _, h => by cases h
theorem Reps.bls {G : Hp} : ∀ {ns : List Bool} {vs : List V}, Reps T G (ns.map D.bl) vs → vs = ns.map V.bl
  | [], vs, h => h.nil_inv
  | n :: ns, vs, h => by
    obtain ⟨v, r, rfl, a, b⟩ := h.cons_inv
    have := Rep.bl_inv a; subst this
    rw [Reps.bls b]; rfl
def allD : List D → Option D
  | [.lst xs] => (bls? xs).map fun ns => .bl (ns.all id)
  | _ => none
def anyD : List D → Option D
  | [.lst xs] => (bls? xs).map fun ns => .bl (ns.any id)
  | _ => none
theorem fresh_all : FreshN T allD (L2.rAll T.K) := by
  intro G H x d v Q e hx hd k
  unfold allD at hd
  split at hd
  · rename_i xs
    cases h : bls? xs with
    | none => rw [h] at hd; cases hd
    | some ns =>
      rw [h] at hd
      cases hd
      have := bls?_inv h; subst this
      obtain ⟨v, rfl, q, vs, rfl, sq, l, r⟩ := hx.one
      rw [r.bls] at sq
      exact ⟨q, ns, rfl, SqL.of sq, k _ H G (Step.refl e) Rep.bl⟩
  · cases hd
theorem fresh_any : FreshN T anyD (L2.rAny T.K) := by
  intro G H x d v Q e hx hd k
  unfold anyD at hd
  split at hd
  · rename_i xs
    cases h : bls? xs with
    | none => rw [h] at hd; cases hd
    | some ns =>
      rw [h] at hd
      cases hd
      have := bls?_inv h; subst this
      obtain ⟨v, rfl, q, vs, rfl, sq, l, r⟩ := hx.one
      rw [r.bls] at sq
      exact ⟨q, ns, rfl, SqL.of sq, k _ H G (Step.refl e) Rep.bl⟩
  · cases hd
theorem dn_all {B : MA} (hT : X.K = T.K) (hc : X.calm = true) (hg : Gl X "all") (hm : X.mg "all" = none) (ha : PA X (e :: es) (tDA T W B)) (he : starEach (e :: es) X.env = (false, eval e X.env) :: starEach es X.env := by rfl) (hpl : (backTo pos (starEach es X.env)).any (·.1) = false := by rfl) : PE X (.Call (.Name "all" p) (e :: es) [] pos) (tD T W (mBlt (liftN allD) B)) :=
  dn_callB (by have := cr_all (X := X) hc; rw [hT] at this; exact this) (primN fresh_all) hg hm (by decide +kernel) ha (by decide) (by decide) he hpl
theorem dn_any {B : MA} (hT : X.K = T.K) (hc : X.calm = true) (hg : Gl X "any") (hm : X.mg "any" = none) (ha : PA X (e :: es) (tDA T W B)) (he : starEach (e :: es) X.env = (false, eval e X.env) :: starEach es X.env := by rfl) (hpl : (backTo pos (starEach es X.env)).any (·.1) = false := by rfl) : PE X (.Call (.Name "any" p) (e :: es) [] pos) (tD T W (mBlt (liftN anyD) B)) :=
  dn_callB (by have := cr_any (X := X) hc; rw [hT] at this; exact this) (primN fresh_any) hg hm (by decide +kernel) ha (by decide) (by decide) he hpl

/-! ### sorted -/
def allAlike (xs : List D) : Bool := xs.all fun x => xs.all fun y => PySem.W.alike x.py y.py
def isTup1 : PyData → Bool
  | .tuple (_ :: _) => true
  | _ => false
def notTup : PyData → Bool
  | .tuple _ => false
  | .none => false
  | _ => true
def sortOk (xs : List D) : Bool := xs.all (D.ok 50) && allAlike xs && (xs.all (fun x => isTup1 x.py) || xs.all fun x => notTup x.py)
def sortL (xs : List D) : List D := xs.mergeSort (PySem.W.dataLe false D.py)
def sortedD : List D → Option D
  | [.lst xs] => if sortOk xs = true then some (.lst (sortL xs)) else none
  | _ => none
def rSrt (T : Tb) : List V → Hp → VK → Prop := fun vs H Q => ∃ G q us xs, vs = [.ref q] ∧ Ex G H ∧ H q = some (.lst us) ∧ Reps T G xs us ∧ sortOk xs = true ∧ xs.length ≤ sizeLine ∧ ∀ t ws, H t = none → Reps T G (sortL xs) ws → Q (.ref t) (upd H t (.lst ws))
theorem alike_ok {xs : List D} (h : allAlike xs = true) : PySem.W.AllAlike (xs.map D.py) := by
  intro d hd d' hd'
  obtain ⟨x, hx, rfl⟩ := List.mem_map.mp hd
  obtain ⟨y, hy, rfl⟩ := List.mem_map.mp hd'
  unfold allAlike at h
  rw [List.all_eq_true] at h
  have := h x hx
  rw [List.all_eq_true] at this
  exact this y hy
theorem sortable_ok {xs : List D} (h : (xs.all (fun x => isTup1 x.py) || xs.all fun x => notTup x.py) = true) : PySem.W.Sortable (xs.map D.py) := by
  rw [Bool.or_eq_true] at h
  rcases h with h | h
  · refine .inl fun d hd => ?_
    obtain ⟨x, hx, rfl⟩ := List.mem_map.mp hd
    rw [List.all_eq_true] at h
    have := h x hx
    unfold isTup1 at this
    split at this
    · rename_i a r hh; exact ⟨a, r, hh⟩
    · cases this
  · refine .inr fun d hd => ?_
    obtain ⟨x, hx, rfl⟩ := List.mem_map.mp hd
    rw [List.all_eq_true] at h
    have := h x hx
    unfold notTup at this
    split at this
    · cases this
    · cases this
    · rename_i h1 h2
      exact ⟨h2, h1⟩
theorem each_of {G H : Hp} (e : Ex G H) {pins : List (Addr × Obj)} {σ : L2.St} {s : Shared} (hT : X.K = T.K) (I : Inv X pins σ H s) : ∀ {xs : List D} {us : List V} {its : List Value}, xs.all (D.ok 50) = true → Reps T G xs us → Vals us its →
    PySem.W.EachIs (fun (v : Value) (d : D) => ∃ x : V, RelV x v ∧ Rep T G d x) its xs ∧ PySem.W.EachIs (fun (v : Value) (d : D) => ∃ as, Reads s.heap v d.py as) its xs
  | [], us, its, _, r, v => by cases r.nil_inv; cases v; exact ⟨.nil, .nil⟩
  | x :: xs, us, its, h, r, v => by
    obtain ⟨u, us, rfl, a, b⟩ := r.cons_inv
    simp only [List.all_cons, Bool.and_eq_true] at h
    cases v with
    | cons v1 v2 =>
      obtain ⟨i1, i2⟩ := each_of e hT I h.2 b v2
      have hd : Dp X.K H u x.py := by rw [hT]; exact Dp.mono e _ _ (Rep.dp 50 _ _ h.1 a)
      exact ⟨.cons ⟨u, v1, a⟩ i1, .cons (Dp.reads I _ _ _ hd v1) i2⟩
theorem each_back {G : Hp} : ∀ {its : List Value} {xs : List D}, PySem.W.EachIs (fun (v : Value) (d : D) => ∃ x : V, RelV x v ∧ Rep T G d x) its xs → ∃ us, Vals us its ∧ Reps T G xs us
  | _, _, .nil => ⟨[], .nil, Reps.nil⟩
  | _, _, .cons ⟨x, r, q⟩ t => let ⟨us, a, b⟩ := each_back t; ⟨x :: us, .cons r a, Reps.cons q b⟩
theorem cr_srt (hT : X.K = T.K) (hu : X.A.units + 64 < cLine) : CallR X (.builtin "sorted") (rSrt T) := by
  intro pins s σ H vs us0 Q I r h
  obtain ⟨G, q, us, xs, rfl, e, hq, rr, ok, hlen, k⟩ := h
  rw [Vals.ref1 r]
  unfold sortOk at ok
  simp only [Bool.and_eq_true] at ok
  obtain ⟨⟨o1, o2⟩, o3⟩ := ok
  obtain ⟨its, rv, hl, hz⟩ := I.list (SqL.of hq)
  obtain ⟨e1, e2⟩ := each_of e hT I o1 rr rv
  refine PySem.W.sorted_data (enc := D.py) hl.isList e1 e2 (alike_ok o2) (sortable_ok o3) hlen (fun b hb => ?_) fun out hol hout => ?_
  · rw [List.all_eq_true] at o1
    have := depth_py 50 b (o1 b hb)
    omega
  · obtain ⟨ws, hv, hr⟩ := each_back hout
    obtain ⟨ep, he'⟩ := PyProof.Rows.sortedAll_at s.heap its out.toArray
    have hwl : ws.length ≤ sizeLine := by rw [hr.length, List.length_mergeSort]; exact hlen
    exact ⟨.ref _, upd H (s.heap.objs.size + 1) (.lst ws), I.laid (t' := s.toks) (fun _ _ => PyProof.Rows.sortedAll_old) (Nat.le_succ _) ⟨hwl, out, ep, hv, he'⟩, rfl, k _ ws (I.hok.fresh (Nat.le_succ _)) hr⟩
theorem fresh_sorted : FreshN T sortedD (rSrt T) := by
  intro G H x d v Q e hx hd k
  unfold sortedD at hd
  split at hd
  · rename_i xs
    split at hd
    · rename_i ok
      cases hd
      obtain ⟨v, rfl, q, vs, rfl, sq, l, r⟩ := hx.one
      refine ⟨G, q, vs, xs, rfl, e, sq, r, ok, l, fun t ws ht hr => ?_⟩
      have st : Step G H (upd G t (.lst ws)) (upd H t (.lst ws)) := Step.new e ht
      exact k _ _ _ st (Rep.lst upd_same (by unfold sortL; rw [List.length_mergeSort]; exact l) (Reps.mono st.g _ _ hr))
    · cases hd
  · cases hd
theorem dn_sorted {B : MA} {k : Nat} (hT : X.K = T.K) (hr : Room k X.A) (hg : Gl X "sorted") (hm : X.mg "sorted" = none) (ha : PA X (e :: es) (tDA T W B)) (he : starEach (e :: es) X.env = (false, eval e X.env) :: starEach es X.env := by rfl) (hpl : (backTo pos (starEach es X.env)).any (·.1) = false := by rfl) : PE X (.Call (.Name "sorted" p) (e :: es) [] pos) (tD T W (mBlt (liftN sortedD) B)) :=
  dn_callB (cr_srt hT hr.units) (primN fresh_sorted) hg hm (by decide +kernel) ha (by decide) (by decide) he hpl
end
end Dn

end
section
set_option maxHeartbeats 4000000
/-! Dn7: == and != where objects with an own == stand among the items. -/
namespace Dn
open PySem PySem.Spec PyProof.Rows L2
open PySem.SeqAt
open AutoSeq1 (wpAny_loadPart')
open MeetsSeq MeetsSeq2 MeetsSeq3 SeqRoads2
section
variable {prog : Program} {w : World} {A : Around} {R : Result → Shared → Prop}
def codeOf (neg : Bool) : Int := if neg then 3 else 2
def Both (l b : Addr) (N : Nat) (s : Shared) : Prop := ∃ (x y : Array Value) (n m : Nat), s.heap.get? l = some { cls := .type "list", data := .seq x n } ∧ s.heap.get? b = some { cls := .type "list", data := .seq y m } ∧ x.size = N ∧ y.size = N
/-- at each turn the two lists are read anew; what the i-th two are found to be -/
def Pairs (prog : Program) (w : World) (A : Around) (E : Value → Shared → Prop) (l b : Addr) (N : Nat) (I : Nat → Shared → Prop) (Z : Shared → Prop) : Prop :=
  ∀ (i : Nat) (s : Shared), I i s → ∃ (x y : Array Value) (n m : Nat), s.heap.get? l = some { cls := .type "list", data := .seq x n } ∧ s.heap.get? b = some { cls := .type "list", data := .seq y m } ∧ x.size = N ∧ y.size = N ∧
    ∀ (h1 : i < x.size) (h2 : i < y.size), wpAny (model prog w) A.in1 (eqBool x[i] y[i]) (fun r t => (r = true ∧ I (i + 1) t) ∨ (r = false ∧ Z t)) E s
theorem cmp_loop (neg : Bool) {l b : Addr} {N : Nat} {I : Nat → Shared → Prop} {Z : Shared → Prop} (hl : Pairs prog w A (fun e t => R (.error e) t) l b N I Z) (hB : ∀ t, Z t → Both l b N t)
    (hN : ∀ t, I N t → R (.ok (.ret (.bool (!neg)))) t) (hZ : ∀ t, Z t → R (.ok (.ret (.bool neg))) t) :
    ∀ k i : Nat, N - i = k → i ≤ N → ∀ s, I i s → wpAny (model prog w) A.in1 (Builtin.«list.__eq__.loop» ⟨[.ref l, .ref b, rawInt i, rawInt (codeOf neg)], []⟩) (GQ.FinOf prog w A R) (fun e t => R (.error e) t) s := by
  intro k
  induction k with
  | zero =>
    intro i hk hi s hI
    obtain ⟨x, y, n, m, hx, hy, sx, sy, _⟩ := hl i s hI
    have e : i = N := by omega
    subst e
    have fin := hN s hI
    have nx : x[((i : Nat) : Int).toNat]? = none := by simp; omega
    have ny : y[((i : Nat) : Int).toNat]? = none := by simp; omega
    obtain ⟨hp, g, d, tk, os⟩ := s
    cases neg with
    | false =>
      wp_walk using wpAny_loadPart' hx, wpAny_loadPart' hy
      rw [nx, ny]
      wp_walk using wpAny_loadPart' hx, wpAny_loadPart' hy
      show R (.ok (.ret (.bool (x.size == y.size)))) _
      rw [sx, sy]
      simpa using fin
    | true =>
      wp_walk using wpAny_loadPart' hx, wpAny_loadPart' hy
      rw [nx, ny]
      wp_walk using wpAny_loadPart' hx, wpAny_loadPart' hy
      show R (.ok (.ret (.bool (x.size != y.size)))) _
      rw [sx, sy]
      simpa using fin
  | succ k ih =>
    intro i hk hi s hI
    obtain ⟨x, y, n, m, hx, hy, sx, sy, turn⟩ := hl i s hI
    have h1 : i < x.size := by omega
    have h2 : i < y.size := by omega
    have ht := turn h1 h2
    have gx : x[((i : Nat) : Int).toNat]? = some x[i] := by simp [h1]
    have gy : y[((i : Nat) : Int).toNat]? = some y[i] := by simp [h2]
    have hc : ((i : Int) + 1) = ((i + 1 : Nat) : Int) := by omega
    have two : ∀ t : Shared, Z t → ∃ (x y : Array Value) (n m : Nat), t.heap.get? l = some { cls := .type "list", data := .seq x n } ∧ t.heap.get? b = some { cls := .type "list", data := .seq y m } ∧ (∃ u, x[((i : Nat) : Int).toNat]? = some u) ∧ ∃ u, y[((i : Nat) : Int).toNat]? = some u := fun t z => by
      obtain ⟨x', y', n', m', q1, q2, q3, q4⟩ := hB t z
      have k1 : i < x'.size := by omega
      have k2 : i < y'.size := by omega
      exact ⟨x', y', n', m', q1, q2, ⟨x'[i], by simp [k1]⟩, ⟨y'[i], by simp [k2]⟩⟩
    obtain ⟨hp, g, d, tk, os⟩ := s
    cases neg with
    | false =>
      wp_walk using wpAny_loadPart' hx, wpAny_loadPart' hy
      rw [gx, gy]
      refine wpAny_bind (wpAny_mono ht (fun r t q => ?_) fun _ _ z => z)
      rcases q with ⟨rfl, q⟩ | ⟨rfl, q⟩
      · have next := ih (i + 1) (by omega) (by omega) t q
        obtain ⟨hp2, g2, d2, tk2, os2⟩ := t
        wp_walk
        rw [hc]
        exact ⟨plainId_quiet plain_eq_loop _, codeAny_builtin entry_eq_loop (by rw [Around.under_plainId plain_eq_loop _]; exact next)⟩
      · obtain ⟨x', y', n', m', q1, q2, ⟨u1, q3⟩, u2, q4⟩ := two t q
        have fin := hZ t q
        obtain ⟨hp2, g2, d2, tk2, os2⟩ := t
        wp_walk using wpAny_loadPart' q1, wpAny_loadPart' q2
        rw [q3, q4]
        wp_walk
        exact fin
    | true =>
      wp_walk using wpAny_loadPart' hx, wpAny_loadPart' hy
      rw [gx, gy]
      refine wpAny_bind (wpAny_mono ht (fun r t q => ?_) fun _ _ z => z)
      rcases q with ⟨rfl, q⟩ | ⟨rfl, q⟩
      · have next := ih (i + 1) (by omega) (by omega) t q
        obtain ⟨hp2, g2, d2, tk2, os2⟩ := t
        wp_walk
        rw [hc]
        exact ⟨plainId_quiet plain_eq_loop _, codeAny_builtin entry_eq_loop (by rw [Around.under_plainId plain_eq_loop _]; exact next)⟩
      · obtain ⟨x', y', n', m', q1, q2, ⟨u1, q3⟩, u2, q4⟩ := two t q
        have fin := hZ t q
        obtain ⟨hp2, g2, d2, tk2, os2⟩ := t
        wp_walk using wpAny_loadPart' q1, wpAny_loadPart' q2
        rw [q3, q4]
        wp_walk
        exact fin
def cmpOf (neg : Bool) : CmpOp := if neg then .NotEq else .Eq
theorem list_cmp (neg : Bool) {E : Value → Shared → Prop} {l b : Addr} {N : Nat} {I : Nat → Shared → Prop} {Z : Shared → Prop} {Q : Value → Shared → Prop} {s : Shared} (hu : A.units < cLine) (hl : Pairs prog w A E l b N I Z) (hB : ∀ t, Z t → Both l b N t)
    (hN : ∀ t, I N t → Q (.bool (!neg)) t) (hZ : ∀ t, Z t → Q (.bool neg) t) (h0 : I 0 s) : wpAny (model prog w) A (richCompare (cmpOf neg) (.ref l) (.ref b)) Q E s := by
  obtain ⟨x, y, n, m, hx, hy, sx, sy, _⟩ := hl 0 s h0
  have f3 := AutoSeq1.sub_list_list
  have hne : ¬ (x.size != y.size) = true := by simp [sx, sy]
  have lp := cmp_loop (R := wants (fun v t => v ≠ .notImplemented ∧ Q v t) E) neg hl hB (fun t q => ⟨(fun z => nomatch z), hN t q⟩) (fun t q => ⟨(fun z => nomatch z), hZ t q⟩) N 0 rfl (Nat.zero_le _) s h0
  cases neg with
  | false =>
    refine wpAny_richCompare_same_room (op := .Eq) ⟨_, hx, rfl⟩ ⟨_, hy, rfl⟩ F.slot_list_eq (GQ.call_here F.slot_list_eq ⟨_, hx, rfl⟩ F.entry_list_eq (F.args_list_eq_2 _ _) ?_) hu
    obtain ⟨hp, g, d, tk, os⟩ := s
    wp_walk using wpAny_loadPart' hx, wpAny_loadPart' hy
    exact ⟨plainId_quiet plain_eq_loop _, codeAny_builtin entry_eq_loop (by rw [Around.under_plainId plain_eq_loop _]; exact lp)⟩
  | true =>
    refine wpAny_richCompare_same_room (op := .NotEq) ⟨_, hx, rfl⟩ ⟨_, hy, rfl⟩ F.slot_list_ne (GQ.call_here F.slot_list_ne ⟨_, hx, rfl⟩ F.entry_list_ne (F.args_list_ne_2 _ _) ?_) hu
    obtain ⟨hp, g, d, tk, os⟩ := s
    wp_walk using wpAny_loadPart' hx, wpAny_loadPart' hy
    exact ⟨plainId_quiet plain_eq_loop _, codeAny_builtin entry_eq_loop (by rw [Around.under_plainId plain_eq_loop _]; exact lp)⟩
end

section
variable {X : Cx} {T : Tb} {W : WX} {a b o e : Expr} {es : List Expr} {A B : M} {pos p apos : Pos}
theorem RelH.grow {H H' : Hp} {c : Cs} {G : Hp} {ρ : List Addr} (r : RelH T H c G ρ) (e : Ex H H') : RelH T H' c G ρ := by
  refine ⟨r.ex.trans e, r.len, r.nd, fun i p x a b => ?_⟩
  obtain ⟨g, k⟩ := r.at_ i p x a b
  obtain ⟨o, ho⟩ := k.some
  exact ⟨g, k.keep (.refl _) ((e _ _ ho).trans ho.symm) (List.prefix_refl _)⟩
theorem RelH.none (H : Hp) : RelH T H [] H [] := ⟨.refl _, rfl, List.nodup_nil, fun i p x a _ => by simp at a⟩
/-- the own == of two objects of a class, anywhere below the body -/
theorem rc_own {fn : List S → Cs → R S} {n j k : Nat} (M : MethAt X.prog X.w X.K X.mg X.base T "__eq__" k j fn) (hj : j ≤ n) {Ar : Around} {pins : List (Addr × Obj)} {s : Shared} {σ : L2.St} {H : Hp} {x y : Addr} {xs ys : List D} {r : Bool} (sb : Sub X n Ar) (I : Inv X pins σ H s)
    (hx : Rep T H (.obj k xs) (.ref x)) (hy : Rep T H (.obj k ys) (.ref y)) (hf : fn [.d (.obj k xs), .d (.obj k ys)] [] = .ok (.d (.bl r)) []) :
    wpAny (model X.prog X.w) Ar (richCompare .Eq (.ref x) (.ref y)) (fun v s' => v = .bool r ∧ ∃ H', Inv X pins σ H' s' ∧ Ex H H') X.xe s := by
  obtain ⟨f, fd, ps, F, hm, hc, _, hb⟩ := M
  obtain ⟨_, dx, fv, e1, hx1, _⟩ := hx.obj_inv
  cases e1
  obtain ⟨_, dy, gv, e2, hy1, _⟩ := hy.obj_inv
  cases e2
  obtain ⟨mA, J, _⟩ := ins_get I.hok hx1
  obtain ⟨mB, J', _⟩ := ins_get I.hok hy1
  obtain ⟨od, J, _⟩ := J.look
  obtain ⟨od', J', _⟩ := J'.look
  obtain ⟨m, hF⟩ := I.fr
  refine PySem.W.cmp_K (op := .Eq) (tb := .ref (T.cl k)) sb.room.units0 hF I.ok.mod.kin J J'.type (by simp [PySem.W.notFirst]) hm.at_ hm.fn ?_
  have hsp : spD T fn [.ref x, .ref y] H (fun v H' => v = .bl r ∧ Ex H H') (fun _ _ _ => False) := by
    refine ⟨[.d (.obj k xs), .d (.obj k ys)], [], H, [], .cons hx (.cons hy .nil), RelH.none H, ?_⟩
    rw [hf]
    exact fun v H' G' ρ' eg pr rh rv => ⟨SRep.bl_inv rv, eg.trans rh.ex⟩
  have e0 : Env0 X.prog X.w X.K X.mg X.base Ar X.stack s H := by
    have e := I.env0
    exact ⟨by rw [sb.fr]; exact e.frames, e.mod, e.bs, e.bsz, e.funs, e.frf, e.hok, e.bare⟩
  have hl := F.len _ _ _ _ hsp
  have bb := hb s [.ref x, .ref y] I.kIn (by simpa using hl)
  rw [List.append_nil] at bb
  refine wpAny_call (codeAny_mono (F.run Ar X.stack s H ⟨[.ref x, .ref y], []⟩ [.ref x, .ref y] [.ref x, .ref y] _ _ (sb.room.mono hj) e0 bb (.cons rfl (.cons rfl .nil)) hsp) fun fl s' hq => ?_)
  cases fl with
  | error e =>
    obtain ⟨_, _, _, _, _, _, _, _, _, _, _, _, z⟩ := hq
    exact z.elim
  | ok fl =>
    cases fl with
    | ret w =>
      obtain ⟨z, H', I', rz, ez, ex⟩ := I.after hq
      subst ez
      cases rz
      exact ⟨rfl, H', I', ex⟩
    | next => exact False.elim hq
    | brk => exact False.elim hq
    | cont => exact False.elim hq
/-- two items: plain data, or objects that are equal by their own == -/
def isB (r : R S) : Option Bool := match r with
  | .ok (.d (.bl b)) [] => some b
  | _ => none
theorem isB_inv {r : R S} {b : Bool} (h : isB r = some b) : r = .ok (.d (.bl b)) [] := by
  unfold isB at h
  split at h
  · cases h; rfl
  · cases h
def eqIt (tbl : List (Nat × (List S → Cs → R S))) (x y : D) : Option Bool :=
  if (x.ok 50 && y.ok 50) = true then some (eqD x y) else match x, y with
    | .obj k xs, .obj k2 ys => if k = k2 then (match look tbl k with
        | some fn => if isB (fn [.d (.obj k xs), .d (.obj k2 ys)] []) = some true then some true else none
        | none => none) else none
    | _, _ => none
theorem eqIt_ok {tbl : List (Nat × (List S → Cs → R S))} {n : Nat} (hM : MethsAt X.prog X.w X.K X.mg X.base T "__eq__" n tbl) (hT : X.K = T.K) {Ar : Around} {pins : List (Addr × Obj)} {s : Shared} {σ : L2.St} {H G : Hp} {x y : D} {v u : V} {vv uu : Value} {r : Bool} (sb : Sub X n Ar) (I : Inv X pins σ H s) (eg : Ex G H)
    (hx : Rep T G x v) (hy : Rep T G y u) (rv : RelV v vv) (ru : RelV u uu) (h : eqIt tbl x y = some r) :
    wpAny (model X.prog X.w) Ar (eqBool vv uu) (fun z s' => z = r ∧ ∃ H', Inv X pins σ H' s' ∧ Ex H H') X.xe s := by
  unfold eqIt at h
  split at h
  · rename_i ok
    simp only [Bool.and_eq_true] at ok
    cases h
    have d1 : Dp X.K H v x.py := by rw [hT]; exact Dp.mono eg _ _ (Rep.dp 50 _ _ ok.1 hx)
    have d2 : Dp X.K H u y.py := by rw [hT]; exact Dp.mono eg _ _ (Rep.dp 50 _ _ ok.2 hy)
    obtain ⟨as, q1⟩ := Dp.reads I _ _ _ d1 rv
    obtain ⟨bs, q2⟩ := Dp.reads I _ _ _ d2 ru
    have dd := depth_py 50 x ok.1
    have hu := sb.room.units
    refine eqAt_reads x.py y.py Ar s vv uu as bs q1 q2 (lay_py 50 x ok.1) (lay_py 50 y ok.2) (by have := Nat.min_le_left x.py.depth y.py.depth; omega) X.prog X.w X.xe _ ⟨?_, H, I, .refl _⟩
    exact eqv_py 50 x y ok.1 ok.2
  · split at h
    · rename_i k xs k2 ys _
      split at h
      · rename_i hk
        subst hk
        cases hl : look tbl k with
        | none => simp only [hl] at h; cases h
        | some fn =>
          simp only [hl] at h
          split at h
          · rename_i hb
            cases h
            obtain ⟨j, hj, M⟩ := hM.get (look_mem hl)
            obtain ⟨pa, _, _, rfl, _⟩ := hx.obj_inv
            obtain ⟨pb, _, _, rfl, _⟩ := hy.obj_inv
            cases rv
            cases ru
            by_cases hab : pa = pb
            · subst hab
              exact SeqAt.EqAt.same (A := Ar) (s := s) (.ref pa) X.prog X.w X.xe _ ⟨rfl, H, I, .refl _⟩
            · refine GQ.eqBool_refG hab (wpAny_mono (rc_own M hj sb I (Rep.mono eg _ _ hx) (Rep.mono eg _ _ hy) (isB_inv hb)) (fun z s' q => ?_) fun _ _ z => z)
              obtain ⟨q1, q2⟩ := q
              exact ⟨true, q1, rfl, q2⟩
          · cases h
      · cases h
    · cases h
def eqLs (tbl : List (Nat × (List S → Cs → R S))) : List D → List D → Option Bool
  | [], [] => some true
  | x :: xs, y :: ys => match eqIt tbl x y with
    | some true => eqLs tbl xs ys
    | some false => some false
    | none => none
  | _, _ => none
def rEqLs (T : Tb) (tbl : List (Nat × (List S → Cs → R S))) (neg : Bool) : R2 := fun v u H Q => ∃ G p q vs us xs ys r, v = .ref p ∧ u = .ref q ∧ Ex G H ∧ H p = some (.lst vs) ∧ H q = some (.lst us) ∧ Reps T G xs vs ∧ Reps T G ys us ∧ xs.length = ys.length ∧ eqLs tbl xs ys = some r ∧
  ∀ H', Ex H H' → Q (.bl (if neg then !r else r)) H'
theorem op_eqLs {tbl : List (Nat × (List S → Cs → R S))} {n : Nat} (neg : Bool) (hM : MethsAt X.prog X.w X.K X.mg X.base T "__eq__" n tbl) (hT : X.K = T.K) (hr : Room (n + 1) X.A) : OpR X (compareOp (cmpOf neg)) (rEqLs T tbl neg) := by
  intro pins s σ H v0 u0 vv uu Q I rv ru h
  obtain ⟨G, p, q, vs, us, xs, ys, r, rfl, rfl, eg, hp, hq, rx, ry, hl, he, k⟩ := h
  cases rv
  cases ru
  have sb : Sub X (n + 1) X.A := ⟨hr, rfl⟩
  have go : wpAny (model X.prog X.w) X.A (richCompare (cmpOf neg) (.ref p) (.ref q)) (EP X pins σ Q) X.xe s := by
    refine list_cmp neg (N := xs.length) (I := fun i t => ∃ H', Inv X pins σ H' t ∧ Ex H H' ∧ eqLs tbl (xs.drop i) (ys.drop i) = some r) (Z := fun t => ∃ H', Inv X pins σ H' t ∧ Ex H H' ∧ r = false) hr.units0 (fun i t hI => ?_) (fun t hZ => ?_) (fun t hI => ?_) (fun t hZ => ?_) ⟨H, I, .refl _, by simpa using he⟩
    · obtain ⟨H1, I1, e1, q1⟩ := hI
      obtain ⟨z1, its, k1, r1, g1⟩ := I1.hok p _ (e1 _ _ hp)
      obtain ⟨z2, its2, k2, r2, g2⟩ := I1.hok q _ (e1 _ _ hq)
      have l1 : its.length = xs.length := by rw [← r1.length, rx.length]
      have l2 : its2.length = xs.length := by rw [← r2.length, ry.length, hl]
      refine ⟨its.toArray, its2.toArray, k1, k2, g1, g2, by simpa using l1, by simpa using l2, fun h1 h2 => ?_⟩
      have i1 : i < xs.length := by rw [← l1]; simpa using h1
      have i2 : i < ys.length := by rw [← hl]; exact i1
      rw [List.drop_eq_getElem_cons i1, List.drop_eq_getElem_cons i2] at q1
      unfold eqLs at q1
      obtain ⟨v, hv, rv⟩ := rx.get (List.getElem?_eq_getElem i1)
      obtain ⟨u, hu, ru⟩ := ry.get (List.getElem?_eq_getElem i2)
      obtain ⟨vv, hvv, rvv⟩ := r1.get hv
      obtain ⟨uu, huu, ruu⟩ := r2.get hu
      have ev : its.toArray[i] = vv := by
        have := (List.getElem?_eq_some_iff.mp hvv).2
        simpa using this
      have eu : its2.toArray[i] = uu := by
        have := (List.getElem?_eq_some_iff.mp huu).2
        simpa using this
      rw [ev, eu]
      cases hit : eqIt tbl xs[i] ys[i] with
      | none => simp only [hit] at q1; cases q1
      | some b =>
        simp only [hit] at q1
        refine wpAny_mono (eqIt_ok hM hT sb.in1 I1 (eg.trans e1) rv ru rvv ruu hit) (fun z t' q' => ?_) fun _ _ z => z
        obtain ⟨rfl, H2, I2, e2⟩ := q'
        cases z with
        | true => exact .inl ⟨rfl, H2, I2, e1.trans e2, q1⟩
        | false => exact .inr ⟨rfl, H2, I2, e1.trans e2, (Option.some.inj q1).symm⟩
    · obtain ⟨H1, I1, e1, q1⟩ := hZ
      obtain ⟨z1, its, k1, r1, g1⟩ := I1.hok p _ (e1 _ _ hp)
      obtain ⟨z2, its2, k2, r2, g2⟩ := I1.hok q _ (e1 _ _ hq)
      exact ⟨its.toArray, its2.toArray, k1, k2, g1, g2, by rw [List.size_toArray, ← r1.length, rx.length], by rw [List.size_toArray, ← r2.length, ry.length, hl]⟩
    · obtain ⟨H1, I1, e1, q1⟩ := hI
      rw [List.drop_length, hl, List.drop_length] at q1
      have : r = true := (Option.some.inj q1).symm
      subst this
      refine ⟨.bl (!neg), H1, I1, rfl, ?_⟩
      have := k H1 e1
      cases neg <;> exact this
    · obtain ⟨H1, I1, e1, q1⟩ := hZ
      subst q1
      refine ⟨.bl neg, H1, I1, rfl, ?_⟩
      have := k H1 e1
      cases neg <;> exact this
  cases neg <;> exact go
/-- == and != : plain data; two lists with objects among their items; two objects of a class -/
def eqX (tbl : List (Nat × (List S → Cs → R S))) (neg : Bool) : S → S → Cs → R S := fun s t c => match deref s c, deref t c with
  | some x, some y => if (x.ok 60 && y.ok 60) = true then .ok (.d (.bl (if neg then !eqD x y else eqD x y))) c else match x, y with
    | .lst xs, .lst ys => if xs.length = ys.length then (match eqLs tbl xs ys with
        | some r => .ok (.d (.bl (if neg then !r else r))) c
        | none => .bad) else .bad
    | _, _ => .bad
  | _, _ => .bad
theorem prim_eqX {tbl : List (Nat × (List S → Cs → R S))} {neg : Bool} : Prim2 T (eqX tbl neg) (fun x y H Q => (if neg then rNeD T.K else rEqD T.K) x y H Q ∨ rEqLs T tbl neg x y H Q) := by
  intro W σ G ρ H c s t v u Q hh rs rt p
  unfold eqX at p
  cases e1 : deref s c with
  | none => simp only [e1] at p; exact p.elim
  | some x =>
    cases e2 : deref t c with
    | none => simp only [e1, e2] at p; exact p.elim
    | some y =>
      simp only [e1, e2] at p
      have vx := deref_view hh rs e1
      have vy := deref_view hh rt e2
      by_cases ok : (x.ok 60 && y.ok 60) = true
      · rw [if_pos ok] at p
        have okk := ok
        simp only [Bool.and_eq_true] at okk
        left
        cases neg with
        | false => exact ⟨x.py, y.py, View.dp hh.ex okk.1 vx, View.dp hh.ex okk.2 vy, shaped_py okk.1, shaped_py okk.2, by rw [eqv_py 60 x y okk.1 okk.2]; exact p _ H G ρ (.refl _) (List.prefix_refl _) hh SRep.bl⟩
        | true => exact ⟨x.py, y.py, View.dp hh.ex okk.1 vx, View.dp hh.ex okk.2 vy, shaped_py okk.1, shaped_py okk.2, by rw [eqv_py 60 x y okk.1 okk.2]; exact p _ H G ρ (.refl _) (List.prefix_refl _) hh SRep.bl⟩
      · rw [if_neg ok] at p
        right
        cases x with
        | lst xs =>
          cases y with
          | lst ys =>
            by_cases hl : xs.length = ys.length
            · simp only [hl, if_true] at p
              cases he : eqLs tbl xs ys with
              | none => simp only [he] at p; exact p.elim
              | some r =>
                simp only [he] at p
                obtain ⟨pa, vs, rfl, sq, l, rx⟩ := vx
                obtain ⟨pb, us, rfl, sq', l', ry⟩ := vy
                exact ⟨G, pa, pb, vs, us, xs, ys, r, rfl, rfl, hh.ex, sq, sq', rx, ry, hl, he, fun H' e' => p _ H' G ρ (.refl _) (List.prefix_refl _) (hh.grow e') SRep.bl⟩
            · simp only [hl, if_false] at p; exact p.elim
          | _ => exact p.elim
        | _ => exact p.elim
theorem op_eqX {tbl : List (Nat × (List S → Cs → R S))} {n : Nat} (neg : Bool) (hM : MethsAt X.prog X.w X.K X.mg X.base T "__eq__" n tbl) (hT : X.K = T.K) (hr : Room (n + 1) X.A) : OpR X (compareOp (cmpOf neg)) (fun x y H Q => (if neg then rNeD T.K else rEqD T.K) x y H Q ∨ rEqLs T tbl neg x y H Q) := by
  cases neg with
  | false =>
    have h1 : OpR X (compareOp .Eq) (rEqD T.K) := by rw [← hT]; exact op_eqD hr.units
    exact OpR.or h1 (op_eqLs false hM hT hr)
  | true =>
    have h1 : OpR X (compareOp .NotEq) (rNeD T.K) := by rw [← hT]; exact op_neD hr.units
    exact OpR.or h1 (op_eqLs true hM hT hr)
section
variable {tbl : List (Nat × (List S → Cs → R S))} {n : Nat} (hM : MethsAt X.prog X.w X.K X.mg X.base T "__eq__" n tbl) (hT : X.K = T.K) (hr : Room (n + 1) X.A) (ha : PE X a (tD T W A)) (hb : PE X b (tD T W B))
include hM hT hr ha hb
theorem dn_eqX : PE X (.Compare a [.Eq] [b] pos) (tD T W (mBin (eqX tbl false) A B)) := dn_cmp (op_eqX false hM hT hr) prim_eqX ha hb (nomark _)
theorem dn_neX : PE X (.Compare a [.NotEq] [b] pos) (tD T W (mBin (eqX tbl true) A B)) := dn_cmp (op_eqX true hM hT hr) prim_eqX ha hb (nomark _)
theorem dt_eqX : PT X (.Compare a [.Eq] [b] pos) (tDT T W (mTB (mBin (eqX tbl false) A B))) := dt_cmp (op_eqX false hM hT hr) prim_eqX ha hb (nomark _)
theorem dt_neX : PT X (.Compare a [.NotEq] [b] pos) (tDT T W (mTB (mBin (eqX tbl true) A B))) := dt_cmp (op_eqX true hM hT hr) prim_eqX ha hb (nomark _)
end
/-- two objects of a class -/
def eqO (tbl : List (Nat × (List S → Cs → R S))) : S → S → Cs → R S := fun s t c => match s, t with
  | .d (.obj k xs), .d (.obj k2 ys) => if k = k2 then (match look tbl k with
      | some fn => match isB (fn [.d (.obj k xs), .d (.obj k2 ys)] []) with
        | some r => .ok (.d (.bl r)) c
        | none => .bad
      | none => .bad) else .bad
  | _, _ => .bad
def rEqO (T : Tb) (tbl : List (Nat × (List S → Cs → R S))) : R2 := fun v u H Q => ∃ k xs ys fn r, look tbl k = some fn ∧ Rep T H (.obj k xs) v ∧ Rep T H (.obj k ys) u ∧ fn [.d (.obj k xs), .d (.obj k ys)] [] = .ok (.d (.bl r)) [] ∧ ∀ H', Ex H H' → Q (.bl r) H'
theorem op_eqO {tbl : List (Nat × (List S → Cs → R S))} {n : Nat} (hM : MethsAt X.prog X.w X.K X.mg X.base T "__eq__" n tbl) (hr : Room n X.A) : OpR X (compareOp .Eq) (rEqO T tbl) := by
  intro pins s σ H v u vv uu Q I rv ru h
  obtain ⟨k, xs, ys, fn, r, hl, hx, hy, hf, q⟩ := h
  obtain ⟨j, hj, M⟩ := hM.get (look_mem hl)
  obtain ⟨pa, _, _, rfl, _⟩ := hx.obj_inv
  obtain ⟨pb, _, _, rfl, _⟩ := hy.obj_inv
  cases rv
  cases ru
  show wpAny (model X.prog X.w) X.A (richCompare .Eq (.ref pa) (.ref pb)) (EP X pins σ Q) X.xe s
  refine wpAny_mono (rc_own M hj ⟨hr, rfl⟩ I hx hy hf) (fun z s' ⟨e, H', I', ex⟩ => ?_) fun _ _ z => z
  subst e
  exact ⟨.bl r, H', I', rfl, q H' ex⟩
theorem prim_eqO {tbl : List (Nat × (List S → Cs → R S))} : Prim2 T (eqO tbl) (rEqO T tbl) := by
  intro W σ G ρ H c s t v u Q hh rs rt p
  unfold eqO at p
  split at p
  · rename_i k xs k2 ys
    split at p
    · rename_i hk
      subst hk
      cases hl : look tbl k with
      | none => simp only [hl] at p; exact p.elim
      | some fn =>
        simp only [hl] at p
        cases hb : isB (fn [.d (.obj k xs), .d (.obj k ys)] []) with
        | none => simp only [hb] at p; exact p.elim
        | some r =>
          simp only [hb] at p
          exact ⟨k, xs, ys, fn, r, hl, Rep.mono hh.ex _ _ rs, Rep.mono hh.ex _ _ rt, isB_inv hb, fun H' e' => p _ H' G ρ (.refl _) (List.prefix_refl _) (hh.grow e') SRep.bl⟩
    · exact p.elim
  · exact p.elim
section
variable {tbl : List (Nat × (List S → Cs → R S))} {n : Nat} (hM : MethsAt X.prog X.w X.K X.mg X.base T "__eq__" n tbl) (hr : Room n X.A) (ha : PE X a (tD T W A)) (hb : PE X b (tD T W B))
include hM hr ha hb
theorem dn_eqO : PE X (.Compare a [.Eq] [b] pos) (tD T W (mBin (eqO tbl) A B)) := dn_cmp (op_eqO hM hr) prim_eqO ha hb (nomark _)
theorem dt_eqO : PT X (.Compare a [.Eq] [b] pos) (tDT T W (mTB (mBin (eqO tbl) A B))) := dt_cmp (op_eqO hM hr) prim_eqO ha hb (nomark _)
end
end
end Dn

end
section
set_option maxHeartbeats 1000000
/-! Dn8: list(range), isinstance, cells changed, dicts, errors, len of own objects. -/
namespace Dn
open PySem PySem.Spec PyProof.Rows L2
section
variable {X : Cx} {T : Tb} {W : WX} {a b o e : Expr} {es : List Expr} {A B : M} {pos p p2 pos2 apos : Pos}
/-! ### list(range(n)) -/
def lstRng (s : S) (c : Cs) : R S := match s with
  | .d (.int j) => if j ≤ 16777216 ∧ -(2 ^ 62) ≤ j then .ok (.d (.lst (rngL 0 j.toNat))) c else .bad
  | _ => .bad
def mLstRng (A : M) : M := fun δ c => (A δ c).bind lstRng
theorem reps_rng {G : Hp} (a : Int) (n : Nat) : Reps T G (rngL a n) ((List.range n).map fun i => V.int (a + (i : Nat))) := by
  refine Reps.of_get (by simp [rngL]) fun i d v h1 h2 => ?_
  unfold rngL at h1
  rw [List.getElem?_map] at h1 h2
  cases h : (List.range n)[i]? with
  | none => rw [h] at h1; cases h1
  | some j =>
    rw [h] at h1 h2
    cases h1; cases h2
    exact Rep.int
theorem dn_listRng (hc : X.calm = true) (hg : Gl X "list") (hm : X.mg "list" = none) (hg2 : Gl X "range") (hm2 : X.mg "range" = none) (ha : PE X a (tD T W A)) (na : starEach [a] X.env = (false, eval a X.env) :: starEach [] X.env := by rfl)
    (nb : starEach [.Call (.Name "range" p2) [a] [] pos2] X.env = (false, eval (.Call (.Name "range" p2) [a] [] pos2) X.env) :: starEach [] X.env := by rfl) : PE X (.Call (.Name "list" p) [.Call (.Name "range" p2) [a] [] pos2] [] pos) (tD T W (mLstRng A)) := by
  refine PE.imp (pe_listRg hc hg hm (prg_1 hg2 hm2 ha na) nb) fun σ H Q ⟨δ, c, G, ρ, hs, hh, p⟩ => ?_
  refine ⟨δ, c, G, ρ, hs, hh, (Post.bind (rel := SRep T) p).imp ?_⟩
  rintro v H1 ⟨s, c1, G1, ρ1, e1, p1, h1, r1, q1⟩
  unfold lstRng at q1
  split at q1
  · rename_i j
    split at q1
    · rename_i hj
      have := SRep.int_inv r1; subst this
      refine ⟨j, rfl, ⟨by omega, by omega, by omega, by omega, by omega⟩, fun t ht => ?_⟩
      have st : Step G1 H1 (upd G1 t (.lst (rgV 0 j))) (upd H1 t (.lst (rgV 0 j))) := Step.new h1.ex ht
      refine q1 _ _ _ ρ1 st.g (List.prefix_refl _) (h1.step st) (Rep.lst upd_same ?_ ?_)
      · rw [rngL_len, sizeLine_eq]; omega
      · have e0 : rgV 0 j = (List.range j.toNat).map fun i => V.int (0 + (i : Nat)) := by
          unfold rgV
          rw [show (j - 0).toNat = j.toNat by simp]
        rw [e0]
        exact reps_rng 0 j.toNat
    · exact q1.elim
  · exact q1.elim

/-! ### isinstance -/
/-- what isinstance says of each kind of data -/
structure Kinds where
  non : Option Bool
  bl : Option Bool
  int : Option Bool
  str : Option Bool
  lst : Option Bool
  tup : Option Bool
  obj : List (Nat × Bool)
  dct : Option Bool := none
def Kinds.ask (k : Kinds) : D → Option Bool
  | .non => k.non
  | .bl _ => k.bl
  | .int _ => k.int
  | .str _ => k.str
  | .lst _ => k.lst
  | .tup _ => k.tup
  | .obj c _ => look k.obj c
  | .scr _ => none
  | .dct _ _ => k.dct
/-- a class whose instances may be asked for their class -/
structure Asked (K : PySem.W.Frag) (C : Addr) : Prop where
  cl : Cls K C
  ha : PySem.W.findIn K (.ref C) "__class__" = some (some (.builtin "object.__class__"))
  hn : PySem.W.specialIn K (.builtin "object.__class__") "__get__" = some (some (.builtin "getset_descriptor.__get__"))
  htk : PySem.W.takesIn K (.builtin "object.__class__") = some true
  hm : PySem.W.mroIn K C (.type "object") = some true
structure KindsOk (K : PySem.W.Frag) (T : Tb) (f : Value → Option Bool) (k : Kinds) : Prop where
  non : ∀ r, k.non = some r → f (.type "NoneType") = some r
  bl : ∀ r, k.bl = some r → f (.type "bool") = some r
  int : ∀ r, k.int = some r → f (.type "int") = some r
  str : ∀ r, k.str = some r → f (.type "str") = some r
  lst : ∀ r, k.lst = some r → f (.type "list") = some r
  tup : ∀ r, k.tup = some r → f (.type "tuple") = some r
  obj : ∀ c r, (c, r) ∈ k.obj → Asked K (T.cl c) ∧ f (.ref (T.cl c)) = some r
  dct : ∀ r, k.dct = some r → f (.type "dict") = some r
theorem Kinds.ty {K : PySem.W.Frag} {G H : Hp} {f : Value → Option Bool} {k : Kinds} (ok : KindsOk K T f k) (e : Ex G H) {d : D} {v : V} {r : Bool} (h : View T G H d v) (hk : k.ask d = some r) : ∃ t, TyX K H v t ∧ f t = some r := by
  cases d with
  | non => have := View.non_inv h; subst this; exact ⟨_, .base .non, ok.non r hk⟩
  | bl b => have := View.bl_inv h; subst this; exact ⟨_, .base (.bl b), ok.bl r hk⟩
  | int i => have := View.int_inv h; subst this; exact ⟨_, .base (.int i), ok.int r hk⟩
  | str x => have := View.str_inv h; subst this; exact ⟨_, .base (.str x), ok.str r hk⟩
  | lst xs => obtain ⟨q, vs, rfl, sq, _⟩ := h; exact ⟨_, .base (.lst sq), ok.lst r hk⟩
  | tup xs => obtain ⟨q, vs, rfl, sq, _⟩ := View.tup_inv h; exact ⟨_, .base (.tup (e _ _ sq)), ok.tup r hk⟩
  | obj c xs =>
    obtain ⟨q, dx, fv, rfl, sq, _⟩ := h
    obtain ⟨A, hf⟩ := ok.obj c r (look_mem hk)
    exact ⟨_, .base (.ins sq A.cl A.ha A.hn A.htk A.hm), hf⟩
  | scr _ => cases hk
  | dct ks xs => obtain ⟨q, kv, rfl, sq, _⟩ := Rep.dct_inv (T := T) (G := G) h; exact ⟨_, .base (.dK (e _ _ sq)), ok.dct r hk⟩
def askD (k : Kinds) (s : S) (c : Cs) : R S := match deref s c with
  | some d => match k.ask d with
    | some r => .ok (.d (.bl r)) c
    | none => .bad
  | none => .bad
def mIsi (k : Kinds) (A : M) : M := fun δ c => (A δ c).bind (askD k)
theorem dn_isi {cls : Expr} {u : Value} {vc : V} {k : Kinds} (hT : X.K = T.K) (hc : PE X cls (tC vc)) (hv : ClsV vc u) (ok : KindsOk X.K T (fun t => PySem.W.kitOne X.K t u) k) (hg : Gl X "isinstance") (hm : X.mg "isinstance" = none) (ha : PE X a (tD T W A))
    (h1 : starEach [a, cls] X.env = (false, eval a X.env) :: starEach [cls] X.env := by rfl) (h2 : starEach [cls] X.env = (false, eval cls X.env) :: starEach [] X.env := by rfl) (hpl : (backTo pos (starEach [cls] X.env)).any (·.1) = false := by rfl) : PE X (.Call (.Name "isinstance" p) [a, cls] [] pos) (tD T W (mIsi k A)) := by
  refine PE.imp (pe_callB call_isi hg hm (by decide +kernel) (pa_cons ha (pa_cons hc pa_nil h2) h1) (by decide) (by decide) h1 hpl) fun σ H Q ⟨δ, c, G, ρ, hs, hh, p⟩ => ?_
  refine ⟨δ, c, G, ρ, hs, hh, (Post.bind (rel := SRep T) p).imp ?_⟩
  rintro v H1 ⟨s, c1, G1, ρ1, e1, p1, h1, r1, q1⟩
  unfold askD at q1
  cases e2 : deref s c1 with
  | none => simp only [e2] at q1; exact q1.elim
  | some d =>
    simp only [e2] at q1
    cases e3 : k.ask d with
    | none => simp only [e3] at q1; exact q1.elim
    | some r =>
      simp only [e3] at q1
      obtain ⟨t, ty, hf⟩ := Kinds.ty ok h1.ex (deref_view h1 r1 e2) e3
      exact ⟨v, vc, t, u, r, rfl, hv, ty, hf, q1 _ H1 G1 ρ1 (.refl _) (List.prefix_refl _) h1 SRep.bl⟩
/-- isinstance(x, (C, D)) -/
theorem dn_isi2 {c1 c2 : Expr} {u1 u2 : Value} {v1 v2 : V} {k : Kinds} {kt : Nat} {tpos : Pos} (hT : X.K = T.K) (hc1 : PE X c1 (tC v1)) (hc2 : PE X c2 (tC v2)) (hv1 : ClsV v1 u1) (hv2 : ClsV v2 u2) (ok : KindsOk X.K T (fun t => PySem.W.kitAny X.K t [u1, u2]) k) (hg : Gl X "isinstance") (hm : X.mg "isinstance" = none) (ha : PE X a (tD T W A))
    (h1 : starEach [a, .Tuple [c1, c2] kt tpos] X.env = (false, eval a X.env) :: starEach [.Tuple [c1, c2] kt tpos] X.env := by rfl) (h2 : starEach [.Tuple [c1, c2] kt tpos] X.env = (false, eval (.Tuple [c1, c2] kt tpos) X.env) :: starEach [] X.env := by rfl)
    (h3 : starEach [c1, c2] X.env = (false, eval c1 X.env) :: starEach [c2] X.env := by rfl) (h4 : starEach [c2] X.env = (false, eval c2 X.env) :: starEach [] X.env := by rfl) (hpl : (backTo pos (starEach [.Tuple [c1, c2] kt tpos] X.env)).any (·.1) = false := by rfl) :
    PE X (.Call (.Name "isinstance" p) [a, .Tuple [c1, c2] kt tpos] [] pos) (tD T W (mIsi k A)) := by
  refine PE.imp (pe_callB call_isiT hg hm (by decide +kernel) (pa_cons ha (pa_cons (pe_tup (pa_cons hc1 (pa_cons hc2 pa_nil h4) h3)) pa_nil h2) h1) (by decide) (by decide) h1 hpl) fun σ H Q ⟨δ, c, G, ρ, hs, hh, p⟩ => ?_
  refine ⟨δ, c, G, ρ, hs, hh, (Post.bind (rel := SRep T) p).imp ?_⟩
  rintro v H1 ⟨s, cc, G1, ρ1, e1, p1, h1, r1, q1⟩
  refine ⟨by show 2 ≤ sizeLine; decide, fun t ht => ?_⟩
  have st : Step G1 H1 (upd G1 t (.tup [v1, v2])) (upd H1 t (.tup [v1, v2])) := Step.new h1.ex ht
  have h1' := h1.step st
  have r1' : SRep T (upd G1 t (.tup [v1, v2])) ρ1 s v := r1.mono st.g (List.prefix_refl _)
  unfold askD at q1
  cases e2 : deref s cc with
  | none => simp only [e2] at q1; exact q1.elim
  | some d =>
    simp only [e2] at q1
    cases e3 : k.ask d with
    | none => simp only [e3] at q1; exact q1.elim
    | some r =>
      simp only [e3] at q1
      obtain ⟨ty, tyh, hf⟩ := Kinds.ty ok h1'.ex (deref_view h1' r1' e2) e3
      exact ⟨v, t, [v1, v2], ty, [u1, u2], r, rfl, upd_same, .cons hv1 (.cons hv2 .nil), tyh, hf, q1 _ _ _ ρ1 st.g (List.prefix_refl _) h1' SRep.bl⟩

/-! ### cells changed -/
def appendC : S → List S → Cs → R S
  | .c n, [.d x], c => match c[n]? with
    | some (.lst acc) => if acc.length < sizeLine then .ok (.d .non) (c.set n (.lst (acc ++ [x]))) else .bad
    | _ => .bad
  | _, _, _ => .bad
def mAppend (A : M) (B : MA) : M := fun δ c => (A δ c).bind fun o c => match o with
  | .c n => match c[n]? with
    | some (.lst _) => (B δ c).bind fun ss c => appendC o ss c
    | _ => .bad
  | _ => .bad
theorem dn_append {B : MA} (ho : PE X o (tD T W A)) (ha : PA X (e :: es) (tDA T W B)) (h : ∀ {to : TE} {t : TA}, PE X o to → PA X (e :: es) t → PE X (.Call (.Attribute o "append" apos) (e :: es) [] pos) (tBM X.K "list" rAppend to t)) : PE X (.Call (.Attribute o "append" apos) (e :: es) [] pos) (tD T W (mAppend A B)) := by
  refine PE.imp (h ho ha) fun σ H Q ⟨δ, c, G, ρ, hs, hh, p⟩ => ?_
  refine ⟨δ, c, G, ρ, hs, hh, (Post.bind (rel := SRep T) p).imp ?_⟩
  rintro v H1 ⟨s, c1, G1, ρ1, e1, p1, h1, r1, q1⟩
  cases s with
  | d _ => exact q1.elim
  | x _ _ => exact q1.elim
  | c n =>
    obtain ⟨pa, hpa, rfl⟩ := r1
    cases hc : c1[n]? with
    | none => simp only [hc] at q1; exact q1.elim
    | some cc =>
      cases cc with
      | dct _ => simp only [hc] at q1; exact q1.elim
      | lS _ => simp only [hc] at q1; exact q1.elim
      | tS _ => simp only [hc] at q1; exact q1.elim
      | obj _ _ => simp only [hc] at q1; exact q1.elim
      | lst acc0 =>
        simp only [hc] at q1
        obtain ⟨_, vs0, ho0, _⟩ := h1.at_ n pa _ hpa hc
        refine ⟨.inl ⟨rfl, _, SqL.of ho0⟩, δ, c1, G1, ρ1, hs.mono e1 p1, h1, (Post.bind (rel := SReps T) q1).imp ?_⟩
        rintro us H2 ⟨ss, c2, G2, ρ2, e2, p2, h2, r2, q2⟩
        unfold appendC at q2
        split at q2
        · rename_i c2 _ _ cc n' x heq1
          cases heq1
          obtain ⟨u, rfl, ru⟩ := r2.one
          cases hc2 : c2[n]? with
          | none => simp only [hc2] at q2; exact q2.elim
          | some cc =>
            cases cc with
            | dct _ => simp only [hc2] at q2; exact q2.elim
            | lS _ => simp only [hc2] at q2; exact q2.elim
            | tS _ => simp only [hc2] at q2; exact q2.elim
            | obj _ _ => simp only [hc2] at q2; exact q2.elim
            | lst acc =>
              simp only [hc2] at q2
              have hpa2 := pre_get p2 hpa
              obtain ⟨_, vs, ho2, hl, rr⟩ := h2.at_ n pa _ hpa2 hc2
              by_cases hlt : acc.length < sizeLine
              · rw [if_pos hlt] at q2
                exact ⟨pa, vs, u, rfl, rfl, ho2, by rw [rr.length]; exact hlt, q2 _ _ G2 ρ2 (.refl _) (List.prefix_refl _) (h2.cell (x := .lst (acc ++ [x])) hpa2 fun H' hH' _ => ⟨_, hH', by rw [List.length_append]; simp; omega, Reps.append rr (Reps.cons ru Reps.nil)⟩) SRep.non⟩
              · rw [if_neg hlt] at q2; exact q2.elim
        · exact q2.elim
/-- cell[i] = x -/
def setC : S → S → S → Cs → Option Cs
  | .c n, .d (.int i), .d x, c => match c[n]? with
    | some (.lst acc) => match ixN acc.length i with
      | some j => some (c.set n (.lst (acc.set j x)))
      | none => none
    | _ => none
  | _, _, _, _ => none
def sSetIx (A I V : M) : MS := fun δ c => (V δ c).andS δ fun s c => (A δ c).andS δ fun o c => (I δ c).andS δ fun i c => match setC o i s c with
  | some c => .nx δ c
  | none => .bad
theorem ds_setIx {i value : Expr} {I V : M} {tpos : Pos} (ho : PE X o (tD T W A)) (hi : PE X i (tD T W I)) (hv : PE X value (tD T W V))
    (h : ∀ {to ti tv : TE}, PE X o to → PE X i ti → PE X value tv → PS X (.Assign [.Subscript o i tpos] value pos) (tAsg tv (gSub to ti rSetL))) : PS X (.Assign [.Subscript o i tpos] value pos) (tS T W (sSetIx A I V)) := by
  refine PS.imp (h ho hi hv) fun E σ H ⟨δ, c, G, ρ, hs, hh, p⟩ => ?_
  refine ⟨δ, c, G, ρ, hs, hh, (PostS.andS (rel := SRep T) hs p).imp ?_⟩
  rintro y H1 ⟨s1, c1, G1, ρ1, e1, p1, h1, r1, q1⟩
  refine ⟨δ, c1, G1, ρ1, hs.mono e1 p1, h1, (PostS.andS (rel := SRep T) (hs.mono e1 p1) q1).imp ?_⟩
  rintro v H2 ⟨s2, c2, G2, ρ2, e2, p2, h2, r2, q2⟩
  refine ⟨δ, c2, G2, ρ2, (hs.mono e1 p1).mono e2 p2, h2, (PostS.andS (rel := SRep T) ((hs.mono e1 p1).mono e2 p2) q2).imp ?_⟩
  rintro u H3 ⟨s3, c3, G3, ρ3, e3, p3, h3, r3, q3⟩
  have r1' := (r1.mono e2 p2).mono e3 p3
  have r2' := r2.mono e3 p3
  unfold setC at q3
  split at q3
  · rename_i c' hset
    split at hset
    · rename_i cc n ii x
      obtain ⟨pa, hpa, rfl⟩ := r2'
      have := SRep.int_inv r3; subst this
      cases hc : c3[n]? with
      | none => simp only [hc] at hset; cases hset
      | some ccc =>
        cases ccc with
        | dct _ => simp only [hc] at hset; cases hset
        | lS _ => simp only [hc] at hset; cases hset
        | tS _ => simp only [hc] at hset; cases hset
        | obj _ _ => simp only [hc] at hset; cases hset
        | lst acc =>
          simp only [hc] at hset
          cases hj : ixN acc.length ii with
          | none => simp only [hj] at hset; cases hset
          | some j =>
            simp only [hj] at hset
            cases hset
            obtain ⟨_, vs, ho3, hl, rr⟩ := h3.at_ n pa _ hpa hc
            refine ⟨pa, vs, ii, j, rfl, rfl, ho3, by rw [rr.length]; exact hj, q3 σ _ G3 ρ3 (.refl _) (List.prefix_refl _) (((hs.mono e1 p1).mono e2 p2).mono e3 p3) (h3.cell (x := .lst (acc.set j x)) hpa fun H' hH' _ => ⟨_, hH', by rw [List.length_set]; exact hl, Reps.set j rr r1'⟩)⟩
    · cases hset
  · exact q3.elim

/-! ### dicts (cells) -/
def dnew (c : Cs) : R S := .ok (.c c.length) (c ++ [.dct []])
def mDict : M := fun _ c => dnew c
theorem dn_dict : PE X (.Dict [] [] pos) (tD T W mDict) := by
  refine PE.imp pe_dnewK fun σ H Q ⟨δ, c, G, ρ, hs, hh, p⟩ q hq => ?_
  exact p _ _ G (ρ ++ [q]) (.refl _) (List.prefix_append _ _) (hh.newCell hq fun H' hH' => ⟨[], hH', Nat.zero_le _, rfl, Reps.nil⟩) ⟨q, by rw [← hh.len]; simp, rfl⟩
def keyD : D → Option Key
  | .int i => some (.inl i)
  | .str x => some (.inr x)
  | _ => none
def valD (kvs : List (Key × D)) (k : Key) : Option D := (kvs.find? fun kv => decide (kv.1 = k)).map (·.2)
def putD (kvs : List (Key × D)) (k : Key) (x : D) : List (Key × D) := if (kvs.any fun kv => decide (kv.1 = k)) = true then kvs.map (fun kv => if kv.1 = k then (kv.1, x) else kv) else kvs ++ [(k, x)]
theorem keyD_rep {G : Hp} {x : D} {v : V} {k : Key} (h : keyD x = some k) (r : Rep T G x v) : v = kV k := by
  cases x with
  | int i => cases h; exact Rep.int_inv r
  | str z => cases h; exact Rep.str_inv r
  | _ => cases h
theorem valD_rep {G : Hp} {k : Key} : ∀ {kvs : List (Key × D)} {kv : List (Key × V)} {x : D}, kv.map (·.1) = kvs.map (·.1) → Reps T G (kvs.map (·.2)) (kv.map (·.2)) → valD kvs k = some x → ∃ v, valV kv k = some v ∧ Rep T G x v
  | [], _, _, _, _, h => by cases h
  | (k1, d1) :: r, [], _, e, _, _ => by cases e
  | (k1, d1) :: r, (k2, v2) :: r2, x, e, q, h => by
    simp only [List.map_cons, List.cons.injEq] at e q
    obtain ⟨e1, e2⟩ := e
    subst e1
    obtain ⟨v, rr, eq, a, b⟩ := q.cons_inv
    cases eq
    unfold valD at h
    unfold valV
    by_cases hk : k2 = k
    · simp only [List.find?_cons, hk, decide_true, Option.map_some, Option.some.injEq] at h ⊢
      subst h
      exact ⟨_, rfl, a⟩
    · have hd : decide (k2 = k) = false := decide_eq_false hk
      simp only [List.find?_cons, hd] at h ⊢
      exact valD_rep e2 b h
def getC : S → S → Cs → R S
  | .c n, .d kx, c => match c[n]?, keyD kx with
    | some (.dct kvs), some k => match valD kvs k with
      | some x => .ok (.d x) c
      | none => .bad
    | _, _ => .bad
  | _, _, _ => .bad
theorem prim_getC : Prim2 T getC (fun x y H Q => ∃ a v, x = .ref a ∧ DGet H a y (some v) ∧ Q v H) := by
  intro W σ G ρ H c s t v u Q hh rs rt p
  unfold getC at p
  split at p
  · rename_i n kx
    cases hc : c[n]? with
    | none => simp only [hc] at p; exact p.elim
    | some cc =>
      cases cc with
      | lst _ => simp only [hc] at p; exact p.elim
      | lS _ => simp only [hc] at p; exact p.elim
      | tS _ => simp only [hc] at p; exact p.elim
      | obj _ _ => simp only [hc] at p; exact p.elim
      | dct kvs =>
        cases hk : keyD kx with
        | none => simp only [hc, hk] at p; exact p.elim
        | some k =>
          simp only [hc, hk] at p
          cases hv : valD kvs k with
          | none => simp only [hv] at p; exact p.elim
          | some x =>
            simp only [hv] at p
            obtain ⟨pa, hpa, rfl⟩ := rs
            obtain ⟨_, kv, ho, _, hks, rr⟩ := hh.at_ n pa _ hpa hc
            obtain ⟨w, hw, rw'⟩ := valD_rep hks rr hv
            have := keyD_rep hk rt; subst this
            exact ⟨pa, w, rfl, by rw [← hw]; exact DGet.k ho, p _ H G ρ (.refl _) (List.prefix_refl _) hh rw'⟩
  · exact p.elim
theorem dn_dget {k : Nat} {i : Expr} {I : M} (hr : Room k X.A) (ho : PE X o (tD T W A)) (hi : PE X i (tD T W I)) (hs : NoSl i := by exact fun _ _ => rfl) : PE X (.Subscript o i pos) (tD T W (mBin getC A I)) := by
  refine PE.imp (pe_dget (hu_of hr) ho hi hs) fun σ H Q h => ?_
  exact tD_bin prim_getC h
def putC : S → S → S → Cs → Option Cs
  | .c n, .d kx, .d x, c => match c[n]?, keyD kx with
    | some (.dct kvs), some k => if kvs.length < 1000 then some (c.set n (.dct (putD kvs k x))) else none
    | _, _ => none
  | _, _, _, _ => none
def sPut (A I V : M) : MS := fun δ c => (V δ c).andS δ fun s c => (A δ c).andS δ fun o c => (I δ c).andS δ fun i c => match putC o i s c with
  | some c => .nx δ c
  | none => .bad
theorem putD_rep {G : Hp} {k : Key} {x : D} {v : V} (rx : Rep T G x v) {kvs : List (Key × D)} {kv : List (Key × V)} (e : kv.map (·.1) = kvs.map (·.1)) (r : Reps T G (kvs.map (·.2)) (kv.map (·.2))) :
    (putK kv k v).map (·.1) = (putD kvs k x).map (·.1) ∧ Reps T G ((putD kvs k x).map (·.2)) ((putK kv k v).map (·.2)) := by
  have anyE : ∀ {kvs : List (Key × D)} {kv : List (Key × V)}, kv.map (·.1) = kvs.map (·.1) → (kv.any fun z => decide (z.1 = k)) = (kvs.any fun z => decide (z.1 = k)) := by
    intro kvs kv e
    have h1 : (kv.any fun z => decide (z.1 = k)) = ((kv.map (·.1)).any fun z => decide (z = k)) := by rw [List.any_map]; rfl
    have h2 : (kvs.any fun z => decide (z.1 = k)) = ((kvs.map (·.1)).any fun z => decide (z = k)) := by rw [List.any_map]; rfl
    rw [h1, h2, e]
  unfold putK putD
  rw [anyE e]
  by_cases ha : (kvs.any fun z => decide (z.1 = k)) = true
  · rw [if_pos ha, if_pos ha]
    clear anyE ha
    induction kvs generalizing kv with
    | nil =>
      cases kv with
      | nil => exact ⟨rfl, Reps.nil⟩
      | cons _ _ => cases e
    | cons z zs ih =>
      cases kv with
      | nil => cases e
      | cons y ys =>
        simp only [List.map_cons, List.cons.injEq] at e r
        obtain ⟨w, rr, eq, a, b⟩ := r.cons_inv
        cases eq
        obtain ⟨i1, i2⟩ := ih e.2 b
        simp only [List.map_cons]
        by_cases hk : y.1 = k
        · have hk2 : z.1 = k := by rw [← e.1]; exact hk
          simp only [hk, hk2, if_true]
          exact ⟨by rw [i1], Reps.cons rx i2⟩
        · have hk2 : ¬ z.1 = k := by rw [← e.1]; exact hk
          simp only [hk, hk2, if_false]
          exact ⟨by rw [i1, e.1], Reps.cons a i2⟩
  · rw [if_neg ha, if_neg ha]
    refine ⟨by rw [List.map_append, List.map_append, e]; rfl, ?_⟩
    rw [List.map_append, List.map_append]
    exact Reps.append r (Reps.cons rx Reps.nil)
theorem putD_len {kvs : List (Key × D)} {k : Key} {x : D} (h : kvs.length < 1000) : (putD kvs k x).length ≤ 1000 := by
  unfold putD
  split
  · rw [List.length_map]; omega
  · rw [List.length_append]; simp; omega
theorem ds_put {k : Nat} {i value : Expr} {I V : M} {tpos : Pos} (hr : Room k X.A) (ho : PE X o (tD T W A)) (hi : PE X i (tD T W I)) (hv : PE X value (tD T W V)) (hs : swapsWith value (some (.Subscript o i tpos)) pos.line X.env = pure false := by rfl) : PS X (.Assign [.Subscript o i tpos] value pos) (tS T W (sPut A I V)) := by
  refine PS.imp (ps_dput (hu_of hr) ho hi hv hs) fun E σ H ⟨δ, c, G, ρ, hs, hh, p⟩ => ?_
  refine ⟨δ, c, G, ρ, hs, hh, (PostS.andS (rel := SRep T) hs p).imp ?_⟩
  rintro y H1 ⟨s1, c1, G1, ρ1, e1, p1, h1, r1, q1⟩
  refine ⟨δ, c1, G1, ρ1, hs.mono e1 p1, h1, (PostS.andS (rel := SRep T) (hs.mono e1 p1) q1).imp ?_⟩
  rintro v H2 ⟨s2, c2, G2, ρ2, e2, p2, h2, r2, q2⟩
  refine ⟨δ, c2, G2, ρ2, (hs.mono e1 p1).mono e2 p2, h2, (PostS.andS (rel := SRep T) ((hs.mono e1 p1).mono e2 p2) q2).imp ?_⟩
  rintro u H3 ⟨s3, c3, G3, ρ3, e3, p3, h3, r3, q3⟩
  have r1' := (r1.mono e2 p2).mono e3 p3
  have r2' := r2.mono e3 p3
  unfold putC at q3
  split at q3
  · rename_i c' hset
    split at hset
    · rename_i cc n kx x
      obtain ⟨pa, hpa, rfl⟩ := r2'
      cases hc : c3[n]? with
      | none => simp only [hc] at hset; cases hset
      | some ccc =>
        cases ccc with
        | lst _ => simp only [hc] at hset; cases hset
        | lS _ => simp only [hc] at hset; cases hset
        | tS _ => simp only [hc] at hset; cases hset
        | obj _ _ => simp only [hc] at hset; cases hset
        | dct kvs =>
          cases hk : keyD kx with
          | none => simp only [hc, hk] at hset; cases hset
          | some k =>
            simp only [hc, hk] at hset
            by_cases hl : kvs.length < 1000
            · rw [if_pos hl] at hset
              cases hset
              obtain ⟨_, kv, ho3, _, hks, rr⟩ := h3.at_ n pa _ hpa hc
              have := keyD_rep hk r3; subst this
              have hkl : kv.length = kvs.length := by have := congrArg List.length hks; simpa using this
              obtain ⟨z1, z2⟩ := putD_rep (k := k) r1' hks rr
              refine ⟨pa, _, rfl, DPut.k ho3 (by rw [sizeLine_eq]; omega), q3 σ _ G3 ρ3 (.refl _) (List.prefix_refl _) (((hs.mono e1 p1).mono e2 p2).mono e3 p3) (h3.cell (x := .dct (putD kvs k x)) hpa fun H' hH' _ => ⟨_, hH', putD_len hl, z1, z2⟩)⟩
            · rw [if_neg hl] at hset; cases hset
    · cases hset
  · exact q3.elim
end
end Dn

end
section
set_option maxHeartbeats 1000000
/-! Dn9: what is not walked, errors raised and caught, len of own objects, lists repeated, enumerate of a tuple. -/
namespace Dn
open PySem PySem.Spec PyProof.Rows L2
/-! ### code that is never reached -/
section
variable {X : Cx} {T : Tb} {W : WX} {a b o e : Expr} {es : List Expr} {A B : M} {pos p p2 pos2 apos : Pos} {st : Stmt}
def mBad : M := fun _ _ => .bad
def mtBad : MT := fun _ _ => .bad
def sBad : MS := fun _ _ => .bad
theorem dn_bad : PE X e (tD T W mBad) := ⟨fun pins s σ H Q I ⟨_, _, _, _, _, _, p⟩ => p.elim⟩
theorem dt_bad : PT X e (tDT T W mtBad) := ⟨fun pins s σ H Q I ⟨_, _, _, _, _, _, p⟩ => p.elim⟩
theorem ds_bad : PS X st (tS T W sBad) := ⟨fun pins s σ H D I ⟨_, _, _, _, _, _, p⟩ => p.elim⟩

/-! ### raise X(), X an own class without own __init__ -/
/-- class number n is an exception class, its name x -/
structure ExcAt (X : Cx) (T : Tb) (x : Str) (n : Nat) (bmB : List Value) (newId : String) : Prop where
  q : PySem.W.excIn X.K (T.cl n) bmB newId = true
  g : X.mg x = some (.ref (T.cl n))
  k : PySem.W.keepIn X.K (.ref (T.cl n)) = true
  r : Raises X (.ref (T.cl n))
def sRaise0 (n : Nat) : MS := fun δ c => .ex n [] δ c
theorem pmk_own0 {C : Addr} {bmB : List Value} {B newId initId : String} {x : Str} {p : Pos} (F : ExcBaseFacts B newId initId bmB) (q : PySem.W.excIn X.K C bmB newId = true) (gC : X.mg x = some (.ref C))
    (kC : PySem.W.keepIn X.K (.ref C) = true) (r : Raises X (.ref C)) (hg : Gl X x) (hdb : (x == ("__debug__" : Str)) = false := by decide) :
    PMk X (.Call (.Name x p) [] [] pos) (fun σ H Q => Q (.ref C) none H) := by
  intro pins s σ H Q I h
  refine wpAny_Call_Name_kw (ld_glob I hg gC ?_ hdb)
  refine PySem.W.callWith_K0 I.kIn kC ?_
  show wpAny _ _ (call (.ref C) []) _ _ _
  obtain ⟨bm, N, nm, qn, bs, hdct, sn, sub, ab, col, dd, k0, k1, k2, k3, k5, mN, hC, hN, hni, T⟩ := exc_obj I.kIn q
  refine wpAny_call_exc_subT F T hC hN hni (fun h' e hm => ?_) (by decide)
  exact mk_of I hm r h (I.hok.gone hm.new)
theorem ds_raise0 {B newId initId : String} {bmB : List Value} {x : Str} {n : Nat} (F : ExcBaseFacts B newId initId bmB) (E : ExcAt X T x n bmB newId) (hc : X.calm = true) (tk : Takes X W) (hg : Gl X x) (hdb : (x == ("__debug__" : Str)) = false := by decide) :
    PS X (.Raise (some (.Call (.Name x p) [] [] pos2)) none pos) (tS T W (sRaise0 n)) := by
  refine PS.imp (ps_raise hc tk (pmk_own0 F E.q E.g E.k E.r hg hdb)) fun D σ H ⟨δ, c, G, ρ, hs, hh, p⟩ => ?_
  exact p none σ H G ρ (.refl _) (List.prefix_refl _) hs hh (.inl ⟨rfl, rfl⟩)

/-! ### try .. except X: -/
def noEx : RS → RS
  | .ex _ _ _ _ => .bad
  | r => r
/-- yes: the numbers of the classes that the clause catches, no: of those that it lets by -/
def sTry (yes no : List Nat) (m suite : MS) : MS := fun δ c => match m δ c with
  | .ex k xs δ' c' => if k ∈ yes then noEx (suite δ' c') else if k ∈ no then .ex k xs δ' c' else .bad
  | r => r
def Catches (K : PySem.W.Frag) (T : Tb) (u : Value) (r : Bool) : List Nat → Prop
  | [] => True
  | n :: l => PySem.W.exmOne K (.ref (T.cl n)) u = some r ∧ Catches K T u r l
theorem Catches.get {K : PySem.W.Frag} {u : Value} {r : Bool} : ∀ {l : List Nat} {n : Nat}, Catches K T u r l → n ∈ l → PySem.W.exmOne K (.ref (T.cl n)) u = some r
  | m :: l, n, h, hm => by
    cases hm with
    | head => exact h.1
    | tail _ hm => exact Catches.get h.2 hm
theorem takes_suite {a : Addr} {pn : List (Addr × Obj)} : Takes (X.suite a pn) W0 := fun u s' ⟨_, _, _, _, _, _, _, _, _, _, _, _, _, _, _, _, w⟩ => w.elim
theorem PostS.noEx {G : Hp} {ρ : List Addr} {r : RS} {E : Ends} (h : PostS T W G ρ (noEx r) E) : PostS T W0 G ρ r E := by
  cases r with
  | ex k xs δ c => exact False.elim h
  | nx δ c => exact h
  | bk δ c => exact h
  | ct δ c => exact h
  | rt s c => exact h
  | bad => exact h
theorem ds_try {x : Str} {u : Value} {body suite : List Stmt} {b₀ : Stmt} {np pos' : Pos} {m ms : MS} {yes no : List Nat} (hs : X.stack = X.env :: X.outer) (hf : X.env.frame = some X.env.locals) (hc : Names X x u) (tk : Takes X W)
    (hy : Catches X.K T u true yes) (hn : Catches X.K T u false no)
    (hb : ∀ (W : WX) (pn : List (Addr × Obj)) (xe : Value → Shared → Prop), Takes (X.tr pn xe) W → PassesOwn (model X.prog X.w) X.A X.env xe → PSs (X.tr pn xe) body (tS T W m))
    (hsu : ∀ (a : Addr) (pn : List (Addr × Obj)), PSs (X.suite a pn) (b₀ :: suite) (tS T W0 ms)) :
    PS X (.Try body [.ExceptHandler (some (.Name x np)) none (b₀ :: suite) pos'] [] [] pos) (tS T W (sTry yes no m ms)) := by
  refine PS.imp (ps_try_only (tb := fun W => tS T W m) (ts := fun _ _ _ => tS T W0 ms) hs hf hc tk hb fun a oe cls d pn _ _ => hsu a _) fun E σ H ⟨δ, c, G, ρ, hs, hh, p⟩ => ?_
  refine ⟨δ, c, G, ρ, hs, hh, ?_⟩
  unfold sTry at p
  cases e : m δ c with
  | nx δ1 c1 => rw [e] at p; exact p
  | bk δ1 c1 => rw [e] at p; exact p
  | ct δ1 c1 => rw [e] at p; exact p
  | rt s1 c1 => rw [e] at p; exact p
  | bad => rw [e] at p; exact p
  | ex k xs δ1 c1 =>
    rw [e] at p
    simp only at p
    intro d σ' H' G' ρ' eg pr rs rh xr
    by_cases hk : k ∈ yes
    · rw [if_pos hk] at p
      exact ⟨true, hy.get hk, fun _ a na => ⟨δ1, c1, G', ρ', rs, rh, (PostS.noEx p).mono eg pr⟩, fun z => by cases z⟩
    · rw [if_neg hk] at p
      by_cases hk2 : k ∈ no
      · rw [if_pos hk2] at p
        exact ⟨false, hn.get hk2, (fun z => by cases z), fun _ => p d σ' H' G' ρ' eg pr rs rh xr⟩
      · rw [if_neg hk2] at p; exact p.elim

/-! ### len of own objects -/
def lenO (tbl : List (Nat × (Nat × (List S → Cs → R S)))) : List D → Option D
  | [.obj k xs] => match look tbl k with
    | some (nf, fn) => if xs.length = nf then (match fn [.d (.obj k xs)] [] with
      | .ok (.d (.int r)) [] => if 0 ≤ r ∧ r < 2 ^ 63 then some (.int r) else none
      | _ => none) else none
    | none => none
  | xs => lenD xs
inductive LensAt (P : Program) (w : World) (K : PySem.W.Frag) (mg : Str → Option Value) (base : Heap) (T : Tb) (k : Nat) : List (Nat × (Nat × (List S → Cs → R S))) → Prop
  | nil : LensAt P w K mg base T k []
  | cons {c j nf : Nat} {fn : List S → Cs → R S} {l : List (Nat × (Nat × (List S → Cs → R S)))} : MethAt P w K mg base T "__len__" c j fn → j ≤ k → (T.fl c).length = nf → LensAt P w K mg base T k l → LensAt P w K mg base T k ((c, nf, fn) :: l)
theorem LensAt.get {P : Program} {w : World} {K : PySem.W.Frag} {mg : Str → Option Value} {base : Heap} {k : Nat} {l : List (Nat × (Nat × (List S → Cs → R S)))} (h : LensAt P w K mg base T k l) {c nf : Nat} {fn : List S → Cs → R S} (hm : (c, nf, fn) ∈ l) :
    ∃ j, j ≤ k ∧ MethAt P w K mg base T "__len__" c j fn ∧ (T.fl c).length = nf := by
  induction h with
  | nil => cases hm
  | cons a b c _ ih =>
    cases hm with
    | head => exact ⟨_, b, a, c⟩
    | tail _ hm => exact ih hm
/-- len(o) by the own __len__ -/
def rLenO (T : Tb) (tbl : List (Nat × (Nat × (List S → Cs → R S)))) : List V → Hp → VK → Prop := fun xs H Q => ∃ p k nf ds fn r, xs = [.ref p] ∧ Rep T H (.obj k ds) (.ref p) ∧ (k, nf, fn) ∈ tbl ∧ fn [.d (.obj k ds)] [] = .ok (.d (.int r)) [] ∧ (0 ≤ r ∧ r < 2 ^ 63) ∧ ∀ H', Ex H H' → Q (.int r) H'
theorem call_lenO {k : Nat} {tbl : List (Nat × (Nat × (List S → Cs → R S)))} (hr : Room (k + 1) X.A) (hM : LensAt X.prog X.w X.K X.mg X.base T k tbl) : CallR X (.builtin "len") (rLenO T tbl) := by
  intro pins s σ H xs us Q I rv h
  obtain ⟨x, k, nf, ds, fn, r, rfl, hx, hm, hf, hb0, q⟩ := h
  obtain rfl := Vals.ref1 rv
  obtain ⟨j, hj, ⟨f, fd, ps, F, hm, hc, _, hb⟩, _⟩ := hM.get hm
  obtain ⟨_, dx, fv, e1, hx1, _⟩ := hx.obj_inv
  cases e1
  obtain ⟨mA, J, _⟩ := ins_get I.hok hx1
  obtain ⟨od, J, _⟩ := J.look
  obtain ⟨m, hF⟩ := I.fr
  refine PySem.W.len_K hF I.ok.mod.kin J hm.at_ hm.fn ?_
  have hsp : spD T fn [.ref x] H (fun v H' => v = .int r ∧ Ex H H') (fun _ _ _ => False) := by
    refine ⟨[.d (.obj k ds)], [], H, [], .cons hx .nil, RelH.none H, ?_⟩
    rw [hf]
    exact fun v H' G' ρ' eg pr rh rv => ⟨SRep.int_inv rv, eg.trans rh.ex⟩
  have hl := F.len _ _ _ _ hsp
  have bb := hb s [.ref x] I.kIn (by simpa using hl)
  rw [List.append_nil] at bb
  refine wpAny_call (codeAny_mono (F.run X.A.in1 X.stack s H ⟨[.ref x], []⟩ [.ref x] [.ref x] _ _ (hr.in1.mono hj) I.env0.in1 bb (.cons rfl .nil) hsp) fun fl s' hq => ?_)
  cases fl with
  | error e =>
    obtain ⟨_, _, _, _, _, _, _, _, _, _, _, _, z⟩ := hq
    exact z.elim
  | ok fl =>
    cases fl with
    | ret w =>
      obtain ⟨z, H', I', rz, ez, ex⟩ := I.after hq
      subst ez
      obtain ⟨t, rfl⟩ := rz
      exact ⟨hb0, .int r, H', I'.tok _, ⟨_, rfl⟩, q H' ex⟩
    | next => exact False.elim hq
    | brk => exact False.elim hq
    | cont => exact False.elim hq
theorem Step.grow {G H H' : Hp} (e : Ex G H) (k : Ex H H') : Step G H G H' := ⟨.refl _, k, e.trans k, fun _ _ _ q => q⟩
theorem fresh_lenO {tbl : List (Nat × (Nat × (List S → Cs → R S)))} (hT : ∀ c nf fn, (c, nf, fn) ∈ tbl → (T.fl c).length = nf) : FreshN T (lenO tbl) (fun xs H Q => ((∃ p ys, xs = [.ref p] ∧ (SqL T.K H p ys ∨ SqT T.K H p ys) ∧ Q (.int ys.length) H) ∨ ∃ z, xs = [.str z] ∧ z.length ≤ sizeLine ∧ Q (.int z.length) H) ∨ rLenO T tbl xs H Q) := by
  intro G H x d v Q e hx hd k
  unfold lenO at hd
  split at hd
  · rename_i n xs
    cases hl : look tbl n with
    | none => simp only [hl] at hd; cases hd
    | some y =>
      obtain ⟨nf, fn⟩ := y
      simp only [hl] at hd
      split at hd
      · rename_i hnf
        split at hd
        · rename_i r hfn
          split at hd
          · rename_i hr
            cases hd
            obtain ⟨v, rfl, q, dx, fv, rfl, sq, hfl, rr⟩ := hx.one
            have hm := look_mem hl
            refine .inr ⟨q, n, nf, xs, fn, r, rfl, Rep.obj sq ?_ (Reps.mono e _ _ rr), hm, hfn, hr, fun H' ex => k _ H' G (Step.grow e ex) Rep.int⟩
            rw [hfl, hnf, ← hT n nf fn hm, List.take_length]
          · cases hd
        · cases hd
      · cases hd
  · exact .inl (fresh_len _ _ _ _ _ _ e hx hd k)
theorem dn_lenO {k : Nat} {B : MA} {tbl : List (Nat × (Nat × (List S → Cs → R S)))} (hT : X.K = T.K) (hr : Room (k + 1) X.A) (hM : LensAt X.prog X.w X.K X.mg X.base T k tbl) (hg : Gl X "len") (hm : X.mg "len" = none) (ha : PA X (e :: es) (tDA T W B)) (he : starEach (e :: es) X.env = (false, eval e X.env) :: starEach es X.env := by rfl) (hpl : (backTo pos (starEach es X.env)).any (·.1) = false := by rfl) : PE X (.Call (.Name "len" p) (e :: es) [] pos) (tD T W (mBlt (liftN (lenO tbl)) B)) :=
  dn_callB (by have := ((call_len_seq (X := X)).or call_len_str).or (call_lenO hr hM); rw [hT] at this; exact this) (primN (fresh_lenO fun c nf fn h => let ⟨_, _, _, q⟩ := hM.get h; q)) hg hm PySem.boot_len ha (by decide) (by decide) he hpl
end
end Dn

end
section
/-! Dn10: enumerate of a tuple or a list. -/
namespace Dn
open PySem PySem.Spec PyProof.Rows L2
set_option maxHeartbeats 1000000 in
theorem meets_enum1 {v : Value} {o : Obj} {H : Heap → Prop} (B : Begins v o H) :
    Meets (Builtin.«enumerate.__new__» ⟨[.type "enumerate", v], []⟩) (fun _ R s => H s.heap ∧
      R (.ok (.ret (.ref (s.heap.push o).objs.size))) { s with heap := (s.heap.push o).push { cls := .type "enumerate", data := .fields #[.none, .bool false, .ref s.heap.objs.size, rawInt 0, .none, .none] } }) :=
  .of_wp fun prog w A R s h => by
    obtain ⟨hp, g, d, tk, os⟩ := s; obtain ⟨h1, h⟩ := h
    have hsub := sub_enumerate
    have q1 : ∀ {A' : Around} {E : Value → Shared → Prop} {Q : Value → Shared → Prop}, Q (.ref hp.objs.size) ⟨hp.push o, g, d, tk, os⟩ → wpAny (model prog w) A' (pyIter v) Q E ⟨hp, g, d, tk, os⟩ :=
      fun q => B.iter prog w _ _ ⟨hp, g, d, tk, os⟩ _ h1 q
    wp_walk using q1
    refine wpAny_stack_any fun st => wpAny_pure ?_
    split
    · rename_i c _ _ _ _ _
      cases (c == Value.type "enumerate")
      · wp_walk using q1
        exact ⟨_, rfl, h⟩
      · wp_walk using q1
        exact ⟨_, rfl, h⟩
    · wp_walk using q1
      exact ⟨_, rfl, h⟩
theorem enum_begins1 {prog : Program} {w : World} {A : Around} {E : Value → Shared → Prop} {s : Shared} {v : Value} {o : Obj} {H : Heap → Prop} {Q : Value → Shared → Prop} (B : Begins v o H) (h1 : H s.heap)
    (h : ∀ h', IsEnum h' (s.heap.objs.size + 1) s.heap.objs.size 0 .none → h'.get? s.heap.objs.size = some o → h'.objs.size = s.heap.objs.size + 2 →
      (∀ b o, s.heap.get? b = some o → h'.get? b = some o) → Q (.ref (s.heap.objs.size + 1)) { s with heap := h' }) :
    wpAny (model prog w) A (call (.type "enumerate") [v]) Q E s := by
  refine callType_new F.called_enumerate (by decide) (F.typeCall_enumerate_1 _) (F.newCall_enumerate_1 _) (fun obj => F.args_object_init_2 obj _) F.entry_enumerate_new
    (meets_enum1 B) ⟨h1, ?_⟩
  have hz : (s.heap.push o).objs.size = s.heap.objs.size + 1 := Heap.size_push ..
  show _ ∧ _
  rw [hz]
  have he : IsEnum ((s.heap.push o).push { cls := .type "enumerate", data := .fields #[.none, .bool false, .ref s.heap.objs.size, rawInt 0, .none, .none] }) (s.heap.objs.size + 1) s.heap.objs.size 0 .none := by
    have := Heap.get?_push_size (s.heap.push o) (o := { cls := .type "enumerate", data := .fields #[.none, .bool false, .ref s.heap.objs.size, rawInt 0, .none, .none] }) rfl
    rw [hz] at this; exact this
  refine ⟨⟨_, he, rfl⟩, h _ he (Heap.get?_push_of_some _ (Heap.get?_push_size _ B.free)) (by rw [Heap.size_push, hz]) fun b o x => Heap.get?_push_of_some _ (Heap.get?_push_of_some _ x)⟩

theorem next_enum_endT {prog : Program} {w : World} {A : Around} {E : Value → Shared → Prop} {s : Shared} {e it t : Addr} {items : Array Value} {j : Nat} {i : Int} {old : Value} {Q : Option Value → Shared → Prop} (hh : A.handled = none)
    (he : IsEnum s.heap e it i old) (hit : s.heap.IsTupleIter it t j) (ht : s.heap.IsTuple t items) (hj : items[j]? = none)
    (hQ : ∀ h', Heap.ExtBut it s.heap h' → Q none { s with heap := h' }) : wpAny (model prog w) A (pyNext (.ref e)) Q E s := by
  have hT : s.TypeIs (.ref e) "enumerate" := ⟨_, he, rfl⟩
  unfold pyNext
  refine wpAny_bind (wpAny_attempt (wpAny_callSpecial?_slot (name := Str.ofString "__next__") hT F.slot_enumerate_next
    (wpAny_call_entry F.slot_enumerate_next hT F.entry_enumerate_next ?_ (F.args_enumerate_next_1 _))))
  show wpAny _ _ (field (.ref e) 2 >>= _) _ _ _
  refine wpAny_bind (wpAny_field he rfl (x := .ref it) rfl ?_)
  refine wpAny_bind (wpAny_nextOf_tuple_end (A := A.in1) hh hit ht hj fun h' x he' hx' => ?_)
  obtain ⟨o, ho, hc⟩ := hx'
  refine wpAny_bind (wpAny_isInstance (T := "StopIteration") (b := true) ⟨o, ho, hc⟩ isSubtype_stop ?_)
  exact wpAny_pure (hQ _ he')
/-- the tuple at a, each item in a new pair -/
def IteT (K : PySem.W.Frag) (a : Addr) : It :=
  ⟨fun i H => ∃ (xs : List V) (x : V), SqT K H a xs ∧ xs[i]? = some x, fun i H v H' => ∃ T x, v = .ref T ∧ H T = none ∧ H' = upd H T (.tup [.int (i : Nat), x]) ∧ ∀ xs, SqT K H a xs → xs[i]? = some x, fun i H => ∃ xs : List V, SqT K H a xs ∧ xs.length ≤ i⟩
theorem turn_enumT {P : Program} {w : World} {K : PySem.W.Frag} {elts : List Expr} {kk : Nat} {tpos : Pos} (a e it : Addr) :
    Turn P w K (.Tuple elts kk tpos) (IteT K a) [e, it] e (fun i h => (∃ old, IsEnum h e it ((i : Nat) : Int) old) ∧ h.IsTupleIter it a i ∧ e ≠ it ∧ a ≠ it ∧ a ≠ e) where
  mem := by simp
  obj := fun i h st b hb => by
    obtain ⟨⟨old, he⟩, ⟨o, ho, hc, hd⟩, _⟩ := st
    have e' : b = e ∨ b = it := by simpa using hb
    rcases e' with z | z
    · rw [z]; exact ⟨_, he, fun v q => nomatch q⟩
    · rw [z]; exact ⟨o, ho, fun v q => by rw [hd] at q; cases q⟩
  keep := fun i h h' st k => let ⟨⟨old, he⟩, hi, hne⟩ := st; ⟨⟨old, k e (by simp) _ he⟩, hi.at fun o q => k it (by simp) o q, hne⟩
  item := by
    intro X hP hw hK hc i pins s σ H E I hf st hg
    subst hP hw hK
    obtain ⟨⟨old, he⟩, hit, hne, nai, nae⟩ := st
    obtain ⟨xs, x, hq, hx⟩ := hg
    obtain ⟨its, rv, p, hz⟩ := I.tuple hq
    obtain ⟨u, hu, ru⟩ := rv.get hx
    have hel : e < s.heap.objs.size := Heap.lt_size he
    have hil : it < s.heap.objs.size := by obtain ⟨_, q, _⟩ := hit; exact Heap.lt_size q
    have hi : i < its.toArray.size := by rw [List.size_toArray]; exact (List.getElem?_eq_some_iff.mp hu).1
    refine wpAny_pyNext_enum_itemD (Draws.tuple (A := X.A.in1) (I.ok.hd hc) it a nai its.toArray) he ⟨hit, p⟩ hi hne (by simp [hne, Ne.symm nae]) fun x' h' tk hP ho hit' hT hsz hk => ?_
    have ex' : x' = u := by
      have h1 : its[i]? = some x' := by simpa using hP
      rw [hu] at h1; exact (Option.some.inj h1).symm
    subst ex'
    refine ⟨_, rfl, wpAny_letOwnedTupleGo_enum (s := { s with heap := h', toks := tk + 1 }) ho fun h'' he' sb => ?_⟩
    have hT2 : h''.get? s.heap.objs.size = some { cls := .type "tuple", data := .seq #[.int i tk, x'] } := (sb.2 _ (Nat.ne_of_gt hel)).trans hT
    have new : ObjOk X.prog X.w (upd H s.heap.objs.size (.tup [.int (i : Nat), x])) h'' s.heap.objs.size (.tup [.int (i : Nat), x]) :=
      ⟨by show 2 ≤ sizeLine; decide, [.int i tk, x'], .cons ⟨_, rfl⟩ (.cons ru .nil), ⟨_, hT2, rfl, _, rfl⟩⟩
    have I1 : Inv X pins σ (upd H s.heap.objs.size (.tup [.int (i : Nat), x])) { s with heap := h'', toks := tk + 1 } :=
      I.turnedNew (ch := [e, it]) (fun b ob hb q => (sb.2 b (fun z => hb (by simp [z]))).trans (hk b ob (fun z => hb (by simp [z])) (fun z => hb (by simp [z])) q)) hf (Nat.le_refl _) new
    refine ⟨.ref s.heap.objs.size, _, I1, rfl, ⟨_, x, rfl, I.hok.fresh (Nat.le_refl _), rfl, fun ys hy => by rw [I.tuple_inj hy hq]; exact hx⟩, ⟨⟨x', ?_⟩, hit'.1.at fun o q => (sb.2 it (Ne.symm hne)).trans q, hne, nai, nae⟩, fun b hb => ?_⟩
    · have e1 : ((i + 1 : Nat) : Int) = (i : Int) + 1 := by omega
      rw [e1]; exact he'
    · have hb' : b < s.heap.objs.size := by
        have e' : b = e ∨ b = it := by simpa using hb
        rcases e' with z | z
        · rw [z]; exact hel
        · rw [z]; exact hil
      rw [upd_ne (Nat.ne_of_lt hb')]
      exact (hf b hb).1
  done := by
    intro X hP hw hK hc i pins s σ H E I hf st hg
    subst hP hw hK
    obtain ⟨⟨old, he⟩, hit, hne, nai, nae⟩ := st
    obtain ⟨xs, hq, hx⟩ := hg
    obtain ⟨its, rv, p, hz⟩ := I.tuple hq
    obtain ⟨f0, f1, f2, f3, f4, f5⟩ := hf it (by simp)
    have hl := rv.length
    exact next_enum_endT (I.ok.hd hc) he hit p (by simp; omega) fun h' eb => ⟨rfl, I.turned (t' := s.toks) (fun b o hb q => eb b o hb q) f0 f1 f3 f4 f5⟩
  self := fun A i s Q E st h => let ⟨⟨_, he⟩, _⟩ := st; wpAny_pyIter_enum he h
def iEnumA (K : PySem.W.Frag) (ta : TA) : TI := fun σ H R => ta σ H fun vs H1 => (∃ a xs, vs = [.ref a] ∧ SqL K H1 a xs ∧ R (Ite K a) H1) ∨ ∃ a xs, vs = [.ref a] ∧ SqT K H1 a xs ∧ R (IteT K a) H1
theorem pi_enumA {X : Cx} {e : Expr} {ta : TA} {p pos tpos : Pos} {elts : List Expr} {kk : Nat} (hg : Gl X "enumerate") (hm : X.mg "enumerate" = none) (ha : PA X [e] ta) (hs : starEach [e] X.env = [(false, eval e X.env)] := by rfl) :
    PI X (.Tuple elts kk tpos) (.Call (.Name "enumerate" p) [e] [] pos) (iEnumA X.K ta) := by
  refine ⟨fun pins s σ H R I h => ?_⟩
  refine Call_ (ld_blt I hg hm boot_enumerate (PyProof.Rows.callWith_type1 (thn (ha.run pos pins s σ H _ I h) fun us s1 ⟨vs, H1, I1, r1, q1⟩ => ?_) hs rfl))
  have fp : ∀ b ∈ [s1.heap.objs.size + 1, s1.heap.objs.size], s1.heap.objs.size ≤ b := fun b hb => by
    have e' : b = s1.heap.objs.size + 1 ∨ b = s1.heap.objs.size := by simpa using hb
    rcases e' with z | z
    · rw [z]; exact Nat.le_add_right _ _
    · rw [z]; exact Nat.le_refl _
  rcases q1 with ⟨a, xs, ex, hq, q⟩ | ⟨a, xs, ex, hq, q⟩
  · subst ex
    cases r1 with
    | cons r rr =>
      cases rr
      cases r
      obtain ⟨its, rv, p', hz⟩ := I1.list hq
      refine call_enumerate_list p'.isList fun h' he hit hsz hk => wpAny_pyIter_enum he ?_
      have I2 : Inv X pins σ H1 { s1 with heap := h' } := I1.kept (t' := s1.toks) hk
      exact ⟨s1.heap.objs.size + 1, [s1.heap.objs.size + 1, s1.heap.objs.size], _, _, H1, rfl, I2, turn_enum a (s1.heap.objs.size + 1) s1.heap.objs.size, ⟨⟨.none, he⟩, hit, Nat.succ_ne_self _⟩, fun b hb => I1.fpOk (fp b hb) (I1.hok.fresh (fp b hb)), q⟩
  · subst ex
    cases r1 with
    | cons r rr =>
      cases rr
      cases r
      obtain ⟨its, rv, p', hz⟩ := I1.tuple hq
      have hal : a < s1.heap.objs.size := by obtain ⟨_, q, _⟩ := p'; exact Heap.lt_size q
      refine enum_begins1 (begins_tuple a its.toArray) p' fun h' he hit hsz hk => wpAny_pyIter_enum he ?_
      have I2 : Inv X pins σ H1 { s1 with heap := h' } := I1.kept (t' := s1.toks) hk
      exact ⟨s1.heap.objs.size + 1, [s1.heap.objs.size + 1, s1.heap.objs.size], _, _, H1, rfl, I2, turn_enumT a (s1.heap.objs.size + 1) s1.heap.objs.size, ⟨⟨.none, he⟩, ⟨_, hit, rfl, rfl⟩, Nat.succ_ne_self _, Nat.ne_of_lt hal, Nat.ne_of_lt (Nat.lt_succ_of_lt hal)⟩, fun b hb => I1.fpOk (fp b hb) (I1.hok.fresh (fp b hb)), q⟩

section
variable {X : Cx} {T : Tb} {W : WX} {a b o e : Expr} {es : List Expr} {A B : M} {pos p p2 pos2 apos : Pos}
def enumL : Nat → List D → List D
  | _, [] => []
  | n, x :: xs => .tup [.int n, x] :: enumL (n + 1) xs
theorem enumL_len : ∀ (n : Nat) (xs : List D), (enumL n xs).length = xs.length
  | _, [] => rfl
  | n, x :: xs => by simp [enumL, enumL_len (n + 1) xs]
theorem enumL_get : ∀ {xs : List D} {n i : Nat} {d : D}, (enumL n xs)[i]? = some d → ∃ x, xs[i]? = some x ∧ d = .tup [.int (n + i : Nat), x]
  | [], n, i, d, h => by simp [enumL] at h
  | x :: xs, n, 0, d, h => by simp [enumL] at h; exact ⟨x, rfl, h.symm⟩
  | x :: xs, n, i + 1, d, h => by
    obtain ⟨y, h1, h2⟩ := enumL_get (xs := xs) (n := n + 1) (i := i) (d := d) (by simpa [enumL] using h)
    exact ⟨y, by simpa using h1, by rw [h2, Nat.add_assoc, Nat.add_comm 1 i]⟩
theorem walk_enum {G : Hp} {p : Addr} {xs : List D} {vs : List V} (h : SqL T.K G p vs) (r : Reps T G xs vs) : Walk T G (enumL 0 xs) (Ite T.K p) := by
  refine ⟨fun i H e hi => ?_, fun i H e hi => ⟨vs, ex_l e h, ?_⟩, fun i H G1 x H' e1 e2 y d hd => ?_⟩
  · rw [enumL_len] at hi
    exact ⟨vs, vs[i]'(by rw [r.length]; omega), ex_l e h, List.getElem?_eq_getElem _⟩
  · rw [enumL_len] at hi
    rw [r.length]; omega
  · obtain ⟨Tt, x1, rfl, hT, rfl, y1h⟩ := y
    obtain ⟨d1, hd1, rfl⟩ := enumL_get hd
    obtain ⟨v1, hv1, rv1⟩ := r.get hd1
    have z1 := y1h vs (ex_l (e1.trans e2) h)
    rw [hv1] at z1
    obtain rfl : v1 = x1 := Option.some.inj z1
    have st : Step G1 H (upd G1 Tt (.tup [.int (i : Nat), v1])) (upd H Tt (.tup [.int (i : Nat), v1])) := Step.new e2 hT
    exact ⟨_, st, Rep.tup upd_same (by show 2 ≤ sizeLine; decide) (Reps.cons (by rw [Nat.zero_add]; exact Rep.int) (Reps.cons (Rep.mono (e1.trans st.g) _ _ rv1) Reps.nil))⟩
theorem walk_enumT {G : Hp} {p : Addr} {xs : List D} {vs : List V} (h : SqT T.K G p vs) (r : Reps T G xs vs) : Walk T G (enumL 0 xs) (IteT T.K p) := by
  refine ⟨fun i H e hi => ?_, fun i H e hi => ⟨vs, ex_t e h, ?_⟩, fun i H G1 x H' e1 e2 y d hd => ?_⟩
  · rw [enumL_len] at hi
    exact ⟨vs, vs[i]'(by rw [r.length]; omega), ex_t e h, List.getElem?_eq_getElem _⟩
  · rw [enumL_len] at hi
    rw [r.length]; omega
  · obtain ⟨Tt, x1, rfl, hT, rfl, y1h⟩ := y
    obtain ⟨d1, hd1, rfl⟩ := enumL_get hd
    obtain ⟨v1, hv1, rv1⟩ := r.get hd1
    have z1 := y1h vs (ex_t (e1.trans e2) h)
    rw [hv1] at z1
    obtain rfl : v1 = x1 := Option.some.inj z1
    have st : Step G1 H (upd G1 Tt (.tup [.int (i : Nat), v1])) (upd H Tt (.tup [.int (i : Nat), v1])) := Step.new e2 hT
    exact ⟨_, st, Rep.tup upd_same (by show 2 ≤ sizeLine; decide) (Reps.cons (by rw [Nat.zero_add]; exact Rep.int) (Reps.cons (Rep.mono (e1.trans st.g) _ _ rv1) Reps.nil))⟩
def enum1 : List S → Cs → R (List D)
  | [.d (.lst xs)], c => .ok (enumL 0 xs) c
  | [.d (.tup xs)], c => .ok (enumL 0 xs) c
  | _, _ => .bad
def iEnum' (B : MA) : MI := fun δ c => (B δ c).bind enum1
theorem di_enum {elts : List Expr} {kk : Nat} {tpos : Pos} {B : MA} (hT : X.K = T.K) (hg : Gl X "enumerate") (hm : X.mg "enumerate" = none) (ha : PA X [a] (tDA T W B)) (hs : starEach [a] X.env = [(false, eval a X.env)] := by rfl) :
    PI X (.Tuple elts kk tpos) (.Call (.Name "enumerate" p) [a] [] pos) (tI T W (iEnum' B)) := by
  refine PI.imp (pi_enumA hg hm ha hs) fun σ H Q ⟨δ, c, G, ρ, hs, hh, p⟩ => ?_
  refine ⟨δ, c, G, ρ, hs, hh, (Post.bind (rel := SReps T) p).imp ?_⟩
  rintro vs H1 ⟨ss, c1, G1, ρ1, e1, p1, h1, r1, q1⟩
  unfold enum1 at q1
  rw [hT]
  split at q1
  · rename_i c xs
    obtain ⟨v, rfl, r⟩ := r1.one
    obtain ⟨q, vs, rfl, sq, hl, rr⟩ := Rep.lst_inv (show Rep T G1 (.lst xs) v from r)
    exact .inl ⟨q, vs, rfl, SqL.of (h1.ex _ _ sq), q1 _ H1 G1 ρ1 (.refl _) (List.prefix_refl _) h1 ⟨walk_enum (SqL.of sq) rr, by rw [enumL_len]; exact hl⟩⟩
  · rename_i c xs
    obtain ⟨v, rfl, r⟩ := r1.one
    obtain ⟨q, vs, rfl, sq, hl, rr⟩ := Rep.tup_inv (show Rep T G1 (.tup xs) v from r)
    exact .inr ⟨q, vs, rfl, SqT.of (h1.ex _ _ sq), q1 _ H1 G1 ρ1 (.refl _) (List.prefix_refl _) h1 ⟨walk_enumT (SqT.of sq) rr, by rw [enumL_len]; exact hl⟩⟩
  · exact q1.elim

end
end Dn

end
section
set_option maxHeartbeats 1000000
/-! Dn11: short forms for the printed derivations; what the top has written. -/
namespace Dn
open PySem PySem.Spec PyProof.Rows L2
section
variable {X : Cx} {T : Tb} {W : WX} {a b o e : Expr} {es : List Expr} {A B : M} {pos p p2 pos2 apos : Pos}
theorem takes0 : Takes X W0 := fun u s' ⟨_, _, _, _, _, _, _, _, _, _, _, _, _, _, _, _, w⟩ => w.elim
theorem vv (i : Nat) {x : Str} {pos : Pos} (hN : X.N[i]? = some x := by rfl) (hv : Vis X.env.scope x := by first | exact Or.inl rfl | exact Or.inr (Or.inl rfl) | exact Or.inr (Or.inr rfl)) (hd : (x == ("__debug__" : Str)) = false := by decide)
    (hcd : (x == ("__classdict__" : Str)) = false := by decide) : PE X (.Name x pos) (tD T W (mVar i)) := dn_var hN hv hd hcd
theorem dn_app {B : MA} (ho : PE X o (tD T W A)) (ha : PA X (e :: es) (tDA T W B)) (hbase : attributeBase o "append" X.env (eval o X.env) = eval o X.env := by rfl)
    (hfew : ((backTo pos (starEach (e :: es) X.env)).all (fun x => !x.1) && (backToKw pos (keywordEach [] X.env)).all (fun x => x.1.isSome)
      && decide ((e :: es).length + ([] : List Keyword).length + (if ([] : List Keyword).isEmpty then 0 else 1) < 30)) = true := by rfl)
    (hline : (apos.endLine == pos.line) = true := by rfl) (hs : starEach (e :: es) X.env = (false, eval e X.env) :: starEach es X.env := by rfl) (hplain : (backTo pos (starEach es X.env)).any (·.1) = false := by rfl) :
    PE X (.Call (.Attribute o "append" apos) (e :: es) [] pos) (tD T W (mAppend A B)) :=
  dn_append ho ha fun h1 h2 => pe_bm PySem.F.plainAttrs_list PySem.F.slot_list_append PySem.F.type_list_append mt_append h1 h2 hbase hfew hline hs hplain
theorem ds_setAt {i value : Expr} {I V : M} {tpos : Pos} (ho : PE X o (tD T W A)) (hi : PE X i (tD T W I)) (hv : PE X value (tD T W V))
    (ha : ∀ v, assign (.Subscript o i tpos) X.env v = (do
      let ov ← holding [v] (eval o X.env)
      let iv ← holding [v, ov] (eval i X.env)
      standAt tpos
      holding [v, ov, iv] (setItem ov iv v)
      release [v, ov, iv] []) := by intro _; rfl)
    (hs : swapsWithSole [.Subscript o i tpos] value pos.line X.env = pure false := by rfl) (hw : swappedStores [.Subscript o i tpos] value X.env = pure none := by rfl)
    (h1 : (assignEach [.Subscript o i tpos] X.env).map (·.2) = [assign (.Subscript o i tpos) X.env] := by rfl) : PS X (.Assign [.Subscript o i tpos] value pos) (tS T W (sSetIx A I V)) :=
  ds_setIx ho hi hv fun a b c => ps_asg c (pg_sub a b set_list ha) hs hw h1

/-! ### == of all kinds -/
def eqZ (tbl : List (Nat × (List S → Cs → R S))) (s t : S) (c : Cs) : R S := match s, t with
  | .d (.obj _ _), .d (.obj _ _) => eqO tbl s t c
  | _, _ => eqX tbl false s t c
section
variable {tbl : List (Nat × (List S → Cs → R S))} {n : Nat} (hM : MethsAt X.prog X.w X.K X.mg X.base T "__eq__" n tbl) (hT : X.K = T.K) (hr : Room (n + 1) X.A) (ha : PE X a (tD T W A)) (hb : PE X b (tD T W B))
theorem prim_eqZ : Prim2 T (eqZ tbl) (fun x y H Q => ((if false then rNeD T.K else rEqD T.K) x y H Q ∨ rEqLs T tbl false x y H Q) ∨ rEqO T tbl x y H Q) := by
  intro W σ G ρ H c s t v u Q hh rs rt p
  unfold eqZ at p
  split at p
  · exact .inr (prim_eqO _ _ _ _ _ _ _ _ _ _ _ hh rs rt p)
  · exact .inl (prim_eqX _ _ _ _ _ _ _ _ _ _ _ hh rs rt p)
include hM hT hr ha hb
theorem dn_eqZ : PE X (.Compare a [.Eq] [b] pos) (tD T W (mBin (eqZ tbl) A B)) := dn_cmp ((op_eqX false hM hT hr).or (op_eqO hM (hr.mono (Nat.le_succ _)))) prim_eqZ ha hb (nomark _)
theorem dt_eqZ : PT X (.Compare a [.Eq] [b] pos) (tDT T W (mTB (mBin (eqZ tbl) A B))) := dt_cmp ((op_eqX false hM hT hr).or (op_eqO hM (hr.mono (Nat.le_succ _)))) prim_eqZ ha hb (nomark _)
end

/-! ### list(zip(..)), sorted(set(..)) -/
def zipS (ss : List S) (c : Cs) : R S := match ss with
  | [.d (.lst xs), .d (.lst ys)] => .ok (.d (.lst (zipL xs ys))) c
  | [.d (.tup xs), .d (.tup ys)] => .ok (.d (.lst (zipL xs ys))) c
  | _ => .bad
def mListZip (B : MA) : M := fun δ c => (B δ c).bind zipS
def intsOf : List D → Option (List Int)
  | [] => some []
  | .int i :: r => match intsOf r with
    | some is => some (i :: is)
    | none => none
  | _ :: _ => none
def insU (x : Int) : List Int → List Int
  | [] => [x]
  | y :: r => if x < y then x :: y :: r else if x = y then y :: r else y :: insU x r
/-- the members, from the least one on, each once -/
def sortU : List Int → List Int
  | [] => []
  | x :: r => insU x (sortU r)
def sortSet (s : S) (c : Cs) : R S := match deref s c with
  | some (.lst xs) => match intsOf xs with
    | some ns => if ns.length ≤ 50 then .ok (.d (.lst ((sortU ns).map D.int))) c else .bad
    | none => .bad
  | _ => .bad
def mSortSet (A : M) : M := fun δ c => (A δ c).bind sortSet

/-! ### classes as values, kinds of built-in types -/
theorem pe_ty {x : Str} {n : String} {pos : Pos} (hg : Gl X x) (hm : X.mg x = none) (hv : bootBuiltins x = some (.type n)) (hn : x ≠ "__name__" := by decide) (hdb : (x == ("__debug__" : Str)) = false := by decide) : PE X (.Name x pos) (tC (.ty n)) :=
  ⟨fun pins s σ H Q I h => ld_blt I hg hm hv ⟨_, H, I, (show RelV (.ty n) (.type n) from rfl), h⟩ hn hdb⟩
theorem boot_ty_int : bootBuiltins "int" = some (.type "int") := by decide +kernel
theorem boot_ty_bool : bootBuiltins "bool" = some (.type "bool") := by decide +kernel
theorem boot_ty_list : bootBuiltins "list" = some (.type "list") := by decide +kernel
theorem boot_ty_tuple : bootBuiltins "tuple" = some (.type "tuple") := by decide +kernel
theorem boot_ty_str : bootBuiltins "str" = some (.type "str") := by decide +kernel
theorem dn_gint {x : Str} {i : Int} {pos : Pos} (hg : Gl X x) (hm : ∃ t, X.mg x = some (.int i t)) (hd : (x == ("__debug__" : Str)) = false := by decide) : PE X (.Name x pos) (tD T W (mC (.int i))) := by
  obtain ⟨t, hm⟩ := hm
  exact dn_glob (v := .int i) hg hm ⟨t, rfl⟩ (fun _ => Rep.int) hd
def kInt (obj : List (Nat × Bool)) : Kinds := ⟨some false, some true, some true, some false, some false, some false, obj, some false⟩
def kBool (obj : List (Nat × Bool)) : Kinds := ⟨some false, some true, some false, some false, some false, some false, obj, some false⟩
def kList (obj : List (Nat × Bool)) : Kinds := ⟨some false, some false, some false, some false, some true, some false, obj, some false⟩
def kLT (obj : List (Nat × Bool)) : Kinds := ⟨some false, some false, some false, some false, some true, some true, obj, some false⟩
def kOwn (obj : List (Nat × Bool)) : Kinds := ⟨none, none, none, none, none, none, obj, none⟩
section
variable {K : PySem.W.Frag} {obj : List (Nat × Bool)}
theorem kInt_ok (h : ∀ c r, (c, r) ∈ obj → Asked K (T.cl c) ∧ PySem.W.kitOne K (.ref (T.cl c)) (.type "int") = some r) : KindsOk K T (fun t => PySem.W.kitOne K t (.type "int")) (kInt obj) :=
  ⟨fun r e => by cases e; rfl, fun r e => by cases e; rfl, fun r e => by cases e; rfl, fun r e => by cases e; rfl, fun r e => by cases e; rfl, fun r e => by cases e; rfl, h, fun r e => by cases e; rfl⟩
theorem kBool_ok (h : ∀ c r, (c, r) ∈ obj → Asked K (T.cl c) ∧ PySem.W.kitOne K (.ref (T.cl c)) (.type "bool") = some r) : KindsOk K T (fun t => PySem.W.kitOne K t (.type "bool")) (kBool obj) :=
  ⟨fun r e => by cases e; rfl, fun r e => by cases e; rfl, fun r e => by cases e; rfl, fun r e => by cases e; rfl, fun r e => by cases e; rfl, fun r e => by cases e; rfl, h, fun r e => by cases e; rfl⟩
theorem kList_ok (h : ∀ c r, (c, r) ∈ obj → Asked K (T.cl c) ∧ PySem.W.kitOne K (.ref (T.cl c)) (.type "list") = some r) : KindsOk K T (fun t => PySem.W.kitOne K t (.type "list")) (kList obj) :=
  ⟨fun r e => by cases e; rfl, fun r e => by cases e; rfl, fun r e => by cases e; rfl, fun r e => by cases e; rfl, fun r e => by cases e; rfl, fun r e => by cases e; rfl, h, fun r e => by cases e; rfl⟩
theorem kLT_ok (h : ∀ c r, (c, r) ∈ obj → Asked K (T.cl c) ∧ PySem.W.kitAny K (.ref (T.cl c)) [.type "list", .type "tuple"] = some r) : KindsOk K T (fun t => PySem.W.kitAny K t [.type "list", .type "tuple"]) (kLT obj) :=
  ⟨fun r e => by cases e; rfl, fun r e => by cases e; rfl, fun r e => by cases e; rfl, fun r e => by cases e; rfl, fun r e => by cases e; rfl, fun r e => by cases e; rfl, h, fun r e => by cases e; rfl⟩
theorem kOwn_ok {f : Value → Option Bool} (h : ∀ c r, (c, r) ∈ obj → Asked K (T.cl c) ∧ f (.ref (T.cl c)) = some r) : KindsOk K T f (kOwn obj) :=
  ⟨(fun r e => by cases e), (fun r e => by cases e), (fun r e => by cases e), (fun r e => by cases e), (fun r e => by cases e), (fun r e => by cases e), h, (fun r e => by cases e)⟩
/-- any kinds, all told -/
def kAll (non bl int str lst tup dct : Bool) (obj : List (Nat × Bool)) : Kinds := ⟨some non, some bl, some int, some str, some lst, some tup, obj, some dct⟩
theorem kAll_ok {f : Value → Option Bool} {non bl int str lst tup dct : Bool} (h1 : f (.type "NoneType") = some non) (h2 : f (.type "bool") = some bl) (h3 : f (.type "int") = some int) (h4 : f (.type "str") = some str) (h5 : f (.type "list") = some lst) (h6 : f (.type "tuple") = some tup) (h7 : f (.type "dict") = some dct)
    (h : ∀ c r, (c, r) ∈ obj → Asked K (T.cl c) ∧ f (.ref (T.cl c)) = some r) : KindsOk K T f (kAll non bl int str lst tup dct obj) :=
  ⟨(fun r e => by cases e; exact h1), (fun r e => by cases e; exact h2), (fun r e => by cases e; exact h3), (fun r e => by cases e; exact h4), (fun r e => by cases e; exact h5), (fun r e => by cases e; exact h6), h, (fun r e => by cases e; exact h7)⟩
theorem more_obj {p : Nat → Bool → Prop} {n : Nat} {q : Bool} {l : List (Nat × Bool)} (h : p n q) (k : ∀ c r, (c, r) ∈ l → p c r) : ∀ c r, (c, r) ∈ (n, q) :: l → p c r := fun c r e => by
  cases e with
  | head => exact h
  | tail _ e => exact k c r e
theorem no_obj {p : Nat → Bool → Prop} : ∀ c r, (c, r) ∈ ([] : List (Nat × Bool)) → p c r := fun _ _ h => by cases h
theorem one_obj {p : Nat → Bool → Prop} {n : Nat} {q : Bool} (h : p n q) : ∀ c r, (c, r) ∈ [(n, q)] → p c r := fun c r e => by
  rw [List.mem_singleton] at e; cases e; exact h
end

/-! ### what the top has written -/
def DefAt (K : PySem.W.Frag) (mg : Str → Option Value) (x : Str) (st : Stmt) (ps : List Str) : Prop :=
  ∃ f fd, Fun K x x st f fd ∧ mg x = some (.ref f) ∧ PySem.W.keepIn K (.ref f) = true ∧ Binds K fd ps []
def MDefAt (K : PySem.W.Frag) (C : Addr) (m qual : Str) (st : Stmt) (ps : List Str) : Prop :=
  ∃ f fd, Fun K m qual st f fd ∧ Meth K C m f ∧ Binds K fd ps []
def IDefAt (K : PySem.W.Frag) (C : Addr) (qual : Str) (st : Stmt) (ps : List Str) : Prop :=
  ∃ f fd, Fun K "__init__" qual st f fd ∧ Mk K C f ∧ Binds K fd ps []
def tbOf (K : PySem.W.Frag) (cl : List Addr) (fl : List (List Str)) : Tb := ⟨K, fun n => cl.getD n 0, fun n => fl.getD n [], none⟩
section
variable {P : Program} {w : World} {K : PySem.W.Frag} {mg : Str → Option Value} {base : Heap} {k : Nat}
theorem cx_takes {N : List Str} {x : Str} {sc : Scope} {f : Addr} {cdv : Value} {A : Around} {outer : List Env} {s : Shared} {H : Hp} {E : XK} : Takes (cxOf (L2.CX P w) P w K mg base N x sc f cdv A outer s H E) (fun cls d _ H => E cls d H) := takes_of rfl rfl rfl rfl
theorem fn_okT {kp : Bool} {x qual : Str} {st : Stmt} {f : Addr} {fd : FuncData} {N ps : List Str} {body : MS} (F : Fun K x qual st f fd) (S : FnScope N ps (defScope st))
    (hbody : ∀ (f : Addr) (cdv : Value) (A : Around) (outer : List Env) (s : Shared) (H : Hp) (E : XK), Room k (A.deeper (envOfC qual (defScope st) s.heap.objs.size f cdv)) → Takes (cxOf (L2.CX P w) P w K mg base N qual (defScope st) f cdv A outer s H E) (fun cls d _ H => E cls d H) →
      PSs (cxOf (L2.CX P w) P w K mg base N qual (defScope st) f cdv A outer s H E) (defBody st) (tS T (fun cls d _ H => E cls d H) body)) : FnOk P w K mg base (L2.CX P w) (k + 1) f fd ps (spD T (fnG kp ps.length N.length body)) :=
  fn_ok F S fun cdv A outer s H E hr => hbody f cdv A outer s H E hr cx_takes
theorem fn_at {kp : Bool} {x : Str} {st : Stmt} {N ps : List Str} {body : MS} (D : DefAt K mg x st ps) (S : FnScope N ps (defScope st))
    (hbody : ∀ (f : Addr) (cdv : Value) (A : Around) (outer : List Env) (s : Shared) (H : Hp) (E : XK), Room k (A.deeper (envOfC x (defScope st) s.heap.objs.size f cdv)) → Takes (cxOf (L2.CX P w) P w K mg base N x (defScope st) f cdv A outer s H E) (fun cls d _ H => E cls d H) →
      PSs (cxOf (L2.CX P w) P w K mg base N x (defScope st) f cdv A outer s H E) (defBody st) (tS T (fun cls d _ H => E cls d H) body)) : FnAt P w K mg base T x (k + 1) (fnG kp ps.length N.length body) := by
  obtain ⟨f, fd, F, hm, hk, hb⟩ := D
  exact ⟨f, fd, ps, fn_okT F S hbody, hm, hk, hb⟩
theorem meth_at {kp : Bool} {c : Nat} {m qual : Str} {st : Stmt} {N ps : List Str} {body : MS} (D : MDefAt K (T.cl c) m qual st ps) (hc : Cls K (T.cl c)) (hn : m ∉ T.fl c) (S : FnScope N ps (defScope st))
    (hbody : ∀ (f : Addr) (cdv : Value) (A : Around) (outer : List Env) (s : Shared) (H : Hp) (E : XK), Room k (A.deeper (envOfC qual (defScope st) s.heap.objs.size f cdv)) → Takes (cxOf (L2.CX P w) P w K mg base N qual (defScope st) f cdv A outer s H E) (fun cls d _ H => E cls d H) →
      PSs (cxOf (L2.CX P w) P w K mg base N qual (defScope st) f cdv A outer s H E) (defBody st) (tS T (fun cls d _ H => E cls d H) body)) : MethAt P w K mg base T m c (k + 1) (fnG kp ps.length N.length body) := by
  obtain ⟨f, fd, F, hm, hb⟩ := D
  exact ⟨f, fd, ps, fn_okT F S hbody, hm, hc, hn, hb⟩
theorem make_at {kp : Bool} {c nf : Nat} {x qual : Str} {st : Stmt} {N ps : List Str} {body : MS} (D : IDefAt K (T.cl c) qual st ps) (hm : mg x = some (.ref (T.cl c))) (hn : (T.fl c).length = nf) (S : FnScope N ps (defScope st))
    (hbody : ∀ (f : Addr) (cdv : Value) (A : Around) (outer : List Env) (s : Shared) (H : Hp) (E : XK), Room k (A.deeper (envOfC qual (defScope st) s.heap.objs.size f cdv)) → Takes (cxOf (L2.CX P w) P w K mg base N qual (defScope st) f cdv A outer s H E) (fun cls d _ H => E cls d H) →
      PSs (cxOf (L2.CX P w) P w K mg base N qual (defScope st) f cdv A outer s H E) (defBody st) (tS T (fun cls d _ H => E cls d H) body)) : MakeAt P w K mg base T x c nf (k + 1) (fnG kp ps.length N.length body) := by
  obtain ⟨f, fd, F, hM, hb⟩ := D
  exact ⟨f, fd, ps, fn_okT F S hbody, hM, hm, hn, hb⟩
/-! ### the end -/
def spLawD (K : PySem.W.Frag) : Sp := fun vs H Q _ => ∃ (a : Addr) (ns : List Int), vs = [.ref a] ∧ SqL K H a (ns.map V.int) ∧ ns.length ≤ 63 ∧ (∀ z ∈ ns, Builtin.Int.intBits z ≤ 1048576) ∧ ∀ H', Q (.bl true) H'
def LawTrue (d : List S → Cs → R S) : Prop := ∀ ns : List Int, ns.length ≤ 63 → (∀ z ∈ ns, Builtin.Int.intBits z ≤ 1048576) → d [.d (.scr ns)] [] = .ok (.d (.bl true)) []
theorem law_end {CX : CXT} {f : Addr} {fd : FuncData} {ps : List Str} {d : List S → Cs → R S} (hd : LawTrue d) (hT : T.K = K) (F : FnOk P w K mg base CX k f fd ps (spD T d)) : FnOk P w K mg base CX k f fd ps (spLawD K) := by
  refine F.imp fun vs H Q E h => ?_
  obtain ⟨a, ns, rfl, hS, hl, hb, q⟩ := h
  refine ⟨[.d (.scr ns)], [], H, [], .cons (Rep.scr (by rw [hT]; exact hS) (Nat.le_trans hl (by decide))) .nil, RelH.none H, ?_⟩
  rw [hd ns hl hb]
  intro v H' G' ρ' eg pr rh rv
  have : v = .bl true := SRep.bl_inv rv
  subst this
  exact q H'
theorem walkD {l : PySem.W.OpenLaw} {q : Program} {loose : List Str} {XP : (Str → Option Value) → Heap → Prop} {YP : World → Heap → Prop} {d : DefRec} {K : Params → PySem.W.Frag} {x : Str} (hk : k ≤ 60) (hn : l.most = some 63) (hdf : d.params.defaults = [])
    (hY : ∀ (w : World) (h : Heap), YP w h → (K w.params).In h)
    (F : ∀ (w : World) (mg : Str → Option Value) (fa : Addr) (h : Heap), (K w.params).In h → h.Ns mainGlobals mg → mg d.name = some (.ref fa) →
      ∃ fd : FuncData, (∀ (s : Shared) (u : Value), BindsTo s fd ⟨[u], []⟩ [(x, u)]) ∧ ∀ base : Heap, (K w.params).In base → base.Ns mainGlobals mg → FnOk l.prog w (K w.params) mg base (L2.CX l.prog w) k fa fd [x] (spLawD (K w.params))) :
    PySem.W.WalkO q loose XP YP l.row.toRowW d [] (fun f vs => PySem.call f vs) :=
  L2.walk_ofB (n := 63) (k := k) (x := x) (CX := fun w => L2.CX l.prog w) (sp := fun w => spLawD (K w.params)) hn (by decide) hdf ((⟨rfl, by decide, by decide⟩ : Room 60 callerA).mono hk) hY F (fun _ _ a ns hl hb _ hS => ⟨a, ns, rfl, hS, hl, hb, fun _ => rfl⟩)
    fun _ _ _ _ _ ⟨_, _, _, _, _, _, _, _, _, _, _, _, z⟩ => z
theorem exm_self {S : Addr} (h1 : PySem.W.subIn K (.ref S) (.type "BaseException") = some true) (h2 : PySem.W.isClsIn K S = true) (h3 : PySem.W.typeIn K (.ref S) = some (.type "type")) (h4 : PySem.W.subIn K (.ref S) (.ref S) = some true) :
    PySem.W.exmOne K (.ref S) (.ref S) = some true := by
  have e1 : (PySem.W.subIn K (.ref S) (.type "BaseException") == some true) = true := by rw [h1] <;> rfl
  have e2 : ((PySem.W.clsIn K S).isSome && PySem.W.typeIn K (.ref S) == some (.type "type")) = true := by
    have h2' : (PySem.W.clsIn K S).isSome = true := h2
    rw [h2', h3] <;> rfl
  show (if (PySem.W.subIn K (.ref S) (.type "BaseException") == some true) = true then (if ((PySem.W.clsIn K S).isSome && PySem.W.typeIn K (.ref S) == some (.type "type")) = true then PySem.W.subIn K (.ref S) (.ref S) else none) else none) = some true
  rw [if_pos e1, if_pos e2]
  exact h4
theorem kit_self {C : Addr} : PySem.W.kitOne K (.ref C) (.ref C) = some true := if_pos (beq_self_eq_true _)
end
end
end Dn

end
section
/-! Dn12: sorted(set(a list of ints)). -/
namespace Dn
open PySem PySem.Spec PyProof.Rows L2
section
variable {P : Program} {w : World} {A : Around} {E : Value → Shared → Prop} {s : Shared}
abbrev newSet (w : World) : Obj := { cls := .type "set", dict := none, data := .set #[] 0 (.fresh 0 0 (!w.params.followText "set-order")) }
/-- what stands behind the filling of the new set at a -/
def Filled (w : World) (s : Shared) (a : Addr) (ns : List Int) (t : Shared) : Prop :=
  ∃ h' tk c, t = { s with heap := h', toks := tk } ∧ SetR w h' a (fun j => decide (j ∈ ns)) c ∧ c ≤ ns.length ∧ ∀ b o, b ≠ a → s.heap.get? b = some o → h'.get? b = some o
set_option maxHeartbeats 3200000 in
theorem init_of_list {a l : Addr} {items : Array Value} (ns : List Int) (hh : A.handled = none) (hS : s.heap.get? a = some (newSet w)) (hl : s.heap.IsList l items) (hit : IntsAre items.toList ns) (hb : ns.length + 1 < scanBound) :
    wpAny (model P w) A.in1 (Builtin.«set.__init__» ⟨[.ref a, .ref l], []⟩) (fun fin t => fin = .done (.ret .none) ∧ Filled w s a ns t) E s := by
  have hisz : items.size = ns.length := by
    have q := IntsAre.length hit
    rw [Array.length_toList] at q
    exact q
  have hal : a ≠ l := by
    intro e
    obtain ⟨o, ho, hc, _⟩ := hl
    rw [← e, hS] at ho
    cases ho
    exact absurd (show Value.type "set" = Value.type "list" from hc) (by decide)
  have hT : s.TypeIs (.ref a) "set" := ⟨_, hS, rfl⟩
  obtain ⟨ol, hol, hcl, nl, hdl⟩ := id hl
  obtain ⟨ocls, odict, odata, oslots⟩ := ol
  simp only at hcl hdl
  subst hcl; subst hdl
  have n1 := F.sub_list_set
  have n2 := F.sub_list_frozenset
  have n3 : (Value.type "list" == Value.type "dict") = false := by decide
  unfold Builtin.«set.__init__» noKeywords Builtin.Frozenset.updateFrom
  generalize hPI : pyIter = PI
  wp_walk
  subst hPI
  refine wpAny_pyIter_list hl ?_
  refine wpAny_bind (wpAny_runValue ?_)
  have la : a < s.heap.objs.size := Heap.lt_size hS
  have ll : l < s.heap.objs.size := Heap.lt_size hol
  have hval : ∀ (i : Nat) (v : Value), items[i]? = some v → ∃ k t, ns[i]? = some k ∧ v = .int k t := fun i v hv => by
    have hi : i < ns.length := by rw [← hisz]; exact (Array.getElem?_eq_some_iff.mp hv).1
    obtain ⟨t, e⟩ := PyProof.Rows.IntsAre.int_at hit i v (by rw [Array.getElem?_toList]; exact hv)
    refine ⟨ns[i], t, List.getElem?_eq_getElem hi, ?_⟩
    rw [e, List.getD_eq_getElem?_getD, List.getElem?_eq_getElem hi] <;> rfl
  refine set_update_ints ((Walks.list (A := A.in1.in1) (by simp [hh]) s.heap.objs.size l (Nat.ne_of_lt ll) items).toS) a (by simp; exact ⟨Nat.ne_of_lt la, hal⟩) ns hisz hb hval (items.size - 0) 0 _ (by omega) (Nat.zero_le _)
    ⟨⟨_, Heap.get?_push_size _ rfl, rfl, rfl⟩, hl.push _⟩ ⟨0, Nat.le_refl 0, setR_new_at (Heap.get?_push_of_some _ hS)⟩ ?_
  intro s' c' hm hc' hS'
  obtain ⟨h', g2, d', tk', os'⟩ := s'
  obtain rfl : g2 = s.gens := hm.gens
  obtain rfl : d' = s.drawn := hm.drawn
  obtain rfl : os' = s.os := hm.os
  refine wpAny_pure ?_
  show wpAny _ _ (ret Value.none) _ _ _
  refine wpAny_pure ⟨rfl, h', tk', c', rfl, hS', by omega, fun b o hba e => hm.heap b o ?_ (Heap.get?_push_of_some _ e)⟩
  simp
  exact ⟨hba, Nat.ne_of_lt (Heap.lt_size e)⟩
set_option maxHeartbeats 3200000 in
theorem set_of_list {l : Addr} {items : Array Value} (ns : List Int) {Q : Value → Shared → Prop} (hh : A.handled = none) (hl : s.heap.IsList l items) (hit : IntsAre items.toList ns) (hb : ns.length + 1 < scanBound)
    (h : ∀ (h' : Heap) (tk c : Nat), SetR w h' s.heap.objs.size (fun j => decide (j ∈ ns)) c → c ≤ ns.length → (∀ b o, s.heap.get? b = some o → h'.get? b = some o) → Q (.ref s.heap.objs.size) { s with heap := h', toks := tk }) :
    wpAny (model P w) A (call (.type "set") [.ref l]) Q E s := by
  obtain ⟨_, _, z1⟩ := F.called_set.mro
  have z2 := F.called_set.made
  have z3 := F.called_set.sub
  have z4 := F.called_set.notType
  have z5 := F.called_set.canCreate
  have z6 := F.typeCall_set_1 (.ref l)
  refine wpAny_call (codeAny_of_tree ?_)
  show wpAny _ _ (callAny (.type "set") _) _ _ _
  refine wpAny_pure ⟨Code.quiet_builtin _ (by decide +kernel), codeAny_builtin F.entry_type_call ?_⟩
  rw [Around.under_plain (weight_type_call_type "set" [.ref l] []) rfl]
  repeat (any_goals (first | assumption | wp_step))
  refine codeAny_mono (code_set_led1 (.ref l) (E := E) (Q₁ := fun obj s₁ => obj = .ref s.heap.objs.size ∧ s₁ = { s with heap := s.heap.push (newSet w) }) ⟨rfl, rfl⟩) fun r s₁ hr => ?_
  cases r with
  | error e => exact hr
  | ok fl =>
    cases fl with
    | ret obj =>
      obtain ⟨rfl, rfl⟩ := hr
      have hS : (s.heap.push (newSet w)).get? s.heap.objs.size = some (newSet w) := Heap.get?_push_size _ rfl
      have hT : Shared.TypeIs { s with heap := s.heap.push (newSet w) } (.ref s.heap.objs.size) "set" := ⟨_, hS, rfl⟩
      have z7 := F.called_set.init.lookup
      have z8 := F.called_set.init.bind (.ref s.heap.objs.size)
      repeat (any_goals (first | assumption | wp_step))
      refine codeAny_mono (codeAny_call_builtin (R := wants (fun r s₂ => r = .none ∧ Filled w { s with heap := s.heap.push (newSet w) } s.heap.objs.size ns s₂) E) F.called_set.init.plain F.entry_set_init (check_set_init_1 hT ?_)) fun r₂ s₂ hr₂ => ?_
      · refine wpAny_mono (init_of_list ns (by simp [hh]) hS (hl.push _) hit hb) (fun fin t ⟨e, hf⟩ => ?_) fun e t z => z
        subst e
        exact ⟨rfl, hf⟩
      · cases r₂ with
        | error e => exact hr₂
        | ok fl₂ =>
          cases fl₂ with
          | ret r =>
            obtain ⟨rfl, h', tk, c', rfl, hS', hc', hk'⟩ := hr₂
            repeat (any_goals (first | assumption | wp_step))
            exact h _ _ _ hS' hc' fun b o e => hk' b o (Nat.ne_of_lt (Heap.lt_size e)) (Heap.get?_push_of_some _ e)
          | _ => exact hr₂.elim
    | _ => exact hr.elim
end

theorem mem_insU {x y : Int} : ∀ {l : List Int}, y ∈ insU x l ↔ y = x ∨ y ∈ l
  | [] => by simp [insU]
  | z :: r => by
    unfold insU
    split
    · simp
    · split
      · rename_i h; subst h; simp
      · simp only [List.mem_cons, mem_insU (l := r)]
        constructor
        · rintro (h | h | h)
          · exact .inr (.inl h)
          · exact .inl h
          · exact .inr (.inr h)
        · rintro (h | h | h)
          · exact .inr (.inl h)
          · exact .inl h
          · exact .inr (.inr h)
theorem mem_sortU {y : Int} : ∀ {l : List Int}, y ∈ sortU l ↔ y ∈ l
  | [] => by simp [sortU]
  | x :: r => by simp only [sortU, mem_insU, mem_sortU (l := r), List.mem_cons]
theorem lt_insU {x : Int} : ∀ {l : List Int}, l.Pairwise (· < ·) → (insU x l).Pairwise (· < ·)
  | [], _ => by simp [insU]
  | z :: r, h => by
    obtain ⟨h1, h2⟩ := List.pairwise_cons.mp h
    unfold insU
    split
    · rename_i hx
      refine List.pairwise_cons.mpr ⟨fun y hy => ?_, h⟩
      rcases List.mem_cons.mp hy with e | e
      · rw [e]; exact hx
      · have := h1 y e; omega
    · split
      · exact h
      · rename_i n1 n2
        refine List.pairwise_cons.mpr ⟨fun y hy => ?_, lt_insU h2⟩
        rcases mem_insU.mp hy with e | e
        · rw [e]; omega
        · exact h1 y e
theorem lt_sortU : ∀ (l : List Int), (sortU l).Pairwise (· < ·)
  | [] => List.Pairwise.nil
  | x :: r => lt_insU (lt_sortU r)
theorem lt_unique : ∀ {l m : List Int}, l.Pairwise (· < ·) → m.Pairwise (· < ·) → (∀ k, k ∈ l ↔ k ∈ m) → l = m
  | [], [], _, _, _ => rfl
  | [], y :: m, _, _, e => by have := (e y).mpr List.mem_cons_self; cases this
  | x :: l, [], _, _, e => by have := (e x).mp List.mem_cons_self; cases this
  | x :: l, y :: m, h, k, e => by
    obtain ⟨h1, h2⟩ := List.pairwise_cons.mp h
    obtain ⟨k1, k2⟩ := List.pairwise_cons.mp k
    have hxy : x = y := by
      rcases List.mem_cons.mp ((e x).mp List.mem_cons_self) with z | z
      · exact z
      · rcases List.mem_cons.mp ((e y).mpr List.mem_cons_self) with w | w
        · exact w.symm
        · have := k1 x z; have := h1 y w; omega
    subst hxy
    rw [lt_unique h2 k2 fun j => ?_]
    constructor
    · intro hj
      rcases List.mem_cons.mp ((e j).mp (List.mem_cons_of_mem _ hj)) with z | z
      · have := h1 j hj; omega
      · exact z
    · intro hj
      rcases List.mem_cons.mp ((e j).mpr (List.mem_cons_of_mem _ hj)) with z | z
      · have := k1 j hj; omega
      · exact z
theorem sortU_len : ∀ (l : List Int), (sortU l).length ≤ l.length
  | [] => Nat.le_refl _
  | x :: r => by
    have ins : ∀ l : List Int, (insU x l).length ≤ l.length + 1 := by
      intro l
      induction l with
      | nil => simp [insU]
      | cons z r ih =>
        unfold insU
        split
        · simp
        · split
          · simp
          · simp; omega
    have := ins (sortU r)
    have := sortU_len r
    simp only [sortU, List.length_cons]
    omega
section
variable {X : Cx} {T : Tb} {W : WX} {a b o e : Expr} {es : List Expr} {A B : M} {pos p p2 pos2 apos : Pos}
def rSetL (K : PySem.W.Frag) (w : World) : List V → Hp → VK → Prop := fun xs H Q => ∃ (q : Addr) (ns : List Int), xs = [.ref q] ∧ SqL K H q (ns.map V.int) ∧ ns.length ≤ 50 ∧ ∀ r c, H r = none → c ≤ ns.length → Q (.ref r) (upd H r (SetO w r (fun j => decide (j ∈ ns)) c))
theorem cr_setL (hc : X.calm = true) : CallR X (.type "set") (rSetL X.K X.w) := by
  intro pins s σ H xs us Q I r h
  obtain ⟨q, ns, rfl, hq, hl, k⟩ := h
  obtain rfl := Vals.ref1 r
  obtain ⟨its, rv, pl, hz⟩ := I.list hq
  refine set_of_list ns (I.ok.hd hc) pl.isList (by simpa using ints_of_vals rv) (by unfold scanBound; omega) fun h' tk c R hcn kp => ?_
  exact ⟨.ref _, upd H s.heap.objs.size (SetO X.w s.heap.objs.size (fun j => decide (j ∈ ns)) c), I.laid (t' := tk) kp (Nat.le_refl _) (setO_new R), rfl, k _ _ (I.hok.fresh (Nat.le_refl _)) hcn⟩
theorem intsOf_eq : ∀ {xs : List D} {ns : List Int}, intsOf xs = some ns → xs = ns.map D.int
  | [], ns, h => by cases h; rfl
  | x :: r, ns, h => by
    cases x with
    | int i =>
      unfold intsOf at h
      cases e : intsOf r with
      | none => simp only [e] at h; cases h
      | some m =>
        simp only [e] at h
        cases h
        rw [intsOf_eq e]; rfl
    | _ => cases h
theorem reps_ints {G : Hp} : ∀ {ns : List Int} {vs : List V}, Reps T G (ns.map D.int) vs → vs = ns.map V.int
  | [], vs, h => h.nil_inv
  | n :: ns, vs, h => by
    obtain ⟨v, r, rfl, a, b⟩ := Reps.cons_inv (d := .int n) (ds := ns.map D.int) h
    rw [Rep.int_inv a, reps_ints b]; rfl
theorem dn_sortSet (hT : X.K = T.K) (hc : X.calm = true) (hg : Gl X "sorted") (hm : X.mg "sorted" = none) (hg2 : Gl X "set") (hm2 : X.mg "set" = none) (ha : PE X a (tD T W A))
    (na : starEach [a] X.env = (false, eval a X.env) :: starEach [] X.env := by rfl) (nb : starEach [.Call (.Name "set" p2) [a] [] pos2] X.env = (false, eval (.Call (.Name "set" p2) [a] [] pos2) X.env) :: starEach [] X.env := by rfl) :
    PE X (.Call (.Name "sorted" p) [.Call (.Name "set" p2) [a] [] pos2] [] pos) (tD T W (mSortSet A)) := by
  have h1 := pe_callTy (p := p2) (pos := pos2) (cr_setL hc) hg2 hm2 PyProof.Rows.boot_set (pa_cons ha pa_nil na) (by decide) (by decide) na rfl
  refine PE.imp (pe_callB (cr_sortedSet hc) hg hm (by decide +kernel) (pa_cons h1 pa_nil nb) (by decide) (by decide) nb rfl) fun σ H Q ⟨δ, c, G, ρ, hs, hh, p⟩ => ?_
  refine ⟨δ, c, G, ρ, hs, hh, (Post.bind (rel := SRep T) p).imp ?_⟩
  rintro v H1 ⟨s, c1, G1, ρ1, e1, p1, h1, r1, q1⟩
  unfold sortSet at q1
  cases e2 : deref s c1 with
  | none => simp only [e2] at q1; exact q1.elim
  | some d =>
    cases d with
    | lst xs =>
      simp only [e2] at q1
      cases e3 : intsOf xs with
      | none => simp only [e3] at q1; exact q1.elim
      | some ns =>
        simp only [e3] at q1
        by_cases hl : ns.length ≤ 50
        · rw [if_pos hl] at q1
          obtain ⟨q, vs, rfl, sq, hz, rr⟩ := deref_view h1 r1 e2
          rw [intsOf_eq e3] at rr
          have := reps_ints rr; subst this
          refine ⟨q, ns, rfl, SqL.of sq, hl, fun r n hr hn => ⟨r, _, n, rfl, upd_same, by omega, fun ms t hp hme hlen ht => ?_⟩⟩
          have em : ms = sortU ns := lt_unique hp (lt_sortU ns) fun k => by rw [hme k, mem_sortU, decide_eq_true_eq]
          subst em
          have htr : t ≠ r := by
            intro e; subst e; rw [upd_same] at ht; cases ht
          rw [upd_ne htr] at ht
          have st0 := Step.grow (G := G1) h1.ex (Ex.new (o := SetO X.w r (fun j => decide (j ∈ ns)) n) hr)
          have ht' : upd H1 r (SetO X.w r (fun j => decide (j ∈ ns)) n) t = none := by rw [upd_ne htr]; exact ht
          have st1 := Step.new (G := G1) (o := .lst ((sortU ns).map V.int)) st0.gh ht'
          have st := st0.trans st1
          refine q1 _ _ _ ρ1 st.g (List.prefix_refl _) (h1.step st) (Rep.lst upd_same ?_ (Reps.map_int _))
          rw [List.length_map, sizeLine_eq]
          have := sortU_len ns
          omega
        · rw [if_neg hl] at q1; exact q1.elim
    | _ => simp only [e2] at q1; exact q1.elim
end
end Dn

end
section
/-! Dn13: list(zip(..)) of two lists or two tuples. -/
namespace Dn
open PySem PySem.Spec PyProof.Rows L2
section
variable {prog : Program} {w : World} {A : Around} {E : Value → Shared → Prop} {s : Shared} {z TI TO i1 i2 S : Addr} {fp1 fp2 : List Addr} {n1 n2 i : Nat} {P1 P2 : Nat → Value → Prop} {St1 St2 : Nat → Heap → Prop}
/-- the zip at its i-th turn: no tuple is out, or one that is held; S: the list that is filled -/
def ZSt (z TI TO i1 i2 S : Addr) (St1 St2 : Nat → Heap → Prop) (i : Nat) (h : Heap) : Prop :=
  IsTupOf2 h TI (.ref i1) (.ref i2) ∧ St1 i h ∧ St2 i h ∧ ((IsZip h z TI TO .none ∧ ∃ a b, IsTupOf2 h TO a b) ∨ ∃ T f oT, IsZipHeld h z TI TO T f ∧ h.get? T = some oT ∧ T ≠ z ∧ T ≠ i1 ∧ T ≠ i2 ∧ T ≠ S)
theorem held_item {T : Addr} {f : Bool} {oT : Obj} {Q : Value → Shared → Prop} (Z : ZipSep2 z TI TO i1 i2 fp1 fp2) (D1 : Draws prog w A i1 fp1 n1 P1 St1) (D2 : Draws prog w A i2 fp2 n2 P2 St2)
    (hz : IsZipHeld s.heap z TI TO T f) (hT : s.heap.get? T = some oT) (hTI : IsTupOf2 s.heap TI (.ref i1) (.ref i2)) (st1 : St1 i s.heap) (st2 : St2 i s.heap) (hlt1 : i < n1) (hlt2 : i < n2)
    (hQ : ∀ x1 x2 h' tk, P1 i x1 → P2 i x2 → IsZipHeld h' z TI TO T true → St1 (i + 1) h' → St2 (i + 1) h' → IsTupOf2 h' s.heap.objs.size x1 x2 → h'.objs.size = s.heap.objs.size + 1 →
      (∀ c o, c ≠ z → c ≠ i1 → c ≠ i2 → s.heap.get? c = some o → h'.get? c = some o) → Q (.ref s.heap.objs.size) { s with heap := h', toks := tk }) :
    wpAny (model prog w) A (Builtin.«zip.__next__» ⟨[.ref z], []⟩) (fun fin s' => ∃ v, fin = .done (.ret v) ∧ Q v s') E s := by
  show wpAny _ _ (field (.ref z) 2 >>= _) _ _ _
  refine wpAny_bind (wpAny_field hz rfl (x := .bool false) rfl ?_)
  show wpAny _ _ (field (.ref z) 3 >>= _) _ _ _
  refine wpAny_bind (wpAny_field hz rfl (x := .ref TI) rfl ?_)
  refine wpAny_bind (wpAny_seqItems hTI rfl ?_)
  show wpAny _ _ (Builtin.SmallTypes.ownedTupleIsFree (.ref z) >>= _) _ _ _
  refine wpAny_bind (wpAny_tupleHeld_zip hz hT fun h₁ hz₁ hs₁ => ?_)
  simp only [Bool.false_eq_true, if_false]
  refine wpAny_bind ?_
  rw [← Array.forIn_toList]
  simp only [List.forIn_cons, List.forIn_nil]
  refine wpAny_bind (wpAny_bind (wpAny_holding ?_))
  show wpAny _ _ (Builtin.SmallTypes.nextOf (.ref i1) >>= _) _ _ _
  refine wpAny_bind (D1.item i { s with heap := h₁ } _ _ hlt1 (D1.over st1 hs₁ Z.zf1) fun x1 h₂ tk1 y1 st1₂ hs₂ => wpAny_pure ?_)
  replace hs₂ : Heap.SameBut i1 h₁ h₂ := hs₂
  refine wpAny_pure ?_
  refine wpAny_bind (wpAny_bind (wpAny_holding ?_))
  show wpAny _ _ (Builtin.SmallTypes.nextOf (.ref i2) >>= _) _ _ _
  refine wpAny_bind (D2.item i { s with heap := h₂, toks := tk1 } _ _ hlt2 (D2.over (D2.over st2 hs₁ Z.zf2) hs₂ Z.sep1_2) fun x2 h₃ tk2 y2 st2₃ hs₃ => wpAny_pure ?_)
  replace hs₃ : Heap.SameBut i2 h₂ h₃ := hs₃
  refine wpAny_pure (wpAny_pure ?_)
  show wpAny _ _ (newTuple [x1, x2] >>= _) _ _ _
  refine wpAny_bind (wpAny_newTuple ?_)
  have hsz : h₃.objs.size = s.heap.objs.size := by rw [hs₃.1, hs₂.1, hs₁.1]
  have hz₃ : IsZipHeld h₃ z TI TO T true := hs₃.extBut _ _ Z.zi2 (hs₂.extBut _ _ Z.zi1 hz₁)
  have hk : ∀ c o, c ≠ z → c ≠ i1 → c ≠ i2 → s.heap.get? c = some o → h₃.get? c = some o := fun c o c1 c2 c3 e => hs₃.extBut _ _ c3 (hs₂.extBut _ _ c2 (hs₁.extBut _ _ c1 e))
  have st1₃ : St1 (i + 1) h₃ := D1.over st1₂ hs₃ Z.sep2_1
  refine wpAny_pure ⟨_, rfl, ?_⟩
  show Q (.ref h₃.objs.size) _
  have hp : IsTupOf2 (h₃.push { cls := .type "tuple", data := .seq #[x1, x2] }) h₃.objs.size x1 x2 := Heap.get?_push_size _ rfl
  have hz4 : (h₃.push { cls := .type "tuple", data := .seq #[x1, x2] }).objs.size = h₃.objs.size + 1 := Heap.size_push ..
  rw [hsz] at hp hz4 ⊢
  exact hQ x1 x2 _ tk2 y1 y2 (Heap.get?_push_of_some _ hz₃) (D1.frame _ _ _ st1₃ fun b _ o e => Heap.get?_push_of_some _ e) (D2.frame _ _ _ st2₃ fun b _ o e => Heap.get?_push_of_some _ e) hp hz4 fun c o c1 c2 c3 e => Heap.get?_push_of_some _ (hk c o c1 c2 c3 e)
theorem held_end {T : Addr} {f : Bool} {oT : Obj} {Q : Fin → Shared → Prop} (Z : ZipSep2 z TI TO i1 i2 fp1 fp2) (D1 : Draws prog w A i1 fp1 n1 P1 St1) (D2 : Draws prog w A i2 fp2 n2 P2 St2)
    (hz : IsZipHeld s.heap z TI TO T f) (hT : s.heap.get? T = some oT) (hTI : IsTupOf2 s.heap TI (.ref i1) (.ref i2)) (st1 : St1 i s.heap) (st2 : St2 i s.heap) (hle1 : i ≤ n1) (hle2 : i ≤ n2) (hend : i = n1 ∨ i = n2)
    (hE : ∀ h' tk e, (∀ c o, c ≠ z → c ≠ i1 → c ≠ i2 → s.heap.get? c = some o → h'.get? c = some o) → (∃ o, h'.get? e = some o ∧ o.cls = .type "StopIteration") → E (.ref e) { s with heap := h', toks := tk }) :
    wpAny (model prog w) A (Builtin.«zip.__next__» ⟨[.ref z], []⟩) Q E s := by
  show wpAny _ _ (field (.ref z) 2 >>= _) _ _ _
  refine wpAny_bind (wpAny_field hz rfl (x := .bool false) rfl ?_)
  show wpAny _ _ (field (.ref z) 3 >>= _) _ _ _
  refine wpAny_bind (wpAny_field hz rfl (x := .ref TI) rfl ?_)
  refine wpAny_bind (wpAny_seqItems hTI rfl ?_)
  show wpAny _ _ (Builtin.SmallTypes.ownedTupleIsFree (.ref z) >>= _) _ _ _
  refine wpAny_bind (wpAny_tupleHeld_zip hz hT fun h₁ hz₁ hs₁ => ?_)
  simp only [Bool.false_eq_true, if_false]
  refine wpAny_bind ?_
  rw [← Array.forIn_toList]
  simp only [List.forIn_cons, List.forIn_nil]
  refine wpAny_bind (wpAny_bind (wpAny_holding ?_))
  show wpAny _ _ (Builtin.SmallTypes.nextOf (.ref i1) >>= _) _ _ _
  by_cases h1 : i = n1
  · subst h1
    refine wpAny_bind (D1.done { s with heap := h₁ } _ _ (D1.over st1 hs₁ Z.zf1) fun h₂ e hs₂ he => ?_)
    exact hE h₂ s.toks e (fun c o c1 c2 _ x => hs₂ _ _ c2 (hs₁.extBut _ _ c1 x)) he
  · have h2 : i = n2 := by rcases hend with h | h; exact absurd h h1; exact h
    refine wpAny_bind (D1.item i { s with heap := h₁ } _ _ (by omega) (D1.over st1 hs₁ Z.zf1) fun x1 h₂ tk1 y1 st1₂ hs₂ => wpAny_pure ?_)
    replace hs₂ : Heap.SameBut i1 h₁ h₂ := hs₂
    refine wpAny_pure ?_
    refine wpAny_bind (wpAny_bind (wpAny_holding ?_))
    show wpAny _ _ (Builtin.SmallTypes.nextOf (.ref i2) >>= _) _ _ _
    subst h2
    refine wpAny_bind (D2.done { s with heap := h₂, toks := tk1 } _ _ (D2.over (D2.over st2 hs₁ Z.zf2) hs₂ Z.sep1_2) fun h₃ e hs₃ he => ?_)
    exact hE h₃ tk1 e (fun c o c1 c2 c3 x => hs₃ _ _ c3 (hs₂.extBut _ _ c2 (hs₁.extBut _ _ c1 x))) he
/-- one turn -/
theorem zst_item {Q : Option Value → Shared → Prop} (Z : ZipSep2 z TI TO i1 i2 fp1 fp2) (D1 : Draws prog w A.in1 i1 fp1 n1 P1 St1) (D2 : Draws prog w A.in1 i2 fp2 n2 P2 St2) (hS : S < s.heap.objs.size)
    (st : ZSt z TI TO i1 i2 S St1 St2 i s.heap) (hlt1 : i < n1) (hlt2 : i < n2)
    (hQ : ∀ x1 x2 h' tk, P1 i x1 → P2 i x2 → ZSt z TI TO i1 i2 S St1 St2 (i + 1) h' → IsTupOf2 h' s.heap.objs.size x1 x2 → h'.objs.size = s.heap.objs.size + 1 →
      (∀ c o, c ≠ z → c ≠ TO → c ≠ i1 → c ≠ i2 → s.heap.get? c = some o → h'.get? c = some o) → Q (some (.ref s.heap.objs.size)) { s with heap := h', toks := tk }) :
    wpAny (model prog w) A (pyNext (.ref z)) Q E s := by
  obtain ⟨hTI, st1, st2, hz⟩ := st
  obtain ⟨_, e1⟩ := D1.live _ _ st1
  obtain ⟨_, e2⟩ := D2.live _ _ st2
  have n1' : s.heap.objs.size ≠ i1 := Nat.ne_of_gt (Heap.lt_size e1)
  have n2' : s.heap.objs.size ≠ i2 := Nat.ne_of_gt (Heap.lt_size e2)
  have nS : s.heap.objs.size ≠ S := Nat.ne_of_gt hS
  rcases hz with ⟨hz, a, b, hTO⟩ | ⟨T, f, oT, hz, hT, r1, r2, r3, r4⟩
  · refine wpAny_pyNext_zipD2_item Z D1 D2 hz hTI hTO st1 st2 hlt1 hlt2 fun x1 x2 h' tk y1 y2 a1 a2 a3 a4 a5 a6 hk => ?_
    exact hQ x1 x2 h' tk y1 y2 ⟨hk _ _ Z.TIz Z.TITO Z.TIi1 Z.TIi2 hTI, a3, a4, .inr ⟨s.heap.objs.size, false, _, a1, a5, Nat.ne_of_gt (Heap.lt_size hz), n1', n2', nS⟩⟩ a5 a6 hk
  · have hTy : s.TypeIs (.ref z) "zip" := ⟨_, hz, rfl⟩
    unfold pyNext
    refine wpAny_bind (wpAny_attempt (wpAny_callSpecial?_slot (name := Str.ofString "__next__") hTy F.slot_zip_next
      (wpAny_call_entry F.slot_zip_next hTy F.entry_zip_next
        (held_item Z D1 D2 hz hT hTI st1 st2 hlt1 hlt2 fun x1 x2 h' tk y1 y2 a1 a3 a4 a5 a6 hk => wpAny_pure ?_) (F.args_zip_next_1 _))))
    exact hQ x1 x2 h' tk y1 y2 ⟨hk _ _ Z.TIz Z.TIi1 Z.TIi2 hTI, a3, a4, .inr ⟨T, true, oT, a1, hk _ _ r1 r2 r3 hT, r1, r2, r3, r4⟩⟩ a5 a6 fun c o c1 c2 c3 c4 e => hk c o c1 c3 c4 e
theorem zst_end {Q : Option Value → Shared → Prop} (Z : ZipSep2 z TI TO i1 i2 fp1 fp2) (D1 : Draws prog w A.in1 i1 fp1 n1 P1 St1) (D2 : Draws prog w A.in1 i2 fp2 n2 P2 St2)
    (st : ZSt z TI TO i1 i2 S St1 St2 i s.heap) (hle1 : i ≤ n1) (hle2 : i ≤ n2) (hend : i = n1 ∨ i = n2)
    (hQ : ∀ h' tk, (∀ c o, c ≠ z → c ≠ TO → c ≠ i1 → c ≠ i2 → s.heap.get? c = some o → h'.get? c = some o) → Q none { s with heap := h', toks := tk }) : wpAny (model prog w) A (pyNext (.ref z)) Q E s := by
  obtain ⟨hTI, st1, st2, hz⟩ := st
  rcases hz with ⟨hz, a, b, hTO⟩ | ⟨T, f, oT, hz, hT, r1, r2, r3, r4⟩
  · exact wpAny_pyNext_zipD2_end Z D1 D2 hz hTI hTO st1 st2 hle1 hle2 hend fun h' tk hk => hQ h' tk hk
  · have hTy : s.TypeIs (.ref z) "zip" := ⟨_, hz, rfl⟩
    unfold pyNext
    refine wpAny_bind (wpAny_attempt (wpAny_callSpecial?_slot (name := Str.ofString "__next__") hTy F.slot_zip_next
      (wpAny_call_entry F.slot_zip_next hTy F.entry_zip_next (held_end Z D1 D2 hz hT hTI st1 st2 hle1 hle2 hend fun h' tk e hk he => ?_) (F.args_zip_next_1 _))))
    obtain ⟨o, ho, hc⟩ := he
    refine wpAny_bind (wpAny_isInstance (T := "StopIteration") (b := true) ⟨o, ho, hc⟩ isSubtype_stop ?_)
    exact wpAny_pure (hQ _ _ fun c o c1 c2 c3 c4 e => hk c o c1 c3 c4 e)

/-- what has been put into the list so far: new tuples, from B on -/
def Prs (B : Nat) (P1 P2 : Nat → Value → Prop) (h : Heap) (acc : Array Value) (i : Nat) : Prop :=
  acc.size = i ∧ ∀ j v, acc[j]? = some v → ∃ (T : Addr) (x1 x2 : Value), v = .ref T ∧ B ≤ T ∧ IsTupOf2 h T x1 x2 ∧ P1 j x1 ∧ P2 j x2
theorem Prs.keep {B : Nat} {h h' : Heap} {acc : Array Value} (p : Prs B P1 P2 h acc i) (k : ∀ c o, B ≤ c → h.get? c = some o → h'.get? c = some o) : Prs B P1 P2 h' acc i :=
  ⟨p.1, fun j v e => let ⟨T, x1, x2, a, b, c, d⟩ := p.2 j v e; ⟨T, x1, x2, a, b, k T _ b c, d⟩⟩
theorem Prs.push {B : Nat} {h : Heap} {acc : Array Value} {T : Addr} {x1 x2 : Value} (p : Prs B P1 P2 h acc i) (hB : B ≤ T) (hT : IsTupOf2 h T x1 x2) (h1 : P1 i x1) (h2 : P2 i x2) : Prs B P1 P2 h (acc.push (.ref T)) (i + 1) := by
  refine ⟨by rw [Array.size_push, p.1], fun j v hj => ?_⟩
  rw [Array.getElem?_push] at hj
  split at hj
  · rename_i e
    rw [p.1] at e
    cases hj
    subst e
    exact ⟨T, x1, x2, rfl, hB, hT, h1, h2⟩
  · exact p.2 j v hj
theorem zip_loop {R : Result → Shared → Prop} {B : Nat} (Z : ZipSep2 z TI TO i1 i2 fp1 fp2) (D1 : Draws prog w A.in1.in1 i1 fp1 n1 P1 St1) (D2 : Draws prog w A.in1.in1 i2 fp2 n2 P2 St2) (hn : n1 ≤ sizeLine) (res : Value)
    (bz : z < B) (bT : TO < B) (b1 : i1 < B) (b2 : i2 < B) (bS : S < B) (bI : TI < B) (SI : S ≠ TI) (Sz : S ≠ z) (ST : S ≠ TO) (S1 : S ∉ fp1) (S2 : S ∉ fp2) :
    ∀ (k i : Nat) (s : Shared) (acc : Array Value) (c : Nat), min n1 n2 - i = k → i ≤ min n1 n2 → B ≤ s.heap.objs.size → ZSt z TI TO i1 i2 S St1 St2 i s.heap → s.heap.get? S = some { cls := .type "list", dict := none, data := .seq acc c, slots := #[] } → Prs B P1 P2 s.heap acc i →
    (∀ h' tk acc' c', (∀ b o, b ≠ S → b ≠ z → b ≠ TO → b ≠ i1 → b ≠ i2 → s.heap.get? b = some o → h'.get? b = some o) → h'.get? S = some { cls := .type "list", dict := none, data := .seq acc' c', slots := #[] } → Prs B P1 P2 h' acc' (min n1 n2) → R (.ok (.ret res)) { s with heap := h', toks := tk }) →
    codeAny (model prog w) A (.builtin "list.extend.loop" ⟨[.ref S, .ref z, res], []⟩) R s := by
  have Si1 : S ≠ i1 := fun e => S1 (e ▸ Z.mem1)
  have Si2 : S ≠ i2 := fun e => S2 (e ▸ Z.mem2)
  intro k
  induction k with
  | zero =>
    intro i s acc c hk hi hB st hS hacc hR
    have hin : i = min n1 n2 := by omega
    refine codeAny_builtin F.entry_extend_loop ?_
    rw [Around.under_plainId F.plain_extend_loop _]
    show wpAny _ A.in1 (pyNext (.ref z) >>= _) _ _ s
    refine wpAny_bind (zst_end Z D1 D2 st (by omega) (by omega) (by omega) fun h' tk hk => ?_)
    have hb : ∀ b, B ≤ b → b ≠ z ∧ b ≠ TO ∧ b ≠ i1 ∧ b ≠ i2 := fun b h => ⟨Nat.ne_of_gt (Nat.lt_of_lt_of_le bz h), Nat.ne_of_gt (Nat.lt_of_lt_of_le bT h), Nat.ne_of_gt (Nat.lt_of_lt_of_le b1 h), Nat.ne_of_gt (Nat.lt_of_lt_of_le b2 h)⟩
    refine wpAny_pure (hR h' tk acc c (fun b o _ c1 c2 c3 c4 e => hk b o c1 c2 c3 c4 e) (hk S _ Sz ST Si1 Si2 hS) ?_)
    rw [← hin]
    exact hacc.keep fun b o h e => let ⟨q1, q2, q3, q4⟩ := hb b h; hk b o q1 q2 q3 q4 e
  | succ k ih =>
    intro i s acc c hk hi hB st hS hacc hR
    refine codeAny_builtin F.entry_extend_loop ?_
    rw [Around.under_plainId F.plain_extend_loop _]
    show wpAny _ A.in1 (pyNext (.ref z) >>= _) _ _ s
    refine wpAny_bind (zst_item Z D1 D2 (Heap.lt_size hS) st (by omega) (by omega) fun x1 x2 h' tk y1 y2 st' hT hsz hk' => ?_)
    have hb : ∀ b, B ≤ b → b ≠ z ∧ b ≠ TO ∧ b ≠ i1 ∧ b ≠ i2 := fun b h => ⟨Nat.ne_of_gt (Nat.lt_of_lt_of_le bz h), Nat.ne_of_gt (Nat.lt_of_lt_of_le bT h), Nat.ne_of_gt (Nat.lt_of_lt_of_le b1 h), Nat.ne_of_gt (Nat.lt_of_lt_of_le b2 h)⟩
    have hS' := hk' S _ Sz ST Si1 Si2 hS
    have hacc' : Prs B P1 P2 h' (acc.push (.ref s.heap.objs.size)) (i + 1) := (hacc.keep fun b o h e => let ⟨q1, q2, q3, q4⟩ := hb b h; hk' b o q1 q2 q3 q4 e).push hB hT y1 y2
    have oth : ∀ b o, b ≠ S → h'.get? b = some o → (h'.update S (Obj.mapSeq (·.push (.ref s.heap.objs.size)))).get? b = some o := fun b o hb e => (Heap.get?_update_other _ _ (Ne.symm hb)).trans e
    show wpAny _ A.in1 (updateSeq S (·.push (.ref s.heap.objs.size)) >>= _) _ _ _
    refine wpAny_bind ?_
    refine wpAny_updateSeq hS' rfl (wpAny_pure ⟨plainId_quiet F.plain_extend_loop _, ih (i + 1) _ (acc.push (.ref s.heap.objs.size)) _ (by omega) (by omega) ?_ ?_ (Heap.get?_update_self _ hS' rfl) (hacc'.keep fun b o h e => oth b o (Nat.ne_of_gt (Nat.lt_of_lt_of_le bS h)) e) fun h2 tk2 acc2 c2 k2 hS2 hp2 => ?_⟩)
      (by rw [hacc.1]; omega) (by show (acc.push _).size ≤ sizeLine + 1; rw [Array.size_push, hacc.1]; omega)
    · show B ≤ (h'.update S _).objs.size
      rw [Heap.size_update, hsz]
      exact Nat.le_succ_of_le hB
    · obtain ⟨a1, a2, a3, a4⟩ := st'
      refine ⟨oth _ _ (Ne.symm SI) a1, D1.frame _ _ _ a2 fun b hb o e => oth b o (fun q => S1 (q ▸ hb)) e, D2.frame _ _ _ a3 fun b hb o e => oth b o (fun q => S2 (q ▸ hb)) e, ?_⟩
      rcases a4 with ⟨hz, a, b, hTO⟩ | ⟨T, f, oT, hz, hT, r1, r2, r3, r4⟩
      · exact .inl ⟨oth _ _ (Ne.symm Sz) hz, a, b, oth _ _ (Ne.symm ST) hTO⟩
      · exact .inr ⟨T, f, oT, oth _ _ (Ne.symm Sz) hz, oth _ _ r4 hT, r1, r2, r3, r4⟩
    · exact hR h2 tk2 acc2 c2 (fun b o b1 b2 b3 b4 b5 e => k2 b o b1 b2 b3 b4 b5 (oth b o b1 (hk' b o b2 b3 b4 b5 e))) hS2 hp2
theorem zip_no_len : typeLookup (.type "zip") "__len__" = pure none := by rw [typeLookup_type, builtinLookup_eq_fast]; kernel_rfl
theorem zip_no_hint : typeLookup (.type "zip") "__length_hint__" = pure none := by rw [typeLookup_type, builtinLookup_eq_fast]; kernel_rfl
/-- list(the zip) -/
theorem zip_init {R : Result → Shared → Prop} {B : Nat} {a b : Value} (Z : ZipSep2 z TI TO i1 i2 fp1 fp2) (D1 : Draws prog w A.in1.in1 i1 fp1 n1 P1 St1) (D2 : Draws prog w A.in1.in1 i2 fp2 n2 P2 St2) (hn : n1 ≤ sizeLine)
    (bz : z < B) (bT : TO < B) (b1 : i1 < B) (b2 : i2 < B) (bS : S < B) (bI : TI < B) (SI : S ≠ TI) (Sz : S ≠ z) (ST : S ≠ TO) (S1 : S ∉ fp1) (S2 : S ∉ fp2) (hB : B ≤ s.heap.objs.size)
    (hz : IsZip s.heap z TI TO .none) (hTI : IsTupOf2 s.heap TI (.ref i1) (.ref i2)) (hTO : IsTupOf2 s.heap TO a b) (st1 : St1 0 s.heap) (st2 : St2 0 s.heap) (hS : s.heap.get? S = some { cls := .type "list", data := .seq #[] })
    (hR : ∀ h' tk acc' c', (∀ b o, b ≠ S → b ≠ z → b ≠ TO → b ≠ i1 → b ≠ i2 → s.heap.get? b = some o → h'.get? b = some o) → h'.get? S = some { cls := .type "list", dict := none, data := .seq acc' c', slots := #[] } → Prs B P1 P2 h' acc' (min n1 n2) → R (.ok (.ret .none)) { s with heap := h', toks := tk }) :
    wpAny (model prog w) A.in1 (Builtin.«list.__init__» ⟨[.ref S, .ref z], []⟩)
      (fun fin s' => match fin with | .done f => R (.ok f) s' | .again c' => c'.quiet = true ∧ codeAny (model prog w) A c' R s') (fun e s' => R (.error e) s') s := by
  show wpAny _ _ (do let old ← Builtin.List.listItems (.ref S); Builtin.List.listUpdate (.ref S) (fun _ => #[]); letGo old.toList.reverse; Builtin.List.listExtendWith (.ref S) (.ref z) .none) _ _ s
  refine wpAny_bind ?_
  unfold Builtin.List.listItems
  refine wpAny_bind (wpAny_seqItems hS rfl (wpAny_pure ?_))
  show wpAny _ _ (updateSeq S (fun _ => #[]) >>= fun _ => letGo (#[] : Array Value).toList.reverse >>= fun _ => Builtin.List.listExtendWith (.ref S) (.ref z) .none) _ _ s
  refine wpAny_bind (wpAny_updateSeq hS rfl ?_)
  have hS₂ := Heap.get?_update_self (Obj.mapSeq (fun _ => (#[] : Array Value))) hS rfl
  have oth : ∀ b o, b ≠ S → s.heap.get? b = some o → (s.heap.update S (Obj.mapSeq (fun _ => (#[] : Array Value)))).get? b = some o :=
    fun b o hb e => (Heap.get?_update_other _ _ (Ne.symm hb)).trans e
  refine wpAny_bind (wpAny_letGo ?_)
  have hz₂ := oth z _ (Ne.symm Sz) hz
  have hTy : Shared.TypeIs { s with heap := s.heap.update S (Obj.mapSeq (fun _ => (#[] : Array Value))) } (.ref z) "zip" := ⟨_, hz₂, rfl⟩
  unfold Builtin.List.listExtendWith
  refine wpAny_bind (wpAny_typeOf hTy ?_)
  have h1 : Builtin.List.listSameRef (.ref S) (.ref z) = false := by simp [Builtin.List.listSameRef, Sz]
  have h2 : (Value.type "zip" == Value.type "list") = false := by decide
  have h3 : (Value.type "zip" == Value.type "tuple") = false := by decide
  simp only [h1, h2, h3, Bool.or_false, Bool.false_eq_true, if_false]
  refine wpAny_bind (wpAny_pyIter_zip hz₂ ?_)
  refine wpAny_bind (wpAny_holding ?_)
  unfold Builtin.List.listLengthHint
  refine wpAny_bind (wpAny_specialOf hTy zip_no_len ?_)
  show wpAny _ A.in1 (specialOf (Value.ref z) (Str.ofString "__length_hint__") >>= _) _ _ _
  refine wpAny_bind (wpAny_specialOf hTy zip_no_hint ?_)
  refine wpAny_pure ?_
  show wpAny _ A.in1 (rule "list.extend.makes-room" >>= fun _ => Builtin.List.listTouch (.ref S) >>= fun _ => again (.builtin "list.extend.loop" ⟨[.ref S, .ref z, .none], []⟩)) _ _ _
  refine wpAny_bind (wpAny_rule ?_)
  refine wpAny_bind ?_
  show wpAny _ A.in1 (updateSeq S (·.push .none) >>= fun _ => updateSeq S (·.pop)) _ _ _
  refine wpAny_bind (wpAny_updateSeq hS₂ rfl ?_)
  have hS₃ := Heap.get?_update_self (Obj.mapSeq (·.push Value.none)) hS₂ rfl
  refine wpAny_updateSeq hS₃ rfl ?_
  have hS₄ := Heap.get?_update_self (Obj.mapSeq (·.pop)) hS₃ rfl
  have oth4 : ∀ b o, b ≠ S → s.heap.get? b = some o → (((s.heap.update S (Obj.mapSeq (fun _ => (#[] : Array Value)))).update S (Obj.mapSeq (·.push Value.none))).update S (Obj.mapSeq (·.pop))).get? b = some o :=
    fun b o hb e => (Heap.get?_update_other _ _ (Ne.symm hb)).trans ((Heap.get?_update_other _ _ (Ne.symm hb)).trans (oth b o hb e))
  refine wpAny_pure ⟨plainId_quiet F.plain_extend_loop _, zip_loop Z D1 D2 hn .none bz bT b1 b2 bS bI SI Sz ST S1 S2 _ 0 _ #[] _ rfl (Nat.zero_le _) ?_ ⟨oth4 _ _ (Ne.symm SI) hTI, D1.frame _ _ _ st1 fun b hb o e => oth4 b o (fun q => S1 (q ▸ hb)) e, D2.frame _ _ _ st2 fun b hb o e => oth4 b o (fun q => S2 (q ▸ hb)) e, .inl ⟨oth4 _ _ (Ne.symm Sz) hz, a, b, oth4 _ _ (Ne.symm ST) hTO⟩⟩ hS₄ ⟨rfl, fun j v e => by simp at e⟩ fun h' tk acc' c' k hS' hp => ?_⟩
  · show B ≤ (((s.heap.update S _).update S _).update S _).objs.size
    rw [Heap.size_update, Heap.size_update, Heap.size_update]
    exact hB
  · exact hR h' tk acc' c' (fun b o c1 c2 c3 c4 c5 e => k b o c1 c2 c3 c4 c5 (oth4 b o c1 e)) hS' hp
end

section
variable {X : Cx} {T : Tb} {W : WX} {a b o e : Expr} {es : List Expr} {A B : M} {pos p p2 pos2 apos : Pos}
/-- several new objects tracked at once: all from N on -/
theorem Inv.more {pins : List (Addr × Obj)} {σ : L2.St} {H H' : Hp} {s : Shared} {h' : Heap} {t' : Nat} (I : Inv X pins σ H s) (k : ∀ b u, s.heap.get? b = some u → h'.get? b = some u) (lo : ∀ b, b < s.heap.objs.size → H' b = H b)
    (new : ∀ b u, s.heap.objs.size ≤ b → H' b = some u → ObjOk X.prog X.w H' h' b u) : Inv X pins σ H' { s with heap := h', toks := t' } := by
  have fr : ∀ b u, H b = some u → b < s.heap.objs.size := fun b u e => by
    rcases Nat.lt_or_ge b s.heap.objs.size with z | z
    · exact z
    · rw [I.hok.fresh z] at e; cases e
  have up : ∀ b u, H b = some u → H' b = some u := fun b u e => by rw [lo b (fr b u e)]; exact e
  refine I.un ⟨fun b u q _ _ _ => k b u q, fun b u q _ _ _ => ⟨u.slots, k b u q⟩, fun b u q n _ => by rw [lo b (Heap.lt_size q)]; exact n, fun b u q _ => ⟨u, k b u q⟩, fun b xs q => up b _ q, fun b u xs q => up b _ q, fun b ps q => ⟨#[], by rw [up b _ q]; simp⟩⟩ ?_
  intro b u e
  rcases Nat.lt_or_ge b s.heap.objs.size with z | z
  · rw [lo b z] at e
    exact (I.hok b u e).stay (fun c v _ q => k c v q) (fun c q => up c _ q) fun c xs q => up c _ q
  · exact new b u z e
theorem Step.more {G H H' : Hp} {N : Nat} (e : Ex G H) (fr : ∀ b, N ≤ b → H b = none) (lo : ∀ b, b < N → H' b = H b) : Step G H (fun b => if b < N then G b else H' b) H' := by
  have lt : ∀ b o, H b = some o → b < N := fun b o q => by
    rcases Nat.lt_or_ge b N with z | z
    · exact z
    · rw [fr b z] at q; cases q
  refine ⟨fun b o q => ?_, fun b o q => ?_, fun b o q => ?_, fun b o q n => ?_⟩
  · show (if b < N then G b else H' b) = some o
    rw [if_pos (lt b o (e b o q))]; exact q
  · rw [lo b (lt b o q)]; exact q
  · have q' : (if b < N then G b else H' b) = some o := q
    by_cases z : b < N
    · rw [if_pos z] at q'
      rw [lo b z]; exact e b o q'
    · rw [if_neg z] at q'; exact q'
  · show (if b < N then G b else H' b) = none
    rw [if_pos (lt b o q)]; exact n
/-- list(zip(a, b)): what is wanted behind it -/
def ZipOk (K : PySem.W.Frag) (H : Hp) (x y : V) (Q : VK) : Prop := ∃ q q' vs us, x = .ref q ∧ y = .ref q' ∧ ((SqL K H q vs ∧ SqL K H q' us) ∨ (SqT K H q vs ∧ SqT K H q' us)) ∧
  ∀ (N : Nat) (Sa : Addr) (ts : List Addr) (H' : Hp), (∀ b, N ≤ b → H b = none) → (∀ b, b < N → H' b = H b) → N ≤ Sa → H' Sa = some (.lst (ts.map V.ref)) → ts.length = min vs.length us.length →
    (∀ (j : Nat) (t : Addr), ts[j]? = some t → N ≤ t ∧ ∃ v u, vs[j]? = some v ∧ us[j]? = some u ∧ H' t = some (.tup [v, u])) → Q (.ref Sa) H'
theorem lookup_in {α : Type} : ∀ {l : List (Nat × α)} {b : Nat} {o : α}, (∀ o', (b, o') ∈ l → o' = o) → (b, o) ∈ l → l.lookup b = some o
  | [], _, _, _, h => by cases h
  | (c, o1) :: r, b, o, u, h => by
    by_cases hc : b = c
    · subst hc
      have := u o1 List.mem_cons_self
      subst this
      simp [List.lookup]
    · have hb : (b == c) = false := beq_eq_false_iff_ne.mpr hc
      simp only [List.lookup, hb]
      refine lookup_in (fun o' h' => u o' (List.mem_cons_of_mem _ h')) ?_
      rcases List.mem_cons.mp h with z | z
      · cases z; exact absurd rfl hc
      · exact z
theorem lookup_mem {α : Type} : ∀ {l : List (Nat × α)} {b : Nat} {o : α}, l.lookup b = some o → (b, o) ∈ l
  | [], _, _, h => by cases h
  | (c, o1) :: r, b, o, h => by
    by_cases hc : b = c
    · subst hc
      simp [List.lookup] at h
      subst h
      exact List.mem_cons_self
    · have hb : (b == c) = false := beq_eq_false_iff_ne.mpr hc
      simp only [List.lookup, hb] at h
      exact List.mem_cons_of_mem _ (lookup_mem h)
/-- behind list(zip): the new objects are tracked -/
theorem zip_fin {pins : List (Addr × Obj)} {σ : L2.St} {H : Hp} {s : Shared} {h' : Heap} {tk c B : Nat} {S : Addr} {acc : Array Value} {vs us : List V} {it1 it2 : List Value} {Q : VK} (I : Inv X pins σ H s) (k : ∀ b u, s.heap.get? b = some u → h'.get? b = some u)
    (hS : h'.get? S = some { cls := .type "list", dict := none, data := .seq acc c, slots := #[] }) (nS : s.heap.objs.size ≤ S) (SB : S < B) (r1 : Vals vs it1) (r2 : Vals us it2) (hl : vs.length ≤ sizeLine)
    (hp : Prs B (fun i v => it1.toArray[i]? = some v) (fun i v => it2.toArray[i]? = some v) h' acc (min vs.length us.length))
    (q : ∀ (N : Nat) (Sa : Addr) (ts : List Addr) (H' : Hp), (∀ b, N ≤ b → H b = none) → (∀ b, b < N → H' b = H b) → N ≤ Sa → H' Sa = some (.lst (ts.map V.ref)) → ts.length = min vs.length us.length →
      (∀ (j : Nat) (t : Addr), ts[j]? = some t → N ≤ t ∧ ∃ v u, vs[j]? = some v ∧ us[j]? = some u ∧ H' t = some (.tup [v, u])) → Q (.ref Sa) H') :
    EP X pins σ Q (.ref S) { s with heap := h', toks := tk } := by
  have hm := hp.1
  have hall : ∀ j, j < acc.size → ∃ (t : Addr) (v u : V) (x1 x2 : Value), acc[j]? = some (.ref t) ∧ B ≤ t ∧ vs[j]? = some v ∧ us[j]? = some u ∧ IsTupOf2 h' t x1 x2 ∧ RelV v x1 ∧ RelV u x2 := by
    intro j hj
    obtain ⟨t, x1, x2, e, hB, hT, h1, h2⟩ := hp.2 j acc[j] (Array.getElem?_eq_getElem hj)
    have h1' : it1[j]? = some x1 := by simpa using h1
    have h2' : it2[j]? = some x2 := by simpa using h2
    obtain ⟨y1, e1, rv⟩ := r1.get (List.getElem?_eq_getElem (show j < vs.length by omega))
    obtain ⟨y2, e2, ru⟩ := r2.get (List.getElem?_eq_getElem (show j < us.length by omega))
    rw [h1'] at e1; cases e1
    rw [h2'] at e2; cases e2
    exact ⟨t, _, _, x1, x2, by rw [Array.getElem?_eq_getElem hj, e], hB, List.getElem?_eq_getElem _, List.getElem?_eq_getElem _, hT, rv, ru⟩
  let ad : Value → Addr := fun v => match v with | .ref t => t | _ => 0
  let ts : List Addr := acc.toList.map ad
  let prs : List (Nat × HO) := (List.range acc.size).map fun j => (ts.getD j 0, HO.tup [vs.getD j .non, us.getD j .non])
  have hts : ∀ (j : Nat) (t : Addr), acc[j]? = some (Value.ref t) → ts[j]? = some t := fun j t e => by
    show (acc.toList.map ad)[j]? = some t
    rw [List.getElem?_map, Array.getElem?_toList, e]
    rfl
  have tsl : ts.length = acc.size := by show (acc.toList.map ad).length = _; rw [List.length_map, Array.length_toList]
  have mem : ∀ (b : Nat) (ob : HO), (b, ob) ∈ prs → ∃ (j : Nat) (v u : V) (x1 x2 : Value), j < acc.size ∧ ts[j]? = some b ∧ B ≤ b ∧ ob = .tup [v, u] ∧ vs[j]? = some v ∧ us[j]? = some u ∧ IsTupOf2 h' b x1 x2 ∧ RelV v x1 ∧ RelV u x2 := by
    intro b ob hb
    obtain ⟨j, hj, e⟩ := List.mem_map.mp hb
    have hj := List.mem_range.mp hj
    obtain ⟨t, v, u, x1, x2, a1, a2, a3, a4, a5, a6, a7⟩ := hall j hj
    have z1 : ts.getD j 0 = t := by rw [List.getD_eq_getElem?_getD, hts j t a1]; rfl
    have z2 : vs.getD j .non = v := by rw [List.getD_eq_getElem?_getD, a3]; rfl
    have z3 : us.getD j .non = u := by rw [List.getD_eq_getElem?_getD, a4]; rfl
    rw [z1, z2, z3] at e
    cases e
    exact ⟨j, v, u, x1, x2, hj, hts j _ a1, a2, rfl, a3, a4, a5, a6, a7⟩
  have lk : ∀ (j : Nat) (t : Addr) (v u : V) (x1 x2 : Value), j < acc.size → ts[j]? = some t → vs[j]? = some v → us[j]? = some u → IsTupOf2 h' t x1 x2 → RelV v x1 → RelV u x2 → prs.lookup t = some (.tup [v, u]) := by
    intro j t v u x1 x2 hj a1 a3 a4 a5 a6 a7
    refine lookup_in (fun o' ho' => ?_) (List.mem_map.mpr ⟨j, List.mem_range.mpr hj, ?_⟩)
    · obtain ⟨j', v', u', y1, y2, _, _, _, e, _, _, c5, c6, c7⟩ := mem t o' ho'
      have a5' : h'.get? t = some { cls := .type "tuple", data := .seq #[x1, x2] } := a5
      have c5' : h'.get? t = some { cls := .type "tuple", data := .seq #[y1, y2] } := c5
      rw [a5'] at c5'
      cases c5'
      rw [e, c6.inj a6, c7.inj a7]
    · have z1 : ts.getD j 0 = t := by rw [List.getD_eq_getElem?_getD, a1]; rfl
      have z2 : vs.getD j .non = v := by rw [List.getD_eq_getElem?_getD, a3]; rfl
      have z3 : us.getD j .non = u := by rw [List.getD_eq_getElem?_getD, a4]; rfl
      rw [z1, z2, z3]
  let H' : Hp := fun b => if b < s.heap.objs.size then H b else if b = S then some (.lst (ts.map V.ref)) else prs.lookup b
  have lo : ∀ b, b < s.heap.objs.size → H' b = H b := fun b z => if_pos z
  have hHS : H' S = some (.lst (ts.map V.ref)) := by
    show (if S < s.heap.objs.size then H S else if S = S then _ else _) = _
    rw [if_neg (Nat.not_lt.mpr nS), if_pos rfl]
  have I' : Inv X pins σ H' { s with heap := h', toks := tk } := by
    refine Inv.more I k lo fun b ob hb e => ?_
    have e' : (if b < s.heap.objs.size then H b else if b = S then some (HO.lst (ts.map V.ref)) else prs.lookup b) = some ob := e
    rw [if_neg (Nat.not_lt.mpr hb)] at e'
    by_cases hbS : b = S
    · subst hbS
      rw [if_pos rfl] at e'
      cases e'
      refine ⟨by rw [List.length_map, tsl]; omega, acc.toList, c, ?_, by rw [Array.toArray_toList]; exact hS⟩
      have aux : ∀ l : List Value, (∀ v ∈ l, ∃ t, v = .ref t) → Vals ((l.map ad).map V.ref) l := by
        intro l
        induction l with
        | nil => intro _; exact .nil
        | cons x r ih =>
          intro h
          obtain ⟨t, rfl⟩ := h x List.mem_cons_self
          exact .cons rfl (ih fun v hv => h v (List.mem_cons_of_mem _ hv))
      refine aux _ fun v hv => ?_
      obtain ⟨j, hj⟩ := List.getElem?_of_mem hv
      rw [Array.getElem?_toList] at hj
      obtain ⟨t, _, _, _, _, a1, _⟩ := hall j (Array.getElem?_eq_some_iff.mp hj).1
      rw [hj] at a1
      exact ⟨t, Option.some.inj a1⟩
    · rw [if_neg hbS] at e'
      obtain ⟨j, v, u, x1, x2, _, _, _, rfl, _, _, c5, c6, c7⟩ := mem b ob (lookup_mem e')
      exact ⟨by show 2 ≤ sizeLine; decide, [x1, x2], .cons c6 (.cons c7 .nil), ⟨_, c5, rfl, _, rfl⟩⟩
  refine ⟨.ref S, H', I', rfl, q s.heap.objs.size S ts H' (fun b z => I.hok.fresh z) lo nS hHS (by rw [tsl]; exact hm) fun j t ht => ?_⟩
  have hj : j < acc.size := by rw [← tsl]; exact (List.getElem?_eq_some_iff.mp ht).1
  obtain ⟨t', v, u, x1, x2, a1, a2, a3, a4, a5, a6, a7⟩ := hall j hj
  have := hts j t' a1
  rw [ht] at this
  cases this
  have hN : s.heap.objs.size ≤ t := Nat.le_trans nS (Nat.le_trans (Nat.le_of_lt SB) a2)
  refine ⟨hN, v, u, a3, a4, ?_⟩
  show (if t < s.heap.objs.size then H t else if t = S then _ else _) = _
  rw [if_neg (Nat.not_lt.mpr hN), if_neg (Nat.ne_of_gt (Nat.lt_of_lt_of_le SB a2))]
  exact lk j t v u x1 x2 hj ht a3 a4 a5 a6 a7

/-- list(zip(a, b)), from the two values on -/
theorem call_listZip {pins : List (Addr × Obj)} {σ : L2.St} {H : Hp} {s : Shared} {v1 v2 : Value} {o1 o2 : Obj} {H1 H2 : Heap → Prop} {vs us : List V} {it1 it2 : List Value} {St1 St2 : Addr → Nat → Heap → Prop} {f1 f2 : Addr} {Q : VK} (I : Inv X pins σ H s)
    (B1 : Begins v1 o1 H1) (B2 : Begins v2 o2 H2) (h1 : H1 s.heap) (h2 : H2 s.heap) (l1 : f1 < s.heap.objs.size) (l2 : f2 < s.heap.objs.size)
    (D1 : ∀ A' it, A'.handled = none → f1 ≠ it → Draws X.prog X.w A' it [it, f1] it1.toArray.size (fun i v => it1.toArray[i]? = some v) (St1 it)) (D2 : ∀ A' it, A'.handled = none → f2 ≠ it → Draws X.prog X.w A' it [it, f2] it2.toArray.size (fun i v => it2.toArray[i]? = some v) (St2 it))
    (s1 : ∀ h it, H1 h → h.get? it = some o1 → St1 it 0 h) (s2 : ∀ h it, H2 h → h.get? it = some o2 → St2 it 0 h) (hc : X.calm = true) (r1 : Vals vs it1) (r2 : Vals us it2) (hl : vs.length ≤ sizeLine)
    (q : ∀ (N : Nat) (Sa : Addr) (ts : List Addr) (H' : Hp), (∀ b, N ≤ b → H b = none) → (∀ b, b < N → H' b = H b) → N ≤ Sa → H' Sa = some (.lst (ts.map V.ref)) → ts.length = min vs.length us.length →
      (∀ (j : Nat) (t : Addr), ts[j]? = some t → N ≤ t ∧ ∃ v u, vs[j]? = some v ∧ us[j]? = some u ∧ H' t = some (.tup [v, u])) → Q (.ref Sa) H') :
    wpAny (model X.prog X.w) X.A (call (.type "zip") [v1, v2]) (fun z t => wpAny (model X.prog X.w) X.A (call (.type "list") [z]) (EP X pins σ Q) X.xe t) X.xe s := by
  have hd := I.ok.hd hc
  refine zip_begins2 B1 B2 h1 h2 fun h' hz hTI hTO g1 g2 hsz hk => ?_
  have Z := zip_sep2 (N := s.heap.objs.size) (fp1 := [f1]) (fp2 := [f2]) (fun b hb => by rw [List.mem_singleton.mp hb]; exact l1) (fun b hb => by rw [List.mem_singleton.mp hb]; exact l2)
  refine callType_codes (Q₁ := fun obj t => obj = .ref h'.objs.size ∧ t = { s with heap := h'.push { cls := .type "list", data := .seq #[] } }) F.called_list (F.typeCall_list_1 _) F.entry_list_init (code_list_new _ ⟨rfl, rfl⟩) fun obj t ht => ?_
  obtain ⟨rfl, rfl⟩ := ht
  have up : ∀ b o, h'.get? b = some o → (h'.push { cls := .type "list", data := .seq #[] }).get? b = some o := fun b o e => Heap.get?_push_of_some _ e
  have hS : (h'.push { cls := .type "list", data := .seq #[] }).get? h'.objs.size = some { cls := .type "list", data := .seq #[] } := Heap.get?_push_size _ rfl
  have e1 : vs.length = it1.toArray.size := by rw [List.size_toArray]; exact r1.length
  have e2 : us.length = it2.toArray.size := by rw [List.size_toArray]; exact r2.length
  have n1 : f1 ≠ s.heap.objs.size := Nat.ne_of_lt l1
  have n2 : f2 ≠ s.heap.objs.size + 1 := Nat.ne_of_lt (Nat.lt_succ_of_lt l2)
  have hz5 : h'.objs.size = s.heap.objs.size + 5 := hsz
  have low : ∀ b, b < s.heap.objs.size + 5 → b < h'.objs.size + 1 := fun b hb => by rw [hz5]; exact Nat.lt_succ_of_lt hb
  have ne : ∀ b, b < s.heap.objs.size + 5 → h'.objs.size ≠ b := fun b hb => by rw [hz5]; exact Nat.ne_of_gt hb
  have K1 : H1 h' := B1.keeps _ _ h1 hk
  have K2 : H2 h' := B2.keeps _ _ h2 hk
  refine ⟨⟨_, hS, rfl⟩, F.args_list_init_2 _ _, ?_⟩
  refine zip_init (A := X.A.in1) (B := h'.objs.size + 1) Z (D1 _ _ (by simp [hd]) n1) (D2 _ _ (by simp [hd]) n2) (by rw [← e1]; exact hl) (low _ (by show (s.heap.objs.size + 4 : Nat) < _; omega)) (low _ (by show (s.heap.objs.size + 3 : Nat) < _; omega)) (low _ (by show (s.heap.objs.size : Nat) < _; omega)) (low _ (by show (s.heap.objs.size + 1 : Nat) < _; omega)) (Nat.lt_succ_self _) (low _ (by show (s.heap.objs.size + 2 : Nat) < _; omega))
    (ne _ (by show (s.heap.objs.size + 2 : Nat) < _; omega)) (ne _ (by show (s.heap.objs.size + 4 : Nat) < _; omega)) (ne _ (by show (s.heap.objs.size + 3 : Nat) < _; omega)) ?_ ?_ (by rw [Heap.size_push]; exact Nat.le_refl _) (up _ _ hz) (up _ _ hTI) (up _ _ hTO) (s1 _ _ (B1.keeps _ _ K1 up) (up _ _ g1)) (s2 _ _ (B2.keeps _ _ K2 up) (up _ _ g2)) hS fun h2 tk acc c k hS2 hp => ?_
  · intro hm
    rcases List.mem_cons.mp hm with e | e
    · exact ne _ (by show (s.heap.objs.size : Nat) < _; omega) e
    · exact ne f1 (Nat.lt_of_lt_of_le l1 (Nat.le_add_right _ _)) (List.mem_singleton.mp e)
  · intro hm
    rcases List.mem_cons.mp hm with e | e
    · exact ne _ (by show (s.heap.objs.size + 1 : Nat) < _; omega) e
    · exact ne f2 (Nat.lt_of_lt_of_le l2 (Nat.le_add_right _ _)) (List.mem_singleton.mp e)
  · refine ⟨rfl, zip_fin (s := s) (B := h'.objs.size + 1) I (fun b o e => ?_) hS2 (by rw [hz5]; exact Nat.le_add_right _ _) (Nat.lt_succ_self _) r1 r2 hl (by rw [e1, e2]; exact hp) q⟩
    have hb := Heap.lt_size e
    have hlt : ∀ j, b ≠ s.heap.objs.size + j := fun j => Nat.ne_of_lt (Nat.lt_of_lt_of_le hb (Nat.le_add_right _ _))
    exact k b o (Ne.symm (ne b (Nat.lt_of_lt_of_le hb (Nat.le_add_right _ _)))) (hlt 4) (hlt 3) (hlt 0) (hlt 1) (up _ _ (hk b o e))
theorem dn_listZip {B : MA} (hT : X.K = T.K) (hc : X.calm = true) (hg : Gl X "list") (hm : X.mg "list" = none) (hg2 : Gl X "zip") (hm2 : X.mg "zip" = none) (ha : PA X [a, b] (tDA T W B))
    (na : starEach [.Call (.Name "zip" p2) [a, b] [] pos2] X.env = (false, eval (.Call (.Name "zip" p2) [a, b] [] pos2) X.env) :: starEach [] X.env := by rfl)
    (hs : starEach [a, b] X.env = (false, eval a X.env) :: starEach [b] X.env := by rfl) (hpl : (backTo pos2 (starEach [b] X.env)).any (·.1) = false := by rfl) : PE X (.Call (.Name "list" p) [.Call (.Name "zip" p2) [a, b] [] pos2] [] pos) (tD T W (mListZip B)) := by
  refine ⟨fun pins s σ H Q I ⟨δ, c, G, ρ, hss, hh, pp⟩ => ?_⟩
  refine Call_ (ld_blt I hg hm boot_list (PyProof.Rows.callWith_type1 (args_cons (thn (Q := fun z t => wpAny (model X.prog X.w) X.A (call (.type "list") [z]) (EP X pins σ Q) X.xe t) ?_ fun z t h => args_nil h) na) na))
  refine Call_ (ld_blt I hg2 hm2 PyProof.Rows.boot_zip (PyProof.Rows.callWith_type1 (thn (ha.run pos2 pins s σ H _ I ⟨δ, c, G, ρ, hss, hh, Post.bind (rel := SReps T) pp⟩) fun us' s1 ⟨vs', H1, I1, r1, ss, c1, G1, ρ1, e1, p1, h1, rs, q1⟩ => ?_) hs hpl))
  have fin : ∀ {xs ys : List D} {vs us : List V}, Reps T G1 xs vs → Reps T G1 ys us → xs.length ≤ sizeLine → Post (SRep T) T W σ G1 ρ1 (.ok (.d (.lst (zipL xs ys))) c1) Q →
      ∀ (N : Nat) (Sa : Addr) (ts : List Addr) (H' : Hp), (∀ b, N ≤ b → H1 b = none) → (∀ b, b < N → H' b = H1 b) → N ≤ Sa → H' Sa = some (.lst (ts.map V.ref)) → ts.length = min vs.length us.length →
      (∀ (j : Nat) (t : Addr), ts[j]? = some t → N ≤ t ∧ ∃ v u, vs[j]? = some v ∧ us[j]? = some u ∧ H' t = some (.tup [v, u])) → Q (.ref Sa) H' := by
    intro xs ys vs us rx ry hl q N Sa ts H' fr lo hN hSa hlen hts
    have st := Step.more (N := N) h1.ex fr lo
    have hG : ∀ b o, N ≤ b → H' b = some o → (fun b => if b < N then G1 b else H' b) b = some o := fun b o hb e => by
      show (if b < N then G1 b else H' b) = some o
      rw [if_neg (Nat.not_lt.mpr hb)]; exact e
    refine q _ H' _ ρ1 st.g (List.prefix_refl _) (h1.step st) (Rep.lst (hG Sa _ hN hSa) (by rw [zipL_len]; omega) ?_)
    refine Reps.of_get (by rw [List.length_map, hlen, zipL_len, rx.length, ry.length]) fun j d v hd hv => ?_
    obtain ⟨x, y, hx, hy, rfl⟩ := zipL_inv hd
    rw [List.getElem?_map] at hv
    cases ht : ts[j]? with
    | none => rw [ht] at hv; cases hv
    | some t =>
      rw [ht] at hv
      cases hv
      obtain ⟨ht1, v1, u1, hv1, hu1, hH⟩ := hts j t ht
      obtain ⟨v', e1, rv⟩ := rx.get hx
      obtain ⟨u', e2, ru⟩ := ry.get hy
      rw [hv1] at e1; cases e1
      rw [hu1] at e2; cases e2
      exact Rep.tup (hG t _ ht1 hH) (by show 2 ≤ sizeLine; decide) (Reps.cons (Rep.mono st.g _ _ rv) (Reps.cons (Rep.mono st.g _ _ ru) Reps.nil))
  unfold zipS at q1
  split at q1
  · rename_i xs ys
    obtain ⟨v, u, rfl, r, r'⟩ := rs.two
    obtain ⟨q, vs, rfl, sq, hl, rr⟩ := Rep.lst_inv (show Rep T G1 (.lst xs) v from r)
    obtain ⟨q', us, rfl, sq', hl', rr'⟩ := Rep.lst_inv (show Rep T G1 (.lst ys) u from r')
    cases r1 with
    | cons ra rb =>
      cases rb with
      | cons rb rn =>
        cases rn; cases ra; cases rb
        obtain ⟨it1, rv1, pl1, z1⟩ := I1.list (SqL.of (h1.ex _ _ sq))
        obtain ⟨it2, rv2, pl2, z2⟩ := I1.list (SqL.of (h1.ex _ _ sq'))
        exact call_listZip I1 (begins_list q it1.toArray) (begins_list q' it2.toArray) pl1.isList pl2.isList pl1.lt pl2.lt (St1 := fun it i h => h.IsListIter it q i ∧ h.IsList q it1.toArray) (St2 := fun it i h => h.IsListIter it q' i ∧ h.IsList q' it2.toArray)
          (fun A' it hh hne => Draws.list hh it q hne it1.toArray) (fun A' it hh hne => Draws.list hh it q' hne it2.toArray) (fun h it hH hit => ⟨⟨_, hit, rfl, rfl⟩, hH⟩) (fun h it hH hit => ⟨⟨_, hit, rfl, rfl⟩, hH⟩) hc rv1 rv2 (by rw [rr.length]; exact hl) (fin rr rr' hl q1)
  · rename_i xs ys
    obtain ⟨v, u, rfl, r, r'⟩ := rs.two
    obtain ⟨q, vs, rfl, sq, hl, rr⟩ := Rep.tup_inv (show Rep T G1 (.tup xs) v from r)
    obtain ⟨q', us, rfl, sq', hl', rr'⟩ := Rep.tup_inv (show Rep T G1 (.tup ys) u from r')
    cases r1 with
    | cons ra rb =>
      cases rb with
      | cons rb rn =>
        cases rn; cases ra; cases rb
        obtain ⟨it1, rv1, pl1, z1⟩ := I1.tuple (SqT.of (h1.ex _ _ sq))
        obtain ⟨it2, rv2, pl2, z2⟩ := I1.tuple (SqT.of (h1.ex _ _ sq'))
        have l1 : q < s1.heap.objs.size := by obtain ⟨_, e, _⟩ := pl1; exact Heap.lt_size e
        have l2 : q' < s1.heap.objs.size := by obtain ⟨_, e, _⟩ := pl2; exact Heap.lt_size e
        exact call_listZip I1 (begins_tuple q it1.toArray) (begins_tuple q' it2.toArray) pl1 pl2 l1 l2 (St1 := fun it i h => h.IsTupleIter it q i ∧ h.IsTuple q it1.toArray) (St2 := fun it i h => h.IsTupleIter it q' i ∧ h.IsTuple q' it2.toArray)
          (fun A' it hh hne => Draws.tuple hh it q hne it1.toArray) (fun A' it hh hne => Draws.tuple hh it q' hne it2.toArray) (fun h it hH hit => ⟨⟨_, hit, rfl, rfl⟩, hH⟩) (fun h it hH hit => ⟨⟨_, hit, rfl, rfl⟩, hH⟩) hc rv1 rv2 (by rw [rr.length]; exact hl) (fin rr rr' hl q1)
  · exact q1.elim
end
end Dn

end
section
/-! Dn14: errors that carry a value: their making, several except clauses, with and without a name, their fields. -/
namespace Dn
open PySem PySem.Spec PyProof.Rows L2

/-! ### Base.__init__(self, text), Base an own class over ValueError -/
section
variable {X : Cx} {o e : Expr} {es : List Expr} {ta : TA} {p p1 p2 pos : Pos}
/-- the class at B, by its name, lends ValueError's __init__ -/
structure Lends (K : PySem.W.Frag) (B : Addr) : Prop where
  sp : PySem.W.specialIn K (.ref B) "__getattribute__" = some (some (.builtin "type.__getattribute__"))
  rd : PySem.W.readsIn K B (.type "type") = true
  fc : PySem.W.findCls K (.ref B) (.type "type") "__init__" = some (.val (.builtin "ValueError.__init__"))
theorem pe_lent {x : Str} {B : Addr} {pl : Sem Bool} (hg : Gl X x) (hm : X.mg x = some (.ref B)) (L : Lends X.K B) (ha : PA X (e :: es) ta) (hdb : (x == ("__debug__" : Str)) = false := by decide)
    (hc : eval (.Call (.Attribute (.Name x p1) "__init__" p2) (e :: es) [] pos) X.env = (do
      let ov ← eval (.Name x p1) X.env
      standAt p2.atName
      let (f, first) ← holding [ov] (getMethod ov "__init__" pl)
      callWith pos f first (backTo pos (starEach (e :: es) X.env)) (backToKw pos (keywordEach [] X.env))) := by rfl)
    (he : starEach (e :: es) X.env = (false, eval e X.env) :: starEach es X.env := by rfl) (hpl : (backTo pos (starEach es X.env)).any (·.1) = false := by rfl) :
    PE X (.Call (.Attribute (.Name x p1) "__init__" p2) (e :: es) [] pos) (tVeI X.K ta) := by
  refine ⟨fun pins s σ H Q I h => ?_⟩
  refine PySem.W.methodCall_KW (ld_glob I hg hm ?_ hdb) hc
  refine PySem.W.method_cls I.kIn L.sp (PySem.W.cls_value I.kIn L.rd L.fc (by decide +kernel) ?_)
  show wpAny _ _ (callWith pos (Value.builtin "ValueError.__init__") [] (backTo pos (starEach (e :: es) X.env)) []) _ _ _
  refine PyProof.Rows.callWith_method1 (thn (ha.run pos pins _ σ H _ (I.tok _) h) fun us s1 ⟨vs, H1, I1, r1, a, C, ws, ev, hl, T, ea, q⟩ => ?_) he hpl
  subst ev
  cases r1 with
  | @cons _ u0 _ ur ra rw' =>
    obtain rfl : u0 = Value.ref a := ra
    have hlen : ur.length ≤ sizeLine := by
      rw [← Paired.length rw', sizeLine_eq]
      omega
    exact oinit_ok T I1 ea hlen fun s' J => ⟨.non, H1, J, rfl, q⟩
end
/-- the two statements of such an __init__ -/
def tXI (K : PySem.W.Frag) (f : Str) : TS := fun D σ H => ∃ (a C : Addr) (v : V), σ[0]? = some (some (.ref a)) ∧ σ[1]? = some (some v) ∧ OexC K C ∧ PySem.W.findIn K (.ref C) f = some none ∧ H a = some (exo a C none) ∧
  ∀ dx, H dx = none → dx ≠ a → D.nx σ (upd (upd H dx (exd dx [(f, v)])) a (exo a C (some dx)))
theorem pss_xi {X : Cx} {B : Addr} {y g f t : Str} {j} {p1 p2 p3 p4 p5 p6 p7 p8 p9 p10 : Pos} (hg : Gl X y) (hm : X.mg y = some (.ref B)) (L : Lends X.K B) (h0 : X.N[0]? = some ("self" : Str)) (v0 : Vis X.env.scope "self") (h1 : X.N[1]? = some g) (v1 : Vis X.env.scope g)
    (hdb : (y == ("__debug__" : Str)) = false := by decide) (hd : (g == ("__debug__" : Str)) = false := by decide) (hcd : (g == ("__classdict__" : Str)) = false := by decide)
    (hc : ∀ pl : Sem Bool, pl = pl → ∃ pl : Sem Bool, eval (.Call (.Attribute (.Name y p1) "__init__" p2) [.Name "self" p3, .Constant (.str t) j p4] [] p5) X.env = (do
      let ov ← eval (.Name y p1) X.env
      standAt p2.atName
      let (f, first) ← holding [ov] (getMethod ov "__init__" pl)
      callWith p5 f first (backTo p5 (starEach [.Name "self" p3, .Constant (.str t) j p4] X.env)) (backToKw p5 (keywordEach [] X.env))) := by exact fun _ _ => ⟨_, rfl⟩)
    (he : starEach [.Name "self" p3, .Constant (.str t) j p4] X.env = (false, eval (.Name "self" p3) X.env) :: starEach [.Constant (.str t) j p4] X.env := by rfl)
    (he2 : starEach [.Constant (.str t) j p4] X.env = (false, eval (.Constant (.str t) j p4) X.env) :: starEach [] X.env := by rfl)
    (hpl : (backTo p5 (starEach [.Constant (.str t) j p4] X.env)).any (·.1) = false := by rfl)
    (hs : swapsWith (.Call (.Attribute (.Name y p1) "__init__" p2) [.Name "self" p3, .Constant (.str t) j p4] [] p5) none p6.line X.env = pure false := by rfl)
    (hs2 : swapsWith (.Name g p9) (some (.Attribute (.Name "self" p7) f p8)) p10.line X.env = pure false := by rfl) :
    PSs X [.Expr (.Call (.Attribute (.Name y p1) "__init__" p2) [.Name "self" p3, .Constant (.str t) j p4] [] p5) p6, .Assign [.Attribute (.Name "self" p7) f p8] (.Name g p9) p10] (tXI X.K f) := by
  obtain ⟨pl, hc⟩ := hc (pure true) rfl
  have s0 : ∀ {p}, PE X (.Name "self" p) (tVar 0) := pe_var h0 v0
  have s1 : PE X (.Name g p9) (tVar 1) := pe_var h1 v1 hd hcd
  refine PSs.imp (pss_cons (ps_expr (pe_lent (pl := pl) hg hm L (pa_cons s0 (pa_cons pe_str pa_nil he2) he) hdb hc he hpl) hs) (pss_one (ps_ost s0 s1 hs2))) fun D σ H h => ?_
  obtain ⟨a, C, v, e0, e1, T, hf, ea, q⟩ := h
  refine ⟨.ref a, e0, ?_⟩
  refine ⟨a, C, [.str t], rfl, by simp, T, ea, ?_⟩
  refine ⟨v, e1, .ref a, e0, a, C, rfl, T, hf, .inl ⟨ea, q⟩⟩
/-- what the __init__ of an error class with one field promises -/
def spXI (K : PySem.W.Frag) (f : Str) : Sp := fun vs H Q _ => ∃ (a C : Addr) (v : V), vs = [.ref a, v] ∧ OexC K C ∧ PySem.W.findIn K (.ref C) f = some none ∧ H a = some (exo a C none) ∧
  ∀ dx, H dx = none → dx ≠ a → Q .non (upd (upd H dx (exd dx [(f, v)])) a (exo a C (some dx)))
section
variable {P : Program} {w : World} {K : PySem.W.Frag} {mg : Str → Option Value} {base : Heap} {T : Tb} {k : Nat}
theorem xi_ok {qual : Str} {st : Stmt} {f : Addr} {fd : FuncData} {g fld : Str} (F : Fun K "__init__" qual st f fd) (S : FnScope ["self", g] ["self", g] (defScope st))
    (hb : ∀ (f : Addr) (cdv : Value) (A : Around) (outer : List Env) (s : Shared) (H : Hp) (E : XK), PSs (cxOf (L2.CX P w) P w K mg base ["self", g] qual (defScope st) f cdv A outer s H E) (defBody st) (tXI K fld)) :
    FnOk P w K mg base (L2.CX P w) (k + 1) f fd ["self", g] (spXI K fld) := by
  refine F.okX S ?_ ?_
  · rintro vs H Q E ⟨a, C, v, rfl, _⟩
    rfl
  · rintro cdv A outer s H vs Q E hr ⟨a, C, v, rfl, T, hf, ea, q⟩
    exact ⟨_, hb f cdv A outer s H E, a, C, v, rfl, rfl, T, hf, ea, q⟩
/-- the error class x, number n, with the one field fld -/
def XAt (P : Program) (w : World) (K : PySem.W.Frag) (mg : Str → Option Value) (base : Heap) (T : Tb) (x : Str) (n : Nat) (fld : Str) : Prop :=
  ∃ f fd ps, FnOk P w K mg base (L2.CX P w) 1 f fd ps (spXI K fld) ∧ OexC K (T.cl n) ∧ PySem.W.findIn K (.ref (T.cl n)) "__init__" = some (some (.ref f)) ∧ PySem.W.typeIn K (.ref f) = some (.type "function") ∧ Binds K fd ps [] ∧
    mg x = some (.ref (T.cl n)) ∧ PySem.W.findIn K (.ref (T.cl n)) fld = some none ∧ T.fl n = [fld]
end
section
variable {X : Cx} {T : Tb} {W : WX} {a b o e : Expr} {es : List Expr} {A B : M} {pos p p2 pos2 apos : Pos}
/-- raise X(e) -/
def sRaise1 (n : Nat) (A : M) : MS := fun δ c => (A δ c).andS δ fun s c => match s with
  | .d x => .ex n [x] δ c
  | _ => .bad
theorem ds_raise1 {x fld : Str} {n : Nat} (E : XAt X.prog X.w X.K X.mg X.base T x n fld) (hr : Room 2 X.A) (hc : X.calm = true) (tk : Takes X W) (hg : Gl X x) (ha : PE X e (tD T W A)) (hdb : (x == ("__debug__" : Str)) = false := by decide)
    (he : starEach [e] X.env = (false, eval e X.env) :: starEach [] X.env := by rfl) (hpl : (backTo pos2 (starEach [] X.env)).any (·.1) = false := by rfl) :
    PS X (.Raise (some (.Call (.Name x p) [e] [] pos2)) none pos) (tS T W (sRaise1 n A)) := by
  obtain ⟨f, fd, ps, F, O, iC, tI, hb, hm, hf, hfl⟩ := E
  refine PS.imp (ps_raise hc tk (pmk_oex (k := 1) (dvs := []) O iC tI F hr hb .nil (fun _ _ _ _ _ _ _ h => by
    obtain ⟨_, _, _, _, _, _, _, _, _, _, _, _, z⟩ := h
    exact z.elim) hg hm (pa_cons ha pa_nil he) hdb he hpl)) fun D σ H ⟨δ, c, G, ρ, hs, hh, p⟩ => ?_
  refine ⟨δ, c, G, ρ, hs, hh, (PostS.andS (rel := SRep T) hs p).imp ?_⟩
  rintro v H1 ⟨s, c1, G1, ρ1, e1, p1, h1, r1, q1⟩
  cases s with
  | c _ => exact q1.elim
  | x _ _ => exact q1.elim
  | d y =>
    refine ⟨by simp, fun a ha => ⟨a, T.cl n, v, rfl, O, hf, upd_same, fun dx hdx ne => ⟨rfl, dx, [(fld, v)], upd_same, ?_, ?_, ?_⟩⟩⟩
    · rw [upd_ne ne]; exact upd_same
    · rw [upd_ne ne] at hdx; exact hdx
    · rw [upd_ne ne] at hdx
      have eh : upd (del (upd (upd (upd H1 a (exo a (T.cl n) none)) dx (exd dx [(fld, v)])) a (exo a (T.cl n) (some dx))) a) dx (.xd [(fld, v)]) = upd H1 dx (.xd [(fld, v)]) := by
        funext b
        by_cases hb : b = dx
        · subst hb; rw [upd_same, upd_same]
        · rw [upd_ne hb, upd_ne hb]
          by_cases hb2 : b = a
          · subst hb2; rw [del_same, ha]
          · rw [del_ne hb2, upd_ne hb2, upd_ne hb, upd_ne hb2]
      rw [eh]
      have st : Step G1 H1 (upd G1 dx (.xd [(fld, v)])) (upd H1 dx (.xd [(fld, v)])) := Step.new h1.ex hdx
      exact q1 (some dx) σ _ _ ρ1 st.g (List.prefix_refl _) ((hs.mono e1 p1).mono st.g (List.prefix_refl _)) (h1.step st) (.inr ⟨dx, _, rfl, upd_same, by rw [hfl]; rfl, Reps.cons (Rep.mono st.g _ _ r1) Reps.nil⟩)
end
end Dn

end
section
/-! Dn15: try with any number of clauses, each with or without a name. -/
namespace Dn
open PySem PySem.Spec PyProof.Rows L2

abbrev SuT := Addr → Value → Option Addr → TS
/-- behind a suite with the name at slot i -/
def offE (i : Nat) (D : Ends) : Ends := { nx := fun s h => D.nx (s.set i none) h, rt := D.rt, bk := fun s h => D.bk (s.set i none) h, ct := fun s h => D.ct (s.set i none) h }
/-- what one clause wishes -/
def wCl (D : Ends) (t : SuT) : Option Nat → Value → Option Addr → L2.St → Hp → Prop
  | none, cls, d, σ, H => ∀ a, H a = none → t a cls d D σ H
  | some i, cls, d, σ, H => ∀ a, H a = none → t a cls d (offE i D) (σ.set i (some (.ref a))) H
def wMix (K : PySem.W.Frag) (Wo : WX) (D : Ends) : List (Value × Option Nat × SuT) → WX
  | [] => Wo
  | (c, n, t) :: r => fun cls d σ H => ∃ b, PySem.W.exmOne K cls c = some b ∧ (b = true → wCl D t n cls d σ H) ∧ (b = false → wMix K Wo D r cls d σ H)
/-- a clause's name -/
def NameOk (X : Cx) : Option Str → Option Nat → Prop
  | none, none => True
  | some n, some i => X.N.Nodup ∧ X.N[i]? = some n ∧ X.env.kindOf n = some .local
  | _, _ => False
inductive ClsOk (X : Cx) : List ExceptHandler → List (Value × Option Nat × SuT) → Prop
  | nil : ClsOk X [] []
  | cons {x : Str} {c : Value} {n : Option Str} {i : Option Nat} {t : SuT} {st : Stmt} {sts : List Stmt} {np ps : Pos} {hs : List ExceptHandler} {l : List (Value × Option Nat × SuT)} (hc : Names X x c) (hn : NameOk X n i)
      (hsu : ∀ (a : Addr) (oe : Obj) (cls : Value) (d : Option Addr) (pn : List (Addr × Obj)), Zc cls d oe → (∃ vs, oe.data = .fields vs) → PSs (X.suite a ((a, oe) :: pn)) (st :: sts) (t a cls d)) (r : ClsOk X hs l) :
      ClsOk X (.ExceptHandler (some (.Name x np)) n (st :: sts) ps :: hs) ((c, i, t) :: l)
section
variable {X : Cx} {body : List Stmt} {h0 : ExceptHandler} {hs : List ExceptHandler} {l : List (Value × Option Nat × SuT)} {pos : Pos} {tb : WX → TS} {Wo : WX}
theorem ps_try_mix (hk : X.stack = X.env :: X.outer) (hf : X.env.frame = some X.env.locals) (tk : Takes X Wo)
    (hb : ∀ (W : WX) (pn : List (Addr × Obj)) (xe : Value → Shared → Prop), Takes (X.tr pn xe) W → PassesOwn (model X.prog X.w) X.A X.env xe → PSs (X.tr pn xe) body (tb W)) (hh : ClsOk X (h0 :: hs) l) :
    PS X (.Try body (h0 :: hs) [] [] pos) (fun D σ H => tb (wMix X.K Wo D l) D σ H) := by
  refine ⟨fun pins s σ H D I h => ?_⟩
  have ok := I.ok
  have hfr : X.A.frames = some (X.env :: X.outer) := by rw [ok.frames, hk]
  refine wpAny_Try_except (wpAny_mono ((hb (wMix X.K Wo D l) (X.pn ++ pins) (fun u t1 => wpAny (model X.prog X.w) X.A (noteFrame u X.env) (fun _ t2 => wpAny (model X.prog X.w) X.A (setFlight u none) (fun _ t3 => wpAny (model X.prog X.w) X.A (handleBy u X.env (h0 :: hs)) (SP X pins D) X.xe t3) X.xe t2) X.xe t1)
    (fun u s' xx => ?_) PassesOwn.looking).run [] s σ H D (I.toTry _) h) (fun f s1 hsp => ?_) (fun e s1 he => he))
  · obtain ⟨a, B, sI, pins', σ1, H1, cls, d, rfl, J0, nb, up, sky, na, os, ag, w⟩ := xx
    have J : Inv X pins σ1 H1 sI := J0.ofTry ok
    have sk : Sky B (X.env :: X.outer) a (Zc cls d) X.env.locals s'.heap := by rw [← hk]; exact sky
    show wpAny (model X.prog X.w) X.A (noteFrame (.ref a) X.env) _ _ _
    refine Sky.land Zc.steady hfr hf sk fun h3 fl3 up3 => ?_
    have J3 : Inv X pins σ1 H1 { s' with heap := h3 } := J.landed nb fl3.1 (up.trans up3) os ag
    obtain ⟨o3, v3, he3, hz3, hd3⟩ := fl3.there
    have nfr : a ∉ frs (X.env :: X.outer) := fun hm => by obtain ⟨_, o', e', hnf⟩ := fl3.2.2.1.mem hm; rw [he3] at e'; cases e'; exact hnf _ hd3
    have nL : a ≠ X.env.locals := fun z => nfr (List.mem_filterMap.mpr ⟨X.env, List.mem_cons_self, by rw [hf, z]⟩)
    have nF : a ∉ X.fs := fun hm => by obtain ⟨e, he, q⟩ := List.mem_filterMap.mp hm; exact nfr (List.mem_filterMap.mpr ⟨e, List.mem_cons_of_mem _ he, q⟩)
    have S3 := J3.suite he3 hd3 na nL nF
    have go : ∀ {hs' : List ExceptHandler} {l' : List (Value × Option Nat × SuT)}, ClsOk X hs' l' → wMix X.K Wo D l' cls d σ1 H1 → wpAny (model X.prog X.w) X.A (handleBy (.ref a) X.env hs') (SP X pins D) X.xe { s' with heap := h3 } := by
      intro hs' l' hk'
      induction hk' with
      | nil =>
        intro w
        obtain ⟨k1, k2, k3, oe, vs, T, oT, ts', he, hz, hd, h1, hr⟩ := id fl3
        refine wpAny_handleBy_nil ?_
        unfold PySem.passOn
        refine wpAny_bind (wpAny_field he hd h1 ?_)
        rw [if_neg (show ¬ ((Value.ref T == Value.none) = true) from by simp)]
        have fin : wpAny (model X.prog X.w) X.A (setFlight (.ref a) X.env.frame) (fun _ t4 => wpAny (model X.prog X.w) X.A (throw (.ref a) : Sem Flow) (SP X pins D) X.xe t4) X.xe { s' with heap := h3 } := by
          rw [hf]; exact HandSPX.setFlight_upZ fl3 fun h4 hh4 up4 => wpAny_throw (tk _ _ ⟨a, B, sI, pins, σ1, H1, cls, d, rfl, J, nb, (up.trans up3).trans up4, .inr (.inr (by rw [hk]; exact hh4)), na, os, ag, w⟩)
        first | exact wpAny_bind (wpAny_pure (wpAny_bind fin)) | exact wpAny_bind fin
      | @cons x c n i t st sts np ps hs2 l2 hc hn hsu r ih =>
        intro w
        obtain ⟨b, hb1, hyes, hno⟩ := w
        refine wpAny_handleBy_cons (codeAny_handlers_test ?_) (by intro q; cases q)
        have LT : PySem.W.Looks (model X.prog X.w) h3 (typeOf (.ref a)) cls := fun A Q E s k q => wpAny_typeOf_ref (k _ _ he3) (by rw [hz3.1]; exact q)
        have LM := PySem.W.exm_one (M := model X.prog X.w) (J3.kIn) LT hb1
        have test : ∀ {Q : Value → Shared → Prop} {E : Value → Shared → Prop}, Q c { s' with heap := h3 } → wpAny (model X.prog X.w) (X.A.mark (some (.ref a))) (eval (.Name x np) X.env) Q E { s' with heap := h3 } := fun {Q E} q => by
          rcases hc with ⟨hg, hdbg, hm | ⟨hm, hv, hnn⟩⟩
          · exact ld_glob (X := X.suite a ((a, o3) :: (X.pn ++ pins))) S3 hg hm q hdbg
          · exact ld_blt (X := X.suite a ((a, o3) :: (X.pn ++ pins))) S3 hg hm hv q hnn hdbg
        refine test (LM.here ?_)
        cases b with
        | false =>
          show wpAny _ X.A (handleBy (.ref a) X.env hs2) _ _ _
          exact ih (hno rfl)
        | true =>
          have hy := hyes rfl
          cases n with
          | none =>
            cases i with
            | some _ => exact hn.elim
            | none =>
              refine codeAny_handlers_suite (HandSPX.lands_againZ fl3 fun h4 fl4 up4 => ?_)
              have J4 : Inv X pins σ1 H1 { s' with heap := h4 } := J.landed nb fl4.1 ((up.trans up3).trans up4) os ag
              obtain ⟨o4, v4, he4, hz4, hd4⟩ := fl4.there
              refine wpAny_mono ((hsu a o4 cls d (X.pn ++ pins) hz4 ⟨_, hd4⟩).run [] _ _ H1 _ (J4.suite he4 hd4 na nL nF) (hy a na)) (fun f s6 hsp => ?_) (fun _ _ z => False.elim z)
              cases f with
              | next => obtain ⟨σ6, H6, S6, q6⟩ := hsp; exact ⟨_, _, S6.unsuite ok, q6⟩
              | brk => obtain ⟨σ6, H6, S6, q6⟩ := hsp; exact ⟨_, _, S6.unsuite ok, q6⟩
              | cont => obtain ⟨σ6, H6, S6, q6⟩ := hsp; exact ⟨_, _, S6.unsuite ok, q6⟩
              | ret u => obtain ⟨v6, σ6, H6, S6, r6, q6⟩ := hsp; exact ⟨_, _, _, S6.unsuite ok, r6, q6⟩
          | some n =>
            cases i with
            | none => exact hn.elim
            | some i =>
              obtain ⟨hN, hi, hln⟩ := hn
              refine codeAny_handlers_suite_as (HandSPX.lands_againZ fl3 fun h4 fl4 up4 => ?_)
              have J4 : Inv X pins σ1 H1 { s' with heap := h4 } := J.landed nb fl4.1 ((up.trans up3).trans up4) os ag
              obtain ⟨o4, v4, he4, hz4, hd4⟩ := fl4.there
              refine store_ok (X := X.suite a ((a, o4) :: (X.pn ++ pins))) (v := .ref a) (J4.suite he4 hd4 na nL nF) hN hi (.inl hln) rfl (fun s5 S5 => ?_) (.inr hln)
              refine wpAny_mono ((hsu a o4 cls d (X.pn ++ pins) hz4 ⟨_, hd4⟩).run [] s5 _ H1 _ S5 (hy a na)) (fun f s6 hsp => ?_) (fun _ _ z => False.elim z)
              have end_ : ∀ {σ6 : L2.St} {H6 : Hp} {Q : Shared → Prop}, Inv (X.suite a ((a, o4) :: (X.pn ++ pins))) [] σ6 H6 s6 → (∀ s7, Inv X pins (σ6.set i none) H6 s7 → Q s7) → wpAny (model X.prog X.w) X.A (do bindName X.env n .none; unbindBehindTheSuite X.env n ps) (fun _ s7 => Q s7) X.xe s6 := fun {σ6 H6 Q} S6 hq => gone_ok (S6.unsuite ok) hN hi hln hq
              cases f with
              | next => obtain ⟨σ6, H6, S6, q6⟩ := hsp; exact end_ S6 fun s7 J7 => ⟨_, _, J7, q6⟩
              | brk => obtain ⟨σ6, H6, S6, q6⟩ := hsp; exact end_ S6 fun s7 J7 => ⟨_, _, J7, q6⟩
              | cont => obtain ⟨σ6, H6, S6, q6⟩ := hsp; exact end_ S6 fun s7 J7 => ⟨_, _, J7, q6⟩
              | ret u => obtain ⟨v6, σ6, H6, S6, r6, q6⟩ := hsp; exact end_ S6 fun s7 J7 => ⟨_, _, _, J7, r6, q6⟩
    exact go hh w
  · cases f with
    | next => obtain ⟨σ1, H1, J1, q⟩ := hsp; exact wpAny_execs_nil ⟨σ1, H1, J1.ofTry ok, q⟩
    | brk => obtain ⟨σ1, H1, J1, q⟩ := hsp; exact ⟨σ1, H1, J1.ofTry ok, q⟩
    | cont => obtain ⟨σ1, H1, J1, q⟩ := hsp; exact ⟨σ1, H1, J1.ofTry ok, q⟩
    | ret u => obtain ⟨v, σ1, H1, J1, r, q⟩ := hsp; exact ⟨v, σ1, H1, J1.ofTry ok, r, q⟩
end
end Dn

end
section
/-! Dn16: the readings of try; an error in hand and its fields. -/
namespace Dn
open PySem PySem.Spec PyProof.Rows L2

def Tb.wx (T : Tb) (x : Option (Addr × Option Addr × Nat)) : Tb := { T with x := x }
section
variable {T : Tb} {x : Option (Addr × Option Addr × Nat)} {G H : Hp} {ρ : List Addr} {c : Cs} {σ : L2.St} {δ : Sl} {W : WX}
mutual
theorem Rep.wx : ∀ (d : D) (v : V), Rep T G d v → Rep (T.wx x) G d v
  | .non, v, e => by unfold Rep at *; exact e
  | .bl _, v, e => by unfold Rep at *; exact e
  | .int _, v, e => by unfold Rep at *; exact e
  | .str _, v, e => by unfold Rep at *; exact e
  | .scr ns, v, e => by unfold Rep at *; exact e
  | .lst xs, v, e => by unfold Rep at *; obtain ⟨p, vs, a, b, l, q⟩ := e; exact ⟨p, vs, a, b, l, Reps.wx xs vs q⟩
  | .tup xs, v, e => by unfold Rep at *; obtain ⟨p, vs, a, b, l, q⟩ := e; exact ⟨p, vs, a, b, l, Reps.wx xs vs q⟩
  | .obj _ xs, v, e => by unfold Rep at *; obtain ⟨p, dx, fv, a, b, l, q⟩ := e; exact ⟨p, dx, fv, a, b, l, Reps.wx xs _ q⟩
  | .dct _ xs, v, e => by unfold Rep at *; obtain ⟨p, kv, a, b, l, q⟩ := e; exact ⟨p, kv, a, b, l, Reps.wx xs _ q⟩
theorem Reps.wx : ∀ (d : List D) (v : List V), Reps T G d v → Reps (T.wx x) G d v
  | [], v, e => by unfold Reps at *; exact e
  | d :: ds, v, e => by unfold Reps at *; obtain ⟨y, r, a, b, q⟩ := e; exact ⟨y, r, a, Rep.wx d y b, Reps.wx ds r q⟩
end
mutual
theorem Rep.xw : ∀ (d : D) (v : V), Rep (T.wx x) G d v → Rep T G d v
  | .non, v, e => by unfold Rep at *; exact e
  | .bl _, v, e => by unfold Rep at *; exact e
  | .int _, v, e => by unfold Rep at *; exact e
  | .str _, v, e => by unfold Rep at *; exact e
  | .scr ns, v, e => by unfold Rep at *; exact e
  | .lst xs, v, e => by unfold Rep at *; obtain ⟨p, vs, a, b, l, q⟩ := e; exact ⟨p, vs, a, b, l, Reps.xw xs vs q⟩
  | .tup xs, v, e => by unfold Rep at *; obtain ⟨p, vs, a, b, l, q⟩ := e; exact ⟨p, vs, a, b, l, Reps.xw xs vs q⟩
  | .obj _ xs, v, e => by unfold Rep at *; obtain ⟨p, dx, fv, a, b, l, q⟩ := e; exact ⟨p, dx, fv, a, b, l, Reps.xw xs _ q⟩
  | .dct _ xs, v, e => by unfold Rep at *; obtain ⟨p, kv, a, b, l, q⟩ := e; exact ⟨p, kv, a, b, l, Reps.xw xs _ q⟩
theorem Reps.xw : ∀ (d : List D) (v : List V), Reps (T.wx x) G d v → Reps T G d v
  | [], v, e => by unfold Reps at *; exact e
  | d :: ds, v, e => by unfold Reps at *; obtain ⟨y, r, a, b, q⟩ := e; exact ⟨y, r, a, Rep.xw d y b, Reps.xw ds r q⟩
end
theorem CRep.wx : ∀ {s : S} {v : V}, CRep T G ρ s v → CRep (T.wx x) G ρ s v
  | .d _, _, e => Rep.wx _ _ e
  | .c _, _, e => e
theorem CRep.xw : ∀ {s : S} {v : V}, CRep (T.wx x) G ρ s v → CRep T G ρ s v
  | .d _, _, e => Rep.xw _ _ e
  | .c _, _, e => e
theorem CReps.wx {ss : List S} {vs : List V} (r : CReps T G ρ ss vs) : CReps (T.wx x) G ρ ss vs := by
  induction r with
  | nil => exact .nil
  | cons a _ ih => exact .cons a.wx ih
theorem CReps.xw {ss : List S} {vs : List V} (r : CReps (T.wx x) G ρ ss vs) : CReps T G ρ ss vs := by
  induction r with
  | nil => exact .nil
  | cons a _ ih => exact .cons a.xw ih
theorem CellOk.wx {p : Addr} : ∀ {y : CC}, CellOk T G H ρ p y → CellOk (T.wx x) G H ρ p y
  | .lst xs, ⟨vs, a, b, r⟩ => ⟨vs, a, b, Reps.wx _ _ r⟩
  | .dct kvs, ⟨kv, a, b, k, r⟩ => ⟨kv, a, b, k, Reps.wx _ _ r⟩
  | .obj c xs, ⟨dx, fv, a, b, r⟩ => ⟨dx, fv, a, b, Reps.wx _ _ r⟩
  | .lS xs, ⟨vs, a, b, r⟩ => ⟨vs, a, b, r.wx⟩
  | .tS xs, ⟨vs, a, b, r⟩ => ⟨vs, a, b, r.wx⟩
theorem CellOk.xw {p : Addr} : ∀ {y : CC}, CellOk (T.wx x) G H ρ p y → CellOk T G H ρ p y
  | .lst xs, ⟨vs, a, b, r⟩ => ⟨vs, a, b, Reps.xw _ _ r⟩
  | .dct kvs, ⟨kv, a, b, k, r⟩ => ⟨kv, a, b, k, Reps.xw _ _ r⟩
  | .obj c xs, ⟨dx, fv, a, b, r⟩ => ⟨dx, fv, a, b, Reps.xw _ _ r⟩
  | .lS xs, ⟨vs, a, b, r⟩ => ⟨vs, a, b, r.xw⟩
  | .tS xs, ⟨vs, a, b, r⟩ => ⟨vs, a, b, r.xw⟩
theorem RelH.wx (r : RelH T H c G ρ) : RelH (T.wx x) H c G ρ := ⟨r.ex, r.len, r.nd, fun i p y a b => let ⟨g, k⟩ := r.at_ i p y a b; ⟨g, k.wx⟩⟩
theorem RelH.xw (r : RelH (T.wx x) H c G ρ) : RelH T H c G ρ := ⟨r.ex, r.len, r.nd, fun i p y a b => let ⟨g, k⟩ := r.at_ i p y a b; ⟨g, k.xw⟩⟩
theorem XRep.wx {k : Nat} {xs : List D} {d : Option Addr} (r : XRep T G k xs d) : XRep (T.wx x) G k xs d := by
  rcases r with r | ⟨dx, fv, a, b, e, r⟩
  · exact .inl r
  · exact .inr ⟨dx, fv, a, b, e, Reps.wx _ _ r⟩
theorem XRep.xw {k : Nat} {xs : List D} {d : Option Addr} (r : XRep (T.wx x) G k xs d) : XRep T G k xs d := by
  rcases r with r | ⟨dx, fv, a, b, e, r⟩
  · exact .inl r
  · exact .inr ⟨dx, fv, a, b, e, Reps.xw _ _ r⟩
theorem SRep.xw (hx : T.x = none) : ∀ {s : S} {v : V}, SRep (T.wx x) G ρ s v → SRep T G ρ s v
  | .d _, _, e => Rep.xw _ _ e
  | .c _, _, e => e
  | .x _ _, _, _ => fun a d k z => by rw [hx] at z; cases z
theorem SReps.xw (hx : T.x = none) {ss : List S} {vs : List V} (r : SReps (T.wx x) G ρ ss vs) : SReps T G ρ ss vs := by
  induction r with
  | nil => exact .nil
  | cons a _ ih => exact .cons (a.xw hx) ih
/-- no error is in the slots -/
def clrX : Sl → Sl
  | [] => []
  | some (.x _ _) :: r => none :: clrX r
  | o :: r => o :: clrX r
theorem clrX_len : ∀ δ : Sl, (clrX δ).length = δ.length
  | [] => rfl
  | o :: r => by
    cases o with
    | none => simp [clrX, clrX_len r]
    | some s => cases s <;> simp [clrX, clrX_len r]
theorem clrX_get : ∀ {δ : Sl} {i : Nat} {s : S}, (clrX δ)[i]? = some (some s) → δ[i]? = some (some s) ∧ ∀ k xs, s ≠ .x k xs
  | [], _, _, e => by simp [clrX] at e
  | o :: r, 0, s, e => by
    cases o with
    | none => simp [clrX] at e
    | some t => cases t <;> simp [clrX] at e <;> subst e <;> exact ⟨rfl, fun _ _ z => by cases z⟩
  | o :: r, i + 1, s, e => by
    cases o with
    | none => simpa [clrX] using clrX_get (δ := r) (i := i) (by simpa [clrX] using e)
    | some t => cases t <;> simpa [clrX] using clrX_get (δ := r) (i := i) (by simpa [clrX] using e)
theorem RelS.wx (r : RelS T G ρ σ δ) : RelS (T.wx x) G ρ σ (clrX δ) := by
  refine ⟨by rw [clrX_len]; exact r.len, fun i s e => ?_⟩
  obtain ⟨e1, ne⟩ := clrX_get e
  obtain ⟨v, hv, rv⟩ := r.at_ i s e1
  refine ⟨v, hv, ?_⟩
  cases s with
  | d _ => exact Rep.wx _ _ rv
  | c _ => exact rv
  | x k xs => exact absurd rfl (ne k xs)
theorem RelS.xw (hx : T.x = none) (r : RelS (T.wx x) G ρ σ δ) : RelS T G ρ σ δ :=
  ⟨r.len, fun i s e => let ⟨v, a, b⟩ := r.at_ i s e; ⟨v, a, b.xw hx⟩⟩
theorem PostS.xw (hx : T.x = none) {r : RS} {E : Ends} (h : PostS T W0 G ρ r E) : PostS (T.wx x) W0 G ρ r E := by
  cases r with
  | nx δ c => exact fun σ' H' G' ρ' e p s q => h σ' H' G' ρ' e p (s.xw hx) q.xw
  | bk δ c => exact fun σ' H' G' ρ' e p s q => h σ' H' G' ρ' e p (s.xw hx) q.xw
  | ct δ c => exact fun σ' H' G' ρ' e p s q => h σ' H' G' ρ' e p (s.xw hx) q.xw
  | rt s c => exact fun v H' G' ρ' e p s q => h v H' G' ρ' e p (s.xw hx) q.xw
  | ex k xs δ c => exact fun d σ' H' G' ρ' e p s q z => h d σ' H' G' ρ' e p (s.xw hx) q.xw z.xw
  | bad => exact h
end
/-- a clause: what it catches, what it lets by, its name's slot, its suite -/
structure Hd where
  yes : List Nat
  no : List Nat
  as_ : Option Nat
  su : MS
def offS (i : Nat) : RS → RS
  | .nx δ c => .nx (δ.set i none) c
  | .bk δ c => .bk (δ.set i none) c
  | .ct δ c => .ct (δ.set i none) c
  | r => r
def suH (h : Hd) (k : Nat) (xs : List D) (δ : Sl) (c : Cs) : RS := match h.as_ with
  | none => noEx (h.su δ c)
  | some i => offS i (noEx (h.su ((clrX δ).set i (some (.x k xs))) c))
def runH : List Hd → Nat → List D → Sl → Cs → RS
  | [], k, xs, δ, c => .ex k xs δ c
  | h :: r, k, xs, δ, c => if k ∈ h.yes then suH h k xs δ c else if k ∈ h.no then runH r k xs δ c else .bad
def sTryM (hs : List Hd) (m : MS) : MS := fun δ c => match m δ c with
  | .ex k xs δ c => runH hs k xs δ c
  | r => r
section
variable {X : Cx} {T : Tb} {W : WX} {a b o e : Expr} {es : List Expr} {A B : M} {pos p p2 pos2 apos : Pos} {m ms : MS}
/-- a suite's reading: with an error of class k in hand -/
def tSu (T : Tb) (as_ : Option Nat) (ms : MS) : SuT := fun a cls d D σ H => match as_ with
  | none => tS T W0 ms D σ H
  | some _ => ∃ k, cls = .ref (T.cl k) ∧ tS (T.wx (some (a, d, k))) W0 ms D σ H
inductive HdsOkD (X : Cx) (T : Tb) : List ExceptHandler → List Hd → List (Value × Option Nat × SuT) → Prop
  | nil : HdsOkD X T [] [] []
  | cons {x : Str} {u : Value} {n : Option Str} {i : Option Nat} {yes no : List Nat} {ms : MS} {st : Stmt} {sts : List Stmt} {np ps : Pos} {hs : List ExceptHandler} {hds : List Hd} {l : List (Value × Option Nat × SuT)} (hc : Names X x u) (hn : NameOk X n i)
      (hy : Catches X.K T u true yes) (hno : Catches X.K T u false no)
      (hsu : ∀ (a : Addr) (oe : Obj) (cls : Value) (d : Option Addr) (pn : List (Addr × Obj)), Zc cls d oe → (∃ vs, oe.data = .fields vs) → PSs (X.suite a ((a, oe) :: pn)) (st :: sts) (tSu T i ms a cls d)) (r : HdsOkD X T hs hds l) :
      HdsOkD X T (.ExceptHandler (some (.Name x np)) n (st :: sts) ps :: hs) (⟨yes, no, i, ms⟩ :: hds) ((u, i, tSu T i ms) :: l)
theorem HdsOkD.cls {hs : List ExceptHandler} {hds : List Hd} {l : List (Value × Option Nat × SuT)} (h : HdsOkD X T hs hds l) : ClsOk X hs l := by
  induction h with
  | nil => exact .nil
  | cons hc hn _ _ hsu _ ih => exact .cons hc hn hsu ih
theorem offS_ok {i : Nat} {r : RS} {G : Hp} {ρ : List Addr} {D : Ends} (h : PostS T W0 G ρ (offS i r) D) : PostS T W0 G ρ r (offE i D) := by
  cases r with
  | nx δ c => exact fun σ' H' G' ρ' e p s q => h _ H' G' ρ' e p (s.unset i none) q
  | bk δ c => exact fun σ' H' G' ρ' e p s q => h _ H' G' ρ' e p (s.unset i none) q
  | ct δ c => exact fun σ' H' G' ρ' e p s q => h _ H' G' ρ' e p (s.unset i none) q
  | rt s c => exact h
  | ex k xs δ c => exact h
  | bad => exact h
theorem noEx_off {i : Nat} {r : RS} : noEx (offS i (noEx r)) = offS i (noEx r) := by cases r <;> rfl
theorem runH_ok (hx : T.x = none) {hs : List ExceptHandler} {hds : List Hd} {l : List (Value × Option Nat × SuT)} (h : HdsOkD X T hs hds l) {k : Nat} {xs : List D} {δ : Sl} {c : Cs} {D : Ends} :
    ∀ {d : Option Addr} {σ : L2.St} {H G : Hp} {ρ : List Addr}, RelS T G ρ σ δ → RelH T H c G ρ → XRep T G k xs d → PostS T W G ρ (runH hds k xs δ c) D → wMix X.K W D l (.ref (T.cl k)) d σ H := by
  induction h with
  | nil =>
    intro d σ H G ρ rs rh xr q
    exact q d σ H G ρ (.refl _) (List.prefix_refl _) rs rh xr
  | @cons x u n i yes no ms st sts np ps hs hds l hc hn hy hno hsu r ih =>
    intro d σ H G ρ rs rh xr q
    unfold runH at q
    by_cases hk : k ∈ yes
    · rw [if_pos hk] at q
      refine ⟨true, hy.get hk, fun _ => ?_, fun z => by cases z⟩
      cases i with
      | none => exact fun a na => ⟨δ, c, G, ρ, rs, rh, PostS.noEx q⟩
      | some i =>
        intro a na
        refine ⟨k, rfl, (clrX δ).set i (some (.x k xs)), c, G, ρ, ?_, rh.wx, ?_⟩
        · exact (rs.wx (x := some (a, d, k))).set i (s := .x k xs) (v := .ref a) (fun a' d' k' z => by
            cases z
            exact ⟨rfl, rfl, xr.wx⟩)
        · have q : PostS T W G ρ (offS i (noEx (ms ((clrX δ).set i (some (.x k xs))) c))) D := q
          rw [← noEx_off] at q
          have q1 := offS_ok (PostS.noEx q)
          have q2 : PostS T W0 G ρ (ms ((clrX δ).set i (some (.x k xs))) c) (offE i D) := by
            cases hm : ms ((clrX δ).set i (some (.x k xs))) c with
            | ex _ _ _ _ => rw [hm] at q1; exact q1.elim
            | _ => rw [hm] at q1; exact q1
          exact q2.xw hx
    · rw [if_neg hk] at q
      by_cases hk2 : k ∈ no
      · rw [if_pos hk2] at q
        exact ⟨false, hno.get hk2, (fun z => by cases z), fun _ => ih rs rh xr q⟩
      · rw [if_neg hk2] at q; exact q.elim
theorem ds_tryM {h0 : ExceptHandler} {hs : List ExceptHandler} {hds : List Hd} {l : List (Value × Option Nat × SuT)} {body : List Stmt} (hx : T.x = none) (hk : X.stack = X.env :: X.outer) (hf : X.env.frame = some X.env.locals) (tk : Takes X W)
    (hb : ∀ (W : WX) (pn : List (Addr × Obj)) (xe : Value → Shared → Prop), Takes (X.tr pn xe) W → PassesOwn (model X.prog X.w) X.A X.env xe → PSs (X.tr pn xe) body (tS T W m)) (h : HdsOkD X T (h0 :: hs) hds l) :
    PS X (.Try body (h0 :: hs) [] [] pos) (tS T W (sTryM hds m)) := by
  refine PS.imp (ps_try_mix (tb := fun W => tS T W m) hk hf tk hb h.cls) fun E σ H ⟨δ, c, G, ρ, hs, hh, p⟩ => ?_
  refine ⟨δ, c, G, ρ, hs, hh, ?_⟩
  unfold sTryM at p
  cases e : m δ c with
  | nx δ1 c1 => rw [e] at p; exact p
  | bk δ1 c1 => rw [e] at p; exact p
  | ct δ1 c1 => rw [e] at p; exact p
  | rt s1 c1 => rw [e] at p; exact p
  | bad => rw [e] at p; exact p
  | ex k xs δ1 c1 =>
    rw [e] at p
    intro d σ' H' G' ρ' eg pr rs rh xr
    exact runH_ok hx h rs rh xr (PostS.mono (r := runH hds k xs δ1 c1) p eg pr)
/-- a suite without a name, with one -/
theorem su_none {a : Addr} {oe : Obj} {cls : Value} {d : Option Addr} {pn : List (Addr × Obj)} {sts : List Stmt} (h : PSs (X.suite a ((a, oe) :: pn)) sts (tS T W0 ms)) : PSs (X.suite a ((a, oe) :: pn)) sts (tSu T none ms a cls d) := h
theorem su_some {i : Nat} {a : Addr} {oe : Obj} {cls : Value} {d : Option Addr} {pn : List (Addr × Obj)} {sts : List Stmt} (h : ∀ k, cls = .ref (T.cl k) → PSs (X.suite a ((a, oe) :: pn)) sts (tS (T.wx (some (a, d, k))) W0 ms)) :
    PSs (X.suite a ((a, oe) :: pn)) sts (tSu T (some i) ms a cls d) := ⟨fun pins s σ H D I ⟨k, hk, q⟩ => (h k hk).run pins s σ H D I q⟩
/-- e.f, e the error in hand -/
def XFldAt (K : PySem.W.Frag) (T : Tb) (f : Str) (n j : Nat) : Prop := XfC K (T.cl n) ∧ PySem.W.findIn K (.ref (T.cl n)) f = some none ∧ (T.fl n)[j]? = some f ∧ (T.fl n).Nodup
inductive XFldsAt (K : PySem.W.Frag) (T : Tb) (f : Str) : List (Nat × Nat) → Prop
  | nil : XFldsAt K T f []
  | cons {n j : Nat} {l : List (Nat × Nat)} : XFldAt K T f n j → XFldsAt K T f l → XFldsAt K T f ((n, j) :: l)
theorem XFldsAt.get {K : PySem.W.Frag} {f : Str} {l : List (Nat × Nat)} (h : XFldsAt K T f l) {c i : Nat} (hm : (c, i) ∈ l) : XFldAt K T f c i := by
  induction h with
  | nil => cases hm
  | cons a _ ih =>
    cases hm with
    | head => exact a
    | tail _ hm => exact ih hm
def mXf (tbl : List (Nat × Nat)) (i : Nat) : M := fun δ c => match δ[i]? with
  | some (some (.x k xs)) => match look tbl k with
    | some j => match xs[j]? with
      | some x => .ok (.d x) c
      | none => .bad
    | none => .bad
  | _ => .bad
theorem dn_xf {a : Addr} {oe : Obj} {cls : Value} {d : Option Addr} {pn : List (Addr × Obj)} {k i : Nat} {n f : Str} {tbl : List (Nat × Nat)} (hk : cls = .ref (T.cl k)) (hz : Zc cls d oe) (hf : ∃ vs, oe.data = .fields vs) (ht : XFldsAt X.K T f tbl)
    (hN : X.N[i]? = some n) (hv : Vis X.env.scope n) (hd : (n == ("__debug__" : Str)) = false := by decide) (hcd : (n == ("__classdict__" : Str)) = false := by decide)
    (hb : attributeBase (.Name n p) f X.env (eval (.Name n p) X.env) = eval (.Name n p) X.env := by rfl) :
    PE (X.suite a ((a, oe) :: pn)) (.Attribute (.Name n p) f pos) (tD (T.wx (some (a, d, k))) W0 (mXf tbl i)) := by
  have pv : PE (X.suite a ((a, oe) :: pn)) (.Name n p) (tVar i) := pe_var (X := X.suite a ((a, oe) :: pn)) hN hv hd hcd
  refine ⟨fun pins s σ H Q I ⟨δ, c, G, ρ, hs, hh, p⟩ => ?_⟩
  unfold mXf at p
  cases e1 : δ[i]? with
  | none => simp only [e1] at p; exact p.elim
  | some o1 =>
    cases o1 with
    | none => simp only [e1] at p; exact p.elim
    | some s1 =>
      cases s1 with
      | d _ => simp only [e1] at p; exact p.elim
      | c _ => simp only [e1] at p; exact p.elim
      | x k2 xs =>
        simp only [e1] at p
        obtain ⟨v, hv1, rv⟩ := hs.at_ i _ e1
        obtain ⟨rfl, rfl, xr⟩ := rv a d k rfl
        cases e2 : look tbl k with
        | none => simp only [e2] at p; exact p.elim
        | some j =>
          simp only [e2] at p
          cases e3 : xs[j]? with
          | none => simp only [e3] at p; exact p.elim
          | some x =>
            simp only [e3] at p
            obtain ⟨hxf, hno, hj, hnd⟩ := ht.get (look_mem e2)
            rcases xr with ⟨hxs, _⟩ | ⟨dx, fv, hdx, hg, hfl, rr⟩
            · subst hxs; cases e3
            · obtain ⟨w, hw, rw'⟩ := rr.get e3
              have hlk : fv.lookup f = some w := lookup_at (by rw [hfl]; exact hnd) (by rw [hfl]; exact hj) hw
              refine (pe_xf hxf hno hz hf pv hb).run pins s σ H Q I ⟨.ref a, hv1, rfl, hk, dx, fv, w, hdx, hh.ex _ _ hg, hlk, ?_⟩
              exact p w H G ρ (.refl _) (List.prefix_refl _) hh rw'
end
end Dn

end
section
set_option maxHeartbeats 4000000
/-! Dn17: tuples compared, lists searched, where the items' == may be a def's. -/
namespace Dn
open PySem PySem.Spec PyProof.Rows L2
open PySem.SeqAt
open AutoSeq1 (wpAny_loadPart')
open MeetsSeq MeetsSeq2 MeetsSeq3 SeqRoads2
section
variable {prog : Program} {w : World} {A : Around} {R : Result → Shared → Prop} {E : Value → Shared → Prop}
/-- what the i-th two of two tuples are found to be -/
def TPairs (prog : Program) (w : World) (A : Around) (E : Value → Shared → Prop) (x y : Array Value) (I : Nat → Shared → Prop) (Z : Shared → Prop) : Prop :=
  ∀ (i : Nat) (s : Shared), I i s → ∀ (h1 : i < x.size) (h2 : i < y.size), wpAny (model prog w) A.in1 (eqBool x[i] y[i]) (fun r t => (r = true ∧ I (i + 1) t) ∨ (r = false ∧ Z t)) E s
theorem tup_tree {l b : Addr} {x y : Array Value} {n m : Nat} {dl db : Option Addr} {sl sb : Array (Option Value)} {I : Nat → Shared → Prop} {Z : Shared → Prop} {s : Shared}
    (hx : s.heap.get? l = some { cls := .type "tuple", dict := dl, data := .seq x n, slots := sl }) (hy : s.heap.get? b = some { cls := .type "tuple", dict := db, data := .seq y m, slots := sb }) (hs : x.size = y.size)
    (hl : TPairs prog w A (fun e t => R (.error e) t) x y I Z) (hN : ∀ t, I x.size t → R (.ok (.ret (.bool true))) t) (hZ : ∀ t, Z t → R (.ok (.ret (.bool false))) t) (h0 : I 0 s) :
    wpAny (model prog w) A.in1 (Builtin.«tuple.__eq__» ⟨[.ref l, .ref b], []⟩) (GQ.FinOf prog w A R) (fun e t => R (.error e) t) s := by
  obtain ⟨hp, g, d, tk, os⟩ := s
  have f2 := AutoSeq1.sub_tuple_tuple
  have zl : (x.toList.zip y.toList).length = x.size := by simp [hs]
  wp_walk using wpAny_loadPart' hx, wpAny_loadPart' hy, wpAny_forIn_list _ (fun rest b s' => b.1 = none ∧ ∃ i, i ≤ x.size ∧ rest = (x.toList.zip y.toList).drop i ∧ I i s') _
  case turn =>
    rintro ⟨u, v⟩ rest b s' ⟨hb', i, hi, hz, hI⟩
    have hlt : i < (x.toList.zip y.toList).length := by
      rcases Nat.lt_or_ge i (x.toList.zip y.toList).length with q | q
      · exact q
      · rw [List.drop_of_length_le q] at hz; cases hz
    have h1 : i < x.size := by omega
    have h2 : i < y.size := by omega
    rw [List.drop_eq_getElem_cons hlt] at hz
    injection hz with e1 e2
    have eu : u = x[i] := by have := congrArg Prod.fst e1; simpa using this
    have ev : v = y[i] := by have := congrArg Prod.snd e1; simpa using this
    subst eu ev
    refine wpAny_bind (wpAny_mono (hl i s' hI h1 h2) (fun r t q => ?_) fun _ _ z => z)
    rcases q with ⟨rfl, q⟩ | ⟨rfl, q⟩
    · wp_walk
      exact ⟨rfl, i + 1, h1, e2, q⟩
    · have fin := hZ t q
      obtain ⟨hp2, g2, d2, tk2, os2⟩ := t
      wp_walk
      exact fin
  case fin =>
    rintro ⟨b1, b2⟩ s' ⟨hb', i, hi, hz, hI⟩
    simp only at hb'
    subst hb'
    have hge : x.size ≤ i := by
      rcases Nat.lt_or_ge i (x.toList.zip y.toList).length with q | q
      · rw [List.drop_eq_getElem_cons q] at hz; cases hz
      · omega
    have e : i = x.size := by omega
    subst e
    have fin := hN s' hI
    obtain ⟨hp2, g2, d2, tk2, os2⟩ := s'
    wp_walk
    simpa [Builtin.Tuple.tupleCompareSizes, hs] using fin
  case h => exact ⟨rfl, 0, Nat.zero_le _, rfl, h0⟩
theorem tup_cmp {l b : Addr} {x y : Array Value} {I : Nat → Shared → Prop} {Z : Shared → Prop} {s : Shared} {Q : Value → Shared → Prop} (hx : IsTup s.heap l x) (hy : IsTup s.heap b y) (hs : x.size = y.size) (hu : A.units < cLine)
    (hl : TPairs prog w A E x y I Z) (hN : ∀ t, I x.size t → Q (.bool true) t) (hZ : ∀ t, Z t → Q (.bool false) t) (h0 : I 0 s) : wpAny (model prog w) A (richCompare .Eq (.ref l) (.ref b)) Q E s := by
  obtain ⟨⟨c1, d1, k1, s1⟩, q1, q2, n, q3⟩ := hx
  obtain ⟨⟨c2, d2, k2, s2⟩, r1, r2, m, r3⟩ := hy
  simp only at q2 q3 r2 r3
  subst q2 q3 r2 r3
  exact wpAny_richCompare_same_room (op := .Eq) ⟨_, q1, rfl⟩ ⟨_, r1, rfl⟩ F.slot_tuple_eq (GQ.call_here F.slot_tuple_eq ⟨_, q1, rfl⟩ F.entry_tuple_eq (F.args_tuple_eq_2 _ _)
    (tup_tree (R := wants (fun v t => v ≠ .notImplemented ∧ Q v t) E) q1 r1 hs hl (fun t q => ⟨(fun z => nomatch z), hN t q⟩) (fun t q => ⟨(fun z => nomatch z), hZ t q⟩) h0)) hu
/-- what the i-th item of a list is found to be; the list is read anew at each turn -/
def Finds (prog : Program) (w : World) (A : Around) (E : Value → Shared → Prop) (l : Addr) (N : Nat) (v : Value) (I : Nat → Shared → Prop) (Z : Nat → Shared → Prop) : Prop :=
  ∀ (i : Nat) (s : Shared), I i s → ∃ (x : Array Value) (n : Nat) (dd : Option Addr) (sl : Array (Option Value)), s.heap.get? l = some { cls := .type "list", dict := dd, data := .seq x n, slots := sl } ∧ x.size = N ∧
    ∀ (h1 : i < x.size), wpAny (model prog w) A.in1 (eqBool x[i] v) (fun r t => (r = false ∧ I (i + 1) t) ∨ (r = true ∧ Z i t)) E s
theorem find_loop {l : Addr} {N : Nat} {v : Value} {I : Nat → Shared → Prop} {Z : Nat → Shared → Prop} (hl : Finds prog w A (fun e t => R (.error e) t) l N v I Z) (hN : ∀ t, I N t → R (.ok (.ret (.bool false))) t) (hZ : ∀ i t, Z i t → R (.ok (.ret (.bool true))) t) :
    ∀ k i : Nat, N - i = k → i ≤ N → ∀ s, I i s → wpAny (model prog w) A.in1 (Builtin.«list.__contains__.loop» ⟨[.ref l, v, rawInt i], []⟩) (GQ.FinOf prog w A R) (fun e t => R (.error e) t) s := by
  intro k
  induction k with
  | zero =>
    intro i hk hi s hI
    obtain ⟨x, n, dd, sl, hx, sx, _⟩ := hl i s hI
    have e : i = N := by omega
    subst e
    have fin := hN s hI
    have nx : x[((i : Nat) : Int).toNat]? = none := by simp; omega
    obtain ⟨hp, g, d, tk, os⟩ := s
    wp_walk using wpAny_loadPart' hx
    rw [nx]
    wp_walk
    exact fin
  | succ k ih =>
    intro i hk hi s hI
    obtain ⟨x, n, dd, sl, hx, sx, turn⟩ := hl i s hI
    have h1 : i < x.size := by omega
    have ht := turn h1
    have gx : x[((i : Nat) : Int).toNat]? = some x[i] := by simp [h1]
    have hc : ((i : Int) + 1) = ((i + 1 : Nat) : Int) := by omega
    obtain ⟨hp, g, d, tk, os⟩ := s
    wp_walk using wpAny_loadPart' hx
    rw [gx]
    refine wpAny_bind (wpAny_mono ht (fun r t q => ?_) fun _ _ z => z)
    rcases q with ⟨rfl, q⟩ | ⟨rfl, q⟩
    · have next := ih (i + 1) (by omega) (by omega) t q
      obtain ⟨hp2, g2, d2, tk2, os2⟩ := t
      wp_walk
      rw [hc]
      exact ⟨plainId_quiet plain_contains_loop _, codeAny_builtin entry_contains_loop (by rw [Around.under_plainId plain_contains_loop _]; exact next)⟩
    · have fin := hZ i t q
      obtain ⟨hp2, g2, d2, tk2, os2⟩ := t
      wp_walk
      exact fin
theorem find_tree {l : Addr} {N : Nat} {v : Value} {I : Nat → Shared → Prop} {Z : Nat → Shared → Prop} {s : Shared} (hl : Finds prog w A (fun e t => R (.error e) t) l N v I Z) (hN : ∀ t, I N t → R (.ok (.ret (.bool false))) t) (hZ : ∀ i t, Z i t → R (.ok (.ret (.bool true))) t) (h0 : I 0 s) :
    wpAny (model prog w) A.in1 (Builtin.«list.__contains__» ⟨[.ref l, v], []⟩) (GQ.FinOf prog w A R) (fun e t => R (.error e) t) s := by
  obtain ⟨x, n, dd, sl, hx, sx, _⟩ := hl 0 s h0
  have lp := find_loop hl hN hZ N 0 rfl (Nat.zero_le _) s h0
  obtain ⟨hp, g, d, tk, os⟩ := s
  wp_walk using wpAny_loadPart' hx
  exact ⟨plainId_quiet plain_contains_loop _, codeAny_builtin entry_contains_loop (by rw [Around.under_plainId plain_contains_loop _]; exact lp)⟩
theorem index_loop {l : Addr} {N : Nat} {v : Value} {upto : Int} {I : Nat → Shared → Prop} {Z : Nat → Shared → Prop} (hb : (N : Int) < upto) (hl : Finds prog w A (fun e t => R (.error e) t) l N v I Z) (hN : ∀ t, ¬ I N t) (hZ : ∀ i t, Z i t → R (.ok (.ret (.int i t.toks))) { t with toks := t.toks + 1 }) :
    ∀ k i : Nat, N - i = k → i ≤ N → ∀ s, I i s → wpAny (model prog w) A.in1 (Builtin.«list.index.loop» ⟨[.ref l, v, rawInt i, rawInt (upto)], []⟩) (GQ.FinOf prog w A R) (fun e t => R (.error e) t) s := by
  intro k
  induction k with
  | zero =>
    intro i hk hi s hI
    have e : i = N := by omega
    subst e
    exact absurd hI (hN s)
  | succ k ih =>
    intro i hk hi s hI
    obtain ⟨x, n, dd, sl, hx, sx, turn⟩ := hl i s hI
    have h1 : i < x.size := by omega
    have ht := turn h1
    have hst : (i : Int) < upto := by omega
    have gx : (if (i : Int) < upto then x[((i : Nat) : Int).toNat]? else none) = some x[i] := by rw [if_pos hst]; simp [h1]
    have hc : ((i : Int) + 1) = ((i + 1 : Nat) : Int) := by omega
    obtain ⟨hp, g, d, tk, os⟩ := s
    wp_walk using wpAny_loadPart' hx
    rw [gx]
    refine wpAny_bind (wpAny_mono ht (fun r t q => ?_) fun _ _ z => z)
    rcases q with ⟨rfl, q⟩ | ⟨rfl, q⟩
    · have next := ih (i + 1) (by omega) (by omega) t q
      obtain ⟨hp2, g2, d2, tk2, os2⟩ := t
      wp_walk
      rw [hc]
      exact ⟨plainId_quiet plain_index_loop _, codeAny_builtin entry_index_loop (by rw [Around.under_plainId plain_index_loop _]; exact next)⟩
    · have fin := hZ i t q
      obtain ⟨hp2, g2, d2, tk2, os2⟩ := t
      wp_walk
      exact fin
theorem index_tree {l : Addr} {N : Nat} {v : Value} {I : Nat → Shared → Prop} {Z : Nat → Shared → Prop} {s : Shared} (hb : (N : Int) < 2 ^ 63 - 1) (hl : Finds prog w A (fun e t => R (.error e) t) l N v I Z) (hN : ∀ t, ¬ I N t) (hZ : ∀ i t, Z i t → R (.ok (.ret (.int i t.toks))) { t with toks := t.toks + 1 }) (h0 : I 0 s) :
    wpAny (model prog w) A.in1 (Builtin.«list.index» ⟨[.ref l, v], []⟩) (GQ.FinOf prog w A R) (fun e t => R (.error e) t) s := by
  obtain ⟨x, n, dd, sl, hx, sx, _⟩ := hl 0 s h0
  have lp := index_loop hb hl hN hZ N 0 rfl (Nat.zero_le _) s h0
  obtain ⟨hp, g, d, tk, os⟩ := s
  wp_walk using wpAny_loadPart' hx
  have a1 : ((fun i : Int => if i < 0 then max 0 (i + (x.size : Int)) else i) ((none : Option Int).getD 0)) = ((0 : Nat) : Int) := by simp
  have a2 : ((fun i : Int => if i < 0 then max 0 (i + (x.size : Int)) else i) ((none : Option Int).getD (2 ^ 63 - 1))) = 2 ^ 63 - 1 := by simp
  rw [a1, a2]
  exact ⟨plainId_quiet plain_index_loop _, codeAny_builtin entry_index_loop (by rw [Around.under_plainId plain_index_loop _]; exact lp)⟩
end
end Dn

end
section
set_option maxHeartbeats 4000000
/-! Dn18: == at any depth, in, not in, index: by plain data, own ==, lists and tuples of such. -/
namespace Dn
open PySem PySem.Spec PyProof.Rows L2
open PySem.SeqAt
/-! ### one value, one datum -/
mutual
theorem eqD_refl : ∀ (n : Nat) (d : D), d.ok n = true → eqD d d = true
  | n, .non, _ => by unfold eqD; rfl
  | n, .bl b, _ => by unfold eqD; simp
  | n, .int i, _ => by unfold eqD; simp
  | n, .str x, _ => by unfold eqD; simp
  | n, .lst xs, h => by
    unfold D.ok at h
    simp only [Bool.and_eq_true] at h
    unfold eqD; exact eqDs_refl (n - 1) xs h.2
  | n, .tup xs, h => by
    unfold D.ok at h
    simp only [Bool.and_eq_true] at h
    unfold eqD; exact eqDs_refl (n - 1) xs h.2
  | n, .obj _ _, h => by unfold D.ok at h; cases h
  | n, .scr _, h => by unfold D.ok at h; cases h
  | n, .dct _ _, h => by unfold D.ok at h; cases h
theorem eqDs_refl : ∀ (n : Nat) (ds : List D), oks n ds = true → eqDs ds ds = true
  | n, [], _ => by unfold eqDs; rfl
  | n, x :: xs, h => by
    unfold oks at h
    simp only [Bool.and_eq_true] at h
    unfold eqDs; simp [eqD_refl n x h.1, eqDs_refl n xs h.2]
end
section
variable {T : Tb} {G : Hp}
mutual
theorem Rep.same : ∀ (n m : Nat) (x y : D) (v : V), x.ok n = true → y.ok m = true → Rep T G x v → Rep T G y v → x = y
  | n, m, x, y, v, hx, hy, rx, ry => by
    cases x with
    | non => have := rx.non_inv; subst this; cases y <;> first | rfl | (unfold Rep at ry; simp at ry; done) | (unfold D.ok at hy; cases hy; done)
    | bl b => have := rx.bl_inv; subst this; cases y <;> first | (unfold Rep at ry; cases ry; rfl) | (unfold Rep at ry; simp at ry; done) | (unfold D.ok at hy; cases hy; done)
    | int i => have := rx.int_inv; subst this; cases y <;> first | (unfold Rep at ry; cases ry; rfl) | (unfold Rep at ry; simp at ry; done) | (unfold D.ok at hy; cases hy; done)
    | str s => have := rx.str_inv; subst this; cases y <;> first | (unfold Rep at ry; cases ry; rfl) | (unfold Rep at ry; simp at ry; done) | (unfold D.ok at hy; cases hy; done)
    | obj _ _ => unfold D.ok at hx; cases hx
    | scr _ => unfold D.ok at hx; cases hx
    | dct _ _ => unfold D.ok at hx; cases hx
    | lst xs =>
      obtain ⟨p, vs, rfl, sq, _, r⟩ := rx.lst_inv
      unfold D.ok at hx
      simp only [Bool.and_eq_true] at hx
      cases y with
      | lst ys =>
        obtain ⟨q, us, e, sq2, _, r2⟩ := ry.lst_inv
        cases e
        rw [sq] at sq2; cases sq2
        unfold D.ok at hy
        simp only [Bool.and_eq_true] at hy
        rw [Reps.same (n - 1) (m - 1) xs ys vs hx.2 hy.2 r r2]
      | tup ys =>
        obtain ⟨q, us, e, sq2, _, r2⟩ := ry.tup_inv
        cases e
        rw [sq] at sq2; cases sq2
      | obj _ _ => unfold D.ok at hy; cases hy
      | scr _ => unfold D.ok at hy; cases hy
      | dct _ _ => unfold D.ok at hy; cases hy
      | _ => unfold Rep at ry; cases ry
    | tup xs =>
      obtain ⟨p, vs, rfl, sq, _, r⟩ := rx.tup_inv
      unfold D.ok at hx
      simp only [Bool.and_eq_true] at hx
      cases y with
      | tup ys =>
        obtain ⟨q, us, e, sq2, _, r2⟩ := ry.tup_inv
        cases e
        rw [sq] at sq2; cases sq2
        unfold D.ok at hy
        simp only [Bool.and_eq_true] at hy
        rw [Reps.same (n - 1) (m - 1) xs ys vs hx.2 hy.2 r r2]
      | lst ys =>
        obtain ⟨q, us, e, sq2, _, r2⟩ := ry.lst_inv
        cases e
        rw [sq] at sq2; cases sq2
      | obj _ _ => unfold D.ok at hy; cases hy
      | scr _ => unfold D.ok at hy; cases hy
      | dct _ _ => unfold D.ok at hy; cases hy
      | _ => unfold Rep at ry; cases ry
theorem Reps.same : ∀ (n m : Nat) (xs ys : List D) (vs : List V), oks n xs = true → oks m ys = true → Reps T G xs vs → Reps T G ys vs → xs = ys
  | n, m, [], ys, vs, _, _, r, r2 => by
    cases r.nil_inv
    cases ys with
    | nil => rfl
    | cons y ys => obtain ⟨_, _, e, _⟩ := r2.cons_inv; cases e
  | n, m, x :: xs, ys, vs, hx, hy, r, r2 => by
    obtain ⟨v, vr, rfl, a, b⟩ := r.cons_inv
    cases ys with
    | nil => cases r2.nil_inv
    | cons y ys =>
      obtain ⟨_, _, e, a2, b2⟩ := r2.cons_inv
      cases e
      unfold oks at hx hy
      simp only [Bool.and_eq_true] at hx hy
      rw [Rep.same n m x y v hx.1 hy.1 a a2, Reps.same n m xs ys vr hx.2 hy.2 b b2]
end
end
/-! ### == by fuel -/
abbrev Tbl := List (Nat × (List S → Cs → R S))
def eqRs (e : D → D → Option Bool) : List D → List D → Option Bool
  | [], [] => some true
  | x :: xs, y :: ys => match e x y with
    | some true => eqRs e xs ys
    | some false => some false
    | none => none
  | _, _ => none
def objEq (tbl : Tbl) (k : Nat) (xs : List D) (k2 : Nat) (ys : List D) : Option Bool := if k = k2 then (match look tbl k with
    | some fn => match isB (fn [.d (.obj k xs), .d (.obj k2 ys)] []) with
      | some true => some true
      | some false => if (oks 50 xs && oks 50 ys && !eqDs xs ys) = true then some false else none
      | none => none
    | none => none) else none
def flatEq : D → D → Bool
  | .non, .non => true
  | .bl a, .bl b => a == b
  | .int a, .int b => a == b
  | .str a, .str b => a == b
  | _, _ => false
def eqR (tbl : Tbl) : Nat → D → D → Option Bool
  | 0, x, y => if (x.ok 50 && y.ok 50) = true then some (eqD x y) else none
  | f + 1, x, y => if (x.ok 50 && y.ok 50) = true then some (eqD x y) else match x, y with
    | .obj k xs, .obj k2 ys => objEq tbl k xs k2 ys
    | .lst xs, .lst ys => if xs.length = ys.length then eqRs (eqR tbl f) xs ys else some false
    | .tup xs, .tup ys => if xs.length = ys.length then eqRs (eqR tbl f) xs ys else none
    | .dct [k] [x], .dct [k2] [y] => if (decide (k = k2) && flatEq x y) = true then some true else none
    | _, _ => none
section
variable {X : Cx} {T : Tb} {W : WX} {a b o e : Expr} {es : List Expr} {A B : M} {pos p apos : Pos}
def EqOk (X : Cx) (T : Tb) (n : Nat) (e : D → D → Option Bool) : Prop :=
  (∀ {Ar : Around} {pins : List (Addr × Obj)} {s : Shared} {σ : L2.St} {H G : Hp} {x y : D} {v u : V} {vv uu : Value} {r : Bool}, Sub X n Ar → Inv X pins σ H s → Ex G H → Rep T G x v → Rep T G y u → RelV v vv → RelV u uu → e x y = some r →
    wpAny (model X.prog X.w) Ar (eqBool vv uu) (fun z s' => z = r ∧ ∃ H', Inv X pins σ H' s' ∧ Ex H H') X.xe s) ∧
  ∀ {G : Hp} {x y : D} {v : V} {r : Bool}, Rep T G x v → Rep T G y v → e x y = some r → r = true
theorem eqRs_same {n : Nat} {e : D → D → Option Bool} (h : EqOk X T n e) {G : Hp} : ∀ {xs ys : List D} {vs : List V} {r : Bool}, Reps T G xs vs → Reps T G ys vs → eqRs e xs ys = some r → r = true
  | [], [], _, r, _, _, q => by unfold eqRs at q; cases q; rfl
  | [], _ :: _, _, r, _, _, q => by unfold eqRs at q; cases q
  | _ :: _, [], _, r, _, _, q => by unfold eqRs at q; cases q
  | x :: xs, y :: ys, vs, r, r1, r2, q => by
    obtain ⟨v, vr, rfl, a, b⟩ := r1.cons_inv
    obtain ⟨_, _, e1, a2, b2⟩ := r2.cons_inv
    cases e1
    unfold eqRs at q
    cases hq : e x y with
    | none => simp only [hq] at q; cases q
    | some z =>
      have := h.2 a a2 hq
      subst this
      simp only [hq] at q
      exact eqRs_same h b b2 q
/-- two lists -/
theorem lists_ok (neg : Bool) {n : Nat} {e : D → D → Option Bool} (he : EqOk X T n e) {Ar : Around} {pins : List (Addr × Obj)} {s : Shared} {σ : L2.St} {H G : Hp} {p q : Addr} {vs us : List V} {xs ys : List D} {r : Bool} (sb : Sub X (n + 1) Ar) (I : Inv X pins σ H s) (eg : Ex G H)
    (hp : H p = some (.lst vs)) (hq : H q = some (.lst us)) (rx : Reps T G xs vs) (ry : Reps T G ys us) (hl : xs.length = ys.length) (h : eqRs e xs ys = some r) :
    wpAny (model X.prog X.w) Ar (richCompare (cmpOf neg) (.ref p) (.ref q)) (fun z s' => z = .bool (if neg then !r else r) ∧ ∃ H', Inv X pins σ H' s' ∧ Ex H H') X.xe s := by
  refine list_cmp neg (N := xs.length) (I := fun i t => ∃ H', Inv X pins σ H' t ∧ Ex H H' ∧ eqRs e (xs.drop i) (ys.drop i) = some r) (Z := fun t => ∃ H', Inv X pins σ H' t ∧ Ex H H' ∧ r = false) sb.room.units0 (fun i t hI => ?_) (fun t hZ => ?_) (fun t hI => ?_) (fun t hZ => ?_) ⟨H, I, .refl _, by simpa using h⟩
  · obtain ⟨H1, I1, e1, q1⟩ := hI
    obtain ⟨z1, its, k1, r1, g1⟩ := I1.hok p _ (e1 _ _ hp)
    obtain ⟨z2, its2, k2, r2, g2⟩ := I1.hok q _ (e1 _ _ hq)
    have l1 : its.length = xs.length := by rw [← r1.length, rx.length]
    have l2 : its2.length = xs.length := by rw [← r2.length, ry.length, hl]
    refine ⟨its.toArray, its2.toArray, k1, k2, g1, g2, by simpa using l1, by simpa using l2, fun h1 h2 => ?_⟩
    have i1 : i < xs.length := by rw [← l1]; simpa using h1
    have i2 : i < ys.length := by rw [← hl]; exact i1
    rw [List.drop_eq_getElem_cons i1, List.drop_eq_getElem_cons i2] at q1
    unfold eqRs at q1
    obtain ⟨v, hv, rv⟩ := rx.get (List.getElem?_eq_getElem i1)
    obtain ⟨u, hu, ru⟩ := ry.get (List.getElem?_eq_getElem i2)
    obtain ⟨vv, hvv, rvv⟩ := r1.get hv
    obtain ⟨uu, huu, ruu⟩ := r2.get hu
    have ev : its.toArray[i] = vv := by have := (List.getElem?_eq_some_iff.mp hvv).2; simpa using this
    have eu : its2.toArray[i] = uu := by have := (List.getElem?_eq_some_iff.mp huu).2; simpa using this
    rw [ev, eu]
    cases hit : e xs[i] ys[i] with
    | none => simp only [hit] at q1; cases q1
    | some b =>
      simp only [hit] at q1
      refine wpAny_mono (he.1 sb.in1 I1 (eg.trans e1) rv ru rvv ruu hit) (fun z t' q' => ?_) fun _ _ z => z
      obtain ⟨rfl, H2, I2, e2⟩ := q'
      cases z with
      | true => exact .inl ⟨rfl, H2, I2, e1.trans e2, q1⟩
      | false => exact .inr ⟨rfl, H2, I2, e1.trans e2, (Option.some.inj q1).symm⟩
  · obtain ⟨H1, I1, e1, q1⟩ := hZ
    obtain ⟨z1, its, k1, r1, g1⟩ := I1.hok p _ (e1 _ _ hp)
    obtain ⟨z2, its2, k2, r2, g2⟩ := I1.hok q _ (e1 _ _ hq)
    exact ⟨its.toArray, its2.toArray, k1, k2, g1, g2, by rw [List.size_toArray, ← r1.length, rx.length], by rw [List.size_toArray, ← r2.length, ry.length, hl]⟩
  · obtain ⟨H1, I1, e1, q1⟩ := hI
    rw [List.drop_length, hl, List.drop_length] at q1
    have : r = true := (Option.some.inj q1).symm
    subst this
    exact ⟨by cases neg <;> rfl, H1, I1, e1⟩
  · obtain ⟨H1, I1, e1, q1⟩ := hZ
    subst q1
    exact ⟨by cases neg <;> rfl, H1, I1, e1⟩
/-- two tuples -/
theorem tuples_ok {n : Nat} {e : D → D → Option Bool} (he : EqOk X T n e) {Ar : Around} {pins : List (Addr × Obj)} {s : Shared} {σ : L2.St} {H G : Hp} {p q : Addr} {vs us : List V} {xs ys : List D} {r : Bool} (sb : Sub X (n + 1) Ar) (I : Inv X pins σ H s) (eg : Ex G H)
    (hp : H p = some (.tup vs)) (hq : H q = some (.tup us)) (rx : Reps T G xs vs) (ry : Reps T G ys us) (hl : xs.length = ys.length) (h : eqRs e xs ys = some r) :
    wpAny (model X.prog X.w) Ar (richCompare .Eq (.ref p) (.ref q)) (fun z s' => z = .bool r ∧ ∃ H', Inv X pins σ H' s' ∧ Ex H H') X.xe s := by
  obtain ⟨z1, its, r1, g1⟩ := I.hok p _ hp
  obtain ⟨z2, its2, r2, g2⟩ := I.hok q _ hq
  have l1 : its.length = xs.length := by rw [← r1.length, rx.length]
  have l2 : its2.length = xs.length := by rw [← r2.length, ry.length, hl]
  refine tup_cmp (I := fun i t => ∃ H', Inv X pins σ H' t ∧ Ex H H' ∧ eqRs e (xs.drop i) (ys.drop i) = some r) (Z := fun t => ∃ H', Inv X pins σ H' t ∧ Ex H H' ∧ r = false) g1 g2 (by simp [l1, l2]) sb.room.units0 (fun i t hI h1 h2 => ?_) (fun t hI => ?_) (fun t hZ => ?_) ⟨H, I, .refl _, by simpa using h⟩
  · obtain ⟨H1, I1, e1, q1⟩ := hI
    have i1 : i < xs.length := by rw [← l1]; simpa using h1
    have i2 : i < ys.length := by rw [← hl]; exact i1
    rw [List.drop_eq_getElem_cons i1, List.drop_eq_getElem_cons i2] at q1
    unfold eqRs at q1
    obtain ⟨v, hv, rv⟩ := rx.get (List.getElem?_eq_getElem i1)
    obtain ⟨u, hu, ru⟩ := ry.get (List.getElem?_eq_getElem i2)
    obtain ⟨vv, hvv, rvv⟩ := r1.get hv
    obtain ⟨uu, huu, ruu⟩ := r2.get hu
    have ev : its.toArray[i] = vv := by have := (List.getElem?_eq_some_iff.mp hvv).2; simpa using this
    have eu : its2.toArray[i] = uu := by have := (List.getElem?_eq_some_iff.mp huu).2; simpa using this
    rw [ev, eu]
    cases hit : e xs[i] ys[i] with
    | none => simp only [hit] at q1; cases q1
    | some b =>
      simp only [hit] at q1
      refine wpAny_mono (he.1 sb.in1 I1 (eg.trans e1) rv ru rvv ruu hit) (fun z t' q' => ?_) fun _ _ z => z
      obtain ⟨rfl, H2, I2, e2⟩ := q'
      cases z with
      | true => exact .inl ⟨rfl, H2, I2, e1.trans e2, q1⟩
      | false => exact .inr ⟨rfl, H2, I2, e1.trans e2, (Option.some.inj q1).symm⟩
  · obtain ⟨H1, I1, e1, q1⟩ := hI
    have hz : its.toArray.size = xs.length := by simp [l1]
    rw [hz, List.drop_length, hl, List.drop_length] at q1
    have : r = true := (Option.some.inj q1).symm
    subst this
    exact ⟨rfl, H1, I1, e1⟩
  · obtain ⟨H1, I1, e1, q1⟩ := hZ
    subst q1
    exact ⟨rfl, H1, I1, e1⟩
theorem flatEq_rep {G : Hp} {x y : D} {v u : V} (h : flatEq x y = true) (rx : Rep T G x v) (ry : Rep T G y u) : v = u ∧ flatB v = true := by
  cases x <;> cases y <;> first
    | (simp [flatEq] at h; done)
    | (unfold Rep at rx ry; subst rx ry; simp [flatEq] at h; try subst h
       exact ⟨rfl, rfl⟩)
theorem plain_ok {n : Nat} {e : D → D → Option Bool} {Ar : Around} {pins : List (Addr × Obj)} {s : Shared} {σ : L2.St} {H G : Hp} {x y : D} {v u : V} {vv uu : Value} (hT : X.K = T.K) (sb : Sub X n Ar) (I : Inv X pins σ H s) (eg : Ex G H) (hx : Rep T G x v) (hy : Rep T G y u) (rv : RelV v vv) (ru : RelV u uu) (ok : (x.ok 50 && y.ok 50) = true) :
    wpAny (model X.prog X.w) Ar (eqBool vv uu) (fun z s' => z = eqD x y ∧ ∃ H', Inv X pins σ H' s' ∧ Ex H H') X.xe s := by
  simp only [Bool.and_eq_true] at ok
  have d1 : Dp X.K H v x.py := by rw [hT]; exact Dp.mono eg _ _ (Rep.dp 50 _ _ ok.1 hx)
  have d2 : Dp X.K H u y.py := by rw [hT]; exact Dp.mono eg _ _ (Rep.dp 50 _ _ ok.2 hy)
  obtain ⟨as, q1⟩ := Dp.reads I _ _ _ d1 rv
  obtain ⟨bs, q2⟩ := Dp.reads I _ _ _ d2 ru
  have dd := depth_py 50 x ok.1
  have hu := sb.room.units
  exact eqAt_reads x.py y.py Ar s vv uu as bs q1 q2 (lay_py 50 x ok.1) (lay_py 50 y ok.2) (by have := Nat.min_le_left x.py.depth y.py.depth; omega) X.prog X.w X.xe _ ⟨eqv_py 50 x y ok.1 ok.2, H, I, .refl _⟩
theorem plain_same {G : Hp} {x y : D} {v : V} (hx : Rep T G x v) (hy : Rep T G y v) (ok : (x.ok 50 && y.ok 50) = true) : eqD x y = true := by
  simp only [Bool.and_eq_true] at ok
  have := Rep.same 50 50 x y v ok.1 ok.2 hx hy
  subst this
  exact eqD_refl 50 x ok.1
theorem same_ok {Ar : Around} {pins : List (Addr × Obj)} {s : Shared} {σ : L2.St} {H : Hp} {u : Value} (I : Inv X pins σ H s) : wpAny (model X.prog X.w) Ar (eqBool u u) (fun z s' => z = true ∧ ∃ H', Inv X pins σ H' s' ∧ Ex H H') X.xe s :=
  SeqAt.EqAt.same (A := Ar) (s := s) u X.prog X.w X.xe _ ⟨rfl, H, I, .refl _⟩
theorem eqR_ok {tbl : Tbl} {n : Nat} (hM : MethsAt X.prog X.w X.K X.mg X.base T "__eq__" n tbl) (hT : X.K = T.K) : ∀ f, EqOk X T (n + f) (eqR tbl f)
  | 0 => by
    refine ⟨fun sb I eg hx hy rv ru h => ?_, fun hx hy h => ?_⟩
    · unfold eqR at h
      split at h
      · rename_i ok; cases h; exact plain_ok (e := eqR tbl 0) hT sb I eg hx hy rv ru ok
      · cases h
    · unfold eqR at h
      split at h
      · rename_i ok; cases h; exact plain_same hx hy ok
      · cases h
  | f + 1 => by
    have ih := eqR_ok hM hT f
    refine ⟨fun {Ar pins s σ H G x y v u vv uu r} sb I eg hx hy rv ru h => ?_, fun {G x y v r} hx hy h => ?_⟩
    · unfold eqR at h
      split at h
      · rename_i ok; cases h; exact plain_ok (e := eqR tbl 0) hT sb I eg hx hy rv ru ok
      · split at h
        · rename_i k xs k2 ys _
          unfold objEq at h
          split at h
          · rename_i hk
            subst hk
            cases hl : look tbl k with
            | none => simp only [hl] at h; cases h
            | some fn =>
              simp only [hl] at h
              obtain ⟨j, hj, M⟩ := hM.get (look_mem hl)
              obtain ⟨pa, dx, fv, rfl, ha, hfl, ra⟩ := hx.obj_inv
              obtain ⟨pb, dy, gv, rfl, hb, hgl, rb⟩ := hy.obj_inv
              cases rv
              cases ru
              cases hB : isB (fn [.d (.obj k xs), .d (.obj k ys)] []) with
              | none => simp only [hB] at h; cases h
              | some z =>
                have go : pa ≠ pb → r = z → wpAny (model X.prog X.w) Ar (eqBool (.ref pa) (.ref pb)) (fun z s' => z = r ∧ ∃ H', Inv X pins σ H' s' ∧ Ex H H') X.xe s := fun hab hr => by
                  refine GQ.eqBool_refG hab (wpAny_mono (rc_own M (Nat.le_trans hj (Nat.le_add_right _ _)) sb I (Rep.mono eg _ _ hx) (Rep.mono eg _ _ hy) (isB_inv hB)) (fun w s' q => ?_) fun _ _ z => z)
                  obtain ⟨q1, q2⟩ := q
                  exact ⟨z, q1, hr.symm, q2⟩
                cases z with
                | true =>
                  simp only [hB] at h
                  cases h
                  by_cases hab : pa = pb
                  · subst hab; exact same_ok I
                  · exact go hab rfl
                | false =>
                  simp only [hB] at h
                  split at h
                  · rename_i hc
                    cases h
                    refine go (fun hab => ?_) rfl
                    subst hab
                    rw [ha] at hb
                    cases hb
                    simp only [Bool.and_eq_true, Bool.not_eq_true'] at hc
                    have := Reps.same 50 50 xs ys _ hc.1.1 hc.1.2 ra rb
                    subst this
                    rw [eqDs_refl 50 xs hc.1.1] at hc
                    cases hc.2
                  · cases h
          · cases h
        · rename_i xs ys _
          obtain ⟨pa, vs, rfl, ha, la, ra⟩ := hx.lst_inv
          obtain ⟨pb, us, rfl, hb, lb, rb⟩ := hy.lst_inv
          cases rv
          cases ru
          by_cases hab : pa = pb
          · subst hab
            rw [ha] at hb
            cases hb
            have hl : xs.length = ys.length := by rw [← ra.length, ← rb.length]
            rw [if_pos hl] at h
            rw [eqRs_same ih ra rb h]
            exact same_ok I
          · split at h
            · rename_i hl
              refine GQ.eqBool_refG hab (wpAny_mono (lists_ok false ih sb I eg (eg _ _ ha) (eg _ _ hb) ra rb hl h) (fun w s' q => ?_) fun _ _ z => z)
              obtain ⟨q1, q2⟩ := q
              exact ⟨r, q1, rfl, q2⟩
            · rename_i hl
              cases h
              obtain ⟨z1, its, k1, r1, g1⟩ := I.hok pa _ (eg _ _ ha)
              obtain ⟨z2, its2, k2, r2, g2⟩ := I.hok pb _ (eg _ _ hb)
              have ne : (its.toArray.size != its2.toArray.size) = true := by
                have e1 : its.length = xs.length := by rw [← r1.length, ra.length]
                have e2 : its2.length = ys.length := by rw [← r2.length, rb.length]
                simp only [List.size_toArray, bne_iff_ne, ne_eq]
                omega
              exact EqAt.of_refs hab (RcAt.lists_lengths ⟨_, g1, rfl, _, rfl⟩ ⟨_, g2, rfl, _, rfl⟩ ne sb.room.units0) X.prog X.w X.xe _ ⟨rfl, H, I, .refl _⟩
        · rename_i xs ys _
          obtain ⟨pa, vs, rfl, ha, la, ra⟩ := hx.tup_inv
          obtain ⟨pb, us, rfl, hb, lb, rb⟩ := hy.tup_inv
          cases rv
          cases ru
          split at h
          · rename_i hl
            by_cases hab : pa = pb
            · subst hab
              rw [ha] at hb
              cases hb
              rw [eqRs_same ih ra rb h]
              exact same_ok I
            · refine GQ.eqBool_refG hab (wpAny_mono (tuples_ok ih sb I eg (eg _ _ ha) (eg _ _ hb) ra rb hl h) (fun w s' q => ?_) fun _ _ z => z)
              obtain ⟨q1, q2⟩ := q
              exact ⟨r, q1, rfl, q2⟩
          · cases h
        · rename_i k x k2 y _
          obtain ⟨pa, kv, rfl, ha, la, ra⟩ := hx.dct_inv
          obtain ⟨pb, kw, rfl, hb, lb, rb⟩ := hy.dct_inv
          cases rv
          cases ru
          split at h
          · rename_i hc
            cases h
            simp only [Bool.and_eq_true, decide_eq_true_eq] at hc
            obtain ⟨rfl, hf⟩ := hc
            by_cases hab : pa = pb
            · subst hab; exact same_ok I
            · match kv, la, ra, ha with
              | [(k', v1)], la, ra, ha =>
                match kw, lb, rb, hb with
                | [(k3, v2)], lb, rb, hb =>
                  simp only [List.map_cons, List.map_nil, List.cons.injEq, and_true] at la lb
                  subst la lb
                  obtain ⟨_, _, e1, r1, _⟩ := ra.cons_inv
                  cases e1
                  obtain ⟨_, _, e2, r2, _⟩ := rb.cons_inv
                  cases e2
                  obtain ⟨rfl, hfl⟩ := flatEq_rep hf r1 r2
                  obtain ⟨_, ya, va, rra, da⟩ := (show ObjOk X.prog X.w H s.heap pa (.dK [(_, v1)]) from I.hok pa _ (eg _ _ ha))
                  obtain ⟨_, yb, vb, rrb, db⟩ := (show ObjOk X.prog X.w H s.heap pb (.dK [(_, v1)]) from I.hok pb _ (eg _ _ hb))
                  have hl : va.length = vb.length := by rw [← rra.length, ← rrb.length]
                  refine GQ.eqBool_refG hab ?_
                  exact PySem.W.keq_eq (knd := mixKind X.prog X.w) (r := true) ya yb da db sb.room.units0 (fun _ => hits_all rrb rra (fun p hp => by
                    simp only [List.mem_singleton] at hp
                    subst hp
                    exact ⟨by simp [valV], hfl⟩)) ⟨true, by simp [hl], rfl, H, I, .refl _⟩
          · cases h
        · cases h
    · unfold eqR at h
      split at h
      · rename_i ok; cases h; exact plain_same hx hy ok
      · split at h
        · rename_i k xs k2 ys _
          unfold objEq at h
          split at h
          · rename_i hk
            subst hk
            cases hl : look tbl k with
            | none => simp only [hl] at h; cases h
            | some fn =>
              simp only [hl] at h
              obtain ⟨pa, dx, fv, rfl, ha, hfl, ra⟩ := hx.obj_inv
              obtain ⟨pb, dy, gv, e1, hb, hgl, rb⟩ := hy.obj_inv
              cases e1
              rw [ha] at hb
              cases hb
              cases hB : isB (fn [.d (.obj k xs), .d (.obj k ys)] []) with
              | none => simp only [hB] at h; cases h
              | some z =>
                cases z with
                | true => simp only [hB] at h; cases h; rfl
                | false =>
                  simp only [hB] at h
                  split at h
                  · rename_i hc
                    simp only [Bool.and_eq_true, Bool.not_eq_true'] at hc
                    have := Reps.same 50 50 xs ys _ hc.1.1 hc.1.2 ra rb
                    subst this
                    rw [eqDs_refl 50 xs hc.1.1] at hc
                    cases hc.2
                  · cases h
          · cases h
        · rename_i xs ys _
          obtain ⟨pa, vs, rfl, ha, la, ra⟩ := hx.lst_inv
          obtain ⟨pb, us, e1, hb, lb, rb⟩ := hy.lst_inv
          cases e1
          rw [ha] at hb
          cases hb
          have hl : xs.length = ys.length := by rw [← ra.length, ← rb.length]
          rw [if_pos hl] at h
          exact eqRs_same ih ra rb h
        · rename_i xs ys _
          obtain ⟨pa, vs, rfl, ha, la, ra⟩ := hx.tup_inv
          obtain ⟨pb, us, e1, hb, lb, rb⟩ := hy.tup_inv
          cases e1
          rw [ha] at hb
          cases hb
          have hl : xs.length = ys.length := by rw [← ra.length, ← rb.length]
          rw [if_pos hl] at h
          exact eqRs_same ih ra rb h
        · split at h
          · cases h; rfl
          · cases h
        · cases h
end
end Dn

end
section
set_option maxHeartbeats 4000000
/-! Dn19: the operators over Dn18; clear, slices, a dict with one key, min of a list, is None. -/
namespace Dn
open PySem PySem.Spec PyProof.Rows L2
open PySem.SeqAt
section
variable {X : Cx} {T : Tb} {W : WX} {a b o e : Expr} {es : List Expr} {A B : M} {pos p p2 apos : Pos}
/-- an operation that answers r and only makes objects -/
def rSem (X : Cx) (f : Value → Value → Sem Value) : R2 := fun v u H Q => ∃ r : Bool, (∀ (pins : List (Addr × Obj)) (s : Shared) (σ : L2.St) (vv uu : Value), Inv X pins σ H s → RelV v vv → RelV u uu →
  wpAny (model X.prog X.w) X.A (f vv uu) (fun z s' => z = .bool r ∧ ∃ H', Inv X pins σ H' s' ∧ Ex H H') X.xe s) ∧ ∀ H', Ex H H' → Q (.bl r) H'
theorem op_sem {f : Value → Value → Sem Value} : OpR X f (rSem X f) := by
  intro pins s σ H v u vv uu Q I rv ru ⟨r, h, q⟩
  refine wpAny_mono (h pins s σ vv uu I rv ru) (fun z s' ⟨e, H', I', ex⟩ => ?_) fun _ _ z => z
  subst e
  exact ⟨.bl r, H', I', rfl, q H' ex⟩
/-! ### == and != -/
def eqY (tbl : Tbl) (f : Nat) (neg : Bool) : S → S → Cs → R S := fun s t c => match deref s c, deref t c with
  | some x, some y => if (x.ok 60 && y.ok 60) = true then .ok (.d (.bl (if neg then !eqD x y else eqD x y))) c else match x, y with
    | .lst xs, .lst ys => if xs.length = ys.length then (match eqRs (eqR tbl f) xs ys with
        | some r => .ok (.d (.bl (if neg then !r else r))) c
        | none => .bad) else .bad
    | .tup xs, .tup ys => if neg = false ∧ xs.length = ys.length then (match eqRs (eqR tbl f) xs ys with
        | some r => .ok (.d (.bl r)) c
        | none => .bad) else .bad
    | _, _ => .bad
  | _, _ => .bad
theorem prim_eqY {tbl : Tbl} {f n : Nat} {neg : Bool} (hM : MethsAt X.prog X.w X.K X.mg X.base T "__eq__" n tbl) (hT : X.K = T.K) (hr : Room (n + f + 1) X.A) : Prim2 T (eqY tbl f neg) (rSem X (compareOp (cmpOf neg))) := by
  intro W σ G ρ H c s t v u Q hh rs rt p
  have sb : Sub X (n + f + 1) X.A := ⟨hr, rfl⟩
  unfold eqY at p
  cases e1 : deref s c with
  | none => simp only [e1] at p; exact p.elim
  | some x =>
    cases e2 : deref t c with
    | none => simp only [e1, e2] at p; exact p.elim
    | some y =>
      simp only [e1, e2] at p
      have vx := deref_view hh rs e1
      have vy := deref_view hh rt e2
      by_cases ok : (x.ok 60 && y.ok 60) = true
      · rw [if_pos ok] at p
        have okk := ok
        simp only [Bool.and_eq_true] at okk
        refine ⟨if neg then !eqD x y else eqD x y, fun pins s σ vv uu I rv ru => ?_, fun H' e' => p _ H' G ρ (.refl _) (List.prefix_refl _) (hh.grow e') SRep.bl⟩
        have d1 := View.dp hh.ex okk.1 vx
        have d2 := View.dp hh.ex okk.2 vy
        rw [← hT] at d1 d2
        obtain ⟨as, r1⟩ := Dp.reads I _ _ _ d1 rv
        obtain ⟨bs, r2⟩ := Dp.reads I _ _ _ d2 ru
        cases neg with
        | false => exact SeqAt.compareEq_shaped r1 r2 (shaped_py okk.1) (shaped_py okk.2) hr.units ⟨by rw [eqv_py 60 x y okk.1 okk.2]; rfl, H, I, .refl _⟩
        | true => exact SeqAt.compareNe_shaped r1 r2 (shaped_py okk.1) (shaped_py okk.2) hr.units ⟨by rw [eqv_py 60 x y okk.1 okk.2]; rfl, H, I, .refl _⟩
      · rw [if_neg ok] at p
        cases x with
        | lst xs =>
          cases y with
          | lst ys =>
            simp only at p
            by_cases hl : xs.length = ys.length
            · rw [if_pos hl] at p
              cases he : eqRs (eqR tbl f) xs ys with
              | none => simp only [he] at p; exact p.elim
              | some r =>
                simp only [he] at p
                obtain ⟨pa, vs, rfl, sq, l, rx⟩ := vx
                obtain ⟨pb, us, rfl, sq', l', ry⟩ := vy
                refine ⟨if neg then !r else r, fun pins s σ vv uu I rv ru => ?_, fun H' e' => p _ H' G ρ (.refl _) (List.prefix_refl _) (hh.grow e') SRep.bl⟩
                cases rv
                cases ru
                have := lists_ok neg (eqR_ok hM hT f) sb I hh.ex sq sq' rx ry hl he
                cases neg <;> exact this
            · rw [if_neg hl] at p; exact p.elim
          | _ => exact p.elim
        | tup xs =>
          cases y with
          | tup ys =>
            simp only at p
            by_cases hl : neg = false ∧ xs.length = ys.length
            · rw [if_pos hl] at p
              obtain ⟨rfl, hl⟩ := hl
              cases he : eqRs (eqR tbl f) xs ys with
              | none => simp only [he] at p; exact p.elim
              | some r =>
                simp only [he] at p
                obtain ⟨pa, vs, rfl, sq, l, rx⟩ := View.tup_inv vx
                obtain ⟨pb, us, rfl, sq', l', ry⟩ := View.tup_inv vy
                refine ⟨r, fun pins s σ vv uu I rv ru => ?_, fun H' e' => p _ H' G ρ (.refl _) (List.prefix_refl _) (hh.grow e') SRep.bl⟩
                cases rv
                cases ru
                exact tuples_ok (eqR_ok hM hT f) sb I hh.ex (hh.ex _ _ sq) (hh.ex _ _ sq') rx ry hl he
            · rw [if_neg hl] at p; exact p.elim
          | _ => exact p.elim
        | _ => exact p.elim
/-- == : that, or two objects of a class -/
def eqV2 (tbl : Tbl) (f : Nat) (s t : S) (c : Cs) : R S := match s, t with
  | .d (.obj k xs), .d (.obj k2 ys) => eqO tbl (.d (.obj k xs)) (.d (.obj k2 ys)) c
  | s, t => eqY tbl f false s t c
theorem prim_eqV2 {tbl : Tbl} {f n : Nat} (hM : MethsAt X.prog X.w X.K X.mg X.base T "__eq__" n tbl) (hT : X.K = T.K) (hr : Room (n + f + 1) X.A) : Prim2 T (eqV2 tbl f) (fun x y H Q => rSem X (compareOp (cmpOf false)) x y H Q ∨ rEqO T tbl x y H Q) := by
  intro W σ G ρ H c s t v u Q hh rs rt p
  unfold eqV2 at p
  split at p
  · exact .inr (prim_eqO W σ G ρ H c _ _ v u Q hh rs rt p)
  · exact .inl (prim_eqY hM hT hr W σ G ρ H c _ _ v u Q hh rs rt p)
section
variable {tbl : Tbl} {n f : Nat} (hM : MethsAt X.prog X.w X.K X.mg X.base T "__eq__" n tbl) (hT : X.K = T.K) (hr : Room (n + f + 1) X.A) (ha : PE X a (tD T W A)) (hb : PE X b (tD T W B))
include hM hT hr ha hb
theorem dn_neY : PE X (.Compare a [.NotEq] [b] pos) (tD T W (mBin (eqY tbl f true) A B)) := dn_cmp (r := rSem X (compareOp (cmpOf true))) op_sem (prim_eqY hM hT hr) ha hb (nomark _)
theorem dt_neY : PT X (.Compare a [.NotEq] [b] pos) (tDT T W (mTB (mBin (eqY tbl f true) A B))) := dt_cmp (r := rSem X (compareOp (cmpOf true))) op_sem (prim_eqY hM hT hr) ha hb (nomark _)
theorem dn_eqY : PE X (.Compare a [.Eq] [b] pos) (tD T W (mBin (eqV2 tbl f) A B)) := dn_cmp (OpR.or (op_sem (f := compareOp (cmpOf false))) (op_eqO hM (hr.mono (by omega)))) (prim_eqV2 hM hT hr) ha hb (nomark _)
theorem dt_eqY : PT X (.Compare a [.Eq] [b] pos) (tDT T W (mTB (mBin (eqV2 tbl f) A B))) := dt_cmp (OpR.or (op_sem (f := compareOp (cmpOf false))) (op_eqO hM (hr.mono (by omega)))) (prim_eqV2 hM hT hr) ha hb (nomark _)
end
/-! ### in -/
def inL (e : D → D → Option Bool) (x : D) : List D → Option Bool
  | [] => some false
  | y :: ys => match e y x with
    | some true => some true
    | some false => inL e x ys
    | none => none
def inY (tbl : Tbl) (f : Nat) (neg : Bool) : S → S → Cs → R S := fun s t c => match s, deref t c with
  | .d x, some (.lst ys) => match inL (eqR tbl f) x ys with
    | some r => .ok (.d (.bl (if neg then !r else r))) c
    | none => .bad
  | _, _ => .bad
theorem cmp_in (neg : Bool) {prog : Program} {w : World} {A : Around} {E : Value → Shared → Prop} {s : Shared} {l : Addr} {N : Nat} {v : Value} {I : Nat → Shared → Prop} {Z : Nat → Shared → Prop} {Q : Value → Shared → Prop} (hl : Finds prog w A E l N v I Z)
    (hN : ∀ t, I N t → Q (.bool neg) t) (hZ : ∀ i t, Z i t → Q (.bool (!neg)) t) (h0 : I 0 s) : wpAny (model prog w) A (compareOp (if neg then .NotIn else .In) v (.ref l)) Q E s := by
  obtain ⟨x, n, dd, sl, hx, _⟩ := hl 0 s h0
  have tr := find_tree (R := wants (fun z t => ∃ b, z = .bool b ∧ Q (.bool (if neg then !b else b)) t) E) hl (fun t q => ⟨false, rfl, by cases neg <;> exact hN t q⟩) (fun i t q => ⟨true, rfl, by cases neg <;> exact hZ i t q⟩) h0
  have ty : s.TypeIs (.ref l) "list" := ⟨_, hx, rfl⟩
  have cl := GQ.call_here F.slot_list_contains ty F.entry_list_contains (F.args_list_contains_2 (.ref l) v) tr
  cases neg with
  | false =>
    show wpAny _ A (do return .bool (← contains (.ref l) v)) Q E s
    refine wpAny_bind (wpAny_contains_slot ty F.slot_list_contains (wpAny_mono cl (fun z t ⟨b, e, q⟩ => ?_) fun _ _ z => z))
    subst e
    exact wpAny_truthy_bool (wpAny_pure q)
  | true =>
    show wpAny _ A (do return .bool (!(← contains (.ref l) v))) Q E s
    refine wpAny_bind (wpAny_contains_slot ty F.slot_list_contains (wpAny_mono cl (fun z t ⟨b, e, q⟩ => ?_) fun _ _ z => z))
    subst e
    exact wpAny_truthy_bool (wpAny_pure q)
/-- one turn of a search in a list that stays -/
theorem finds_of {n : Nat} {e : D → D → Option Bool} (he : EqOk X T n e) {Ar : Around} {pins : List (Addr × Obj)} {σ : L2.St} {H G : Hp} {p : Addr} {us : List V} {ys : List D} {x : D} {v : V} {vv : Value} (sb : Sub X (n + 1) Ar) (eg : Ex G H) (hp : H p = some (.lst us)) (ry : Reps T G ys us) (rx : Rep T G x v) (rv : RelV v vv)
    (C : Nat → Prop) (h : ∀ i y, C i → ys[i]? = some y → ∃ b, e y x = some b ∧ (b = false → C (i + 1))) :
    Finds X.prog X.w Ar X.xe p ys.length vv (fun i t => C i ∧ ∃ H', Inv X pins σ H' t ∧ Ex H H') (fun i t => C i ∧ (∃ y, ys[i]? = some y ∧ e y x = some true) ∧ ∃ H', Inv X pins σ H' t ∧ Ex H H') := by
  rintro i t ⟨hC, H1, I1, e1⟩
  obtain ⟨z1, its, k1, r1, g1⟩ := I1.hok p _ (e1 _ _ hp)
  have l1 : its.length = ys.length := by rw [← r1.length, ry.length]
  refine ⟨its.toArray, k1, none, #[], g1, by simp [l1], fun h1 => ?_⟩
  have i1 : i < ys.length := by rw [← l1]; simpa using h1
  obtain ⟨u, hu, ru⟩ := ry.get (List.getElem?_eq_getElem i1)
  obtain ⟨uu, huu, ruu⟩ := r1.get hu
  have eu : its.toArray[i] = uu := by have := (List.getElem?_eq_some_iff.mp huu).2; simpa using this
  rw [eu]
  obtain ⟨b, hb, hn⟩ := h i _ hC (List.getElem?_eq_getElem i1)
  refine wpAny_mono (he.1 sb.in1 I1 (eg.trans e1) ru rx ruu rv hb) (fun z t' q' => ?_) fun _ _ z => z
  obtain ⟨rfl, H2, I2, e2⟩ := q'
  cases z with
  | false => exact .inl ⟨rfl, hn rfl, H2, I2, e1.trans e2⟩
  | true => exact .inr ⟨rfl, hC, ⟨_, List.getElem?_eq_getElem i1, hb⟩, H2, I2, e1.trans e2⟩
theorem prim_inY {tbl : Tbl} {f n : Nat} {neg : Bool} (hM : MethsAt X.prog X.w X.K X.mg X.base T "__eq__" n tbl) (hT : X.K = T.K) (hr : Room (n + f + 1) X.A) : Prim2 T (inY tbl f neg) (rSem X (compareOp (if neg then .NotIn else .In))) := by
  intro W σ G ρ H c s t v u Q hh rs rt p
  have sb : Sub X (n + f + 1) X.A := ⟨hr, rfl⟩
  unfold inY at p
  split at p
  · rename_i x ys e2
    have vy := deref_view hh rt e2
    cases he : inL (eqR tbl f) x ys with
    | none => simp only [he] at p; exact p.elim
    | some r =>
      simp only [he] at p
      obtain ⟨pb, us, rfl, sq, l, ry⟩ := vy
      refine ⟨if neg then !r else r, fun pins s σ vv uu I rv ru => ?_, fun H' e' => p _ H' G ρ (.refl _) (List.prefix_refl _) (hh.grow e') SRep.bl⟩
      cases ru
      have fd := finds_of (pins := pins) (σ := σ) (eqR_ok hM hT f) sb hh.ex sq ry rs rv (fun i => inL (eqR tbl f) x (ys.drop i) = some r) (fun i y hC hy => by
        obtain ⟨hi, e⟩ := List.getElem?_eq_some_iff.mp hy
        rw [List.drop_eq_getElem_cons hi, e] at hC
        unfold inL at hC
        cases hb : eqR tbl f y x with
        | none => simp only [hb] at hC; cases hC
        | some b =>
          refine ⟨b, rfl, fun z => ?_⟩
          subst z
          simp only [hb] at hC
          exact hC)
      refine cmp_in neg fd (fun t ⟨hC, H1, I1, e1⟩ => ?_) (fun i t ⟨hC, ⟨y, hy, hb⟩, H1, I1, e1⟩ => ?_) ⟨by simpa using he, H, I, .refl _⟩
      · rw [List.drop_length] at hC
        have : r = false := (Option.some.inj hC).symm
        subst this
        exact ⟨by cases neg <;> rfl, H1, I1, e1⟩
      · obtain ⟨hi, e⟩ := List.getElem?_eq_some_iff.mp hy
        rw [List.drop_eq_getElem_cons hi, e] at hC
        unfold inL at hC
        simp only [hb] at hC
        have : r = true := (Option.some.inj hC).symm
        subst this
        exact ⟨by cases neg <;> rfl, H1, I1, e1⟩
  · exact p.elim
section
variable {tbl : Tbl} {n f : Nat} (hM : MethsAt X.prog X.w X.K X.mg X.base T "__eq__" n tbl) (hT : X.K = T.K) (hr : Room (n + f + 1) X.A) (ha : PE X a (tD T W A)) (hb : PE X b (tD T W B))
include hM hT hr ha hb
theorem dn_inY (hm : behindInMarks .In b = false := by rfl) : PE X (.Compare a [.In] [b] pos) (tD T W (mBin (inY tbl f false) A B)) := dn_cmp (r := rSem X (compareOp .In)) op_sem (prim_inY (neg := false) hM hT hr) ha hb hm
theorem dt_inY (hm : behindInMarks .In b = false := by rfl) : PT X (.Compare a [.In] [b] pos) (tDT T W (mTB (mBin (inY tbl f false) A B))) := dt_cmp (r := rSem X (compareOp .In)) op_sem (prim_inY (neg := false) hM hT hr) ha hb hm
theorem dn_notInY (hm : behindInMarks .NotIn b = false := by rfl) : PE X (.Compare a [.NotIn] [b] pos) (tD T W (mBin (inY tbl f true) A B)) := dn_cmp (r := rSem X (compareOp .NotIn)) op_sem (prim_inY (neg := true) hM hT hr) ha hb hm
theorem dt_notInY (hm : behindInMarks .NotIn b = false := by rfl) : PT X (.Compare a [.NotIn] [b] pos) (tDT T W (mTB (mBin (inY tbl f true) A B))) := dt_cmp (r := rSem X (compareOp .NotIn)) op_sem (prim_inY (neg := true) hM hT hr) ha hb hm
end
end
end Dn

end
section
set_option maxHeartbeats 4000000
/-! Dn20: index, clear, slices, a dict with one key, min of a list, is None. -/
namespace Dn
open PySem PySem.Spec PyProof.Rows L2
open PySem.SeqAt
section
variable {X : Cx} {T : Tb} {W : WX} {a b o e : Expr} {es : List Expr} {A B : M} {pos p p2 apos : Pos}
/-! ### xs.index(x) -/
def idxL (e : D → D → Option Bool) (x : D) : List D → Option Nat
  | [] => none
  | y :: ys => match e y x with
    | some true => some 0
    | some false => (idxL e x ys).map (· + 1)
    | none => none
def idxS (tbl : Tbl) (f : Nat) (o : S) (ss : List S) (c : Cs) : R S := match ss, deref o c with
  | [.d x], some (.lst ys) => match idxL (eqR tbl f) x ys with
    | some i => .ok (.d (.int i)) c
    | none => .bad
  | _, _ => .bad
def mIndex (tbl : Tbl) (f : Nat) (A : M) (B : MA) : M := fun δ c => (A δ c).bind fun o c => match deref o c with
  | some (.lst _) => (B δ c).bind fun ss c => idxS tbl f o ss c
  | _ => .bad
def rIdxS (X : Cx) : V → List V → Hp → VK → Prop := fun x xs H Q => ∃ j : Nat, (∀ (pins : List (Addr × Obj)) (s : Shared) (σ : L2.St) (v : Value) (us : List Value), Inv X pins σ H s → RelV x v → Vals xs us →
  wpAny (model X.prog X.w) X.A (call (.builtin "list.index") (v :: us)) (fun z s' => (∃ t, z = .int j t) ∧ ∃ H', Inv X pins σ H' s' ∧ Ex H H') X.xe s) ∧ ∀ H', Ex H H' → Q (.int j) H'
theorem mt_idxS : MtR X "list.index" (rIdxS X) := by
  intro pins s σ H x xs v us Q I rx rxs ⟨j, h, q⟩
  refine wpAny_mono (h pins s σ v us I rx rxs) (fun z s' ⟨⟨t, e⟩, H', I', ex⟩ => ?_) fun _ _ z => z
  subst e
  exact ⟨.int j, H', I', ⟨t, rfl⟩, q H' ex⟩
theorem idx_sem {tbl : Tbl} {f n : Nat} (hM : MethsAt X.prog X.w X.K X.mg X.base T "__eq__" n tbl) (hT : X.K = T.K) (hr : Room (n + f + 1) X.A) {G H : Hp} {pb : Addr} {us : List V} {ys : List D} {x : D} {v : V} {j : Nat} (eg : Ex G H) (hp : H pb = some (.lst us)) (hl : ys.length ≤ sizeLine) (ry : Reps T G ys us) (rx : Rep T G x v) (hi : idxL (eqR tbl f) x ys = some j)
    (pins : List (Addr × Obj)) (s : Shared) (σ : L2.St) (vv : Value) (I : Inv X pins σ H s) (rv : RelV v vv) : wpAny (model X.prog X.w) X.A (call (.builtin "list.index") [.ref pb, vv]) (fun z s' => (∃ t, z = .int j t) ∧ ∃ H', Inv X pins σ H' s' ∧ Ex H H') X.xe s := by
  have sb : Sub X (n + f + 1) X.A := ⟨hr, rfl⟩
  have fd := finds_of (pins := pins) (σ := σ) (eqR_ok hM hT f) sb eg hp ry rx rv (fun i => i ≤ j ∧ idxL (eqR tbl f) x (ys.drop i) = some (j - i)) (fun i y hC hy => by
    obtain ⟨hi, e⟩ := List.getElem?_eq_some_iff.mp hy
    obtain ⟨hij, hC⟩ := hC
    rw [List.drop_eq_getElem_cons hi, e] at hC
    unfold idxL at hC
    cases hb : eqR tbl f y x with
    | none => simp only [hb] at hC; cases hC
    | some b =>
      refine ⟨b, rfl, fun z => ?_⟩
      subst z
      simp only [hb] at hC
      cases hd : idxL (eqR tbl f) x (ys.drop (i + 1)) with
      | none => rw [hd] at hC; cases hC
      | some k =>
        rw [hd] at hC
        have : k + 1 = j - i := Option.some.inj hC
        exact ⟨by omega, by congr 1; omega⟩)
  obtain ⟨z1, its, k1, r1, g1⟩ := I.hok pb _ hp
  have hsz := sizeLine_eq
  have tr := index_tree (R := wants (fun z s' => (∃ t, z = .int j t) ∧ ∃ H', Inv X pins σ H' s' ∧ Ex H H') X.xe) (by omega) fd (fun t ⟨⟨_, hC⟩, _⟩ => by rw [List.drop_length] at hC; cases hC) (fun i t ⟨⟨hij, hC⟩, ⟨y, hy, hb⟩, H1, I1, e1⟩ => by
    obtain ⟨hi, e⟩ := List.getElem?_eq_some_iff.mp hy
    rw [List.drop_eq_getElem_cons hi, e] at hC
    unfold idxL at hC
    simp only [hb] at hC
    have : 0 = j - i := Option.some.inj hC
    have : i = j := by omega
    subst this
    exact ⟨⟨_, rfl⟩, H1, I1.tok _, e1⟩) ⟨⟨Nat.zero_le _, by simpa using hi⟩, H, I, .refl _⟩
  exact GQ.call_here PySem.F.slot_list_index ⟨_, g1, rfl⟩ PySem.F.entry_list_index (PySem.F.args_list_index_2 _ _) tr
theorem dn_index {tbl : Tbl} {n f : Nat} {B : MA} (hM : MethsAt X.prog X.w X.K X.mg X.base T "__eq__" n tbl) (hT : X.K = T.K) (hr : Room (n + f + 1) X.A) (ho : PE X o (tD T W A)) (ha : PA X (e :: es) (tDA T W B)) (hbase : attributeBase o "index" X.env (eval o X.env) = eval o X.env := by rfl)
    (hfew : ((backTo pos (starEach (e :: es) X.env)).all (fun x => !x.1) && (backToKw pos (keywordEach [] X.env)).all (fun x => x.1.isSome)
      && decide ((e :: es).length + ([] : List Keyword).length + (if ([] : List Keyword).isEmpty then 0 else 1) < 30)) = true := by rfl)
    (hline : (apos.endLine == pos.line) = true := by rfl) (hs : starEach (e :: es) X.env = (false, eval e X.env) :: starEach es X.env := by rfl) (hplain : (backTo pos (starEach es X.env)).any (·.1) = false := by rfl) :
    PE X (.Call (.Attribute o "index" apos) (e :: es) [] pos) (tD T W (mIndex tbl f A B)) := by
  refine PE.imp (pe_bm PySem.F.plainAttrs_list PySem.F.slot_list_index PySem.F.type_list_index mt_idxS ho ha hbase hfew hline hs hplain) fun σ H Q ⟨δ, c, G, ρ, hs, hh, p⟩ => ?_
  refine ⟨δ, c, G, ρ, hs, hh, (Post.bind (rel := SRep T) p).imp ?_⟩
  rintro v H1 ⟨s, c1, G1, ρ1, e1, p1, h1, r1, q1⟩
  cases hd : deref s c1 with
  | none => simp only [hd] at q1; exact q1.elim
  | some d =>
    cases d with
    | lst ys0 =>
      simp only [hd] at q1
      obtain ⟨pb, us0, rfl, sq0, _, _⟩ := deref_view h1 r1 hd
      refine ⟨.inl ⟨rfl, _, SqL.of sq0⟩, δ, c1, G1, ρ1, hs.mono e1 p1, h1, (Post.bind (rel := SReps T) q1).imp ?_⟩
      rintro vs H2 ⟨ss, c2, G2, ρ2, e2, p2, h2, r2, q2⟩
      unfold idxS at q2
      split at q2
      · rename_i x ys hd2
        obtain ⟨u, rfl, ru⟩ := r2.one
        obtain ⟨pb2, us, e5, sq, l, ry⟩ := deref_view h2 (r1.mono e2 p2) hd2
        cases e5
        cases hi : idxL (eqR tbl f) x ys with
        | none => simp only [hi] at q2; exact q2.elim
        | some j =>
          simp only [hi] at q2
          refine ⟨j, fun pins s σ v us' I rv rus => ?_, fun H' e' => q2 _ H' G2 ρ2 (.refl _) (List.prefix_refl _) (h2.grow e') SRep.int⟩
          cases rv
          cases rus with
          | cons ra rb =>
            cases rb
            exact idx_sem hM hT hr h2.ex sq l ry ru hi pins s σ _ I ra
      · exact q2.elim
    | _ => simp only [hd] at q1; exact q1.elim
/-! ### xs.clear() -/
def clearC : S → Cs → R S
  | .c n, c => match c[n]? with
    | some (.lst _) => .ok (.d .non) (c.set n (.lst []))
    | some (.lS _) => .ok (.d .non) (c.set n (.lst []))
    | _ => .bad
  | _, _ => .bad
def mClear (A : M) : M := fun δ c => (A δ c).bind clearC
theorem dn_clear (ho : PE X o (tD T W A)) (hbase : attributeBase o "clear" X.env (eval o X.env) = eval o X.env := by rfl) (hline : (apos.endLine == pos.line) = true := by rfl) : PE X (.Call (.Attribute o "clear" apos) [] [] pos) (tD T W (mClear A)) := by
  refine PE.imp (pe_bm0 PySem.F.plainAttrs_list PySem.F.slot_list_clear PySem.F.type_list_clear mt_clear ho hbase hline) fun σ H Q ⟨δ, c, G, ρ, hs, hh, p⟩ => ?_
  refine ⟨δ, c, G, ρ, hs, hh, (Post.bind (rel := SRep T) p).imp ?_⟩
  rintro v H1 ⟨s, c1, G1, ρ1, e1, p1, h1, r1, q1⟩
  cases s with
  | d _ => exact q1.elim
  | x _ _ => exact q1.elim
  | c n =>
    unfold clearC at q1
    obtain ⟨pa, hpa, rfl⟩ := r1
    cases hc : c1[n]? with
    | none => simp only [hc] at q1; exact q1.elim
    | some cc =>
      have go : ∀ vs, H1 pa = some (.lst vs) → Post (SRep T) T W σ G1 ρ1 (.ok (.d .non) (c1.set n (.lst []))) Q → tyV X.K "list" (.ref pa) H1 ∧ rClear (.ref pa) [] H1 Q := fun vs ho q => by
        refine ⟨.inl ⟨rfl, _, SqL.of ho⟩, pa, vs, rfl, rfl, ho, ?_⟩
        exact q _ _ G1 ρ1 (.refl _) (List.prefix_refl _) (h1.cell (x := .lst []) hpa fun H' hH' _ => ⟨[], hH', Nat.zero_le _, Reps.nil⟩) SRep.non
      cases cc with
      | lst xs =>
        simp only [hc] at q1
        obtain ⟨_, vs, ho, _⟩ := h1.at_ n pa _ hpa hc
        exact go vs ho q1
      | lS xs =>
        simp only [hc] at q1
        obtain ⟨_, vs, ho, _⟩ := h1.at_ n pa _ hpa hc
        exact go vs ho q1
      | _ => simp only [hc] at q1; exact q1.elim
/-! ### a[lo:hi] -/
abbrev MO := Sl → Cs → R (Option Int)
def moNone : MO := fun _ c => .ok none c
def asI : S → Cs → R (Option Int)
  | .d (.int i), c => .ok (some i) c
  | _, _ => .bad
def moSome (A : M) : MO := fun δ c => (A δ c).bind asI
abbrev relO : Hp → List Addr → Option Int → Option Int → Prop := fun _ _ a b => b = a
def tDO (T : Tb) (W : WX) (m : MO) : TO := fun σ H Q => ∃ δ c G ρ, RelS T G ρ σ δ ∧ RelH T H c G ρ ∧ Post relO T W σ G ρ (m δ c) Q
theorem PO.imp {oe : Option Expr} {t t' : TO} (h : PO X oe t) (k : ∀ σ H Q, t' σ H Q → t σ H Q) : PO X oe t' := ⟨fun pins s σ H Q I q => h.run pins s σ H Q I (k σ H Q q)⟩
theorem do_none : PO X none (tDO T W moNone) := PO.imp po_none fun σ H Q ⟨δ, c, G, ρ, hs, hh, p⟩ => p none H G ρ (.refl _) (List.prefix_refl _) hh rfl
theorem do_some (ha : PE X a (tD T W A)) : PO X (some a) (tDO T W (moSome A)) := by
  refine PO.imp (po_some ha) fun σ H Q ⟨δ, c, G, ρ, hs, hh, p⟩ => ?_
  refine ⟨δ, c, G, ρ, hs, hh, (Post.bind (rel := SRep T) p).imp ?_⟩
  rintro v H1 ⟨s, c1, G1, ρ1, e1, p1, h1, r1, q1⟩
  unfold asI at q1
  split at q1
  · rename_i i
    exact ⟨i, SRep.int_inv r1, q1 _ H1 G1 ρ1 (.refl _) (List.prefix_refl _) h1 rfl⟩
  · exact q1.elim
def cutD {α : Type} (xs : List α) (lo hi : Option Int) : List α := (xs.drop (HT.sIx xs.length 0 lo)).take (HT.sIx xs.length xs.length hi - HT.sIx xs.length 0 lo)
def slD (x : D) (lo hi : Option Int) : Option D := match x with
  | .lst xs => some (.lst (cutD xs lo hi))
  | .scr ns => some (.lst (cutD (ns.map D.int) lo hi))
  | .tup xs => some (.tup (cutD xs lo hi))
  | .str z => if z.length ≤ sizeLine then some (.str (cutS z lo hi)) else none
  | _ => none
def slS (lo hi : Option Int) (s : S) (c : Cs) : R S := match deref s c with
  | some x => match slD x lo hi with
    | some y => .ok (.d y) c
    | none => .bad
  | none => .bad
def mSl (A : M) (lo hi : MO) : M := fun δ c => (A δ c).bind fun s c => (lo δ c).bind fun l c => (hi δ c).bind fun h c => slS l h s c
theorem Reps.drop {G : Hp} : ∀ {xs : List D} {vs : List V} (n : Nat), Reps T G xs vs → Reps T G (xs.drop n) (vs.drop n)
  | _, _, 0, r => r
  | [], _, n + 1, r => by cases r.nil_inv; simpa using Reps.nil
  | x :: xs, _, n + 1, r => by obtain ⟨v, vr, rfl, _, b⟩ := r.cons_inv; simpa using Reps.drop n b
theorem Reps.take {G : Hp} : ∀ {xs : List D} {vs : List V} (n : Nat), Reps T G xs vs → Reps T G (xs.take n) (vs.take n)
  | _, _, 0, r => by simpa using Reps.nil
  | [], _, n + 1, r => by cases r.nil_inv; simpa using Reps.nil
  | x :: xs, _, n + 1, r => by obtain ⟨v, vr, rfl, a, b⟩ := r.cons_inv; simpa using Reps.cons a (Reps.take n b)
theorem Reps.cut {G : Hp} {xs : List D} {vs : List V} (r : Reps T G xs vs) (lo hi : Option Int) : Reps T G (cutD xs lo hi) (cutV vs lo hi) := by
  unfold cutD cutV
  rw [r.length]
  exact (r.drop _).take _
theorem cutD_length {α : Type} (xs : List α) (lo hi : Option Int) : (cutD xs lo hi).length ≤ xs.length := by
  unfold cutD
  rw [List.length_take, List.length_drop]
  omega
end
end Dn

end
section
set_option maxHeartbeats 4000000
/-! Dn21: slices, a dict with one key, min of a list, is None. -/
namespace Dn
open PySem PySem.Spec PyProof.Rows L2
open PySem.SeqAt
section
variable {X : Cx} {T : Tb} {W : WX} {a b o e : Expr} {es : List Expr} {A B : M} {pos p p2 apos : Pos}
theorem dn_slice {lo hi : Option Expr} {L U : MO} (hT : X.K = T.K) (ha : PE X a (tD T W A)) (hl : PO X lo (tDO T W L)) (hu : PO X hi (tDO T W U)) : PE X (.Subscript a (.Slice lo hi none p2) pos) (tD T W (mSl A L U)) := by
  refine PE.imp (pe_slice (SlR.or sl_list (SlR.or sl_tupA sl_str)) ha hl hu) fun σ H Q ⟨δ, c, G, ρ, hs, hh, p⟩ => ?_
  refine ⟨δ, c, G, ρ, hs, hh, (Post.bind (rel := SRep T) p).imp ?_⟩
  rintro v H1 ⟨s, c1, G1, ρ1, e1, p1, h1, r1, q1⟩
  refine ⟨δ, c1, G1, ρ1, hs.mono e1 p1, h1, (Post.bind (rel := relO) q1).imp ?_⟩
  rintro l H2 ⟨l', c2, G2, ρ2, e2, p2, h2, r2, q2⟩
  have r2 : l = l' := r2
  subst r2
  refine ⟨δ, c2, G2, ρ2, (hs.mono e1 p1).mono e2 p2, h2, (Post.bind (rel := relO) q2).imp ?_⟩
  rintro u H3 ⟨u', c3, G3, ρ3, e3, p3, h3, r3, q3⟩
  have r3 : u = u' := r3
  subst r3
  have rs : SRep T G3 ρ3 s v := (r1.mono e2 p2).mono e3 p3
  unfold slS at q3
  cases hd : deref s c3 with
  | none => simp only [hd] at q3; exact q3.elim
  | some x =>
    simp only [hd] at q3
    have vx := deref_view h3 rs hd
    cases hy : slD x l u with
    | none => simp only [hy] at q3; exact q3.elim
    | some y =>
      simp only [hy] at q3
      have fin : ∀ {v' : V} {H' G' : Hp}, Step G3 H3 G' H' → Rep T G' y v' → Q v' H' := fun st r => q3 _ _ _ ρ3 st.g (List.prefix_refl _) (h3.step st) r
      cases x with
      | lst xs =>
        cases hy
        obtain ⟨q, vs, rfl, sq, hl, r⟩ := vx
        refine .inl ⟨q, vs, rfl, SqL.of sq, fun t ht => fin (Step.new h3.ex ht) (Rep.lst upd_same (Nat.le_trans (cutD_length _ _ _) hl) (Reps.mono (Step.new h3.ex ht).g _ _ (r.cut l u)))⟩
      | scr ns =>
        cases hy
        obtain ⟨q, rfl, sq, hl⟩ := vx
        refine .inl ⟨q, _, rfl, by rw [hT]; exact sq, fun t ht => fin (Step.new h3.ex ht) (Rep.lst upd_same (Nat.le_trans (cutD_length _ _ _) (by simpa using hl)) (Reps.mono (Step.new h3.ex ht).g _ _ ((Reps.map_int ns).cut l u)))⟩
      | tup xs =>
        cases hy
        obtain ⟨q, vs, rfl, sq, hl, r⟩ := View.tup_inv vx
        have e0 := r.length
        refine .inr (.inl ⟨q, vs, rfl, SqT.of (h3.ex _ _ sq), fun hw => ?_, fun hw t ht => fin (Step.new h3.ex ht) (Rep.tup upd_same (Nat.le_trans (cutD_length _ _ _) hl) (Reps.mono (Step.new h3.ex ht).g _ _ (r.cut l u)))⟩)
        have ew : cutD xs l u = xs := by
          unfold cutD
          rw [e0] at hw
          rw [hw.1, hw.2]
          simp
        rw [ew] at fin
        exact fin (Step.refl h3.ex) (Rep.tup sq hl r)
      | str z =>
        unfold slD at hy
        by_cases hz : z.length ≤ sizeLine
        · simp only [hz, if_true] at hy
          cases hy
          have := View.str_inv vx
          subst this
          exact .inr (.inr ⟨z, rfl, hz, fin (Step.refl h3.ex) Rep.str⟩)
        · simp only [hz, if_false] at hy; cases hy
      | _ => cases hy
/-! ### {'a': 1} -/
def mDct1 (k : Str) (i : Int) : M := fun _ c => .ok (.d (.dct [.inr k] [.int i])) c
theorem dn_dct1 {k : Str} {i : Int} {j j2 p1 p2} : PE X (.Dict [some (.Constant (.str k) j p1)] [.Constant (.int i) j2 p2] pos) (tD T W (mDct1 k i)) := by
  refine PE.imp (pe_disp (pps_cons pe_str pe_int pps_nil) rfl rfl (by simp) (by simp)) fun σ H Q ⟨δ, c, G, ρ, hs, hh, p⟩ => ?_
  intro q hq
  refine ⟨upd_same, [(.inr k, .int i)], rfl, by simp, ?_⟩
  have eh : upd (upd H q (.dK [])) q (.dK (mergeK [] [(Sum.inr k, V.int i)])) = upd H q (.dK [(Sum.inr k, V.int i)]) := by
    rw [upd_upd]
    rfl
  rw [eh]
  have st := Step.new (o := .dK [((Sum.inr k : Key), V.int i)]) hh.ex hq
  exact p _ _ _ ρ st.g (List.prefix_refl _) (hh.step st) (Rep.dct (ks := [Sum.inr k]) upd_same rfl (Reps.cons Rep.int Reps.nil))
/-! ### x is None -/
def isN (neg : Bool) : S → Cs → R S
  | .d .non, c => .ok (.d (.bl (!neg))) c
  | .d _, c => .ok (.d (.bl neg)) c
  | .c _, c => .ok (.d (.bl neg)) c
  | .x _ _, _ => .bad
def mIsN (neg : Bool) (A : M) : M := fun δ c => (A δ c).bind (isN neg)
theorem isN_ok {neg : Bool} {σ : L2.St} {G H : Hp} {ρ : List Addr} {s : S} {c : Cs} {v : V} {Q : VK} (r : SRep T G ρ s v) (hh : RelH T H c G ρ) (p : Post (SRep T) T W σ G ρ (isN neg s c) Q) : Q (.bl (if neg then !decide (v = .non) else decide (v = .non))) H := by
  have fin : ∀ b : Bool, Post (SRep T) T W σ G ρ (.ok (.d (.bl b)) c) Q → Q (.bl b) H := fun b q => q _ H G ρ (.refl _) (List.prefix_refl _) hh SRep.bl
  cases s with
  | x _ _ => exact p.elim
  | c n =>
    obtain ⟨q, _, rfl⟩ := r
    have := fin neg p
    cases neg <;> exact this
  | d x =>
    cases x with
    | non =>
      have := SRep.non_inv r
      subst this
      have := fin (!neg) p
      cases neg <;> exact this
    | bl b => have := SRep.bl_inv r; subst this; have := fin neg p; cases neg <;> exact this
    | int b => have := SRep.int_inv r; subst this; have := fin neg p; cases neg <;> exact this
    | str b => have := SRep.str_inv r; subst this; have := fin neg p; cases neg <;> exact this
    | lst _ => obtain ⟨q, _, rfl, _⟩ := Rep.lst_inv (show Rep T G _ _ from r); have := fin neg p; cases neg <;> exact this
    | tup _ => obtain ⟨q, _, rfl, _⟩ := Rep.tup_inv (show Rep T G _ _ from r); have := fin neg p; cases neg <;> exact this
    | obj _ _ => obtain ⟨q, _, _, rfl, _⟩ := Rep.obj_inv (show Rep T G _ _ from r); have := fin neg p; cases neg <;> exact this
    | scr _ => obtain ⟨q, rfl, _⟩ := Rep.scr_inv (show Rep T G _ _ from r); have := fin neg p; cases neg <;> exact this
    | dct _ _ => obtain ⟨q, _, rfl, _⟩ := Rep.dct_inv (show Rep T G _ _ from r); have := fin neg p; cases neg <;> exact this
theorem tD_isN {neg : Bool} {σ : L2.St} {H : Hp} {Q : VK} (h : tD T W (mIsN neg A) σ H Q) : tD T W A σ H (fun x H1 => Q (.bl (if neg then !decide (x = .non) else decide (x = .non))) H1) := by
  obtain ⟨δ, c, G, ρ, hs, hh, p⟩ := h
  refine ⟨δ, c, G, ρ, hs, hh, (Post.bind (rel := SRep T) p).imp ?_⟩
  rintro v H1 ⟨s, c1, G1, ρ1, e1, p1, h1, r1, q1⟩
  exact isN_ok r1 h1 q1
theorem dn_isN {j p1} (ha : PE X a (tD T W A)) : PE X (.Compare a [.Is] [.Constant .none j p1] pos) (tD T W (mIsN false A)) := PE.imp (pe_cmp (pc_isN ha)) fun _ _ _ h => tD_isN h
theorem dn_notN {j p1} (ha : PE X a (tD T W A)) : PE X (.Compare a [.IsNot] [.Constant .none j p1] pos) (tD T W (mIsN true A)) := PE.imp (pe_cmp (pc_notN ha)) fun _ _ _ h => tD_isN h
theorem tB_isN {neg : Bool} {σ : L2.St} {H : Hp} {Q : Bool → Hp → Prop} (h : tDT T W (mTB (mIsN neg A)) σ H Q) : tD T W A σ H (fun x H1 => ∃ d, V.bl (if neg then !decide (x = .non) else decide (x = .non)) = .bl d ∧ Q d H1) := by
  exact tD_isN (tDT_B h)
theorem dt_isN {j p1} (ha : PE X a (tD T W A)) : PT X (.Compare a [.Is] [.Constant .none j p1] pos) (tDT T W (mTB (mIsN false A))) := PT.imp (pt_cmp (pc_isN ha)) fun _ _ _ h => tB_isN h
theorem dt_notN {j p1} (ha : PE X a (tD T W A)) : PT X (.Compare a [.IsNot] [.Constant .none j p1] pos) (tDT T W (mTB (mIsN true A))) := PT.imp (pt_cmp (pc_notN ha)) fun _ _ _ h => tB_isN h
/-! ### min(xs), plain items -/
def minL : D → List D → D
  | b, [] => b
  | b, x :: xs => minL (if PySem.W.dataLt x.py b.py then x else b) xs
def minOk (xs : List D) : Bool := oks 20 xs && allAlike xs && xs.all fun x => match x with
  | .non => false
  | _ => true
def minLD : List D → Option D
  | [.lst (x :: xs)] => if minOk (x :: xs) = true then some (minL x xs) else none
  | _ => none
theorem minL_py : ∀ (b : D) (xs : List D), (minL b xs).py = PySem.W.minD b.py (xs.map D.py)
  | b, [] => rfl
  | b, x :: xs => by
    unfold minL
    rw [minL_py]
    unfold PySem.W.minD
    rw [List.map_cons, List.foldl_cons]
    congr 1
    by_cases h : PySem.W.dataLt x.py b.py = true
    · rw [if_pos h, if_pos h]
    · rw [if_neg h, if_neg h]
theorem minL_mem : ∀ (b : D) (xs : List D), minL b xs ∈ b :: xs
  | b, [] => by simp [minL]
  | b, x :: xs => by
    unfold minL
    have := minL_mem (if PySem.W.dataLt x.py b.py then x else b) xs
    by_cases h : PySem.W.dataLt x.py b.py = true
    · rw [if_pos h] at this ⊢; exact List.mem_cons_of_mem _ this
    · rw [if_neg h] at this ⊢
      simp only [List.mem_cons] at this ⊢
      rcases this with h | h
      · exact .inl h
      · exact .inr (.inr h)
mutual
theorem py_inj : ∀ (n : Nat) (x y : D), x.ok n = true → y.ok n = true → x.py = y.py → x = y
  | n, x, y, hx, hy, h => by
    cases x <;> cases y <;> first
      | rfl
      | (unfold D.ok at hx; cases hx; done)
      | (unfold D.ok at hy; cases hy; done)
      | (unfold D.py at h; cases h; done)
      | (unfold D.py at h; injection h with h; subst h; rfl)
      | (rename_i xs ys
         unfold D.py at h
         injection h with h
         unfold D.ok at hx hy
         simp only [Bool.and_eq_true] at hx hy
         rw [pys_inj (n - 1) xs ys hx.2 hy.2 h])
theorem pys_inj : ∀ (n : Nat) (xs ys : List D), oks n xs = true → oks n ys = true → pys xs = pys ys → xs = ys
  | n, [], [], _, _, _ => rfl
  | n, [], y :: ys, _, _, h => by unfold pys at h; cases h
  | n, x :: xs, [], _, _, h => by unfold pys at h; cases h
  | n, x :: xs, y :: ys, hx, hy, h => by
    unfold oks at hx hy
    simp only [Bool.and_eq_true] at hx hy
    unfold pys at h
    injection h with h1 h2
    rw [py_inj n x y hx.1 hy.1 h1, pys_inj n xs ys hx.2 hy.2 h2]
end
def rMinL (T : Tb) : List V → Hp → VK → Prop := fun vs H Q => ∃ G q us x xs, vs = [.ref q] ∧ Ex G H ∧ H q = some (.lst us) ∧ Reps T G (x :: xs) us ∧ minOk (x :: xs) = true ∧ ∀ u, Rep T G (minL x xs) u → Q u H
theorem oks_mem {n : Nat} {xs : List D} (h : oks n xs = true) {x : D} (hx : x ∈ xs) : x.ok n = true := by rw [oks_all] at h; exact List.all_eq_true.mp h x hx
theorem cr_minL (hT : X.K = T.K) (hc : X.calm = true) (hu : X.A.units + 64 < cLine) : CallR X (.builtin "min") (rMinL T) := by
  intro pins s σ H vs us Q I r h
  obtain ⟨G, q, ws, x, xs, rfl, eg, hq, rr, ok, k⟩ := h
  unfold minOk at ok
  simp only [Bool.and_eq_true] at ok
  obtain ⟨⟨hok, hal⟩, hnn⟩ := ok
  rw [Vals.ref1 r]
  have dp : DpAll X.K H ws (pys (x :: xs)) := by rw [hT]; exact DpAll.mono eg _ _ (Reps.dp 20 _ _ hok rr)
  obtain ⟨z1, its, k1, r1, g1⟩ := I.hok q _ hq
  obtain ⟨as, h4⟩ := Dp.readsAll I _ _ its dp r1
  rw [pys_map, List.map_cons] at h4
  have hdep := depth_pys 20 (x :: xs) hok
  rw [pys_map, List.map_cons] at hdep
  refine PySem.W.min_list_data (vs := its.toArray) (I.ok.hd hc) ⟨_, g1, rfl, _, rfl⟩ h4 ⟨fun a ha b hb => ?_, fun a ha => ?_⟩ (by omega) (fun i v h' tk bs hv rd hk => ?_)
  · rw [← List.map_cons (f := D.py)] at ha hb
    exact alike_ok hal a ha b hb
  · rw [← List.map_cons (f := D.py)] at ha
    obtain ⟨d, hd, rfl⟩ := List.mem_map.mp ha
    have := List.all_eq_true.mp hnn d hd
    have h2 := oks_mem hok hd
    cases d <;> first | (simp at this; done) | (unfold D.ok at h2; cases h2; done) | (unfold D.py; intro z; cases z)
  · have hv2 : its[i]? = some v := by simpa using hv
    obtain ⟨hi, ei⟩ := List.getElem?_eq_some_iff.mp hv2
    have hiw : i < ws.length := by rw [r1.length]; exact hi
    obtain ⟨d, hd, rd2⟩ := rr.get' (List.getElem?_eq_getElem hiw)
    obtain ⟨v2, hv3, rv⟩ := r1.get (List.getElem?_eq_getElem hiw)
    rw [hv2] at hv3
    cases hv3
    have dok : d.ok 20 = true := oks_mem hok (List.mem_of_getElem? hd)
    have ddp : Dp X.K H ws[i] d.py := by rw [hT]; exact Dp.mono eg _ _ (Rep.dp 20 _ _ dok rd2)
    obtain ⟨cs, q2⟩ := Dp.reads I _ _ _ ddp rv
    have e1 : (minL x xs).py = d.py := by
      rw [minL_py]
      exact (reads_det (fun b o hb _ => hk b o hb) q2 rd).1
    have e2 : minL x xs = d := py_inj 20 _ _ (oks_mem hok (minL_mem x xs)) dok e1
    rw [e2] at k
    exact ⟨ws[i], H, I.kept hk, rv, k _ rd2⟩
theorem fresh_minL : FreshN T minLD (rMinL T) := by
  intro G H x d v Q e vw h k
  unfold minLD at h
  split at h
  · rename_i x0 xs
    split at h
    · rename_i ok
      cases h
      obtain ⟨u, rfl, w⟩ := vw.one
      obtain ⟨q, us, rfl, sq, _, r⟩ := w
      exact ⟨G, q, us, x0, xs, rfl, e, sq, r, ok, fun u ru => k _ _ _ (Step.refl e) ru⟩
    · cases h
  · cases h
theorem dn_minL {B : MA} {k : Nat} (hT : X.K = T.K) (hc : X.calm = true) (hr : Room k X.A) (hg : Gl X "min") (hm : X.mg "min" = none) (ha : PA X (e :: es) (tDA T W B)) (he : starEach (e :: es) X.env = (false, eval e X.env) :: starEach es X.env := by rfl) (hpl : (backTo pos (starEach es X.env)).any (·.1) = false := by rfl) :
    PE X (.Call (.Name "min" p) (e :: es) [] pos) (tD T W (mBlt (liftN minLD) B)) := dn_callB (cr_minL hT hc hr.units) (primN fresh_minL) hg hm (by decide +kernel) ha (by decide) (by decide) he hpl
end
end Dn

end
section
set_option maxHeartbeats 4000000
/-! Dn22: lists that may still change are walked; lists and tuples that hold cells; leaving a def with them. -/
namespace Dn
open PySem PySem.Spec PyProof.Rows L2
section
variable {X : Cx} {T : Tb} {W : WX} {a b o e : Expr} {es : List Expr} {A B : M} {pos p p2 apos : Pos}
/-! ### a comprehension over a cell -/
def cloopC (n : Nat) (g : GT) (C : MT) (body : Sl → Cs → R Unit) (δ : Sl) : Nat → Nat → Cs → R Unit
  | 0, _, _ => .bad
  | f + 1, i, c => match c[n]? with
    | some (.lst xs) => match xs[i]? with
      | none => .ok () c
      | some d => match g d δ with
        | none => .bad
        | some δ1 => (C δ1 c).bindN fun k c => if k = true then (body δ1 c).bindN fun _ c => cloopC n g C body δ f (i + 1) c else cloopC n g C body δ f (i + 1) c
    | _ => .bad
theorem lc_loopC {n : Nat} {q : Addr} {f0 : Nat} {G1 : Hp} {ρm : List Addr} {g : GT} {C : MT} {body : Sl → Cs → R Unit} {δ : Sl} {σw : L2.St} {vs : List Nat} {H0 : Hp} {c0 : Cs} {Go : Hp} {ρo : List Addr} {σ : L2.St} {Q : VK} {kf : Unit → Cs → R S} {BODY : L2.St → Hp → (Hp → Prop) → Prop} {Qend : Hp → Prop}
    (hn : ρm[n]? = some q) (hs : RelS T G1 ρm σw δ) (hww : wipe σw vs = σw) (h0 : RelH T H0 c0 G1 ρm) (p0 : Post (SRep T) T W σ Go ρo ((cloopC n g C body δ f0 0 c0).bindN kf) Q)
    (hend : ∀ H c G ρ', Ex G1 G → ρm <+: ρ' → RelH T H c G ρ' → Post (SRep T) T W σ Go ρo (kf () c) Q → Qend H)
    (hbody : ∀ (δ1 : Sl) (σ2 : L2.St) (H3 : Hp) (c : Cs) (G : Hp) (ρ' : List Addr) (N : Hp → Prop) (f : Unit → Cs → R S), Ex G1 G → ρm <+: ρ' → RelS T G ρ' σ2 δ1 → RelH T H3 c G ρ' → Post (SRep T) T W σ Go ρo ((body δ1 c).bindN f) Q →
      (∀ H' c' G' ρ'', Ex G G' → ρ' <+: ρ'' → RelH T H' c' G' ρ'' → Post (SRep T) T W σ Go ρo (f () c') Q → N H') → BODY σ2 H3 N) :
    ∃ Wv : Nat → Nat → Hp → Prop, (∃ m, Wv 0 m H0) ∧ ∀ i m H, Wv i m H → ((Itl T.K q).stop i H ∧ Qend H) ∨ ((Itl T.K q).go i H ∧ ∃ Nx : Hp → Prop, (∀ H', Nx H' → ∃ m', m' < m ∧ Wv (i + 1) m' H') ∧ ∀ x H', (Itl T.K q).yld i H x H' →
      tGv T g vs x σw H' fun σ2 H2 => wipe σ2 vs = σw ∧ tDT T W0 C σ2 H2 fun b H3 => if b = true then BODY σ2 H3 Nx else Nx H3) := by
  refine ⟨fun i m H => ∃ c G ρ', Ex G1 G ∧ ρm <+: ρ' ∧ RelH T H c G ρ' ∧ Post (SRep T) T W σ Go ρo ((cloopC n g C body δ m i c).bindN kf) Q, ⟨f0, c0, G1, ρm, .refl _, List.prefix_refl _, h0, p0⟩, ?_⟩
  rintro i m H ⟨c, G, ρ', e1, q1, hh, p⟩
  cases m with
  | zero => exact p.elim
  | succ m =>
    unfold cloopC at p
    cases hc : c[n]? with
    | none => simp only [hc] at p; exact p.elim
    | some cc =>
      cases cc with
      | lst xs =>
        simp only [hc] at p
        obtain ⟨_, us, ho, hl, rr⟩ := hh.at_ n q _ (pre_get q1 hn) hc
        cases hx : xs[i]? with
        | none =>
          simp only [hx] at p
          refine .inl ⟨⟨us, SqL.of ho, ?_⟩, hend H c G ρ' e1 q1 hh p⟩
          rw [rr.length]
          exact List.getElem?_eq_none_iff.mp hx
        | some d =>
          simp only [hx] at p
          obtain ⟨u, hu, ru⟩ := rr.get hx
          refine .inr ⟨⟨us, u, SqL.of ho, hu⟩, fun H' => ∃ c G ρ', Ex G1 G ∧ ρm <+: ρ' ∧ RelH T H' c G ρ' ∧ Post (SRep T) T W σ Go ρo ((cloopC n g C body δ m (i + 1) c).bindN kf) Q, fun H' z => ⟨m, Nat.lt_succ_self m, z⟩, fun x H' y => ?_⟩
          obtain ⟨rfl, y⟩ := y
          have ex := y us (SqL.of ho)
          rw [hu] at ex
          cases ex
          cases hg : g d δ with
          | none => simp only [hg] at p; exact p.elim
          | some δ1 =>
            simp only [hg] at p
            rw [bindN_assoc] at p
            refine ⟨d, δ, G, ρ', δ1, hh.ex, ru, hs.mono e1 q1, hg, fun σ2 s2 w2 => ⟨w2.trans hww, ?_⟩⟩
            refine ⟨δ1, c, G, ρ', s2, hh, (Post.bindN (rel := relB) p).imp ?_⟩
            rintro v H3 ⟨k, c3, G4, ρ4, e4, p4, h4, r4, q4⟩
            have r4 : v = k := r4
            subst r4
            cases v with
            | false => exact ⟨c3, G4, ρ4, e1.trans e4, q1.trans p4, h4, q4⟩
            | true =>
              have q4 : Post (SRep T) T W σ Go ρo (((body δ1 c3).bindN fun _ c => cloopC n g C body δ m (i + 1) c).bindN kf) Q := q4
              rw [bindN_assoc] at q4
              exact hbody δ1 σ2 H3 c3 G4 ρ4 _ (fun _ c => (cloopC n g C body δ m (i + 1) c).bindN kf) (e1.trans e4) (q1.trans p4) (s2.mono e4 p4) h4 q4 fun H' c' G' ρ'' e' p' h' q' => ⟨c', G', ρ'', (e1.trans e4).trans e', (q1.trans p4).trans p', h', q'⟩
      | _ => simp only [hc] at p; exact p.elim
def compC (fin : Nat → Cs → R S) (g : GT) (C : MT) (A : M) (vs : List Nat) (δ : Sl) (s : S) (c : Cs) : R S := match s with
  | .c n => match c[n]? with
    | some (.lst xs) => (cloopC n g C (fun δ1 c1 => (A δ1 c1).bindN (push c.length)) (wipeD δ vs) (xs.length + 1) 0 (c ++ [.lst []])).bindN fun _ c2 => fin c.length c2
    | _ => .bad
  | _ => .bad
def mCompC (L : M) (g : GT) (C : MT) (A : M) (vs : List Nat) : M := fun δ c => (L δ c).bind (compC finC g C A vs δ)
section
variable {elt tg iter : Expr} {ifs : List Expr} {scope : Scope} {own : List (Str × Nat)} {L : M} {g : GT} {C : MT}
theorem tD_compC {fin : Nat → Cs → R S} (hfin : ∀ {D0 : Addr} {c : Cs} {G H : Hp} {ρ : List Addr} {Go : Hp} {ρo : List Addr} {σ : L2.St} {Q : VK}, Ex Go G → ρo ++ [D0] <+: ρ → RelH T H c G ρ → Post (SRep T) T W σ Go ρo (fin ρo.length c) Q → Q (.ref D0) H)
    (hT : X.K = T.K) {vs : List Nat} {σ : L2.St} {H : Hp} {Q : VK} (h : tD T W (fun δ c => (L δ c).bind (compC fin g C A vs δ)) σ H Q) : tLc (iList X.K (tD T W L)) (tGv T g vs) (tDT T W0 C) (tD T W0 A) vs σ H Q := by
  obtain ⟨δ, c, G, ρ, hs, hh, p⟩ := h
  refine ⟨δ, c, G, ρ, hs, hh, (Post.bind (rel := SRep T) p).imp ?_⟩
  rintro v H1 ⟨s, c1, G1, ρ1, e1, p1, h1, r1, q1⟩
  cases s with
  | d _ => exact q1.elim
  | x _ _ => exact q1.elim
  | c n =>
    obtain ⟨q, hq, rfl⟩ := r1
    unfold compC at q1
    cases hc : c1[n]? with
    | none => simp only [hc] at q1; exact q1.elim
    | some cc =>
      cases cc with
      | lst xs =>
        simp only [hc] at q1
        obtain ⟨_, us, ho, hl, rr⟩ := h1.at_ n q _ hq hc
        refine ⟨q, rfl, ⟨us, SqL.of ho⟩, fun D0 hD => ?_⟩
        rw [hT]
        have h2 := h1.newCell (x := .lst []) hD (fun H' hH' => ⟨[], hH', Nat.zero_le _, Reps.nil⟩)
        have s2 := ((hs.mono e1 p1).mono (.refl _) (List.prefix_append ρ1 [D0])).wipe vs
        refine lc_loopC (pre_get (List.prefix_append ρ1 [D0]) hq) s2 wipe_wipe h2 q1 ?_ ?_
        · intro H c G ρ' e q hh p
          rw [← h1.len] at p
          exact hfin e q hh p
        · intro δ1 σ2 H3 c3 G3 ρ3 N f e3 p3 s3 h3 q3 kk
          rw [bindN_assoc] at q3
          refine ⟨δ1, c3, G3, ρ3, s3, h3, (Post.bindN (rel := SRep T) q3).imp ?_⟩
          rintro y H4 ⟨s, c4, G4, ρ4, e4, p4, h4, r4, q4⟩
          exact push_ok h4 (pre_get (p3.trans p4) (by rw [← h1.len]; simp)) r4 q4 fun H' c' G' ρ'' e' p' h' q' => kk H' c' G' ρ'' (e4.trans e') (p4.trans p') h' q'
      | _ => simp only [hc] at q1; exact q1.elim
theorem dn_compC (hT : X.K = T.K) (hc : X.calm = true) (hN : X.N.Nodup) (hi : PE X iter (tD T W L)) (ok : BlkOk X.N X.env.scope scope own)
    (hg : ∀ (s : Shared) (H : Hp) (C : Addr) (cl : List (Str × Addr)) (fp : List Addr), PG (X.blk s H scope (compEnvC scope cl C X.env) fp) tg (tGv T g (own.map (·.2)))) (ht : ∀ (s : Shared) (H : Hp) (C0 : Addr) (cl : List (Str × Addr)) (fp : List Addr), PTs (X.blk s H scope (compEnvC scope cl C0 X.env) fp) ifs (tDT T W0 C))
    (he : ∀ (s : Shared) (H : Hp) (C : Addr) (cl : List (Str × Addr)) (fp : List Addr), PE (X.blk s H scope (compEnvC scope cl C X.env) fp) elt (tD T W0 A)) (hs : ∀ x, foldedSetIterable iter X.env x = pure x := by intro _; rfl) :
    PE X (.ListComp elt [⟨tg, iter, ifs, 0⟩] scope pos) (tD T W (mCompC L g C A (own.map (·.2)))) :=
  PE.imp (pe_lc hc hN (pi_list hi) ok hg ht he hs) fun _ _ _ h => tD_compC (fin := finC) finC_ok hT h
end
/-! ### for over a cell -/
def loopC (n : Nat) (g : GT) (Bd : MS) : Nat → Nat → MS
  | 0, _, _, _ => .bad
  | f + 1, i, δ, c => match c[n]? with
    | some (.lst xs) => match xs[i]? with
      | none => .nx δ c
      | some d => match g d δ with
        | none => .bad
        | some δ => match Bd δ c with
          | .nx δ c => loopC n g Bd f (i + 1) δ c
          | .ct δ c => loopC n g Bd f (i + 1) δ c
          | .bk δ c => .nx δ c
          | r => r
    | _ => .bad
def forC (g : GT) (Bd : MS) (δ : Sl) (s : S) (c : Cs) : RS := match s with
  | .c n => match c[n]? with
    | some (.lst xs) => loopC n g Bd (xs.length + 1) 0 δ c
    | _ => .bad
  | _ => .bad
def sForC (L : M) (g : GT) (Bd : MS) : MS := fun δ c => (L δ c).andS δ (forC g Bd δ)
theorem ds_forC {tg iter : Expr} {body : List Stmt} {L : M} {g : GT} {m : MS} (hT : X.K = T.K) (hp : PassesOwn (model X.prog X.w) X.A X.env X.xe) (hc : X.calm = true) (hi : PE X iter (tD T W L)) (hg : PG X tg (tG T g)) (hb : PSs X body (tS T W m))
    (hs : ∀ x, foldedSetIterable iter X.env x = pure x := by intro _; rfl) : PS X (.For tg iter body [] pos) (tS T W (sForC L g m)) := by
  refine PS.imp (ps_for hp hc (pi_list hi) hg hb hs) fun E σ H ⟨δ, c, G, ρ, hs, hh, p⟩ => ?_
  refine ⟨δ, c, G, ρ, hs, hh, (PostS.andS (rel := SRep T) hs p).imp ?_⟩
  rintro v H1 ⟨s, c1, G1, ρ1, e1, p1, h1, r1, q1⟩
  cases s with
  | d _ => exact q1.elim
  | x _ _ => exact q1.elim
  | c n =>
    obtain ⟨q, hq, rfl⟩ := r1
    unfold forC at q1
    cases hcc : c1[n]? with
    | none => simp only [hcc] at q1; exact q1.elim
    | some cc =>
      cases cc with
      | lst xs0 =>
        simp only [hcc] at q1
        obtain ⟨_, us, ho, hl, rr⟩ := h1.at_ n q _ hq hcc
        refine ⟨q, rfl, ⟨us, SqL.of ho⟩, ?_⟩
        rw [hT]
        refine ⟨fun i m' σ H => ∃ δ c G2 ρ2, Ex G1 G2 ∧ ρ1 <+: ρ2 ∧ RelS T G2 ρ2 σ δ ∧ RelH T H c G2 ρ2 ∧ PostS T W G2 ρ2 (loopC n g m m' i δ c) E, ⟨xs0.length + 1, δ, c1, G1, ρ1, .refl _, List.prefix_refl _, hs.mono e1 p1, h1, q1⟩, ?_⟩
        rintro i m' σ H ⟨δ, c, G2, ρ2, e2, pr2, s2, h2, q2⟩
        cases m' with
        | zero => exact q2.elim
        | succ m' =>
          unfold loopC at q2
          cases hc2 : c[n]? with
          | none => simp only [hc2] at q2; exact q2.elim
          | some cc =>
            cases cc with
            | lst xs =>
              simp only [hc2] at q2
              obtain ⟨_, us, ho, hl, rr⟩ := h2.at_ n q _ (pre_get pr2 hq) hc2
              cases hx : xs[i]? with
              | none =>
                simp only [hx] at q2
                exact .inl ⟨⟨us, SqL.of ho, by rw [rr.length]; exact List.getElem?_eq_none_iff.mp hx⟩, q2 σ H G2 ρ2 (.refl _) (List.prefix_refl _) s2 h2⟩
              | some d =>
                simp only [hx] at q2
                obtain ⟨u, hu, ru⟩ := rr.get hx
                refine .inr ⟨⟨us, u, SqL.of ho, hu⟩, fun σ' H' => ∃ δ c G2 ρ2, Ex G1 G2 ∧ ρ1 <+: ρ2 ∧ RelS T G2 ρ2 σ' δ ∧ RelH T H' c G2 ρ2 ∧ PostS T W G2 ρ2 (loopC n g m m' (i + 1) δ c) E, fun σ' H' z => ⟨m', Nat.lt_succ_self m', z⟩, fun x H' y => ?_⟩
                obtain ⟨rfl, y⟩ := y
                have ex := y us (SqL.of ho)
                rw [hu] at ex
                cases ex
                cases hg : g d δ with
                | none => simp only [hg] at q2; exact q2.elim
                | some δ1 =>
                  simp only [hg] at q2
                  refine ⟨d, δ, G2, ρ2, δ1, h2.ex, ru, s2, hg, fun σ' s' => ?_⟩
                  refine ⟨δ1, c, G2, ρ2, s', h2, ?_⟩
                  cases hm : m δ1 c with
                  | nx δ3 c3 =>
                    simp only [hm] at q2
                    exact fun σ4 H4 G4 ρ4 e4 p4 s4 h4 => ⟨δ3, c3, G4, ρ4, e2.trans e4, pr2.trans p4, s4, h4, q2.mono e4 p4⟩
                  | ct δ3 c3 =>
                    simp only [hm] at q2
                    exact fun σ4 H4 G4 ρ4 e4 p4 s4 h4 => ⟨δ3, c3, G4, ρ4, e2.trans e4, pr2.trans p4, s4, h4, q2.mono e4 p4⟩
                  | bk δ3 c3 => simp only [hm] at q2; exact q2
                  | rt s3 c3 => simp only [hm] at q2; exact q2
                  | ex k ys δ3 c3 => simp only [hm] at q2; exact q2
                  | bad => simp only [hm] at q2; exact q2
            | _ => simp only [hc2] at q2; exact q2.elim
      | _ => simp only [hcc] at q1; exact q1.elim
end
end Dn

end
section
set_option maxHeartbeats 4000000
/-! Dn23: tuples that hold cells; leaving a def with its cells kept, or with all of them turned into data. -/
namespace Dn
open PySem PySem.Spec PyProof.Rows L2
section
variable {X : Cx} {T : Tb} {W : WX} {a b o e : Expr} {es : List Expr} {A B : M} {pos p p2 apos : Pos}
/-! ### a tuple with cells -/
def noXs : List S → Bool
  | [] => true
  | .x _ _ :: _ => false
  | _ :: r => noXs r
theorem noXs_reps {G : Hp} {ρ : List Addr} : ∀ {ss : List S} {vs : List V}, noXs ss = true → SReps T G ρ ss vs → CReps T G ρ ss vs
  | [], _, _, h => by cases h; exact .nil
  | .d _ :: r, _, n, h => by cases h with | cons a b => exact .cons a (noXs_reps n b)
  | .c _ :: r, _, n, h => by cases h with | cons a b => exact .cons a (noXs_reps n b)
  | .x _ _ :: r, _, n, h => by cases n
def mkTupC (ss : List S) (c : Cs) : R S := if noXs ss = true ∧ ss.length ≤ sizeLine then .ok (.c c.length) (c ++ [.tS ss]) else .bad
def mTupC (B : MA) : M := fun δ c => (B δ c).bind mkTupC
theorem dn_tupC {B : MA} {x1} (h : PA X es (tDA T W B)) : PE X (.Tuple es x1 pos) (tD T W (mTupC B)) := by
  refine PE.imp (pe_tup h) fun σ H Q ⟨δ, c, G, ρ, hs, hh, p⟩ => ?_
  refine ⟨δ, c, G, ρ, hs, hh, (Post.bind (rel := SReps T) p).imp ?_⟩
  rintro vs H1 ⟨ss, c1, G1, ρ1, e1, p1, h1, r1, q1⟩
  unfold mkTupC at q1
  by_cases hk : noXs ss = true ∧ ss.length ≤ sizeLine
  · rw [if_pos hk] at q1
    refine ⟨by rw [r1.length]; exact hk.2, fun t ht => ?_⟩
    have h2 := h1.newCell (x := .tS ss) (ob := .tup vs) ht (fun H' hH' => ⟨vs, hH', hk.2, noXs_reps hk.1 r1⟩)
    exact q1 _ _ G1 (ρ1 ++ [t]) (.refl _) (List.prefix_append _ _) h2 ⟨t, by rw [← h1.len]; simp, rfl⟩
  · rw [if_neg hk] at q1; exact q1.elim
/-! ### xs[i] where xs may hold cells -/
def ixS (s t : S) (c : Cs) : R S := match s, t with
  | .c n, .d (.int i) => match c[n]? with
    | some (.tS ss) => match L2.atI ss i with
      | some u => .ok u c
      | none => .bad
    | some (.lS ss) => match L2.atI ss i with
      | some u => .ok u c
      | none => .bad
    | _ => lift2 ixD s t c
  | _, _ => lift2 ixD s t c
theorem CReps.atI {G : Hp} {ρ : List Addr} {ss : List S} {vs : List V} {i : Int} {u : S} (r : CReps T G ρ ss vs) (h : L2.atI ss i = some u) : ∃ v, L2.atI vs i = some v ∧ CRep T G ρ u v := by
  have hl := r.length
  have aux : ∀ {ss : List S} {vs : List V}, CReps T G ρ ss vs → ∀ {j : Nat} {u : S}, ss[j]? = some u → ∃ v, vs[j]? = some v ∧ CRep T G ρ u v := by
    intro ss vs r
    induction r with
    | nil => intro j u e; simp at e
    | cons a _ ih =>
      intro j u e
      cases j with
      | zero => simp at e; subst e; exact ⟨_, rfl, a⟩
      | succ j => simpa using ih (by simpa using e)
  unfold L2.atI at h ⊢
  rw [hl]
  cases hj : ixN ss.length i with
  | none => rw [hj] at h; cases h
  | some j => rw [hj] at h; exact aux r h
theorem prim_ixS : Prim2 T ixS (rIx T.K) := by
  intro W σ G ρ H c s t v u Q hh rs rt p
  unfold ixS at p
  have old : Post (SRep T) T W σ G ρ (lift2 ixD s t c) Q → rIx T.K v u H Q := fun p => prim2 fresh_ix W σ G ρ H c s t v u Q hh rs rt p
  split at p
  · rename_i n i
    have hi := SRep.int_inv rt
    subst hi
    cases hc : c[n]? with
    | none => simp only [hc] at p; exact old p
    | some cc =>
      obtain ⟨q, hq, rfl⟩ := id rs
      cases cc with
      | tS ss =>
        simp only [hc] at p
        cases ha : L2.atI ss i with
        | none => simp only [ha] at p; exact p.elim
        | some x =>
          simp only [ha] at p
          obtain ⟨_, vs, ho, hl, rr⟩ := hh.at_ n q _ hq hc
          obtain ⟨w, hw, rw'⟩ := rr.atI ha
          exact .inr (.inl ⟨q, vs, i, w, rfl, rfl, SqT.of ho, hw, p _ H G ρ (.refl _) (List.prefix_refl _) hh (rw'.srep.mono (.refl _) (List.take_prefix _ _))⟩)
      | lS ss =>
        simp only [hc] at p
        cases ha : L2.atI ss i with
        | none => simp only [ha] at p; exact p.elim
        | some x =>
          simp only [ha] at p
          obtain ⟨_, vs, ho, hl, rr⟩ := hh.at_ n q _ hq hc
          obtain ⟨w, hw, rw'⟩ := rr.atI ha
          exact .inl ⟨q, vs, i, w, rfl, rfl, SqL.of ho, hw, p _ H G ρ (.refl _) (List.prefix_refl _) hh (rw'.srep.mono (.refl _) (List.take_prefix _ _))⟩
      | lst _ => simp only [hc] at p; exact old p
      | dct _ => simp only [hc] at p; exact old p
      | obj _ _ => simp only [hc] at p; exact old p
  · exact old p
theorem dn_ixS (hT : X.K = T.K) (ha : PE X a (tD T W A)) (hb : PE X b (tD T W B)) (hs : PlainIx b := by exact fun _ _ => rfl) : PE X (.Subscript a b pos) (tD T W (mBin ixS A B)) :=
  PE.imp (pe_ix (r := rIx T.K) (by rw [← hT]; exact ix_seq) ha hb hs) fun _ _ _ h => tD_bin prim_ixS h
end
/-! ### leaving a def: all cells are kept -/
def exitA (n0 : Nat) : RS → R S
  | .nx _ c => .ok (.d .non) c
  | .rt (.x _ _) _ => .bad
  | .rt s c => .ok s c
  | .ex k xs _ c => .ex k xs (c.take n0)
  | _ => .bad
def fnA (np n : Nat) (body : MS) : List S → Cs → R S := fun ss c => if ss.length = np then exitA c.length (body (ss.map some ++ List.replicate (n - np) none) c) else .bad
/-! ### .. or turned into data -/
def frz (n0 : Nat) (c : Cs) : Nat → S → Option D
  | _, .d x => some x
  | _, .x _ _ => none
  | 0, .c _ => none
  | f + 1, .c k => if k < n0 then none else match c[k]? with
    | some (.lst xs) => some (.lst xs)
    | some (.lS ss) => (ss.mapM (frz n0 c f)).map .lst
    | some (.tS ss) => (ss.mapM (frz n0 c f)).map .tup
    | _ => none
def exitF (n0 : Nat) : RS → R S
  | .nx _ c => .ok (.d .non) (c.take n0)
  | .rt s c => match frz n0 c 8 s with
    | some d => .ok (.d d) (c.take n0)
    | none => .bad
  | .ex k xs _ c => .ex k xs (c.take n0)
  | _ => .bad
def fnF (np n : Nat) (body : MS) : List S → Cs → R S := fun ss c => if ss.length = np then exitF c.length (body (ss.map some ++ List.replicate (n - np) none) c) else .bad
section
variable {T : Tb} {G G' H H' : Hp} {ρ ρ' : List Addr} {c c' : Cs} {σ : L2.St} {δ : Sl} {Q : VK} {E : XK}
theorem exitA_ok {r : RS} (h : PostF T G ρ (exitA ρ.length r) Q E) : PostS T (fun cls d _ H => E cls d H) G ρ r { nx := fun _ H' => Q .non H', rt := Q } := by
  cases r with
  | nx δ c => exact fun σ' H' G' ρ' e p rs rh => h .non H' G' ρ' e p rh SRep.non
  | bk δ c => exact False.elim h
  | ct δ c => exact False.elim h
  | bad => exact h
  | ex k xs δ c => exact fun d σ' H' G' ρ' e p rs rh x => h d H' G' e (rh.take p) x
  | rt s c =>
    cases s with
    | x _ _ => exact False.elim h
    | d x => exact fun v H' G' ρ' e p rs rh => h v H' G' ρ' e p rh rs
    | c k => exact fun v H' G' ρ' e p rs rh => h v H' G' ρ' e p rh rs
open Classical in
noncomputable def thaw (G H : Hp) (own : List Addr) : Hp := fun p => if p ∈ own then H p else G p
theorem RelH.thaw (r : RelH T H c G ρ') (pr : ρ <+: ρ') : Ex G (Dn.thaw G H (ρ'.drop ρ.length)) ∧ RelH T H (c.take ρ.length) (Dn.thaw G H (ρ'.drop ρ.length)) ρ := by
  have gn : ∀ p ∈ ρ'.drop ρ.length, G p = Option.none := fun p hp => by
    obtain ⟨i, hi, e⟩ := List.getElem_of_mem (List.mem_of_mem_drop hp)
    have hic : i < c.length := by rw [← r.len]; exact hi
    exact (r.at_ i p c[i] (by rw [List.getElem?_eq_getElem hi, e]) (List.getElem?_eq_getElem hic)).1
  have e : Ex G (Dn.thaw G H (ρ'.drop ρ.length)) := fun a o h => by
    unfold Dn.thaw
    rw [if_neg (fun hm => by rw [gn a hm] at h; cases h)]
    exact h
  have r1 := r.take pr
  refine ⟨e, ⟨fun a u q => ?_, r1.len, r1.nd, fun i q x a b => ?_⟩⟩
  · unfold Dn.thaw at q
    split at q
    · exact q
    · exact r.ex a u q
  · obtain ⟨g, k1⟩ := r1.at_ i q x a b
    have hi : i < ρ.length := (List.getElem?_eq_some_iff.mp a).1
    have ne : q ∉ ρ'.drop ρ.length := fun hm => by
      obtain ⟨t, rfl⟩ := pr
      rw [List.drop_left] at hm
      have nd := r.nd
      rw [List.nodup_append] at nd
      exact nd.2.2 q (List.mem_of_getElem? a) q hm rfl
    refine ⟨by unfold Dn.thaw; rw [if_neg ne]; exact g, k1.keep e rfl (List.prefix_refl _)⟩
theorem thaw_at {k : Nat} {p : Addr} (hk : ¬ k < ρ.length) (hp : ρ'[k]? = some p) : Dn.thaw G H (ρ'.drop ρ.length) p = H p := by
  unfold Dn.thaw
  rw [if_pos]
  obtain ⟨h1, e1⟩ := List.getElem?_eq_some_iff.mp hp
  rw [List.mem_iff_getElem]
  exact ⟨k - ρ.length, by rw [List.length_drop]; omega, by rw [List.getElem_drop, ← e1]; congr 1; omega⟩
theorem frz_ok (r : RelH T H c G ρ') (pr : ρ <+: ρ') : ∀ (f : Nat) (s : S) (v : V) (d : D), frz ρ.length c f s = some d → SRep T G ρ' s v → Rep T (Dn.thaw G H (ρ'.drop ρ.length)) d v
  | f, .d x, v, d, e, rs => by
    have : x = d := by cases f <;> (unfold frz at e; cases e; rfl)
    subst this
    exact Rep.mono (r.thaw pr).1 _ _ rs
  | f, .x _ _, v, d, e, rs => by cases f <;> (unfold frz at e; cases e)
  | 0, .c k, v, d, e, rs => by unfold frz at e; cases e
  | f + 1, .c k, v, d, e, rs => by
    obtain ⟨p, hp, rfl⟩ := rs
    unfold frz at e
    split at e
    · cases e
    · rename_i hk
      have ht := thaw_at (G := G) (H := H) hk hp
      cases hc : c[k]? with
      | none => simp only [hc] at e; cases e
      | some cc =>
        obtain ⟨g, ko⟩ := r.at_ k p cc hp hc
        have go : ∀ {ss : List S} {vs : List V} {ds : List D}, CReps T G (ρ'.take k) ss vs → ss.mapM (frz ρ.length c f) = some ds → Reps T (Dn.thaw G H (ρ'.drop ρ.length)) ds vs ∧ ds.length = ss.length := by
          intro ss vs ds rr
          induction rr generalizing ds with
          | nil => intro em; simp at em; subst em; exact ⟨Reps.nil, rfl⟩
          | @cons s ss v vs a _ ih =>
            intro em
            rw [List.mapM_cons] at em
            cases e1 : frz ρ.length c f s with
            | none => rw [e1] at em; cases em
            | some x =>
              rw [e1] at em
              cases e2 : ss.mapM (frz ρ.length c f) with
              | none => rw [e2] at em; cases em
              | some xs =>
                rw [e2] at em
                cases em
                obtain ⟨i1, i2⟩ := ih e2
                exact ⟨Reps.cons (frz_ok r pr f s v x e1 (a.srep.mono (.refl _) (List.take_prefix _ _))) i1, by simp [i2]⟩
        cases cc with
        | lst xs =>
          simp only [hc] at e
          cases e
          obtain ⟨vs, ho, hl, rr⟩ := ko
          exact Rep.lst (by rw [ht]; exact ho) hl (Reps.mono (r.thaw pr).1 _ _ rr)
        | lS ss =>
          simp only [hc] at e
          obtain ⟨vs, ho, hl, rr⟩ := ko
          cases em : ss.mapM (frz ρ.length c f) with
          | none => rw [em] at e; cases e
          | some ds =>
            rw [em] at e
            cases e
            obtain ⟨i1, i2⟩ := go rr em
            exact Rep.lst (by rw [ht]; exact ho) (by rw [i2]; exact hl) i1
        | tS ss =>
          simp only [hc] at e
          obtain ⟨vs, ho, hl, rr⟩ := ko
          cases em : ss.mapM (frz ρ.length c f) with
          | none => rw [em] at e; cases e
          | some ds =>
            rw [em] at e
            cases e
            obtain ⟨i1, i2⟩ := go rr em
            exact Rep.tup (by rw [ht]; exact ho) (by rw [i2]; exact hl) i1
        | dct _ => simp only [hc] at e; cases e
        | obj _ _ => simp only [hc] at e; cases e
theorem exitF_ok {r : RS} (h : PostF T G ρ (exitF ρ.length r) Q E) : PostS T (fun cls d _ H => E cls d H) G ρ r { nx := fun _ H' => Q .non H', rt := Q } := by
  cases r with
  | nx δ c => exact fun σ' H' G' ρ' e p rs rh => h .non H' G' ρ e (List.prefix_refl _) (rh.take p) SRep.non
  | bk δ c => exact False.elim h
  | ct δ c => exact False.elim h
  | bad => exact h
  | ex k xs δ c => exact fun d σ' H' G' ρ' e p rs rh x => h d H' G' e (rh.take p) x
  | rt s c =>
    unfold exitF at h
    cases hf : frz ρ.length c 8 s with
    | none => simp only [hf] at h; exact h.elim
    | some d =>
      simp only [hf] at h
      intro v H' G' ρ' e p rs rh
      obtain ⟨e2, r2⟩ := rh.thaw p
      exact h v H' _ ρ (e.trans e2) (List.prefix_refl _) r2 (frz_ok rh p 8 s v d hf rs)
end
section
variable {P : Program} {w : World} {K : PySem.W.Frag} {mg : Str → Option Value} {base : Heap} {T : Tb} {k : Nat}
/-- how a def may be left -/
structure ExitOk (T : Tb) (ext : Nat → RS → R S) : Prop where
  ok : ∀ {G : Hp} {ρ : List Addr} {r : RS} {Q : VK} {E : XK}, PostF T G ρ (ext ρ.length r) Q E → PostS T (fun cls d _ H => E cls d H) G ρ r { nx := fun _ H' => Q .non H', rt := Q }
def fnE (ext : Nat → RS → R S) (np n : Nat) (body : MS) : List S → Cs → R S := fun ss c => if ss.length = np then ext c.length (body (ss.map some ++ List.replicate (n - np) none) c) else .bad
theorem exA : ExitOk T exitA := ⟨exitA_ok⟩
theorem exF : ExitOk T exitF := ⟨exitF_ok⟩
theorem fn_okE {ext : Nat → RS → R S} (X : ExitOk T ext) {x qual : Str} {st : Stmt} {f : Addr} {fd : FuncData} {N ps : List Str} {body : MS} (F : Fun K x qual st f fd) (S : FnScope N ps (defScope st))
    (hbody : ∀ (f : Addr) (cdv : Value) (A : Around) (outer : List Env) (s : Shared) (H : Hp) (E : XK), Room k (A.deeper (envOfC qual (defScope st) s.heap.objs.size f cdv)) → Takes (cxOf (L2.CX P w) P w K mg base N qual (defScope st) f cdv A outer s H E) (fun cls d _ H => E cls d H) →
      PSs (cxOf (L2.CX P w) P w K mg base N qual (defScope st) f cdv A outer s H E) (defBody st) (tS T (fun cls d _ H => E cls d H) body)) : FnOk P w K mg base (L2.CX P w) (k + 1) f fd ps (spD T (fnE ext ps.length N.length body)) := by
  refine F.okX S ?_ ?_
  · rintro vs H Q E ⟨ss, c, G, ρ, rs, rh, p⟩
    rw [rs.length]
    unfold fnE at p
    by_cases h : ss.length = ps.length
    · exact h
    · rw [if_neg h] at p; exact p.elim
  · rintro cdv A outer s H vs Q E hr ⟨ss, c, G, ρ, rs, rh, p⟩
    refine ⟨_, hbody f cdv A outer s H E hr cx_takes, ?_⟩
    unfold fnE at p
    by_cases h : ss.length = ps.length
    · rw [if_pos h] at p
      refine ⟨_, c, G, ρ, rs.start h, rh, ?_⟩
      rw [← rh.len] at p
      exact X.ok p
    · rw [if_neg h] at p; exact p.elim
theorem fn_atE {ext : Nat → RS → R S} (X : ExitOk T ext) {x : Str} {st : Stmt} {N ps : List Str} {body : MS} (D : DefAt K mg x st ps) (S : FnScope N ps (defScope st))
    (hbody : ∀ (f : Addr) (cdv : Value) (A : Around) (outer : List Env) (s : Shared) (H : Hp) (E : XK), Room k (A.deeper (envOfC x (defScope st) s.heap.objs.size f cdv)) → Takes (cxOf (L2.CX P w) P w K mg base N x (defScope st) f cdv A outer s H E) (fun cls d _ H => E cls d H) →
      PSs (cxOf (L2.CX P w) P w K mg base N x (defScope st) f cdv A outer s H E) (defBody st) (tS T (fun cls d _ H => E cls d H) body)) : FnAt P w K mg base T x (k + 1) (fnE ext ps.length N.length body) := by
  obtain ⟨f, fd, F, hm, hk, hb⟩ := D
  exact ⟨f, fd, ps, fn_okE X F S hbody, hm, hk, hb⟩
end
end Dn

end
section
set_option maxHeartbeats 4000000
/-! Dn24: defaults, properties, gcd, which class is which. -/
namespace Dn
open PySem PySem.Spec PyProof.Rows L2
section
variable {X : Cx} {T : Tb} {W : WX} {a b o e : Expr} {es : List Expr} {A B : M} {pos p p2 apos : Pos} {fn : List S → Cs → R S} {k : Nat}
/-! ### C(e, ..), the last parameters by their defaults -/
theorem run_makeD {CX : CXT} {f C : Addr} {fd : FuncData} {ps : List Str} {sp : Sp} {E : L2.St → XK} {pins : List (Addr × Obj)} {σ : L2.St} {H : Hp} {s : Shared} {Q : VK} {us ds : List Value} {vs dvs : List V} (M : Mk X.K C f) (F : FnOk X.prog X.w X.K X.mg X.base CX k f fd ps sp) (hr : Room (k + 1) X.A) (hb : Binds X.K fd ps ds) (hd : Vals dvs ds)
    (hx : PassesAt CX X σ (E σ)) (I : Inv X pins σ H s) (r : Vals vs us)
    (h : ∀ x dx, H x = none → H dx = none → dx ≠ x → sp (.ref x :: (vs ++ dvs)) (upd (upd H dx (.own x)) x (.ins C dx [])) (fun v H2 => v = .non ∧ Q (.ref x) H2) (E σ)) :
    wpAny (model X.prog X.w) X.A (call (.ref C) us) (EP X pins σ Q) X.xe s := by
  have hq := h (s.heap.objs.size + 1) s.heap.objs.size (I.hok.fresh (Nat.le_succ _)) (I.hok.fresh (Nat.le_refl _)) (Nat.ne_of_lt (Nat.lt_succ_self _))
  have I2 := Inv.made (C := C) I
  have r2 : Vals (V.ref (s.heap.objs.size + 1) :: (vs ++ dvs)) (Value.ref (s.heap.objs.size + 1) :: (us ++ ds)) := .cons rfl (r.append hd)
  have hl : ((Value.ref (s.heap.objs.size + 1) :: us) ++ ds).length = ps.length := by
    have e := r2.length
    rw [F.len _ _ _ _ hq] at e
    exact e.symm
  refine wpAny_call (make_map (f := f) I.kIn M.makes M.init (beq_iff_eq.mp M.fn) (codeAny_mono (F.run _ X.stack _ _ ⟨Value.ref (s.heap.objs.size + 1) :: us, []⟩ (Value.ref (s.heap.objs.size + 1) :: (us ++ ds)) _ _ (E σ) (hr.make C us [])
    (I2.env0.make C us []) (hb _ (Value.ref (s.heap.objs.size + 1) :: us) I2.kIn hl) r2 hq) fun r s' hq' => ?_))
  cases r with
  | error e => exact hx pins _ _ e s' I2 hq'
  | ok fl =>
    cases fl with
    | ret u =>
      obtain ⟨v, H', I3, rv, ev, q3⟩ := I2.after hq'
      subst ev
      exact ⟨rv, ⟨V.ref (s.heap.objs.size + 1), H', I3, rfl, q3⟩⟩
    | next => exact False.elim hq'
    | brk => exact False.elim hq'
    | cont => exact False.elim hq'
/-- the class x, number c, is made by fn; its last parameter's default is the int d -/
def MakeDAt (P : Program) (w : World) (K : PySem.W.Frag) (mg : Str → Option Value) (base : Heap) (T : Tb) (x : Str) (c : Nat) (nf : Nat) (k : Nat) (fn : List S → Cs → R S) (d : Int) : Prop :=
  ∃ f fd ps ds, FnOk P w K mg base (L2.CX P w) k f fd ps (spD T fn) ∧ Mk K (T.cl c) f ∧ mg x = some (.ref (T.cl c)) ∧ (T.fl c).length = nf ∧ Binds K fd ps [] ∧ Binds K fd ps ds ∧ Vals [.int d] ds
theorem MakeDAt.all {P : Program} {w : World} {K : PySem.W.Frag} {mg : Str → Option Value} {base : Heap} {x : Str} {c nf : Nat} {d : Int} (h : MakeDAt P w K mg base T x c nf k fn d) : MakeAt P w K mg base T x c nf k fn := by
  obtain ⟨f, fd, ps, ds, F, hM, hm, hn, hb, _, _⟩ := h
  exact ⟨f, fd, ps, F, hM, hm, hn, hb⟩
def mDfl (B : MA) (d : Int) : MA := fun δ c => (B δ c).bind fun ss c => .ok (ss ++ [.d (.int d)]) c
theorem dn_makeD {x : Str} {n nf : Nat} {d : Int} {B : MA} (hf : MakeDAt X.prog X.w X.K X.mg X.base T x n nf k fn d) (hr : Room (k + 1) X.A) (tk : Takes X W) (hg : Gl X x) (ha : PA X (e :: es) (tDA T W B)) (hdb : (x == ("__debug__" : Str)) = false := by decide)
    (he : starEach (e :: es) X.env = (false, eval e X.env) :: starEach es X.env := by rfl) (hpl : (backTo pos (starEach es X.env)).any (·.1) = false := by rfl) : PE X (.Call (.Name x p) (e :: es) [] pos) (tD T W (mMake n nf fn (mDfl B d))) := by
  obtain ⟨f, fd, ps, ds, F, hM, hm, hn, _, hb, hd⟩ := hf
  refine ⟨fun pins s σ H Q I ⟨δ, c, G, ρ, hs, hh, p⟩ => ?_⟩
  refine wpAny_Call_Name_kw (ld_glob I hg hm ?_ hdb)
  have p' : Post (SRep T) T W σ G ρ ((B δ c).bind fun ss c => fin n nf c.length (fn (.c c.length :: (ss ++ [.d (.int d)])) (c ++ [.obj n []]))) Q := by
    unfold mMake mDfl at p
    cases hB : B δ c with
    | ok ss c1 => rw [hB] at p; exact p
    | ex k xs c1 => rw [hB] at p; exact p
    | bad => rw [hB] at p; exact p
  refine PySem.W.callWith_K (h₀ := X.base) I.ok.mod.kin hM.kp (thn (ha.run pos pins s σ H _ I ⟨δ, c, G, ρ, hs, hh, Post.bind (rel := SReps T) p'⟩) ?_) he hpl
  rintro us s1 ⟨vs, H1, I1, r, ss, c1, G1, ρ1, e1, p1, h1, r1, q1⟩
  exact ⟨I1.kIn, run_makeD (E := WE W) hM F hr hb hd (passAt tk σ) I1 r (make_core hn h1 (r1.append (.cons SRep.int .nil)) q1)⟩
section
variable {P : Program} {w : World} {K : PySem.W.Frag} {mg : Str → Option Value} {base : Heap}
def IDefDAt (K : PySem.W.Frag) (C : Addr) (qual : Str) (st : Stmt) (ps : List Str) (d : Int) : Prop :=
  ∃ f fd ds, FunD K "__init__" qual (defArgs st) (defBody st) (defScope st) [.int d] [] f fd ∧ Mk K C f ∧ Binds K fd ps [] ∧ Binds K fd ps ds ∧ Vals [.int d] ds
theorem make_atD {kp : Bool} {c nf : Nat} {d : Int} {x qual : Str} {st : Stmt} {N ps : List Str} {body : MS} (D : IDefDAt K (T.cl c) qual st ps d) (hm : mg x = some (.ref (T.cl c))) (hn : (T.fl c).length = nf) (S : FnScope N ps (defScope st))
    (hbody : ∀ (f : Addr) (cdv : Value) (A : Around) (outer : List Env) (s : Shared) (H : Hp) (E : XK), Room k (A.deeper (envOfC qual (defScope st) s.heap.objs.size f cdv)) → Takes (cxOf (L2.CX P w) P w K mg base N qual (defScope st) f cdv A outer s H E) (fun cls d _ H => E cls d H) →
      PSs (cxOf (L2.CX P w) P w K mg base N qual (defScope st) f cdv A outer s H E) (defBody st) (tS T (fun cls d _ H => E cls d H) body)) : MakeDAt P w K mg base T x c nf (k + 1) (fnG kp ps.length N.length body) d := by
  obtain ⟨f, fd, ds, F, hM, hb, hb2, hv⟩ := D
  refine ⟨f, fd, ps, ds, ?_, hM, hm, hn, hb, hb2, hv⟩
  refine F.ok S ?_ ?_
  · rintro vs H Q E ⟨ss, c, G, ρ, rs, rh, p⟩
    rw [rs.length]
    unfold fnG at p
    by_cases h : ss.length = ps.length
    · exact h
    · rw [if_neg h] at p; exact p.elim
  · rintro cdv A outer s H vs Q E hr ⟨ss, c, G, ρ, rs, rh, p⟩
    refine ⟨_, hbody f cdv A outer s H E hr cx_takes, ?_⟩
    unfold fnG at p
    by_cases h : ss.length = ps.length
    · rw [if_pos h] at p
      refine ⟨_, c, G, ρ, rs.start h, rh, ?_⟩
      rw [← rh.len] at p
      exact exit_ok p
    · rw [if_neg h] at p; exact p.elim
/-- how IDefDAt is made -/
theorem idefD_mk {C f : Addr} {qual : Str} {st : Stmt} {ps : List Str} {d : Int} {oc : Value} {od an : Option Addr} {osl : Array (Option Value)} {kV doc pm cdv ct : Value} {TT : Addr} {ot : Obj} {tt : Tok} {nn : Nat}
    (l : K.lookup f = some ⟨oc, od, .func (PySem.W.fnOf "__init__" qual (defArgs st) (defBody st) (defScope st) (.ref TT) kV doc pm an cdv ct), osl⟩) (c : PySem.W.codeIn K cdv qual = true) (kk : PySem.W.keepIn K (.ref f) = true) (lt : K.lookup TT = some ot) (hot : ot.data = .seq #[.int d tt] nn) (M : Mk K C f)
    (h2 : ∀ (T : Addr) (kV doc pm : Value) (an : Option Addr) (cdv ct : Value) (us its : List Value), us.length = ps.length → its.length = 1 →
      ∃ k, bindArgs (PySem.W.fnOf "__init__" qual (defArgs st) (defBody st) (defScope st) (.ref T) kV doc pm an cdv ct) ⟨us, []⟩ = seqItems? (.ref T) >>= k ∧ k (some its.toArray) = pure (ps.zip (us ++ its.drop 1)))
    (h1 : ∀ (T : Addr) (kV doc pm : Value) (an : Option Addr) (cdv ct : Value) (us its : List Value), us.length = ps.length - 1 → its.length = 1 →
      ∃ k, bindArgs (PySem.W.fnOf "__init__" qual (defArgs st) (defBody st) (defScope st) (.ref T) kV doc pm an cdv ct) ⟨us, []⟩ = seqItems? (.ref T) >>= k ∧ k (some its.toArray) = pure (ps.zip (us ++ its.drop 0)))
    (hp : 1 ≤ ps.length) : IDefDAt K C qual st ps d := by
  have F : FunD K "__init__" qual (defArgs st) (defBody st) (defScope st) [.int d] [] f _ := ⟨⟨oc, od, .ref TT, kV, doc, pm, an, cdv, ct, osl, rfl, l, c, .inr ⟨by simp, TT, ot, [.int d tt], nn, rfl, lt, hot, .cons ⟨tt, rfl⟩ .nil⟩, .inl rfl⟩, kk⟩
  obtain ⟨ds0, v0, b0⟩ := F.binds1 (ps := ps) ps.length 1 (by simp) (by simp) (fun T kV doc pm an cdv ct us its hu hi => h2 T kV doc pm an cdv ct us its hu (by simpa using hi))
  obtain ⟨ds1, v1, b1⟩ := F.binds1 (ps := ps) (ps.length - 1) 0 (by simp) (by simp; omega) (fun T kV doc pm an cdv ct us its hu hi => h1 T kV doc pm an cdv ct us its hu (by simpa using hi))
  have e0 : ds0 = [] := by cases v0; rfl
  subst e0
  exact ⟨f, _, ds1, F, M, b0, b1, v1⟩
end
/-! ### e.f, a property that reads a field -/
structure PropAt (X : Cx) (T : Tb) (f g : Str) (n i : Nat) : Prop where
  cl : Cls X.K (T.cl n)
  na : NoAttr X.K (T.cl n) g
  fl : (T.fl n)[i]? = some g
  nd : (T.fl n).Nodup
  pr : ∃ p ga fd, PropOf X.K (T.cl n) f p ga ∧ FnOk X.prog X.w X.K X.mg X.base (L2.CX X.prog X.w) 1 ga fd ["self"] (getSp (T.cl n) g) ∧ Binds X.K fd ["self"] []
def mProp (n i : Nat) (A : M) : M := mAttr [(n, i)] A
theorem dn_prop {f g : Str} {n i : Nat} (P : PropAt X T f g n i) (hr : Room 2 X.A) (he : PE X o (tD T W A)) (hab : attributeBase o f X.env (eval o X.env) = eval o X.env := by rfl) : PE X (.Attribute o f pos) (tD T W (mProp n i A)) := by
  obtain ⟨pp, ga, fd, hp, F, hb⟩ := P.pr
  refine PE.imp (pe_prop (E := fun _ _ _ => False) (dvs := []) he P.cl hp F hr hb .nil (fun _ _ _ _ _ _ _ h => by obtain ⟨_, _, _, _, _, _, _, _, _, _, _, _, z⟩ := h; exact z.elim) hab) fun σ H Q ⟨δ, c, G, ρ, hs, hh, p⟩ => ?_
  refine ⟨δ, c, G, ρ, hs, hh, (Post.bind (rel := SRep T) p).imp ?_⟩
  rintro v H1 ⟨s, c1, G1, ρ1, e1, p1, h1, r1, q1⟩
  cases hd : deref s c1 with
  | none => simp only [hd] at q1; exact q1.elim
  | some d =>
    cases d with
    | obj k2 xs =>
      simp only [hd] at q1
      cases hl : look [(n, i)] k2 with
      | none => simp only [hl] at q1; exact q1.elim
      | some j =>
        have hm := look_mem hl
        simp only [List.mem_singleton, Prod.mk.injEq] at hm
        obtain ⟨rfl, rfl⟩ := hm
        simp only [hl] at q1
        cases hx : xs[j]? with
        | none => simp only [hx] at q1; exact q1.elim
        | some x =>
          simp only [hx] at q1
          obtain ⟨a, dx, fv, rfl, ea, hfl, rr⟩ := deref_view h1 r1 hd
          obtain ⟨w, hw, rw'⟩ := rr.get hx
          have hj : j < xs.length := (List.getElem?_eq_some_iff.mp hx).1
          have hlk : fv.lookup g = some w := lookup_at (by rw [hfl]; exact nd_take P.nd _) (by rw [hfl, List.getElem?_take_of_lt hj]; exact P.fl) hw
          exact ⟨a, dx, fv, rfl, ea, a, dx, fv, w, rfl, ea, hlk, q1 _ H1 G1 ρ1 (.refl _) (List.prefix_refl _) h1 rw'⟩
    | _ => simp only [hd] at q1; exact q1.elim
/-! ### gcd(a, b) -/
def gcdD : List D → Option D
  | [.int a, .int b] => some (.int (Nat.gcd a.natAbs b.natAbs : Nat))
  | _ => none
theorem fresh_gcd : FreshN T gcdD rGcd := by
  intro G H x d v Q e vw h k
  unfold gcdD at h
  split at h
  · cases h
    obtain ⟨u, w, rfl, a, b⟩ := vw.two
    have := View.int_inv a; subst this
    have := View.int_inv b; subst this
    exact ⟨_, _, rfl, k _ _ _ (Step.refl e) Rep.int⟩
  · cases h
theorem dn_gcd {B : MA} (hg : Gl X "gcd") (hm : X.mg "gcd" = some (.builtin "math.gcd")) (ha : PA X (e :: es) (tDA T W B)) (he : starEach (e :: es) X.env = (false, eval e X.env) :: starEach es X.env := by rfl) (hpl : (backTo pos (starEach es X.env)).any (·.1) = false := by rfl) :
    PE X (.Call (.Name "gcd" p) (e :: es) [] pos) (tD T W (mBlt (liftN gcdD) B)) := PE.imp (pe_callBfun cr_gcd hg hm ha (by decide) he hpl) fun _ _ _ h => tD_blt (primN fresh_gcd) h
end
/-! ### which class is which -/
theorem kit_own {K : PySem.W.Frag} {t : Value} {C : Addr} {r : Bool} (ne : (t == .ref C) = false) (h1 : PySem.W.isClsIn K C = true) (h2 : PySem.W.typeIn K (.ref C) = some (.type "type")) (h3 : PySem.W.subIn K t (.ref C) = some r) : PySem.W.kitOne K t (.ref C) = some r := by
  unfold PySem.W.kitOne
  rw [if_neg (by rw [ne]; decide)]
  unfold PySem.W.kitCls
  dsimp only
  rw [if_pos]
  · exact h3
  · rw [h2]
    unfold PySem.W.isClsIn at h1
    rw [h1]
    decide
theorem kit_typ {K : PySem.W.Frag} {C : Addr} {n : String} {r : Bool} (hm : PySem.W.kitMeta n = true) (h3 : PySem.W.subIn K (.ref C) (.type n) = some r) : PySem.W.kitOne K (.ref C) (.type n) = some r := by
  unfold PySem.W.kitOne
  rw [if_neg (by simp)]
  unfold PySem.W.kitCls
  dsimp only
  rw [if_pos hm]
  exact h3
theorem kitAny2 {K : PySem.W.Frag} {t a b : Value} {x y : Bool} (h : PySem.W.kitOne K t a = some x) (k : PySem.W.kitOne K t b = some y) : PySem.W.kitAny K t [a, b] = some (x || y) := by
  refine kitAny_cons h (fun e => ?_) (fun e => by rw [e]; rfl)
  subst e
  refine kitAny_cons k (fun e => ?_) (fun e => by rw [e]; rfl)
  subst e
  rfl
end Dn

end
section
set_option maxHeartbeats 4000000
/-! Dn25: texts (split, join, find, str, int, signs, reversed), starred displays, extend, lists that hold cells. -/
namespace Dn
open PySem PySem.Spec PyProof.Rows L2
section
variable {X : Cx} {T : Tb} {W : WX} {a b o e : Expr} {es : List Expr} {A B : M} {pos p p2 apos : Pos}
theorem PE.or {t u : TE} (h : PE X a t) (k : PE X a u) : PE X a (fun σ H Q => t σ H Q ∨ u σ H Q) := ⟨fun pins s σ H Q I q => q.elim (h.run pins s σ H Q I) (k.run pins s σ H Q I)⟩
/-! ### a method of a text with one argument -/
def m1T (f : Str → S → Cs → R S) (A B : M) : M := fun δ c => (A δ c).bind fun s c => match s with
  | .d (.str a) => (B δ c).bind fun t c => f a t c
  | _ => .bad
def Prim1T (T : Tb) (f : Str → S → Cs → R S) (r : V → List V → Hp → VK → Prop) : Prop := ∀ (W : WX) (σ : L2.St) (G : Hp) (ρ : List Addr) (H : Hp) (c : Cs) (a : Str) (t : S) (u : V) (Q : VK), RelH T H c G ρ → SRep T G ρ t u → Post (SRep T) T W σ G ρ (f a t c) Q → r (.str a) [u] H Q
theorem tD_m1T {f : Str → S → Cs → R S} {r : V → List V → Hp → VK → Prop} (hp : Prim1T T f r) {σ : L2.St} {H : Hp} {Q : VK} (h : tD T W (m1T f A B) σ H Q) : tM1 r (tD T W A) (tD T W B) σ H Q := by
  obtain ⟨δ, c, G, ρ, hs, hh, p⟩ := h
  refine ⟨δ, c, G, ρ, hs, hh, (Post.bind (rel := SRep T) p).imp ?_⟩
  rintro v H1 ⟨s, c1, G1, ρ1, e1, p1, h1, r1, q1⟩
  cases s with
  | c _ => exact q1.elim
  | x _ _ => exact q1.elim
  | d x =>
    cases x with
    | str z =>
      have := SRep.str_inv r1
      subst this
      refine ⟨⟨z, rfl⟩, δ, c1, G1, ρ1, hs.mono e1 p1, h1, (Post.bind (rel := SRep T) q1).imp ?_⟩
      rintro u H2 ⟨t, c2, G2, ρ2, e2, p2, h2, r2, q2⟩
      exact hp _ _ G2 ρ2 _ _ _ _ _ _ h2 r2 q2
    | _ => exact q1.elim
/-! find -/
def findF (a : Str) (t : S) (c : Cs) : R S := match t with
  | .d (.str b) => .ok (.d (.int (Txt.find a b))) c
  | _ => .bad
theorem dn_find (ho : PE X o (tD T W A)) (he : PE X e (tD T W B)) (hs : starEach [e] X.env = [(false, eval e X.env)] := by rfl) (hbase : attributeBase o "find" X.env (eval o X.env) = eval o X.env := by rfl) (hline : (apos.endLine == pos.line) = true := by rfl) :
    PE X (.Call (.Attribute o "find" apos) [e] [] pos) (tD T W (m1T findF A B)) := by
  refine PE.imp (pe_m1 F.slot_str_find F.type_str_find mt_find ho he hs hbase hline) fun _ _ _ h => tD_m1T ?_ h
  intro W σ G ρ H c a t u Q hh rt q
  unfold findF at q
  split at q
  · have := SRep.str_inv rt
    subst this
    exact ⟨_, _, rfl, rfl, q _ H G ρ (.refl _) (List.prefix_refl _) hh SRep.int⟩
  · exact q.elim
/-! split -/
def splOk (a b : Str) : Prop := (b.length == 0) = false ∧ a.length + 2 ≤ sizeLine ∧ (Txt.split a b).length ≤ sizeLine
instance (a b : Str) : Decidable (splOk a b) := inferInstanceAs (Decidable (_ ∧ _ ∧ _))
def splF (a : Str) (t : S) (c : Cs) : R S := match t with
  | .d (.str b) => if splOk a b then .ok (.d (.lst ((Txt.split a b).map D.str))) c else .bad
  | _ => .bad
def splC (a : Str) (t : S) (c : Cs) : R S := match t with
  | .d (.str b) => if splOk a b then .ok (.c c.length) (c ++ [.lst ((Txt.split a b).map D.str)]) else .bad
  | _ => .bad
theorem Reps.map_str {G : Hp} : ∀ ys : List Str, Reps T G (ys.map D.str) (ys.map V.str)
  | [] => Reps.nil
  | y :: ys => Reps.cons Rep.str (Reps.map_str ys)
section
variable (ho : PE X o (tD T W A)) (he : PE X e (tD T W B)) (hs : starEach [e] X.env = [(false, eval e X.env)] := by rfl) (hbase : attributeBase o "split" X.env (eval o X.env) = eval o X.env := by rfl) (hline : (apos.endLine == pos.line) = true := by rfl)
include ho he hs hbase hline
theorem dn_split : PE X (.Call (.Attribute o "split" apos) [e] [] pos) (tD T W (m1T splF A B)) := by
  refine PE.imp (pe_split ho he hs hbase hline) fun _ _ _ h => tD_m1T ?_ h
  intro W σ G ρ H c a t u Q hh rt q
  unfold splF at q
  split at q
  · have := SRep.str_inv rt
    subst this
    split at q
    · rename_i b hk
      obtain ⟨k1, k2, k3⟩ := hk
      refine ⟨_, _, rfl, rfl, k1, k2, fun t ht => ?_⟩
      have st : Step G H (upd G t (.lst ((Txt.split a b).map V.str))) (upd H t (.lst ((Txt.split a b).map V.str))) := Step.new hh.ex ht
      exact q _ _ _ ρ st.g (List.prefix_refl _) (hh.step st) (Rep.lst upd_same (by simpa using k3) (Reps.map_str _))
    · exact q.elim
  · exact q.elim
theorem dn_splitC : PE X (.Call (.Attribute o "split" apos) [e] [] pos) (tD T W (m1T splC A B)) := by
  refine PE.imp (pe_split ho he hs hbase hline) fun _ _ _ h => tD_m1T ?_ h
  intro W σ G ρ H c a t u Q hh rt q
  unfold splC at q
  split at q
  · have := SRep.str_inv rt
    subst this
    split at q
    · rename_i b hk
      obtain ⟨k1, k2, k3⟩ := hk
      refine ⟨_, _, rfl, rfl, k1, k2, fun t ht => ?_⟩
      exact q _ _ G (ρ ++ [t]) (.refl _) (List.prefix_append _ _) (hh.newCell (x := .lst ((Txt.split a b).map D.str)) ht fun H' hH' => ⟨_, hH', by simpa using k3, Reps.map_str _⟩) ⟨t, by rw [← hh.len]; simp, rfl⟩
    · exact q.elim
  · exact q.elim
end
/-! join -/
def strsOf : List D → Option (List Str)
  | [] => some []
  | .str x :: r => (strsOf r).map (x :: ·)
  | _ :: _ => none
theorem strsOf_eq : ∀ {xs : List D} {ys : List Str}, strsOf xs = some ys → xs = ys.map D.str
  | [], ys, h => by cases h; rfl
  | x :: r, ys, h => by
    cases x with
    | str z =>
      unfold strsOf at h
      cases e : strsOf r with
      | none => rw [e] at h; cases h
      | some zs =>
        rw [e] at h
        cases h
        rw [strsOf_eq e]
        rfl
    | _ => cases h
theorem Reps.strs {G : Hp} : ∀ {ys : List Str} {vs : List V}, Reps T G (ys.map D.str) vs → vs = ys.map V.str
  | [], vs, r => r.nil_inv
  | y :: ys, vs, r => by
    obtain ⟨v, us, rfl, a, b⟩ := Reps.cons_inv r
    have := Rep.str_inv a
    subst this
    rw [Reps.strs b]
    rfl
def joinOk (a : Str) (ys : List Str) : Prop := (ys.map (·.length)).sum + ys.length * a.length ≤ 16777216
instance (a : Str) (ys : List Str) : Decidable (joinOk a ys) := inferInstanceAs (Decidable (_ ≤ _))
def joinF (a : Str) (t : S) (c : Cs) : R S := match deref t c with
  | some (.lst xs) => match strsOf xs with
    | some ys => if joinOk a ys then .ok (.d (.str (Txt.join a ys))) c else .bad
    | none => .bad
  | _ => .bad
theorem dn_join (hT : X.K = T.K) (ho : PE X o (tD T W A)) (he : PE X e (tD T W B)) (hs : starEach [e] X.env = [(false, eval e X.env)] := by rfl) (hbase : attributeBase o "join" X.env (eval o X.env) = eval o X.env := by rfl) (hline : (apos.endLine == pos.line) = true := by rfl) :
    PE X (.Call (.Attribute o "join" apos) [e] [] pos) (tD T W (m1T joinF A B)) := by
  refine PE.imp (pe_join ho he hs hbase hline) fun _ _ _ h => tD_m1T ?_ h
  intro W σ G ρ H c a t u Q hh rt q
  unfold joinF at q
  cases hd : deref t c with
  | none => simp only [hd] at q; exact q.elim
  | some d =>
    cases d with
    | lst xs =>
      simp only [hd] at q
      cases hx : strsOf xs with
      | none => simp only [hx] at q; exact q.elim
      | some ys =>
        simp only [hx] at q
        by_cases hk : joinOk a ys
        · rw [if_pos hk] at q
          obtain ⟨pq, us, rfl, sq, hl, r⟩ := deref_view hh rt hd
          rw [strsOf_eq hx] at r
          have := r.strs
          subst this
          exact ⟨_, pq, ys, rfl, rfl, .inl (SqL.of sq), hk, q _ H G ρ (.refl _) (List.prefix_refl _) hh SRep.str⟩
        · rw [if_neg hk] at q; exact q.elim
    | _ => simp only [hd] at q; exact q.elim
/-! ### str(x), int(x) -/
def strD : List D → Option D
  | [.int i] => if i.natAbs.log2 < 1920 then some (.str (toString i)) else none
  | [.str z] => some (.str z)
  | _ => none
theorem fresh_str : FreshN T strD (fun xs H Q => (∃ i : Int, xs = [.int i] ∧ i.natAbs.log2 < 1920 ∧ Q (.str (toString i)) H) ∨ ∃ z, xs = [.str z] ∧ Q (.str z) H) := by
  intro G H x d v Q e hx hd k
  unfold strD at hd
  split at hd
  · split at hd
    · rename_i hi
      cases hd
      obtain ⟨v, rfl, h⟩ := hx.one
      have := View.int_inv h; subst this
      exact .inl ⟨_, rfl, hi, k _ H G (Step.refl e) Rep.str⟩
    · cases hd
  · cases hd
    obtain ⟨v, rfl, h⟩ := hx.one
    have := View.str_inv h; subst this
    exact .inr ⟨_, rfl, k _ H G (Step.refl e) Rep.str⟩
  · cases hd
theorem dn_strc {B : MA} (hg : Gl X "str") (hm : X.mg "str" = none) (ha : PA X (e :: es) (tDA T W B)) (he : starEach (e :: es) X.env = (false, eval e X.env) :: starEach es X.env := by rfl) (hpl : (backTo pos (starEach es X.env)).any (·.1) = false := by rfl) : PE X (.Call (.Name "str" p) (e :: es) [] pos) (tD T W (mBlt (liftN strD) B)) :=
  dn_callTy ((call_str_int (X := X)).or SkE.call_str_str) (primN fresh_str) hg hm (by decide +kernel) ha (by decide) (by decide) he hpl
def intT : List D → Option D
  | [.int i] => some (.int i)
  | [.str z] => match PySem.intText? z with
    | some n => if z.length ≤ 640 then some (.int n) else none
    | none => none
  | _ => none
theorem fresh_intT : FreshN T intT (fun xs H Q => ((∃ i, xs = [.int i] ∧ Q (.int i) H) ∨ ∃ k, xs = [.bl k] ∧ Q (.int (if k then 1 else 0)) H) ∨ ∃ a n, xs = [.str a] ∧ PySem.intText? a = some n ∧ a.length ≤ 640 ∧ Q (.int n) H) := by
  intro G H x d v Q e hx hd k
  unfold intT at hd
  split at hd
  · cases hd
    obtain ⟨v, rfl, h⟩ := hx.one
    have := View.int_inv h; subst this
    exact .inl (.inl ⟨_, rfl, k _ H G (Step.refl e) Rep.int⟩)
  · rename_i z
    cases hz : PySem.intText? z with
    | none => simp only [hz] at hd; cases hd
    | some n =>
      simp only [hz] at hd
      split at hd
      · rename_i hl
        cases hd
        obtain ⟨v, rfl, h⟩ := hx.one
        have := View.str_inv h; subst this
        exact .inr ⟨_, n, rfl, hz, hl, k _ H G (Step.refl e) Rep.int⟩
      · cases hd
  · cases hd
theorem dn_intT {B : MA} (hg : Gl X "int") (hm : X.mg "int" = none) (ha : PA X (e :: es) (tDA T W B)) (he : starEach (e :: es) X.env = (false, eval e X.env) :: starEach es X.env := by rfl) (hpl : (backTo pos (starEach es X.env)).any (·.1) = false := by rfl) : PE X (.Call (.Name "int" p) (e :: es) [] pos) (tD T W (mBlt (liftN intT) B)) :=
  dn_callTy ((call_int1 (X := X)).or call_int_str) (primN fresh_intT) hg hm (by decide +kernel) ha (by decide) (by decide) he hpl
end
end Dn

end
section
set_option maxHeartbeats 4000000
/-! Dn26: signs of a text, in a text, starred displays. -/
namespace Dn
open PySem PySem.Spec PyProof.Rows L2
section
variable {X : Cx} {T : Tb} {W : WX} {a b o e : Expr} {es : List Expr} {A B : M} {pos p p2 p3 apos : Pos}
/-! ### the signs of a text, walked -/
def signs (z : Str) : List D := z.cps.toList.map fun c => D.str ⟨#[c]⟩
def itemsT : S → Cs → R (List D)
  | .d (.str z), c => if z.length ≤ sizeLine then .ok (signs z) c else .bad
  | s, c => items s c
def iSeqT (A : M) : MI := fun δ c => (A δ c).bind itemsT
theorem signs_len (z : Str) : (signs z).length = z.cps.size := by simp [signs]
theorem walk_str {G : Hp} {z : Str} : Walk T G (signs z) (Its z) := by
  refine ⟨fun i H e hi => by rw [signs_len] at hi; exact hi, fun i H e hi => by rw [signs_len] at hi; exact hi, fun i H G1 x H' e1 e2 y d hd => ?_⟩
  obtain ⟨rfl, c, hc, rfl⟩ := y
  refine ⟨G1, Step.refl e2, ?_⟩
  unfold signs at hd
  rw [List.getElem?_map, Array.getElem?_toList, hc] at hd
  cases hd
  exact Rep.str
theorem di_seqT {tg l : Expr} (hT : X.K = T.K) (hl : PE X l (tD T W A)) : PI X tg l (tI T W (iSeqT A)) := by
  refine PI.imp (PI.or (di_seq hT hl) (pi_str hl)) fun σ H Q ⟨δ, c, G, ρ, hs, hh, p⟩ => ?_
  unfold iSeqT at p
  have old : ∀ s c', A δ c = .ok s c' → itemsT s c' = items s c' → tI T W (iSeq A) σ H Q := fun s c' hA he => by
    refine ⟨δ, c, G, ρ, hs, hh, ?_⟩
    unfold iSeq
    rw [hA] at p ⊢
    have p : Post _ T W σ G ρ (itemsT s c') _ := p
    rw [he] at p
    exact p
  cases hA : A δ c with
  | bad => rw [hA] at p; exact p.elim
  | ex k xs c' =>
    rw [hA] at p
    exact .inl ⟨δ, c, G, ρ, hs, hh, by unfold iSeq; rw [hA]; exact p⟩
  | ok s c' =>
    cases s with
    | c n => exact .inl (old _ _ hA rfl)
    | x _ _ => exact .inl (old _ _ hA rfl)
    | d x =>
      cases x with
      | str z =>
        rw [hA] at p
        have p : Post (relI T) T W σ G ρ (if z.length ≤ sizeLine then .ok (signs z) c' else .bad) Q := p
        by_cases hz : z.length ≤ sizeLine
        · rw [if_pos hz] at p
          refine .inr ⟨δ, c, G, ρ, hs, hh, ?_⟩
          rw [hA]
          intro v H1 G1 ρ1 e1 p1 h1 r1
          have := SRep.str_inv r1
          subst this
          exact ⟨z, rfl, p _ H1 G1 ρ1 e1 p1 h1 ⟨walk_str, by rw [signs_len]; exact hz⟩⟩
        · rw [if_neg hz] at p; exact p.elim
      | _ => exact .inl (old _ _ hA rfl)
/-! ### a sign in a text -/
def inX (neg : Bool) (x y : D) : Option D := match y with
  | .str z => match x with
    | .str s => match s.cps.toList with
      | [c] => some (.bl (if neg then !decide (c ∈ z.cps.toList) else decide (c ∈ z.cps.toList)))
      | _ => none
    | _ => none
  | y => inP neg x y
theorem one_sign {s : Str} {c : Nat} (h : s.cps.toList = [c]) : s = ⟨#[c]⟩ := by
  obtain ⟨cps⟩ := s
  congr 1
  apply Array.ext'
  simpa using h
theorem fresh_inX {neg : Bool} {r : R2} (h : Fresh2 T (inP neg) r) : Fresh2 T (inX neg) (fun x y H Q => r x y H Q ∨ ∃ (c : Nat) (z : Str), x = .str ⟨#[c]⟩ ∧ y = .str z ∧ Q (.bl (if neg then !decide (c ∈ z.cps.toList) else decide (c ∈ z.cps.toList))) H) := by
  intro G H x y d v u Q e hx hy hd k
  unfold inX at hd
  split at hd
  · rename_i z
    split at hd
    · rename_i s
      split at hd
      · rename_i c hc
        cases hd
        have := View.str_inv hx; subst this
        have := View.str_inv hy; subst this
        exact .inr ⟨c, z, by rw [one_sign hc], rfl, k _ H G (Step.refl e) Rep.bl⟩
      · cases hd
    · cases hd
  · exact .inl (h G H x y d v u Q e hx hy hd k)
section
variable {k : Nat} (hT : X.K = T.K) (hr : Room (k + 1) X.A) (ha : PE X a (tD T W A)) (hb : PE X b (tD T W B))
include hT hr ha hb
theorem dn_inX (hm : behindInMarks .In b = false := by rfl) : PE X (.Compare a [.In] [b] pos) (tD T W (mBin (lift2 (inX false)) A B)) :=
  dn_cmp (OpR.or (by rw [← hT]; exact (op_inD (by have := hr.un; omega)).or op_in_seq) op_inS) (prim2 (fresh_inX fresh_in)) ha hb hm
theorem dt_inX (hm : behindInMarks .In b = false := by rfl) : PT X (.Compare a [.In] [b] pos) (tDT T W (mTB (mBin (lift2 (inX false)) A B))) :=
  dt_cmp (OpR.or (by rw [← hT]; exact (op_inD (by have := hr.un; omega)).or op_in_seq) op_inS) (prim2 (fresh_inX fresh_in)) ha hb hm
theorem dn_notInX (hm : behindInMarks .NotIn b = false := by rfl) : PE X (.Compare a [.NotIn] [b] pos) (tD T W (mBin (lift2 (inX true)) A B)) :=
  dn_cmp (OpR.or (by rw [← hT]; exact (op_notInD (by have := hr.un; omega)).or op_notIn_seq) op_notInS) (prim2 (fresh_inX fresh_notIn)) ha hb hm
theorem dt_notInX (hm : behindInMarks .NotIn b = false := by rfl) : PT X (.Compare a [.NotIn] [b] pos) (tDT T W (mTB (mBin (lift2 (inX true)) A B))) :=
  dt_cmp (OpR.or (by rw [← hT]; exact (op_notInD (by have := hr.un; omega)).or op_notIn_seq) op_notInS) (prim2 (fresh_inX fresh_notIn)) ha hb hm
end
/-! ### *xs in a display -/
def starF (s : S) (c : Cs) : Option (List D) := match deref s c with
  | some (.lst xs) => some xs
  | some (.tup xs) => some xs
  | _ => none
def mStarC (A : M) (B : MA) : MA := fun δ c => (A δ c).bind fun s c => match starF s c with
  | some xs => (B δ c).bind fun ss c => .ok (xs.map S.d ++ ss) c
  | none => .bad
theorem SReps.datas {G : Hp} {ρ : List Addr} : ∀ {xs : List D} {vs : List V}, Reps T G xs vs → SReps T G ρ (xs.map S.d) vs
  | [], vs, r => by cases r.nil_inv; exact .nil
  | x :: xs, vs, r => by obtain ⟨v, us, rfl, a, b⟩ := r.cons_inv; exact .cons a (SReps.datas b)
theorem da_star {B : MA} (hT : X.K = T.K) (he : PE X e (tD T W A)) (hr : PA X es (tDA T W B)) (hs : starEach (.Starred e p :: es) X.env = (true, eval e X.env) :: starEach es X.env := by rfl) : PA X (.Starred e p :: es) (tDA T W (mStarC A B)) := by
  refine PA.imp (StX.pa_star he hr hs) fun σ H Q ⟨δ, c, G, ρ, hs, hh, p⟩ => ?_
  refine ⟨δ, c, G, ρ, hs, hh, (Post.bind (rel := SRep T) p).imp ?_⟩
  rintro v H1 ⟨s, c1, G1, ρ1, e1, p1, h1, r1, q1⟩
  unfold starF at q1
  have go : ∀ {xs : List D} {q : Addr} {vs : List V}, v = .ref q → (SqT X.K H1 q vs ∨ SqL X.K H1 q vs) → Reps T G1 xs vs → Post (SReps T) T W σ G1 ρ1 ((B δ c1).bind fun ss c => .ok (xs.map S.d ++ ss) c) Q → ∃ p xs, v = V.ref p ∧ (SqT X.K H1 p xs ∨ SqL X.K H1 p xs) ∧ tDA T W B σ H1 fun ys H2 => Q (xs ++ ys) H2 := by
    intro xs q vs ev hq r q2
    refine ⟨q, vs, ev, hq, δ, c1, G1, ρ1, hs.mono e1 p1, h1, (Post.bind (rel := SReps T) q2).imp ?_⟩
    rintro us H2 ⟨ss, c2, G2, ρ2, e2, p2, h2, r2, q3⟩
    exact q3 _ H2 G2 ρ2 (.refl _) (List.prefix_refl _) h2 ((SReps.datas (Reps.mono e2 _ _ r)).append r2)
  cases hd : deref s c1 with
  | none => simp only [hd] at q1; exact q1.elim
  | some d =>
    cases d with
    | lst xs =>
      simp only [hd] at q1
      obtain ⟨q, us, ev, sq, _, r⟩ := deref_view h1 r1 hd
      exact go ev (.inr (by rw [hT]; exact SqL.of sq)) r q1
    | tup xs =>
      simp only [hd] at q1
      obtain ⟨q, us, ev, sq, _, r⟩ := View.tup_inv (deref_view h1 r1 hd)
      exact go ev (.inl (by rw [hT]; exact SqT.of (h1.ex _ _ sq))) r q1
    | _ => simp only [hd] at q1; exact q1.elim
end
end Dn

end
section
set_option maxHeartbeats 4000000
/-! Dn27: extend, [::-1], lists that hold cells, {'a': x}. -/
namespace Dn
open PySem PySem.Spec PyProof.Rows L2
section
variable {X : Cx} {T : Tb} {W : WX} {a b o e : Expr} {es : List Expr} {A B : M} {pos p p1 p2 p3 apos : Pos}
/-! ### xs.extend(ys), xs a cell -/
def extC : S → List S → Cs → R S
  | .c n, [t], c => match c[n]? with
    | some (.lst acc) => match deref t c with
      | some (.lst ys) => if acc.length + ys.length ≤ sizeLine then .ok (.d .non) (c.set n (.lst (acc ++ ys))) else .bad
      | _ => .bad
    | _ => .bad
  | _, _, _ => .bad
def mExtend (A : M) (B : MA) : M := fun δ c => (A δ c).bind fun o c => match o with
  | .c n => match c[n]? with
    | some (.lst _) => (B δ c).bind fun ss c => extC o ss c
    | _ => .bad
  | _ => .bad
theorem dn_extend {B : MA} (ho : PE X o (tD T W A)) (ha : PA X (e :: es) (tDA T W B)) (hbase : attributeBase o "extend" X.env (eval o X.env) = eval o X.env := by rfl)
    (hfew : ((backTo pos (starEach (e :: es) X.env)).all (fun x => !x.1) && (backToKw pos (keywordEach [] X.env)).all (fun x => x.1.isSome)
      && decide ((e :: es).length + ([] : List Keyword).length + (if ([] : List Keyword).isEmpty then 0 else 1) < 30)) = true := by rfl)
    (hline : (apos.endLine == pos.line) = true := by rfl) (hs : starEach (e :: es) X.env = (false, eval e X.env) :: starEach es X.env := by rfl) (hplain : (backTo pos (starEach es X.env)).any (·.1) = false := by rfl) : PE X (.Call (.Attribute o "extend" apos) (e :: es) [] pos) (tD T W (mExtend A B)) := by
  refine PE.imp (pe_bm PySem.F.plainAttrs_list PySem.F.slot_list_extend PySem.F.type_list_extend mt_extend ho ha hbase hfew hline hs hplain) fun σ H Q ⟨δ, c, G, ρ, hs, hh, p⟩ => ?_
  refine ⟨δ, c, G, ρ, hs, hh, (Post.bind (rel := SRep T) p).imp ?_⟩
  rintro v H1 ⟨s, c1, G1, ρ1, e1, p1, h1, r1, q1⟩
  cases s with
  | d _ => exact q1.elim
  | x _ _ => exact q1.elim
  | c n =>
    obtain ⟨pa, hpa, rfl⟩ := r1
    cases hc : c1[n]? with
    | none => simp only [hc] at q1; exact q1.elim
    | some cc =>
      cases cc with
      | lst acc0 =>
        simp only [hc] at q1
        obtain ⟨_, vs0, ho0, _⟩ := h1.at_ n pa _ hpa hc
        refine ⟨.inl ⟨rfl, _, SqL.of ho0⟩, δ, c1, G1, ρ1, hs.mono e1 p1, h1, (Post.bind (rel := SReps T) q1).imp ?_⟩
        rintro us H2 ⟨ss, c2, G2, ρ2, e2, p2, h2, r2, q2⟩
        cases r2 with
        | nil => exact q2.elim
        | cons ra rb =>
          cases rb with
          | cons _ _ => exact q2.elim
          | nil =>
            rename_i t u
            unfold extC at q2
            simp only at q2
            cases hc2 : c2[n]? with
            | none => simp only [hc2] at q2; exact q2.elim
            | some cc =>
              cases cc with
              | lst acc =>
                simp only [hc2] at q2
                cases hd : deref t c2 with
                | none => simp only [hd] at q2; exact q2.elim
                | some d =>
                  cases d with
                  | lst ys =>
                    simp only [hd] at q2
                    by_cases hl : acc.length + ys.length ≤ sizeLine
                    · rw [if_pos hl] at q2
                      have hpa2 := pre_get p2 hpa
                      obtain ⟨_, vs, hv, hvl, rv⟩ := h2.at_ n pa _ hpa2 hc2
                      obtain ⟨qb, us, rfl, sq, hul, ru⟩ := deref_view h2 ra hd
                      refine ⟨pa, qb, vs, us, rfl, rfl, hv, sq, by rw [rv.length, ru.length]; exact hl, ?_⟩
                      exact q2 _ _ G2 ρ2 (.refl _) (List.prefix_refl _) (h2.cell (x := .lst (acc ++ ys)) hpa2 fun H' hH' _ => ⟨vs ++ us, hH', by rw [List.length_append]; exact hl, rv.append ru⟩) SRep.non
                    · rw [if_neg hl] at q2; exact q2.elim
                  | _ => simp only [hd] at q2; exact q2.elim
              | _ => simp only [hc2] at q2; exact q2.elim
      | _ => simp only [hc] at q1; exact q1.elim
/-! ### xs[::-1] -/
def revS (z : Str) : Str := ⟨((Builtin.Str.strSliceIndices none none (-1) z.length).filterMap (z.cps[·]?)).toArray⟩
def revF (s : S) (c : Cs) : R S := match deref s c with
  | some (.lst xs) => .ok (.d (.lst xs.reverse)) c
  | some (.str z) => if z.length ≤ sizeLine then .ok (.d (.str (revS z))) c else .bad
  | _ => .bad
def mRev (A : M) : M := fun δ c => (A δ c).bind revF
def tRevS (te : TE) : TE := fun σ H Q => te σ H fun x H1 => ∃ z, x = .str z ∧ z.length ≤ sizeLine ∧ Q (.str (revS z)) H1
theorem revS_len (z : Str) : (revS z).length ≤ z.length := by
  show (((Builtin.Str.strSliceIndices none none (-1) z.length).filterMap (z.cps[·]?)).toArray).size ≤ z.length
  rw [List.size_toArray]
  exact Nat.le_trans (List.length_filterMap_le _ _) (sliceIndicesBy_le _ _ _ (by decide) z.length)
theorem pe_revS {te : TE} {k : Nat} (he : PE X e te) : PE X (.Subscript e (.Slice none none (some (.UnaryOp .USub (.Constant (.int 1) k p1) p2)) p3) pos) (tRevS te) := by
  refine ⟨fun pins s σ H Q I h => ?_⟩
  refine Subscript_ (thn (he.run pins s σ H _ I h) fun v s1 ⟨x, H1, I1, r1, z, ex, hz, q⟩ => ?_)
  subst ex
  obtain ⟨t, rfl⟩ := r1
  have hst : PO X (some (.UnaryOp .USub (.Constant (.int 1) k p1) p2)) (tPart (tUn (rU fun i => .int (-i)) (tC (.int 1)))) := po_some (pe_un un_neg pe_int)
  refine wpAny_Slice (thn (po_none.run pins s1 σ H1 (fun o H2 => o = none ∧ H2 = H1) I1 ⟨rfl, rfl⟩) fun vl s2 ⟨l, H2, I2, pl, el, e2⟩ => ?_)
  subst el e2
  refine thn (po_none.run pins s2 σ H2 (fun o H3 => o = none ∧ H3 = H2) I2 ⟨rfl, rfl⟩) fun vu s3 ⟨u, H3, I3, pu, eu, e3⟩ => ?_
  subst eu e3
  refine thn (hst.run pins s3 σ H3 (fun o H4 => o = some (-1) ∧ H4 = H3) I3 ⟨1, rfl, -1, rfl, rfl, rfl⟩) fun vs s4 ⟨o, H4, I4, ps, eo, e4⟩ => ?_
  subst eo e4
  have I5 : Inv X pins σ H4 { s4 with heap := s4.heap.push { cls := .type "slice", data := .fields #[vl, vu, vs] } } := I4.kept (t' := s4.toks) fun b ob q => Heap.get?_push_of_some _ q
  obtain ⟨l1, rfl, el⟩ := IsPart.raw pl
  obtain ⟨u1, rfl, eu⟩ := IsPart.raw pu
  obtain ⟨st1, rfl, es⟩ := IsPart.raw ps
  have el : l1 = none := by cases l1 <;> simp_all
  have eu : u1 = none := by cases u1 <;> simp_all
  subst el eu
  show wpAny (model X.prog X.w) X.A (subscriptTail e (.Slice none none (some (.UnaryOp .USub (.Constant (.int 1) k p1) p2)) p3) (.str z t) (.ref s4.heap.objs.size)) (EP X pins σ Q) X.xe { s4 with heap := s4.heap.push { cls := .type "slice", data := .fields #[partValue none, partValue none, partValue st1] } }
  refine tail_any (ops := [.str z t, .ref s4.heap.objs.size]) (typeIs_str _ _ _) F.slot_str_getitem.lookup ?_ (by with_unfolding_all rfl)
  cases st1 with
  | none => cases es
  | some q1 =>
    obtain ⟨i, ti⟩ := q1
    have hi : i = -1 := by simpa using es
    subst hi
    refine wpAny_getItem_str_slice (l := none) (u := none) (st := some (-1, ti)) ⟨_, Heap.get?_push_size _ rfl, rfl, rfl⟩ rfl ?_
    show Made.post (if ((-1 : Int) == 1 && (Builtin.Str.strSliceIndices none none (-1) z.length).length == z.length) = true then Made.val (.str z t) else Made.str (revS z)) (EP X pins σ Q) _
    rw [if_neg (by simp)]
    exact ⟨Nat.le_trans (revS_len z) hz, .str _, H4, I5.tok _, ⟨_, rfl⟩, q⟩
theorem Reps.reverse {G : Hp} : ∀ {xs : List D} {vs : List V}, Reps T G xs vs → Reps T G xs.reverse vs.reverse
  | [], vs, r => by cases r.nil_inv; exact Reps.nil
  | x :: xs, vs, r => by
    obtain ⟨v, us, rfl, a, b⟩ := r.cons_inv
    rw [List.reverse_cons, List.reverse_cons]
    exact (Reps.reverse b).append (Reps.cons a Reps.nil)
theorem dn_rev {k : Nat} (hT : X.K = T.K) (he : PE X e (tD T W A)) : PE X (.Subscript e (.Slice none none (some (.UnaryOp .USub (.Constant (.int 1) k p1) p2)) p3) pos) (tD T W (mRev A)) := by
  refine PE.imp (PE.or (pe_revL he) (pe_revS he)) fun σ H Q ⟨δ, c, G, ρ, hs, hh, p⟩ => ?_
  cases hA : A δ c with
  | bad => unfold mRev at p; rw [hA] at p; exact p.elim
  | ex k xs c' => unfold mRev at p; rw [hA] at p; exact .inl ⟨δ, c, G, ρ, hs, hh, by rw [hA]; exact p⟩
  | ok s c' =>
    unfold mRev at p
    rw [hA] at p
    have p : Post (SRep T) T W σ G ρ (revF s c') Q := p
    unfold revF at p
    cases hd : deref s c' with
    | none => simp only [hd] at p; exact p.elim
    | some d =>
      cases d with
      | lst xs =>
        simp only [hd] at p
        refine .inl ⟨δ, c, G, ρ, hs, hh, ?_⟩
        rw [hA]
        intro v H1 G1 ρ1 e1 p1 h1 r1
        obtain ⟨q, vs, rfl, sq, hl, rr⟩ := deref_view h1 r1 hd
        refine ⟨q, vs, rfl, by rw [hT]; exact SqL.of sq, fun t ht => ?_⟩
        have st : Step G1 H1 (upd G1 t (.lst vs.reverse)) (upd H1 t (.lst vs.reverse)) := Step.new h1.ex ht
        exact p _ _ _ ρ1 (e1.trans st.g) p1 (h1.step st) (Rep.lst upd_same (by simpa using hl) (Reps.mono st.g _ _ (Reps.reverse rr)))
      | str z =>
        simp only [hd] at p
        by_cases hz : z.length ≤ sizeLine
        · rw [if_pos hz] at p
          refine .inr ⟨δ, c, G, ρ, hs, hh, ?_⟩
          rw [hA]
          intro v H1 G1 ρ1 e1 p1 h1 r1
          have := View.str_inv (deref_view h1 r1 hd)
          subst this
          exact ⟨z, rfl, hz, p _ H1 G1 ρ1 e1 p1 h1 SRep.str⟩
        · rw [if_neg hz] at p; exact p.elim
      | _ => simp only [hd] at p; exact p.elim
/-! ### a list with cells -/
def mkLstC (ss : List S) (c : Cs) : R S := if noXs ss = true ∧ ss.length ≤ sizeLine then .ok (.c c.length) (c ++ [.lS ss]) else .bad
def mLstC (B : MA) : M := fun δ c => (B δ c).bind mkLstC
theorem dn_lstC {B : MA} (h : PA X es (tDA T W B)) : PE X (.List es pos) (tD T W (mLstC B)) := by
  refine PE.imp (pe_lst h) fun σ H Q ⟨δ, c, G, ρ, hs, hh, p⟩ => ?_
  refine ⟨δ, c, G, ρ, hs, hh, (Post.bind (rel := SReps T) p).imp ?_⟩
  rintro vs H1 ⟨ss, c1, G1, ρ1, e1, p1, h1, r1, q1⟩
  unfold mkLstC at q1
  by_cases hk : noXs ss = true ∧ ss.length ≤ sizeLine
  · rw [if_pos hk] at q1
    refine ⟨by rw [r1.length]; exact hk.2, fun t ht => ?_⟩
    have h2 := h1.newCell (x := .lS ss) (ob := .lst vs) ht (fun H' hH' => ⟨vs, hH', hk.2, noXs_reps hk.1 r1⟩)
    exact q1 _ _ G1 (ρ1 ++ [t]) (.refl _) (List.prefix_append _ _) h2 ⟨t, by rw [← h1.len]; simp, rfl⟩
  · rw [if_neg hk] at q1; exact q1.elim
/-! ### {'a': x}, x a local name -/
def mDctV (k : Str) (i : Nat) : M := fun δ c => match δ[i]? with
  | some (some (.d x)) => .ok (.d (.dct [.inr k] [x])) c
  | _ => .bad
theorem dn_dctV {k : Str} {i j : Nat} {x : Str} {p1 p2} (hN : X.N[i]? = some x) (hv : Vis X.env.scope x) (hd : (x == ("__debug__" : Str)) = false := by decide) (hcd : (x == ("__classdict__" : Str)) = false := by decide) : PE X (.Dict [some (.Constant (.str k) j p1)] [.Name x p2] pos) (tD T W (mDctV k i)) := by
  refine PE.imp (pe_disp (pps_cons pe_str (pe_var hN hv hd hcd) pps_nil) rfl rfl (by simp) (by simp)) fun σ H Q ⟨δ, c, G, ρ, hs, hh, p⟩ => ?_
  unfold mDctV at p
  split at p
  · rename_i d hd
    obtain ⟨v, hv, r⟩ := hs.at_ i _ hd
    intro q hq
    refine ⟨v, hv, upd_same, [(.inr k, v)], rfl, by simp, ?_⟩
    have eh : upd (upd H q (.dK [])) q (.dK (mergeK [] [(Sum.inr k, v)])) = upd H q (.dK [(Sum.inr k, v)]) := by
      rw [upd_upd]
      rfl
    rw [eh]
    have st := Step.new (o := .dK [((Sum.inr k : Key), v)]) hh.ex hq
    exact p _ _ _ ρ st.g (List.prefix_refl _) (hh.step st) (Rep.dct (ks := [Sum.inr k]) upd_same rfl (Reps.cons (Rep.mono st.g _ _ r) Reps.nil))
  · exact p.elim
end
end Dn
namespace Dn
open PySem PySem.Spec PyProof.Rows L2
theorem dn_gstr {X : Cx} {T : Tb} {W : WX} {x : Str} {z : Str} {pos : Pos} (hg : Gl X x) (hm : ∃ t, X.mg x = some (.str z t)) (hd : (x == ("__debug__" : Str)) = false := by decide) : PE X (.Name x pos) (tD T W (mC (.str z))) := by
  obtain ⟨t, hm⟩ := hm
  exact dn_glob (v := .str z) hg hm ⟨t, rfl⟩ (fun _ => Rep.str) hd
end Dn
namespace Dn
open PySem PySem.Spec PyProof.Rows L2
section
variable {X : Cx} {T : Tb} {W : WX} {a b : Expr} {pos : Pos}
/-- a, b = x, y by a tuple -/
theorem ds_parT {i j : Nat} {x y : Str} {B : MA} {px py pt : Pos} {kt k2 pt2} (hc : X.calm = true) (hN : X.N.Nodup) (hi : X.N[i]? = some x) (hj : X.N[j]? = some y) (hx : Loc X.env.scope x) (hy : Loc X.env.scope y) (ha : PA X [a, b] (tDA T W B))
    (hw : swappedStores [.Tuple [.Name x px, .Name y py] kt pt] (.Tuple [a, b] k2 pt2) X.env = pure none := by rfl) (hs : swapsWithSole [.Tuple [.Name x px, .Name y py] kt pt] (.Tuple [a, b] k2 pt2) pos.line X.env = pure false := by rfl)
    (hfx : X.fn x = true ∨ X.env.scope.names.lookup x = some .local := by first | exact .inl rfl | exact .inr rfl | assumption) (hfy : X.fn y = true ∨ X.env.scope.names.lookup y = some .local := by first | exact .inl rfl | exact .inr rfl | assumption)
    (h1 : (assignEach [.Tuple [.Name x px, .Name y py] kt pt] X.env).map (·.2) = [assign (.Tuple [.Name x px, .Name y py] kt pt) X.env] := by rfl)
    (ha1 : (assignEach [.Name x px, .Name y py] X.env).map (·.2) = assign (.Name x px) X.env :: (assignEach [.Name y py] X.env).map (·.2) := by rfl) (ha2 : (assignEach [.Name y py] X.env).map (·.2) = assign (.Name y py) X.env :: (assignEach [] X.env).map (·.2) := by rfl)
    (hn : (assignEach [.Name x px, .Name y py] X.env).length = 2 := by rfl) (hst : (assignEach [.Name x px, .Name y py] X.env).findIdx? (·.1) = none := by rfl) :
    PS X (.Assign [.Tuple [.Name x px, .Name y py] kt pt] (.Tuple [a, b] k2 pt2) pos) (tS T W (sPar i j B)) := by
  refine PS.imp (ps_asg (pe_tup ha) (pg_tup hc (pgs_cons (pg_name hN hi hx hfx) (pgs_cons (pg_name hN hj hy hfy) pgs_nil ha2) ha1) hn hst) hs hw h1) fun E σ H ⟨δ, c, G, ρ, hs, hh, p⟩ => ?_
  refine ⟨δ, c, G, ρ, hs, hh, (PostS.andS (rel := SReps T) hs p).imp ?_⟩
  rintro v H1 ⟨ss, c1, G1, ρ1, e1, p1, h1, r1, q1⟩
  cases r1 with
  | nil => exact q1.elim
  | cons ra rb =>
    cases rb with
    | nil => exact q1.elim
    | cons rb rc =>
      cases rc with
      | cons _ _ => exact q1.elim
      | nil =>
        refine ⟨by have := sizeLine_eq; simp; omega, fun t ht => ⟨t, _, rfl, SqT.of upd_same, rfl, _, _, rfl, _, _, rfl, rfl, ?_⟩⟩
        exact q1 _ _ G1 ρ1 (.refl _) (List.prefix_refl _) (((hs.mono e1 p1).set i ra).set j rb) (h1.grow (Ex.new ht))
end
end Dn

end
/-! what the defs of law_k18_webs_refused_and_read compute, printed by gen.py -/
namespace Dn
def f__bottom : List (Nat × Nat) := [(1, 1)]
def f__top : List (Nat × Nat) := [(1, 0)]
def f_heard_lots : List (Nat × Nat) := [(0, 1)]
def f_seats : List (Nat × Nat) := [(0, 0)]
def k_Ratio : Kinds := kAll false false false false false false false [(1, true), (0, false)]
def k_Web : Kinds := kAll false false false false false false false [(1, false), (0, true)]
def k_bool : Kinds := kAll false true false false false false false [(1, false), (0, false)]
def k_int : Kinds := kAll false true true false false false false [(1, false), (0, false)]
def k_int_Ratio : Kinds := kAll false true true false false false false [(1, true), (0, false)]
def k_list_tuple : Kinds := kAll false false false false true true false [(1, false), (0, false)]
def k_str : Kinds := kAll false false false true false false false [(1, false), (0, false)]
def xf_given : List (Nat × Nat) := [(39, 0), (27, 0), (26, 0)]
def b_Ratio_init : MS := (sSeq (sIf (mTB (mBin (lift2 (eqP false)) (mVar 2) (mC (.int 0)))) (sRaise0 13) sNil) (sSeq (sSet 3 (mBlt (liftN gcdD) (mCons (mVar 1) (mCons (mVar 2) mNil)))) (sSeq (sIf (mTB (mBin (lift2 ltD) (mVar 2) (mC (.int 0)))) (sSet 3 (mUn (lift1 negD) (mVar 3))) sNil) (sSeq (sFldSet f__top (mVar 0) (mBin (lift2 fdivD) (mVar 1) (mVar 3))) (sFldSet f__bottom (mVar 0) (mBin (lift2 fdivD) (mVar 2) (mVar 3)))))))
def d_Ratio_init : List S → Cs → R S := fnG false 3 4 b_Ratio_init
def b_is_number : MS := (sSeq (sIf (mTB (mIsi k_bool (mVar 0))) (sRet (mC (.bl false))) sNil) (sRet (mIsi k_int_Ratio (mVar 0))))
def d_is_number : List S → Cs → R S := fnG false 1 1 b_is_number
def b_parts_of : MS := (sSeq (sIf (mTB (mIsi k_Ratio (mVar 0))) (sRet (mTup (mCons (mProp 1 0 (mVar 0)) (mCons (mProp 1 1 (mVar 0)) mNil)))) sNil) (sRet (mTup (mCons (mVar 0) (mCons (mC (.int 1)) mNil)))))
def d_parts_of : List S → Cs → R S := fnG false 1 1 b_parts_of
def b_Ratio_eq : MS := (sSeq (sIf (mtNot (mTB (mBlt d_is_number (mCons (mVar 1) mNil)))) (sRet (mC (.bl false))) sNil) (sSeq (sAsg (gtTup (gtCons (gtName 2) (gtCons (gtName 3) gtNil))) (mBlt d_parts_of (mCons (mVar 1) mNil))) (sRet (mAnd (mBin (lift2 (eqP false)) (mAttr f__top (mVar 0)) (mVar 2)) (mBin (lift2 (eqP false)) (mAttr f__bottom (mVar 0)) (mVar 3))))))
def d_Ratio_eq : List S → Cs → R S := fnG false 2 4 b_Ratio_eq
def b_Web_eq : MS := (sRet (mAnd (mIsi k_Web (mVar 1)) (mAnd (mBin (lift2 (eqP false)) (mAttr f_seats (mVar 0)) (mAttr f_seats (mVar 1))) (mBin (lift2 (eqP false)) (mAttr f_heard_lots (mVar 0)) (mAttr f_heard_lots (mVar 1))))))
def d_Web_eq : List S → Cs → R S := fnG false 2 2 b_Web_eq
def eqs : List (Nat × (List S → Cs → R S)) := [(1, d_Ratio_eq), (0, d_Web_eq)]
def b_law_bad_lots : MS := (sSeq (sSet 2 (mLst (mCons (mC .non) (mCons (mLst mNil) (mCons (mTup mNil) (mCons (mC (.int 5)) (mCons (mC (.str "01")) (mCons (mDct1 "a" 1) (mCons (mBin (lift2 mulD) (mLst (mCons (mLst mNil) mNil)) (mC (.int 4))) (mCons (mBin (lift2 addD) (mSl (mVar 1) moNone (moSome (mC (.int 2)))) (mLst (mCons (mC .non) mNil))) (mCons (mLst (mCons (mLst (mCons (mC (.int 0)) (mCons (mC (.int 0)) mNil))) mNil)) (mCons (mLst (mCons (mLst (mCons (mVar 0) mNil)) mNil)) (mCons (mLst (mCons (mLst (mCons (mUn (lift1 negD) (mC (.int 1))) mNil)) mNil)) (mCons (mLst (mCons (mLst (mCons (mC (.bl true)) mNil)) mNil)) mNil)))))))))))))) (sSeq (sSet 2 (mBin (lift2 addD) (mVar 2) (mLst (mCons (mLst (mCons (mLst (mCons (mC (.str "0")) mNil)) mNil)) (mCons (mLst (mCons (mLst (mCons (mC .non) mNil)) mNil)) (mCons (mLst (mCons (mC (.int 0)) mNil)) (mCons (mLst (mCons (mLst (mCons (mC (.str "a")) mNil)) mNil)) (mCons (mLst (mCons (mLst (mCons (mMake 1 2 d_Ratio_init (mDfl (mCons (mC (.int 0)) mNil) 1)) mNil)) mNil)) (mCons (mLst (mCons (mDct1 "a" 0) mNil)) (mCons (mLst (mCons (mLst (mCons (mLst (mCons (mC (.int 0)) mNil)) mNil)) mNil)) (mCons (mLst (mCons (mLst (mCons (mC (.int 0)) mNil)) (mCons (mLst (mCons (mBin (lift2 powD) (mC (.int 10)) (mC (.int 20))) mNil)) mNil))) (mCons (mLst (mCons (mC (.str "0")) mNil)) mNil)))))))))))) (sRet (mBin (lift2 addD) (mVar 2) (mLst (mCons (mLst (mCons (mLst (mCons (mC (.int 1)) (mCons (mC (.int 0)) mNil))) mNil)) (mCons (mLst (mCons (mLst mNil) (mCons (mLst (mCons (mC (.int 0)) (mCons (mC (.int 2)) (mCons (mC (.int 1)) mNil)))) mNil))) (mCons (mLst (mCons (mLst (mCons (mC (.int 0)) (mCons (mC (.int 1)) (mCons (mC (.int 2)) (mCons (mC (.int 3)) mNil))))) mNil)) mNil))))))))
def d_law_bad_lots : List S → Cs → R S := fnG false 2 3 b_law_bad_lots
def b_law_bad_seats : MS := (sRet (mLst (mCons (mC .non) (mCons (mC (.int 0)) (mCons (mC (.int 4)) (mCons (mUn (lift1 negD) (mC (.int 1))) (mCons (mC (.bl true)) (mCons (mC (.str "2")) (mCons (mLst (mCons (mC (.int 2)) mNil)) (mCons (mTup mNil) (mCons (mMake 1 2 d_Ratio_init (mDfl (mCons (mC (.int 2)) mNil) 1)) (mCons (mBin (lift2 powD) (mC (.int 10)) (mC (.int 25))) (mCons (mDct1 "a" 1) mNil)))))))))))))
def d_law_bad_seats : List S → Cs → R S := fnG false 0 0 b_law_bad_seats
def b_Web_len : MS := (sRet (mBlt (liftN lenD) (mCons (mAttr f_heard_lots (mVar 0)) mNil)))
def d_Web_len : List S → Cs → R S := fnG false 1 1 b_Web_len
def lens : List (Nat × (Nat × (List S → Cs → R S))) := [(0, 2, d_Web_len)]
def b_law_box : MS := (sSeq (sSet 2 (mBin (lift2 modD) (mBlt (liftN intD) (mCons (mBin (lift2 addD) (mBlt (liftN sumD) (mCons (mVar 0) mNil)) (mBlt (liftN (lenO lens)) (mCons (mVar 0) mNil))) mNil)) (mC (.int 1000003)))) (sRet (mCell (mCons (mIf (mTB (mBin (lift2 ltD) (mVar 1) (mBlt (liftN (lenO lens)) (mCons (mVar 0) mNil)))) (mBlt (liftN absD) (mCons (mBlt (liftN intD) (mCons (mBin (lift2 ixD) (mVar 0) (mVar 1)) mNil)) mNil)) (mC (.int 0))) (mCons (mC (.int 0)) (mCons (mBin (lift2 addD) (mBin (lift2 addD) (mBin (lift2 mulD) (mC (.int 40597)) (mVar 1)) (mC (.int 911))) (mVar 2)) mNil))))))
def d_law_box : List S → Cs → R S := fnG true 2 3 b_law_box
def b_is_integer : MS := (sRet (mAnd (mIsi k_int (mVar 0)) (mNot (mIsi k_bool (mVar 0)))))
def d_is_integer : List S → Cs → R S := fnG false 1 1 b_is_integer
def b_is_place : MS := (sRet (mAnd (mBlt d_is_integer (mCons (mVar 0) mNil)) (mChain (lift2 leD) (lift2 ltD) (mC (.int 0)) (mVar 0) (mVar 1))))
def d_is_place : List S → Cs → R S := fnG false 2 2 b_is_place
def b_is_lot : MS := (sSeq (sIf (mtOr (mtNot (mTB (mIsi k_list_tuple (mVar 0)))) (mtNot (mTB (mBlt (liftN allD) (mCons (mComp (iSeq (mVar 0)) (gtName 2) mtYes (mBlt d_is_place (mCons (mVar 2) (mCons (mVar 1) mNil))) [2]) mNil))))) (sRet (mC (.bl false))) sNil) (sRet (mBlt (liftN allD) (mCons (mComp (iRng (mCons (mBin (lift2 subD) (mBlt (liftN (lenO lens)) (mCons (mVar 0) mNil)) (mC (.int 1))) mNil)) (gtName 3) mtYes (mBin (lift2 ltD) (mBin (lift2 ixD) (mVar 0) (mVar 3)) (mBin (lift2 ixD) (mVar 0) (mBin (lift2 addD) (mVar 3) (mC (.int 1))))) [3]) mNil))))
def d_is_lot : List S → Cs → R S := fnG false 2 4 b_is_lot
def b_are_lots : MS := (sSeq (sIf (mtOr (mtNot (mTB (mIsi k_list_tuple (mVar 0)))) (mtNot (mTB (mChain (lift2 leD) (lift2 leD) (mC (.int 1)) (mBlt (liftN (lenO lens)) (mCons (mVar 0) mNil)) (mC (.int 3)))))) (sRet (mC (.bl false))) sNil) (sRet (mBlt (liftN allD) (mCons (mComp (iSeq (mVar 0)) (gtName 2) mtYes (mBlt d_is_lot (mCons (mVar 2) (mCons (mVar 1) mNil))) [2]) mNil))))
def d_are_lots : List S → Cs → R S := fnG false 2 3 b_are_lots
def b_is_many : MS := (sRet (mAnd (mBlt d_is_place (mCons (mVar 0) (mCons (mBin (lift2 addD) (mC (.int 3)) (mC (.int 1))) mNil))) (mBin (lift2 gtD) (mVar 0) (mC (.int 0)))))
def d_is_many : List S → Cs → R S := fnG false 1 1 b_is_many
def b_Web_init : MS := (sSeq (sIf (mtNot (mTB (mBlt d_is_many (mCons (mVar 1) mNil)))) (sRaise1 27 (mVar 1)) sNil) (sSeq (sIf (mtNot (mTB (mBlt d_are_lots (mCons (mVar 2) (mCons (mVar 1) mNil))))) (sRaise1 26 (mVar 2)) sNil) (sSeq (sFldSet f_seats (mVar 0) (mVar 1)) (sFldSet f_heard_lots (mVar 0) (mBlt (liftN tupleD) (mCons (mComp (iSeq (mVar 2)) (gtName 3) mtYes (mBlt (liftN tupleD) (mCons (mVar 3) mNil)) [3]) mNil))))))
def d_Web_init : List S → Cs → R S := fnG false 3 4 b_Web_init
def b_read_web : MS := (sSeq (sIf (mtNot (mTB (mIsi k_str (mVar 0)))) (sRaise1 39 (mVar 0)) sNil) (sSeq (sSet 1 (m1T splF (mVar 0) (mC (.str " ")))) (sSeq (sSet 2 (mIf (mTB (mBin (lift2 (eqP false)) (mBlt (liftN (lenO lens)) (mCons (mBin (lift2 ixD) (mVar 1) (mC (.int 0))) mNil)) (mC (.int 1)))) (m1T findF (mC (.str "0123456789")) (mBin (lift2 ixD) (mVar 1) (mC (.int 0)))) (mC (.int 0)))) (sSeq (sSet 3 (mComp (iSeqT (mSl (mVar 1) (moSome (mC (.int 1))) moNone)) (gtName 4) mtYes (mIf (mTB (mBin (lift2 (eqP true)) (mVar 4) (mC (.str "-")))) (mComp (iSeqT (mVar 4)) (gtName 5) mtYes (m1T findF (mC (.str "0123456789")) (mVar 5)) [5]) (mLst mNil)) [4])) (sSeq (sIf (mtOr (mTB (mBin (lift2 (inX false)) (mC (.str "")) (mVar 1))) (mtOr (mtNot (mTB (mBlt d_is_many (mCons (mVar 2) mNil)))) (mtNot (mTB (mBlt d_are_lots (mCons (mVar 3) (mCons (mVar 2) mNil))))))) (sRaise1 39 (mVar 0)) sNil) (sRet (mMake 0 2 d_Web_init (mCons (mVar 2) (mCons (mVar 3) mNil)))))))))
def d_read_web : List S → Cs → R S := fnG false 1 6 b_read_web
def b_law_caught : MS := (sTryM [⟨[39], [27, 13, 26], (some 1), (sRet (mLst (mCons (mC (.str "text")) (mCons (mXf xf_given 1) mNil))))⟩] (sRet (mLst (mCons (mC (.str "told")) (mCons (mBlt d_read_web (mCons (mVar 0) mNil)) mNil)))))
def d_law_caught : List S → Cs → R S := fnG false 1 2 b_law_caught
def b_law_take : MS := (sSeq (sIf (mTB (mBin (lift2 geD) (mBin (lift2 ixD) (mVar 0) (mC (.int 0))) (mBin (lift2 powD) (mC (.int 10)) (mC (.int 18))))) (sSeq (sSet 2 (mBin (lift2 modD) (mBlt (liftN intD) (mCons (mBin (lift2 ixD) (mVar 0) (mC (.int 0))) mNil)) (mVar 1))) (sSeq (sSetIx (mVar 0) (mC (.int 0)) (mBin (lift2 fdivD) (mBin (lift2 ixD) (mVar 0) (mC (.int 0))) (mVar 1))) (sRet (mVar 2)))) sNil) (sSeq (sSetIx (mVar 0) (mC (.int 1)) (mBin (lift2 addD) (mBin (lift2 ixD) (mVar 0) (mC (.int 1))) (mC (.int 1)))) (sSeq (sSet 3 (mBin (lift2 modD) (mBin (lift2 powD) (mBlt (liftN intD) (mCons (mBin (lift2 addD) (mBin (lift2 addD) (mBin (lift2 mulD) (mBin (lift2 addD) (mBin (lift2 ixD) (mVar 0) (mC (.int 0))) (mC (.int 7))) (mC (.int 69069))) (mBin (lift2 mulD) (mBin (lift2 ixD) (mVar 0) (mC (.int 1))) (mC (.int 40813)))) (mBin (lift2 ixD) (mVar 0) (mC (.int 2)))) mNil)) (mC (.int 3))) (mC (.int 2147483647)))) (sSeq (sSet 3 (mBin (lift2 modD) (mBin (lift2 powD) (mBlt (liftN intD) (mCons (mBin (lift2 addD) (mVar 3) (mBin (lift2 mulD) (mBin (lift2 ixD) (mVar 0) (mC (.int 1))) (mC (.int 17389)))) mNil)) (mC (.int 3))) (mC (.int 2147483399)))) (sRet (mBin (lift2 modD) (mBlt (liftN intD) (mCons (mBin (lift2 fdivD) (mVar 3) (mC (.int 64))) mNil)) (mVar 1)))))))
def d_law_take : List S → Cs → R S := fnG false 2 4 b_law_take
def b_law_lots : MS := (sSeq (sSet 3 (mCell mNil)) (sSeq (sFor (iRng (mCons (mVar 2) mNil)) (gtName 4) (sSeq (sSet 5 (mBlt d_law_take (mCons (mVar 0) (mCons (mC (.int 6)) mNil)))) (sSeq (sSet 6 (mComp (iRng (mCons (mVar 1) mNil)) (gtName 7) (mTB (mBin (eqV2 eqs 4) (mBlt d_law_take (mCons (mVar 0) (mCons (mC (.int 2)) mNil))) (mC (.int 0)))) (mVar 7) [7])) (sExpr (mAppend (mVar 3) (mCons (mIf (mTB (mBin (eqV2 eqs 4) (mVar 5) (mC (.int 0)))) (mLstRng (mVar 1)) (mIf (mTB (mBin (eqV2 eqs 4) (mVar 5) (mC (.int 1)))) (mLst mNil) (mVar 6))) mNil)))))) (sRet (mVar 3))))
def d_law_lots : List S → Cs → R S := fnG false 3 8 b_law_lots
def b_law_read : MS := (sSeq (sSet 1 (m1T splF (mVar 0) (mC (.str " ")))) (sSeq (sIf (mtOr (mTB (mBin (lift2 (inX true)) (mBin (lift2 ixD) (mVar 1) (mC (.int 0))) (mLst (mCons (mC (.str "1")) (mCons (mC (.str "2")) (mCons (mC (.str "3")) mNil)))))) (mtNot (mTB (mChain (lift2 leD) (lift2 leD) (mC (.int 2)) (mBlt (liftN (lenO lens)) (mCons (mVar 1) mNil)) (mC (.int 4)))))) (sRet (mC .non)) sNil) (sSeq (sPar 2 3 (mCons (mBlt (liftN intT) (mCons (mBin (lift2 ixD) (mVar 1) (mC (.int 0))) mNil)) (mCons (mCell mNil) mNil))) (sSeq (sFor (iSeqT (mSl (mVar 1) (moSome (mC (.int 1))) moNone)) (gtName 4) (sSeq (sIf (mtAnd (mTB (mBin (eqY eqs 4 true) (mVar 4) (mC (.str "-")))) (mtOr (mTB (mBin (eqV2 eqs 4) (mVar 4) (mC (.str "")))) (mTB (mBin (eqY eqs 4 true) (mComp (iSeqT (mVar 4)) (gtName 6) (mTB (mBin (lift2 (inX true)) (mVar 6) (mSl (mC (.str "012")) moNone (moSome (mVar 2))))) (mVar 6) [6]) (mLst mNil))))) (sRet (mC .non)) sNil) (sSeq (sSet 5 (mIf (mTB (mBin (eqV2 eqs 4) (mVar 4) (mC (.str "-")))) (mLst mNil) (mComp (iSeqT (mVar 4)) (gtName 6) mtYes (mBlt (liftN intT) (mCons (mVar 6) mNil)) [6]))) (sSeq (sIf (mTB (mBin (eqY eqs 4 true) (mVar 5) (mSortSet (mVar 5)))) (sRet (mC .non)) sNil) (sExpr (mAppend (mVar 3) (mCons (mVar 5) mNil))))))) (sRet (mLstC (mCons (mVar 2) (mCons (mVar 3) mNil))))))))
def d_law_read : List S → Cs → R S := fnE exitF 1 7 b_law_read
def dA_law_read : List S → Cs → R S := fnE exitA 1 7 b_law_read
def b_Web_text : MS := (sSeq (sSet 1 (mComp (iSeq (mAttr f_heard_lots (mVar 0))) (gtName 2) mtYes (mIf (mTB (mBin (lift2 (eqP true)) (mVar 2) (mTup mNil))) (m1T joinF (mC (.str "")) (mComp (iSeq (mVar 2)) (gtName 3) mtYes (mBlt (liftN strD) (mCons (mVar 3) mNil)) [3])) (mC (.str "-"))) [2])) (sRet (m1T joinF (mC (.str " ")) (mLst (mCons (mBlt (liftN strD) (mCons (mAttr f_seats (mVar 0)) mNil)) (mStarC (mVar 1) mNil))))))
def d_Web_text : List S → Cs → R S := fnG false 1 4 b_Web_text
def t_text : List (Nat × (List S → Cs → R S)) := [(0, d_Web_text)]
def b_law_reading_right : MS := (sSeq (sPar 1 2 (mCons (mBlt d_law_read (mCons (mVar 0) mNil)) (mCons (mBlt d_law_caught (mCons (mVar 0) mNil)) mNil))) (sSeq (sIf (mTB (mIsN false (mVar 1))) (sRet (mBin (eqV2 eqs 4) (mVar 2) (mLst (mCons (mC (.str "text")) (mCons (mVar 0) mNil))))) sNil) (sRet (mAnd (mBin (eqV2 eqs 4) (mVar 2) (mLst (mCons (mC (.str "told")) (mCons (mMake 0 2 d_Web_init (mCons (mBin (lift2 ixD) (mVar 1) (mC (.int 0))) (mCons (mBin (lift2 ixD) (mVar 1) (mC (.int 1))) mNil))) mNil)))) (mBin (eqV2 eqs 4) (mMeth t_text (mBin (lift2 ixD) (mVar 2) (mC (.int 1))) mNil) (mVar 0))))))
def d_law_reading_right : List S → Cs → R S := fnG false 1 3 b_law_reading_right
def b_law_spoilt : MS := (sSeq (sPar 2 3 (mCons (mBlt d_law_take (mCons (mVar 0) (mCons (mC (.int 6)) mNil))) (mCons (mBlt d_law_take (mCons (mVar 0) (mCons (mBin (lift2 addD) (mBlt (liftN (lenO lens)) (mCons (mVar 1) mNil)) (mC (.int 1))) mNil))) mNil))) (sSeq (sSet 4 (mBin (lift2 ixD) (mC (.str "0123 -+a\n4")) (mBlt d_law_take (mCons (mVar 0) (mCons (mC (.int 10)) mNil))))) (sSeq (sIf (mTB (mBin (lift2 ltD) (mVar 2) (mC (.int 3)))) (sRet (mBin (lift2 addD) (mBin (lift2 addD) (mSl (mVar 1) moNone (moSome (mVar 3))) (mBin (lift2 ixD) (mLst (mCons (mVar 4) (mCons (mC (.str "")) (mCons (mVar 4) mNil)))) (mVar 2))) (mSl (mVar 1) (moSome (mBin (lift2 addD) (mVar 3) (mBin (lift2 ixD) (mLst (mCons (mC (.int 0)) (mCons (mC (.int 1)) (mCons (mC (.int 1)) mNil)))) (mVar 2)))) moNone))) sNil) (sSeq (sSet 5 (m1T splC (mVar 1) (mC (.str " ")))) (sSeq (sSet 6 (mBlt d_law_take (mCons (mVar 0) (mCons (mBlt (liftN (lenO lens)) (mCons (mVar 5) mNil)) mNil)))) (sSeq (sSetIx (mVar 5) (mVar 6) (mBin (lift2 ixD) (mLst (mCons (mBin (lift2 addD) (mBin (lift2 ixD) (mVar 5) (mVar 6)) (mBin (lift2 ixD) (mVar 5) (mVar 6))) (mCons (mRev (mBin (lift2 ixD) (mVar 5) (mVar 6))) (mCons (mC (.str "")) (mCons (mC (.str "-")) (mCons (mC (.str "0")) (mCons (mC (.str "01")) (mCons (mC (.str "012")) (mCons (mC (.str "3")) (mCons (mC (.str "2")) (mCons (mC (.str "00")) mNil))))))))))) (mBlt d_law_take (mCons (mVar 0) (mCons (mC (.int 10)) mNil))))) (sRet (m1T joinF (mC (.str " ")) (mBin ixS (mLstC (mCons (mVar 5) (mCons (mBin (lift2 addD) (mSl (mVar 5) moNone (moSome (mVar 6))) (mSl (mVar 5) (moSome (mBin (lift2 addD) (mVar 6) (mC (.int 1)))) moNone)) (mCons (mBin (lift2 addD) (mVar 5) (mLst (mCons (mBin (lift2 ixD) (mVar 5) (mUn (lift1 negD) (mC (.int 1)))) mNil))) mNil)))) (mBin (lift2 subD) (mVar 2) (mC (.int 3))))))))))))
def d_law_spoilt : List S → Cs → R S := fnG false 2 7 b_law_spoilt
def b_law_text : MS := (sSeq (sSet 2 (mComp (iSeq (mVar 1)) (gtName 3) mtYes (m1T joinF (mC (.str "")) (mComp (iSeq (mVar 3)) (gtName 4) mtYes (mBlt (liftN strD) (mCons (mVar 4) mNil)) [4])) [3])) (sRet (m1T joinF (mC (.str " ")) (mBin (lift2 addD) (mLst (mCons (mBlt (liftN strD) (mCons (mVar 0) mNil)) mNil)) (mComp (iSeq (mVar 2)) (gtName 5) mtYes (mIf (mTB (mBin (eqY eqs 4 true) (mVar 5) (mC (.str "")))) (mVar 5) (mC (.str "-"))) [5])))))
def d_law_text : List S → Cs → R S := fnG false 2 6 b_law_text
def b_all_lots : MS := (sSeq (sSet 1 (mCell (mCons (mLst mNil) mNil))) (sSeq (sFor (iRng (mCons (mVar 0) mNil)) (gtName 2) (sExpr (mExtend (mVar 1) (mCons (mComp (iSeq (mBlt (liftN listD) (mCons (mVar 1) mNil))) (gtName 3) mtYes (mLst (mStarC (mVar 3) (mCons (mVar 2) mNil))) [3]) mNil)))) (sRet (mBlt (liftN sortedD) (mCons (mVar 1) mNil)))))
def d_all_lots : List S → Cs → R S := fnG false 1 4 b_all_lots
def b_all_webs : MS := (sSeq (sIf (mtNot (mTB (mBlt d_is_many (mCons (mVar 0) mNil)))) (sRaise1 27 (mVar 0)) sNil) (sSeq (sIf (mtNot (mTB (mBlt d_is_many (mCons (mVar 1) mNil)))) (sRaise1 27 (mVar 1)) sNil) (sSeq (sSet 2 (mLst (mCons (mLst mNil) mNil))) (sSeq (sFor (iRng (mCons (mVar 1) mNil)) (gtName 3) (sSet 2 (mComp2 (iSeq (mVar 2)) (gtName 4) mtYes (iSeq (mBlt d_all_lots (mCons (mVar 0) mNil))) (gtName 5) mtYes (mLst (mStarC (mVar 4) (mCons (mVar 5) mNil))) [4, 5] [5]))) (sRet (mComp (iSeq (mVar 2)) (gtName 4) mtYes (mMake 0 2 d_Web_init (mCons (mVar 0) (mCons (mVar 4) mNil))) [4]))))))
def d_all_webs : List S → Cs → R S := fnG false 2 6 b_all_webs
def b_full_web : MS := (sSeq (sIf (mtNot (mTB (mBlt d_is_many (mCons (mVar 0) mNil)))) (sRaise1 27 (mVar 0)) sNil) (sSeq (sIf (mtNot (mTB (mBlt d_is_many (mCons (mVar 1) mNil)))) (sRaise1 27 (mVar 1)) sNil) (sRet (mMake 0 2 d_Web_init (mCons (mVar 0) (mCons (mComp (iRng (mCons (mVar 1) mNil)) (gtName 2) mtYes (mLstRng (mVar 0)) [2]) mNil))))))
def d_full_web : List S → Cs → R S := fnG false 2 3 b_full_web
def b_own_web : MS := (sSeq (sIf (mtNot (mTB (mBlt d_is_many (mCons (mVar 0) mNil)))) (sRaise1 27 (mVar 0)) sNil) (sRet (mMake 0 2 d_Web_init (mCons (mVar 0) (mCons (mComp (iRng (mCons (mVar 0) mNil)) (gtName 1) mtYes (mLst (mCons (mVar 1) mNil)) [1]) mNil)))))
def d_own_web : List S → Cs → R S := fnG false 1 2 b_own_web
def b_time_web : MS := (sSeq (sIf (mtNot (mTB (mBlt d_is_many (mCons (mVar 0) mNil)))) (sRaise1 27 (mVar 0)) sNil) (sRet (mMake 0 2 d_Web_init (mCons (mVar 0) (mCons (mComp (iRng (mCons (mVar 0) mNil)) (gtName 1) mtYes (mLstRng (mBin (lift2 addD) (mVar 1) (mC (.int 1)))) [1]) mNil)))))
def d_time_web : List S → Cs → R S := fnG false 1 2 b_time_web
def b_law_word : MS := (sSeq (sTryM [⟨[27], [39, 13, 26], (some 3), (sRet (mLst (mCons (mC (.str "seat")) (mCons (mXf xf_given 3) mNil))))⟩, ⟨[26], [27, 39, 13], (some 3), (sRet (mLst (mCons (mC (.str "lot")) (mCons (mXf xf_given 3) mNil))))⟩, ⟨[12, 13, 39, 27, 26], [], none, (sRet (mLst (mCons (mC (.str "other")) mNil)))⟩] (sIf (mTB (mBin (eqV2 eqs 4) (mVar 0) (mC (.int 0)))) (sExpr (mMake 0 2 d_Web_init (mCons (mVar 1) (mCons (mVar 2) mNil)))) (sIf (mTB (mBin (eqV2 eqs 4) (mVar 0) (mC (.int 1)))) (sExpr (mBlt d_full_web (mCons (mVar 1) (mCons (mVar 2) mNil)))) (sIf (mTB (mBin (eqV2 eqs 4) (mVar 0) (mC (.int 2)))) (sExpr (mBlt d_all_webs (mCons (mVar 1) (mCons (mVar 2) mNil)))) (sIf (mTB (mBin (eqV2 eqs 4) (mVar 0) (mC (.int 3)))) (sExpr (mBlt d_own_web (mCons (mVar 1) mNil))) (sExpr (mBlt d_time_web (mCons (mVar 1) mNil)))))))) (sRet (mLst (mCons (mC (.str "fine")) mNil))))
def d_law_word : List S → Cs → R S := fnG false 3 4 b_law_word
def b_law : MS := (sSeq (sFor (iRng (mCons (mBlt (liftN max2D) (mCons (mC (.int 1)) (mCons (mBlt (liftN min2D) (mCons (mC (.int 2)) (mCons (mBlt (liftN (lenO lens)) (mCons (mVar 0) mNil)) mNil))) mNil))) mNil)) (gtName 1) (sSeq (sSet 2 (mBlt d_law_box (mCons (mVar 0) (mCons (mVar 1) mNil)))) (sSeq (sAsg (gtTup (gtCons (gtName 3) (gtCons (gtName 4) gtNil))) (mTup (mCons (mBin (lift2 addD) (mC (.int 1)) (mBlt d_law_take (mCons (mVar 2) (mCons (mC (.int 3)) mNil)))) (mCons (mBin (lift2 addD) (mC (.int 1)) (mBlt d_law_take (mCons (mVar 2) (mCons (mC (.int 3)) mNil)))) mNil)))) (sSeq (sSet 5 (mBlt d_law_lots (mCons (mVar 2) (mCons (mVar 3) (mCons (mVar 4) mNil))))) (sSeq (sPar 6 7 (mCons (mBlt d_law_text (mCons (mVar 3) (mCons (mVar 5) mNil))) (mCons (mBlt d_law_bad_lots (mCons (mVar 3) (mCons (mVar 5) mNil))) mNil))) (sSeq (sIf (mtOr (mTB (mBin (eqY eqs 4 true) (mMeth t_text (mMake 0 2 d_Web_init (mCons (mVar 3) (mCons (mVar 5) mNil))) mNil) (mVar 6))) (mtNot (mTB (mBlt d_law_reading_right (mCons (mVar 6) mNil))))) (sRet (mC (.bl false))) sNil) (sSeq (sFor (iRng (mCons (mC (.int 14)) mNil)) (gtName 8) (sSeq (sSet 9 (mBlt d_law_spoilt (mCons (mVar 2) (mCons (mVar 6) mNil)))) (sIf (mtNot (mTB (mBlt d_law_reading_right (mCons (mVar 9) mNil)))) (sRet (mC (.bl false))) sNil))) (sSeq (sFor (iSeq (mLst (mCons (mC .non) (mCons (mC (.int 5)) (mCons (mC (.bl true)) (mCons (mLst (mCons (mVar 6) mNil)) (mCons (mTup (mCons (mVar 6) mNil)) (mCons (mDctV "a" 6) (mCons (mMake 0 2 d_Web_init (mCons (mVar 3) (mCons (mVar 5) mNil))) mNil))))))))) (gtName 10) (sIf (mTB (mBin (eqY eqs 4 true) (mBlt d_law_caught (mCons (mVar 10) mNil)) (mLst (mCons (mC (.str "text")) (mCons (mVar 10) mNil))))) (sRet (mC (.bl false))) sNil)) (sSeq (sFor (iSeq (mBlt d_law_bad_seats mNil)) (gtName 10) (sSeq (sIf (mTB (mBin (eqY eqs 4 true) (mBlt d_law_word (mCons (mC (.int 0)) (mCons (mVar 10) (mCons (mBin (lift2 ixD) (mLst (mCons (mVar 5) (mCons (mBin (lift2 ixD) (mVar 7) (mBlt d_law_take (mCons (mVar 2) (mCons (mBlt (liftN (lenO lens)) (mCons (mVar 7) mNil)) mNil)))) mNil))) (mBlt d_law_take (mCons (mVar 2) (mCons (mC (.int 2)) mNil)))) mNil)))) (mLst (mCons (mC (.str "seat")) (mCons (mVar 10) mNil))))) (sRet (mC (.bl false))) sNil) (sSeq (sFor (iSeq (mLst (mCons (mC (.int 1)) (mCons (mC (.int 2)) mNil)))) (gtName 11) (sSeq (sIf (mTB (mBin (eqY eqs 4 true) (mBlt d_law_word (mCons (mVar 11) (mCons (mVar 10) (mCons (mBin (lift2 ixD) (mLst (mCons (mVar 4) (mCons (mC .non) mNil))) (mBlt d_law_take (mCons (mVar 2) (mCons (mC (.int 2)) mNil)))) mNil)))) (mLst (mCons (mC (.str "seat")) (mCons (mVar 10) mNil))))) (sRet (mC (.bl false))) sNil) (sIf (mTB (mBin (eqY eqs 4 true) (mBlt d_law_word (mCons (mVar 11) (mCons (mVar 3) (mCons (mVar 10) mNil)))) (mLst (mCons (mC (.str "seat")) (mCons (mVar 10) mNil))))) (sRet (mC (.bl false))) sNil))) (sIf (mtOr (mTB (mBin (eqY eqs 4 true) (mBlt d_law_word (mCons (mC (.int 3)) (mCons (mVar 10) (mCons (mC .non) mNil)))) (mLst (mCons (mC (.str "seat")) (mCons (mVar 10) mNil))))) (mTB (mBin (eqY eqs 4 true) (mBlt d_law_word (mCons (mC (.int 4)) (mCons (mVar 10) (mCons (mC .non) mNil)))) (mLst (mCons (mC (.str "seat")) (mCons (mVar 10) mNil)))))) (sRet (mC (.bl false))) sNil)))) (sSeq (sFor (iSeq (mVar 7)) (gtName 10) (sIf (mTB (mBin (eqY eqs 4 true) (mBlt d_law_word (mCons (mC (.int 0)) (mCons (mVar 3) (mCons (mVar 10) mNil)))) (mLst (mCons (mC (.str "lot")) (mCons (mVar 10) mNil))))) (sRet (mC (.bl false))) sNil)) (sIf (mTB (mBin (eqY eqs 4 true) (mComp (iRng (mCons (mC (.int 3)) mNil)) (gtName 11) mtYes (mBlt d_law_word (mCons (mVar 11) (mCons (mVar 3) (mCons (mBin (lift2 ixD) (mLst (mCons (mVar 5) (mCons (mVar 4) (mCons (mVar 4) mNil)))) (mVar 11)) mNil)))) [11]) (mBin (lift2 mulD) (mLst (mCons (mLst (mCons (mC (.str "fine")) mNil)) mNil)) (mC (.int 3))))) (sRet (mC (.bl false))) sNil))))))))))) (sRet (mC (.bl true))))
def d_law : List S → Cs → R S := fnG false 1 12 b_law
end Dn

section
/-! P1: how the functions are computed. -/
namespace Dn
/-! ### the rules of computing -/
section
variable {δ : Sl} {c : Cs}
theorem fnG_eq {kp : Bool} {np n : Nat} {b : MS} {ss : List S} (h : ss.length = np) : fnG kp np n b ss c = exitR kp c.length (b (ss.map some ++ List.replicate (n - np) none) c) := if_pos h
@[simp] theorem ex_rt {kp : Bool} {x : D} : exitR kp c.length (.rt (.d x) c) = .ok (.d x) c := by simp [exitR]
@[simp] theorem ex_nx {kp : Bool} {δ : Sl} : exitR kp c.length (.nx δ c) = .ok (.d .non) c := by simp [exitR]
@[simp] theorem ex_ex {kp : Bool} {δ : Sl} {k : Nat} {xs : List D} : exitR kp c.length (.ex k xs δ c) = .ex k xs c := by simp [exitR]
@[simp] theorem bind_ok {α β : Type} {a : α} {f : α → Cs → R β} : (R.ok a c).bind f = f a c := rfl
@[simp] theorem bind_ex {α β : Type} {k : Nat} {xs : List D} {f : α → Cs → R β} : (R.ex k xs c : R α).bind f = .ex k xs c := rfl
@[simp] theorem bindN_ok {α β : Type} {a : α} {f : α → Cs → R β} : (R.ok a c).bindN f = f a c := rfl
@[simp] theorem andS_ok {α : Type} {a : α} {f : α → Cs → RS} : (R.ok a c).andS δ f = f a c := rfl
@[simp] theorem andS_ex {α : Type} {k : Nat} {xs : List D} {f : α → Cs → RS} : (R.ex k xs c : R α).andS δ f = .ex k xs δ c := rfl
@[simp] theorem asB_bl {b : Bool} : asB (.d (.bl b)) c = .ok b c := rfl
theorem seq_nx {m m' : MS} {δ' : Sl} {c' : Cs} (h : m δ c = .nx δ' c') : sSeq m m' δ c = m' δ' c' := by unfold sSeq; rw [h]
theorem seq_rt {m m' : MS} {s : S} {c' : Cs} (h : m δ c = .rt s c') : sSeq m m' δ c = .rt s c' := by unfold sSeq; rw [h]
theorem seq_ex {m m' : MS} {k : Nat} {xs : List D} {δ' : Sl} {c' : Cs} (h : m δ c = .ex k xs δ' c') : sSeq m m' δ c = .ex k xs δ' c' := by unfold sSeq; rw [h]
theorem if_t {C : MT} {m m' : MS} {c' : Cs} (h : C δ c = .ok true c') : sIf C m m' δ c = m δ c' := by unfold sIf; rw [h]; rfl
theorem if_f {C : MT} {m m' : MS} {c' : Cs} (h : C δ c = .ok false c') : sIf C m m' δ c = m' δ c' := by unfold sIf; rw [h]; rfl
theorem seq_go {m m' : MS} {δ' : Sl} {c' : Cs} {r : RS} (h : m δ c = .nx δ' c') (k : m' δ' c' = r) : sSeq m m' δ c = r := (seq_nx h).trans k
theorem if_no {C : MT} {m : MS} (h : C δ c = .ok false c) : sIf C m sNil δ c = .nx δ c := if_f h
theorem fn_rt {kp : Bool} {np n : Nat} {b : MS} {ss : List S} {x : D} (h : ss.length = np) (k : b (ss.map some ++ List.replicate (n - np) none) c = .rt (.d x) c) : fnG kp np n b ss c = .ok (.d x) c := by rw [fnG_eq h, k, ex_rt]
theorem fn_nx {kp : Bool} {np n : Nat} {b : MS} {ss : List S} {δ' : Sl} (h : ss.length = np) (k : b (ss.map some ++ List.replicate (n - np) none) c = .nx δ' c) : fnG kp np n b ss c = .ok (.d .non) c := by rw [fnG_eq h, k, ex_nx]
theorem ret_ok {A : M} {s : S} {c' : Cs} (h : A δ c = .ok s c') : sRet A δ c = .rt s c' := by unfold sRet; rw [h]; rfl
theorem set_ok {i : Nat} {A : M} {s : S} {c' : Cs} (h : A δ c = .ok s c') : sSet i A δ c = .nx (δ.set i (some s)) c' := by unfold sSet; rw [h]; rfl
theorem expr_ok {A : M} {s : S} {c' : Cs} (h : A δ c = .ok s c') : sExpr A δ c = .nx δ c' := by unfold sExpr; rw [h]; rfl
theorem tb_ok {A : M} {b : Bool} {c' : Cs} (h : A δ c = .ok (.d (.bl b)) c') : mTB A δ c = .ok b c' := by unfold mTB; rw [h]; rfl
theorem tnot_ok {A : MT} {b : Bool} {c' : Cs} (h : A δ c = .ok b c') : mtNot A δ c = .ok (!b) c' := by unfold mtNot; rw [h]; rfl
theorem tor_no {A B : MT} {c' : Cs} {r : R Bool} (h : A δ c = .ok false c') (k : B δ c' = r) : mtOr A B δ c = r := by unfold mtOr; rw [h]; exact k
theorem tor_yes {A B : MT} {c' : Cs} (h : A δ c = .ok true c') : mtOr A B δ c = .ok true c' := by unfold mtOr; rw [h]; rfl
theorem tand_yes {A B : MT} {c' : Cs} {r : R Bool} (h : A δ c = .ok true c') (k : B δ c' = r) : mtAnd A B δ c = r := by unfold mtAnd; rw [h]; exact k
theorem tand_no {A B : MT} {c' : Cs} (h : A δ c = .ok false c') : mtAnd A B δ c = .ok false c' := by unfold mtAnd; rw [h]; rfl
theorem and_yes {A B : M} {c' : Cs} {r : R S} (h : A δ c = .ok (.d (.bl true)) c') (k : B δ c' = r) : mAnd A B δ c = r := by unfold mAnd; rw [h]; exact k
theorem and_no {A B : M} {c' : Cs} (h : A δ c = .ok (.d (.bl false)) c') : mAnd A B δ c = .ok (.d (.bl false)) c' := by unfold mAnd; rw [h]; rfl
theorem a1 {A : M} {s : S} {c' : Cs} (h : A δ c = .ok s c') : mCons A mNil δ c = .ok [s] c' := by unfold mCons; rw [h]; rfl
theorem a2 {A : M} {B : MA} {s : S} {ss : List S} {c' c'' : Cs} (h : A δ c = .ok s c') (k : B δ c' = .ok ss c'') : mCons A B δ c = .ok (s :: ss) c'' := by unfold mCons; rw [h]; simp only [bind_ok]; rw [k]; rfl
theorem blt {f : List S → Cs → R S} {A : MA} {ss : List S} {c' : Cs} {r : R S} (h : A δ c = .ok ss c') (k : f ss c' = r) : mBlt f A δ c = r := by unfold mBlt; rw [h]; exact k
theorem bin {f : S → S → Cs → R S} {A B : M} {x y : S} {c' c'' : Cs} {r : R S} (h : A δ c = .ok x c') (k : B δ c' = .ok y c'') (e : f x y c'' = r) : mBin f A B δ c = r := by unfold mBin; rw [h]; simp only [bind_ok]; rw [k]; exact e
theorem l2 {g : D → D → Option D} {x y d : D} (h : g x y = some d) : lift2 g (.d x) (.d y) c = .ok (.d d) c := by simp [lift2, deref, h]
theorem lN1 {g : List D → Option D} {x d : D} (h : g [x] = some d) : liftN g [.d x] c = .ok (.d d) c := by simp [liftN, derefs, deref, h]
theorem vr {i : Nat} {s : S} (h : δ[i]? = some (some s)) : mVar i δ c = .ok s c := by unfold mVar; rw [h]
theorem isi {k : Kinds} {A : M} {x : D} {b : Bool} {c' : Cs} (h : A δ c = .ok (.d x) c') (e : k.ask x = some b) : mIsi k A δ c = .ok (.d (.bl b)) c' := by unfold mIsi; rw [h]; simp [askD, deref, e]
theorem attr {tbl : List (Nat × Nat)} {A : M} {k i : Nat} {xs : List D} {x : D} {c' : Cs} (h : A δ c = .ok (.d (.obj k xs)) c') (e : look tbl k = some i) (e2 : xs[i]? = some x) : mAttr tbl A δ c = .ok (.d x) c' := by unfold mAttr; rw [h]; simp [deref, e, e2]
theorem meth {tbl : List (Nat × (List S → Cs → R S))} {A : M} {B : MA} {fn : List S → Cs → R S} {k : Nat} {xs : List D} {ss : List S} {c' c'' : Cs} {r : R S} (h : A δ c = .ok (.d (.obj k xs)) c') (e : look tbl k = some fn) (h2 : B δ c' = .ok ss c'') (h3 : fn (.d (.obj k xs) :: ss) c'' = r) : mMeth tbl A B δ c = r := by
  unfold mMeth; rw [h]; simp only [bind_ok, deref, e]; rw [h2]; exact h3
theorem seqI {A : M} {s : S} {xs : List D} {c' : Cs} (h : A δ c = .ok s c') (e : items s c' = .ok xs c') : iSeq A δ c = .ok xs c' := by unfold iSeq; rw [h]; exact e
/-- a comprehension whose parts change nothing -/
theorem cloop_ok {g : GT} {C : MT} {A : M} {δ : Sl} {p : D → Bool} {f : D → D} : ∀ (xs : List D) (acc : List D), (∀ d ∈ xs, ∃ δ1, g d δ = some δ1 ∧ ∀ c', C δ1 c' = .ok (p d) c' ∧ (p d = true → A δ1 c' = .ok (.d (f d)) c')) → acc.length + xs.length ≤ PySem.sizeLine →
    cloop g C (fun δ1 c1 => (A δ1 c1).bindN (push c.length)) δ xs (c ++ [.lst acc]) = .ok () (c ++ [.lst (acc ++ (xs.filter p).map f)])
  | [], acc, _, _ => by simp [cloop]
  | d :: ds, acc, h, hl => by
    obtain ⟨δ1, h1, h2⟩ := h d List.mem_cons_self
    obtain ⟨h3, h4⟩ := h2 (c ++ [.lst acc])
    simp only [List.length_cons] at hl
    unfold cloop
    rw [h1]
    simp only [h3, bindN_ok]
    by_cases hp : p d = true
    · rw [if_pos hp, h4 hp]
      have e : push c.length (.d (f d)) (c ++ [.lst acc]) = .ok () (c ++ [.lst (acc ++ [f d])]) := by
        have e0 : (c ++ [CC.lst acc])[c.length]? = some (CC.lst acc) := by simp
        unfold push
        simp only [e0]
        rw [if_pos (by omega)]
        simp
      simp only [bindN_ok, e]
      rw [cloop_ok ds (acc ++ [f d]) (fun x hx => h x (List.mem_cons_of_mem _ hx)) (by simp; omega)]
      rw [List.filter_cons_of_pos hp]
      simp
    · rw [if_neg hp, cloop_ok ds acc (fun x hx => h x (List.mem_cons_of_mem _ hx)) (by omega), List.filter_cons_of_neg hp]
theorem comp_ok {I : MI} {g : GT} {C : MT} {A : M} {vs : List Nat} {xs : List D} (p : D → Bool) (f : D → D) (hI : I δ c = .ok xs c) (hl : xs.length ≤ PySem.sizeLine)
    (h : ∀ d ∈ xs, ∃ δ1, g d (wipeD δ vs) = some δ1 ∧ ∀ c', C δ1 c' = .ok (p d) c' ∧ (p d = true → A δ1 c' = .ok (.d (f d)) c')) : mComp I g C A vs δ c = .ok (.d (.lst ((xs.filter p).map f))) c := by
  unfold mComp
  rw [hI]
  simp only [bind_ok]
  rw [cloop_ok xs [] h (by simpa using hl)]
  simp [finC]
theorem compY {I : MI} {g : GT} {A : M} {vs : List Nat} {xs : List D} (f : D → D) (hI : I δ c = .ok xs c) (hl : xs.length ≤ PySem.sizeLine)
    (h : ∀ d ∈ xs, ∃ δ1, g d (wipeD δ vs) = some δ1 ∧ ∀ c', A δ1 c' = .ok (.d (f d)) c') : mComp I g mtYes A vs δ c = .ok (.d (.lst (xs.map f))) c := by
  rw [comp_ok (fun _ => true) f hI hl fun d hd => ?_]
  · rw [List.filter_eq_self.mpr (fun _ _ => rfl)]
  · obtain ⟨δ1, h1, h2⟩ := h d hd
    exact ⟨δ1, h1, fun c' => ⟨rfl, fun _ => h2 c'⟩⟩
/-- .. over a list of things q y -/
theorem cloop_map {α : Type} {g : GT} {C : MT} {A : M} {δ : Sl} {q : α → D} {p : α → Bool} {f : α → D} : ∀ (ys : List α) (acc : List D), (∀ y ∈ ys, ∃ δ1, g (q y) δ = some δ1 ∧ ∀ c', C δ1 c' = .ok (p y) c' ∧ (p y = true → A δ1 c' = .ok (.d (f y)) c')) → acc.length + ys.length ≤ PySem.sizeLine →
    cloop g C (fun δ1 c1 => (A δ1 c1).bindN (push c.length)) δ (ys.map q) (c ++ [.lst acc]) = .ok () (c ++ [.lst (acc ++ (ys.filter p).map f)])
  | [], acc, _, _ => by simp [cloop]
  | d :: ds, acc, h, hl => by
    obtain ⟨δ1, h1, h2⟩ := h d List.mem_cons_self
    obtain ⟨h3, h4⟩ := h2 (c ++ [.lst acc])
    simp only [List.length_cons] at hl
    simp only [List.map_cons]
    unfold cloop
    rw [h1]
    simp only [h3, bindN_ok]
    by_cases hp : p d = true
    · rw [if_pos hp, h4 hp]
      have e : push c.length (.d (f d)) (c ++ [.lst acc]) = .ok () (c ++ [.lst (acc ++ [f d])]) := by
        have e0 : (c ++ [CC.lst acc])[c.length]? = some (CC.lst acc) := by simp
        unfold push
        simp only [e0]
        rw [if_pos (by omega)]
        simp
      simp only [bindN_ok, e]
      rw [cloop_map ds (acc ++ [f d]) (fun x hx => h x (List.mem_cons_of_mem _ hx)) (by simp; omega)]
      rw [List.filter_cons_of_pos hp]
      simp
    · rw [if_neg hp, cloop_map ds acc (fun x hx => h x (List.mem_cons_of_mem _ hx)) (by omega), List.filter_cons_of_neg hp]
theorem compF {α : Type} {I : MI} {g : GT} {C : MT} {A : M} {vs : List Nat} (ys : List α) (q : α → D) (p : α → Bool) (f : α → D) (hI : I δ c = .ok (ys.map q) c) (hl : ys.length ≤ PySem.sizeLine)
    (h : ∀ y ∈ ys, ∃ δ1, g (q y) (wipeD δ vs) = some δ1 ∧ ∀ c', C δ1 c' = .ok (p y) c' ∧ (p y = true → A δ1 c' = .ok (.d (f y)) c')) : mComp I g C A vs δ c = .ok (.d (.lst ((ys.filter p).map f))) c := by
  unfold mComp
  rw [hI]
  simp only [bind_ok]
  rw [cloop_map ys [] h (by simpa using hl)]
  simp [finC]
theorem compM {α : Type} {I : MI} {g : GT} {A : M} {vs : List Nat} (ys : List α) (q : α → D) (f : α → D) (hI : I δ c = .ok (ys.map q) c) (hl : ys.length ≤ PySem.sizeLine)
    (h : ∀ y ∈ ys, ∃ δ1, g (q y) (wipeD δ vs) = some δ1 ∧ ∀ c', A δ1 c' = .ok (.d (f y)) c') : mComp I g mtYes A vs δ c = .ok (.d (.lst (ys.map f))) c := by
  rw [compF ys q (fun _ => true) f hI hl fun d hd => ?_]
  · rw [List.filter_eq_self.mpr (fun _ _ => rfl)]
  · obtain ⟨δ1, h1, h2⟩ := h d hd
    exact ⟨δ1, h1, fun c' => ⟨rfl, fun _ => h2 c'⟩⟩
end
theorem is_integer_int (i : Int) (c : Cs) : d_is_integer [.d (.int i)] c = .ok (.d (.bl true)) c := by
  refine (fnG_eq rfl).trans ?_
  simp [b_is_integer, sRet, mAnd, mIsi, mVar, mNot, askD, deref, Kinds.ask, k_int, k_bool, kAll]
theorem is_place_int (i m : Int) (c : Cs) : d_is_place [.d (.int i), .d (.int m)] c = .ok (.d (.bl (decide (0 ≤ i) && decide (i < m)))) c := by
  refine (fnG_eq rfl).trans ?_
  simp [b_is_place, sRet, mAnd, mVar, mBlt, mCons, mNil, is_integer_int, mChain, mC, lift2, deref, leD, ltD, cmpD]
  by_cases h : 0 ≤ i <;> simp [h]
theorem is_many_int (i : Int) (c : Cs) : d_is_many [.d (.int i)] c = .ok (.d (.bl (decide (0 < i) && decide (i < 4)))) c := by
  refine (fnG_eq rfl).trans ?_
  simp [b_is_many, sRet, mAnd, mVar, mBlt, mCons, mNil, is_place_int, mBin, mC, lift2, deref, gtD, addD, cmpD]
  by_cases h : 0 ≤ i <;> by_cases k : i < 4 <;> simp [h, k] <;> omega
end Dn

end
section
/-! P2: lots and webs. -/
namespace Dn
open PySem
theorem bls_const {α : Type} (l : List α) (b : Bool) : bls? (l.map fun _ => D.bl b) = some (l.map fun _ => b) := by
  induction l with
  | nil => rfl
  | cons x r ih => simp [bls?, ih]
theorem bls_map {α : Type} (l : List α) (f : α → Bool) : bls? (l.map fun x => D.bl (f x)) = some (l.map f) := by
  induction l with
  | nil => rfl
  | cons x r ih => simp [bls?, ih]
theorem small_size {n : Nat} (h : n ≤ 1000) : n ≤ sizeLine := Nat.le_trans h (by decide)
theorem atI_nat {α : Type} {xs : List α} {n : Nat} (h : n < xs.length) : L2.atI xs (n : Int) = some xs[n] := by
  have h1 : ((n : Nat) : Int) < ((xs.length : Nat) : Int) := by omega
  simp [L2.atI, L2.ixN, h1, h]
/-- a list or a tuple of these -/
def IsSeq (d : D) (xs : List D) : Prop := d = .lst xs ∨ d = .tup xs
theorem lenO_seq {tbl : List (Nat × (Nat × (List S → Cs → R S)))} {d : D} {xs : List D} (h : IsSeq d xs) : lenO tbl [d] = some (.int xs.length) := by
  rcases h with rfl | rfl <;> rfl
theorem items_seq {d : D} {xs : List D} {c : Cs} (h : IsSeq d xs) : items (.d d) c = .ok xs c := by
  rcases h with rfl | rfl <;> rfl
theorem ix_seq {d : D} {xs : List D} {n : Nat} (h : IsSeq d xs) (hn : n < xs.length) : ixD d (.int n) = some xs[n] := by
  rcases h with rfl | rfl <;> exact atI_nat hn
theorem lt_seq {d : D} {xs : List D} (h : IsSeq d xs) : k_list_tuple.ask d = some true := by
  rcases h with rfl | rfl <;> rfl
theorem all_bl {δ : Sl} {c c' : Cs} {A : M} {α : Type} {xs : List α} {f : α → Bool} (h : A δ c = .ok (.d (.lst (xs.map fun x => D.bl (f x)))) c') : mBlt (liftN allD) (mCons A mNil) δ c = .ok (.d (.bl (xs.all f))) c' :=
  blt (a1 h) (lN1 (by simp [allD, bls_map]))
theorem any_bl {δ : Sl} {c c' : Cs} {A : M} {α : Type} {xs : List α} {f : α → Bool} (h : A δ c = .ok (.d (.lst (xs.map fun x => D.bl (f x)))) c') : mBlt (liftN anyD) (mCons A mNil) δ c = .ok (.d (.bl (xs.any f))) c' :=
  blt (a1 h) (lN1 (by simp [anyD, bls_map]))
theorem is_lot_ok {s : Int} {l : List Int} {d : D} (hd : IsSeq d (l.map D.int)) (hl : l.length ≤ 10) (hp : ∀ x ∈ l, 0 ≤ x ∧ x < s) (hs : l.Pairwise (· < ·)) (c : Cs) : d_is_lot [.d d, .d (.int s)] c = .ok (.d (.bl true)) c := by
  refine fn_rt rfl (seq_go (if_no (tor_no (tnot_ok (tb_ok (isi (vr rfl) (lt_seq hd)))) ?_)) (ret_ok ?_))
  · refine (tnot_ok (tb_ok (all_bl (f := fun _ => true) (compY (fun _ => .bl true) (seqI (vr rfl) (items_seq hd)) (small_size (by simp; omega)) fun x hx => ?_)))).trans (by simp)
    obtain ⟨i, hi, rfl⟩ := List.mem_map.mp hx
    obtain ⟨h1, h2⟩ := hp i hi
    exact ⟨_, rfl, fun c' => blt (a2 (vr rfl) (a1 (vr rfl))) (by rw [is_place_int]; simp [h1, h2])⟩
  · refine (all_bl (xs := rngL 0 (l.length - 1)) (f := fun _ => true) (compY (fun _ => .bl true) ?_ (small_size (by rw [rngL_len]; omega)) fun x hx => ?_)).trans (by simp)
    · have e1 : ((l.length : Int) - 1) ≤ 16777216 ∧ -(2 ^ 62) ≤ ((l.length : Int) - 1) := by omega
      have e2 : ((l.length : Int) - 1).toNat = l.length - 1 := by omega
      refine (congrArg (fun r => R.bind r rng1) (a1 (bin (blt (a1 (vr rfl)) (lN1 (lenO_seq hd))) rfl (l2 rfl)))).trans ?_
      simp only [bind_ok, rng1, List.length_map]
      rw [if_pos e1, e2]
    · obtain ⟨i, hi, rfl⟩ := List.mem_map.mp hx
      have hi := List.mem_range.mp hi
      have a1' : i < (l.map D.int).length := by simp; omega
      have a2' : i + 1 < (l.map D.int).length := by simp; omega
      have z1 := ix_seq hd a1'
      have z2 := ix_seq hd a2'
      have lt : l[i]'(by omega) < l[i + 1]'(by omega) := List.pairwise_iff_getElem.mp hs i (i + 1) _ _ (by omega)
      simp only [List.getElem_map] at z1 z2
      refine ⟨_, rfl, fun c' => bin (bin (vr rfl) (vr rfl) (l2 (d := .int l[i]) (by rw [Int.zero_add]; exact z1))) (bin (vr rfl) (bin (vr rfl) rfl (l2 rfl)) (l2 (d := .int l[i + 1]) (by rw [Int.zero_add]; exact z2))) (l2 (by simp [ltD, cmpD, lt]))⟩
end Dn

end
section
/-! P3: webs. -/
namespace Dn
open PySem
def lotT (l : List Int) : D := .tup (l.map D.int)
def lotL (l : List Int) : D := .lst (l.map D.int)
def wb (s : Int) (ls : List (List Int)) : D := .obj 0 [.int s, .tup (ls.map lotT)]
structure LotOk (s : Int) (l : List Int) : Prop where
  pl : ∀ x ∈ l, 0 ≤ x ∧ x < s
  so : l.Pairwise (· < ·)
theorem short_of {a b : Int} : ∀ {l : List Int}, (∀ x ∈ l, a ≤ x ∧ x < b) → l.Pairwise (· < ·) → a ≤ b → (l.length : Int) ≤ b - a
  | [], _, _, h => by simp; omega
  | x :: r, h, k, hab => by
    obtain ⟨k1, k2⟩ := List.pairwise_cons.mp k
    have hx := h x List.mem_cons_self
    have := short_of (a := x + 1) (b := b) (l := r) (fun y hy => ⟨by have := k1 y hy; omega, (h y (List.mem_cons_of_mem _ hy)).2⟩) k2 (by omega)
    simp only [List.length_cons]; omega
theorem LotOk.len {s : Int} {l : List Int} (h : LotOk s l) (hs : s < 4) : l.length ≤ 3 := by
  by_cases h0 : 0 ≤ s
  · have := short_of h.pl h.so h0; omega
  · cases l with
    | nil => simp
    | cons x r => have := h.pl x List.mem_cons_self; omega
structure WOk (s : Int) (ls : List (List Int)) : Prop where
  lo : 0 < s
  hi : s < 4
  l1 : 1 ≤ ls.length
  l3 : ls.length ≤ 3
  ok : ∀ l ∈ ls, LotOk s l
theorem seq_L (l : List Int) : IsSeq (lotL l) (l.map D.int) := .inl rfl
theorem seq_T (l : List Int) : IsSeq (lotT l) (l.map D.int) := .inr rfl
theorem are_lots_ok {s : Int} {ls : List (List Int)} (h : WOk s ls) (c : Cs) : d_are_lots [.d (.lst (ls.map lotL)), .d (.int s)] c = .ok (.d (.bl true)) c := by
  have hd : IsSeq (.lst (ls.map lotL)) (ls.map lotL) := .inl rfl
  refine fn_rt rfl (seq_go (if_no (tor_no (tnot_ok (tb_ok (isi (vr rfl) (lt_seq hd)))) ?_)) (ret_ok ?_))
  · refine (tnot_ok (tb_ok (b := true) ?_))
    have h1 := h.l1
    have h3 := h.l3
    have e : liftN (lenO lens) [S.d (D.lst (ls.map lotL))] c = .ok (.d (.int ((ls.map lotL).length : Nat))) c := lN1 (lenO_seq hd)
    simp [mChain, mC, mBlt, mCons, mNil, mVar, e, lift2, deref, leD, cmpD]
    have a1 : (1 : Int) ≤ (ls.length : Nat) := by omega
    have a2 : ((ls.length : Nat) : Int) ≤ 3 := by omega
    simp [a1, a2]
  · refine (all_bl (f := fun _ => true) (compY (fun _ => .bl true) (seqI (vr rfl) (items_seq hd)) (small_size (by have := h.l3; simp; omega)) fun x hx => ?_)).trans (by simp)
    obtain ⟨l, hl, rfl⟩ := List.mem_map.mp hx
    have ok := h.ok l hl
    exact ⟨_, rfl, fun c' => blt (a2 (vr rfl) (a1 (vr rfl))) (is_lot_ok (seq_L l) (by have := ok.len h.hi; omega) ok.pl ok.so c')⟩
theorem fld_ok {δ : Sl} {c : Cs} {tbl : List (Nat × Nat)} {A V : M} {k i : Nat} {xs ys : List D} {x : D} (hV : V δ (c ++ [.obj k xs]) = .ok (.d x) (c ++ [.obj k xs])) (hA : A δ (c ++ [.obj k xs]) = .ok (.c c.length) (c ++ [.obj k xs])) (e : look tbl k = some i) (e2 : setF i x xs = some ys) :
    sFldSet tbl A V δ (c ++ [.obj k xs]) = .nx δ (c ++ [.obj k ys]) := by
  unfold sFldSet
  rw [hV]
  simp only [andS_ok]
  rw [hA]
  simp only [andS_ok]
  have e0 : (c ++ [CC.obj k xs])[c.length]? = some (CC.obj k xs) := by simp
  simp only [e0, e, e2]
  simp
theorem fn_to {kp : Bool} {np n : Nat} {b : MS} {ss : List S} {c c' : Cs} {δ' : Sl} (h : ss.length = np) (k : b (ss.map some ++ List.replicate (n - np) none) c = .nx δ' c') (hl : c'.length = c.length) : fnG kp np n b ss c = .ok (.d .non) c' := by
  rw [fnG_eq h, k]
  simp [exitR, ← hl]
theorem make_web {δ : Sl} {c c' : Cs} {s : Int} {ls : List (List Int)} {B : MA} (h : WOk s ls) (hB : B δ c = .ok [.d (.int s), .d (.lst (ls.map lotL))] c') : mMake 0 2 d_Web_init B δ c = .ok (.d (wb s ls)) c' := by
  have key : d_Web_init [.c c'.length, .d (.int s), .d (.lst (ls.map lotL))] (c' ++ [.obj 0 []]) = .ok (.d .non) (c' ++ [.obj 0 [.int s, .tup (ls.map lotT)]]) := by
    refine fn_to (δ' := [some (.c c'.length), some (.d (.int s)), some (.d (.lst (ls.map lotL))), none]) rfl ?_ (by simp)
    · refine seq_go (if_no ((tnot_ok (tb_ok (blt (a1 (vr rfl)) (is_many_int s _)))).trans (by simp [h.lo, h.hi]))) (seq_go (if_no ((tnot_ok (tb_ok (blt (a2 (vr rfl) (a1 (vr rfl))) (are_lots_ok h _)))).trans (by simp))) (seq_go (fld_ok (vr rfl) (vr rfl) rfl rfl) (fld_ok ?_ (vr rfl) rfl rfl)))
      refine blt (a1 (compY (fun d => match d with | .lst xs => .tup xs | x => x) (seqI (vr rfl) rfl) (small_size (by have := h.l3; simp; omega)) fun x hx => ?_)) (lN1 ?_)
      · obtain ⟨l, hl, rfl⟩ := List.mem_map.mp hx
        exact ⟨_, rfl, fun c' => blt (a1 (vr rfl)) (lN1 rfl)⟩
      · simp only [tupleD, List.map_map]
        rfl
  unfold mMake
  rw [hB]
  simp only [bind_ok]
  rw [key]
  simp [fin, wb]
end Dn

end
section
/-! P4: what webs tell. -/
namespace Dn
open PySem
theorem eqDs_int : ∀ (l m : List Int), eqDs (l.map D.int) (m.map D.int) = decide (l = m)
  | [], [] => by simp [eqDs]
  | [], _ :: _ => by simp [eqDs]
  | _ :: _, [] => by simp [eqDs]
  | x :: l, y :: m => by
    have ih := eqDs_int l m
    simp only [List.map_cons, eqDs, ih, eqD]
    by_cases h : x = y <;> by_cases k : l = m <;> simp [h, k]
theorem eqDs_lot : ∀ (l m : List (List Int)), eqDs (l.map lotT) (m.map lotT) = decide (l = m)
  | [], [] => by simp [eqDs]
  | [], _ :: _ => by simp [eqDs]
  | _ :: _, [] => by simp [eqDs]
  | x :: l, y :: m => by
    have ih := eqDs_lot l m
    simp only [List.map_cons, eqDs, ih, lotT, eqD, eqDs_int]
    by_cases h : x = y <;> by_cases k : l = m <;> simp [h, k]
theorem oks_int (n : Nat) (l : List Int) : oks n (l.map D.int) = true := by
  induction l with
  | nil => simp [oks]
  | cons x r ih => simp [oks, ih, D.ok]
theorem oks_lot (n : Nat) (ls : List (List Int)) : oks (n + 1) (ls.map lotT) = true := by
  induction ls with
  | nil => simp [oks]
  | cons x r ih => simp [oks, ih, lotT, D.ok, oks_int]
theorem eqP_int {neg : Bool} (x y : Int) : eqP neg (.int x) (.int y) = some (.bl (if neg then !decide (x = y) else decide (x = y))) := by
  simp [eqP, D.ok, eqD]
  cases neg <;> by_cases h : x = y <;> simp [h]
theorem eqP_lots {neg : Bool} (l m : List (List Int)) : eqP neg (.tup (l.map lotT)) (.tup (m.map lotT)) = some (.bl (if neg then !decide (l = m) else decide (l = m))) := by
  simp [eqP, D.ok, eqD, eqDs_lot, oks_lot 58]
section
variable {s t : Int} {ls ms : List (List Int)} {c : Cs}
theorem web_len : d_Web_len [.d (wb s ls)] c = .ok (.d (.int ls.length)) c :=
  fn_rt rfl (ret_ok (blt (a1 (attr (vr rfl) rfl rfl)) (lN1 (by simp [lenD]))))
theorem lenO_web (h : ls.length ≤ 3) : lenO lens [wb s ls] = some (.int ls.length) := by
  have e : d_Web_len [.d (wb s ls)] [] = .ok (.d (.int ls.length)) [] := web_len
  have hb : (0 : Int) ≤ (ls.length : Int) ∧ (ls.length : Int) < 2 ^ 63 := by omega
  unfold wb at e ⊢
  unfold lenO
  simp only [lens, look, if_true, List.length_cons, List.length_nil]
  rw [e]
  simp only
  rw [if_pos hb]
theorem web_eq : d_Web_eq [.d (wb s ls), .d (wb t ms)] c = .ok (.d (.bl (decide (s = t) && decide (ls = ms)))) c := by
  refine fn_rt rfl (ret_ok ?_)
  refine and_yes (isi (vr rfl) rfl) ?_
  by_cases h : s = t
  · refine (and_yes (bin (attr (vr rfl) rfl rfl) (attr (vr rfl) rfl rfl) (l2 ((eqP_int s t).trans (by simp [h])))) (bin (attr (vr rfl) rfl rfl) (attr (vr rfl) rfl rfl) (l2 (eqP_lots ls ms)))).trans (by simp [h])
  · refine (and_no (bin (attr (vr rfl) rfl rfl) (attr (vr rfl) rfl rfl) (l2 ((eqP_int s t).trans (by simp [h]))))).trans (by simp [h])
end
end Dn

end
section
/-! P5: both, then, lots, own webs. -/
namespace Dn
open PySem
section
variable {s t : Int} {ls ms : List (List Int)} {c : Cs}
/-- the lots of the seats of a lot, together -/
def own (n : Nat) : List (List Int) := (List.range n).map fun (i : Nat) => [(i : Int)]
theorem WOk.own {n : Nat} (h1 : 0 < n) (h2 : n < 4) : WOk n (own n) := by
  refine ⟨by omega, by omega, by simp [Dn.own]; omega, by simp [Dn.own]; omega, fun l hl => ?_⟩
  obtain ⟨i, hi, rfl⟩ := List.mem_map.mp hl
  have := List.mem_range.mp hi
  exact ⟨fun x hx => by rw [List.mem_singleton.mp hx]; omega, List.pairwise_singleton _ _⟩
theorem own_ok {n : Nat} (h1 : 0 < n) (h2 : n < 4) : d_own_web [.d (.int n)] c = .ok (.d (wb n (own n))) c := by
  refine fn_rt rfl (seq_go (if_no ((tnot_ok (tb_ok (blt (a1 (vr rfl)) (is_many_int n _)))).trans ?_)) (ret_ok (make_web (.own h1 h2) (a2 (vr rfl) (a1 ?_)))))
  · have : (n : Int) < 4 := by omega
    simp [h1, this]
  · refine (compM (List.range n) (fun i => D.int (0 + (i : Int))) (fun i => lotL [(i : Int)]) ?_ (small_size (by simp; omega)) fun i _ => ⟨_, rfl, fun c' => ?_⟩).trans (by rw [Dn.own, List.map_map]; rfl)
    · refine (congrArg (fun r => R.bind r rng1) (a1 (vr rfl))).trans ?_
      simp only [bind_ok, rng1]
      rw [if_pos (by omega)]
      simp [rngL]
    · refine (congrArg (fun r => R.bind r mkLst) (a1 (vr rfl))).trans ?_
      simp [mkLst, datas, lotL]
      decide
end
end Dn

end
section
/-! P6: links, within. -/
namespace Dn
open PySem
section
variable {δ : Sl} {c : Cs}
theorem expr_ex {A : M} {k : Nat} {xs : List D} {c' : Cs} (h : A δ c = .ex k xs c') : sExpr A δ c = .ex k xs δ c' := by unfold sExpr; rw [h]; rfl
theorem fn_ex {kp : Bool} {np n : Nat} {b : MS} {ss : List S} {k : Nat} {xs : List D} {δ' : Sl} (h : ss.length = np) (e : b (ss.map some ++ List.replicate (n - np) none) c = .ex k xs δ' c) : fnG kp np n b ss c = .ex k xs c := by rw [fnG_eq h, e, ex_ex]
theorem cloop2_map {α β : Type} {g g1 : GT} {I1 : MI} {A : M} {vs1 : List Nat} {q : α → D} {zs : α → List β} {q1 : β → D} {f : α → β → D} : ∀ (ys : List α) (acc : List D),
    (∀ y ∈ ys, ∃ δ1, g (q y) δ = some δ1 ∧ (∀ c', I1 δ1 c' = .ok ((zs y).map q1) c') ∧ ∀ z ∈ zs y, ∃ δ2, g1 (q1 z) (wipeD δ1 vs1) = some δ2 ∧ ∀ c', A δ2 c' = .ok (.d (f y z)) c') → acc.length + (ys.flatMap fun y => (zs y).map (f y)).length ≤ sizeLine →
    cloop g mtYes (fun δ1 c1 => (I1 δ1 c1).bindN fun ys c1 => cloop g1 mtYes (fun δ2 c2 => (A δ2 c2).bindN (push c.length)) (wipeD δ1 vs1) ys c1) δ (ys.map q) (c ++ [.lst acc]) = .ok () (c ++ [.lst (acc ++ ys.flatMap fun y => (zs y).map (f y))])
  | [], acc, _, _ => by simp [cloop]
  | y :: ys, acc, h, hl => by
    obtain ⟨δ1, h1, h2, h3⟩ := h y List.mem_cons_self
    simp only [List.flatMap_cons, List.length_append, List.length_map] at hl
    simp only [List.map_cons]
    unfold cloop
    rw [h1]
    have ey : ∀ (δ : Sl) (c : Cs), mtYes δ c = .ok true c := fun _ _ => rfl
    simp only [ey, bindN_ok, if_true, h2]
    have e := cloop_map (c := c) (g := g1) (C := mtYes) (A := A) (δ := wipeD δ1 vs1) (q := q1) (p := fun _ => true) (f := f y) (zs y) acc (fun z hz => let ⟨δ2, a, b⟩ := h3 z hz; ⟨δ2, a, fun c' => ⟨rfl, fun _ => b c'⟩⟩) (by omega)
    rw [List.filter_eq_self.mpr (fun _ _ => rfl)] at e
    rw [e]
    simp only [bindN_ok]
    have ih := cloop2_map (g := g) (g1 := g1) (I1 := I1) (A := A) (vs1 := vs1) (q := q) (zs := zs) (q1 := q1) (f := f) ys (acc ++ (zs y).map (f y)) (fun x hx => h x (List.mem_cons_of_mem _ hx)) (by rw [List.length_append, List.length_map]; omega)
    rw [ih, List.flatMap_cons, List.append_assoc]
theorem comp2M {α β : Type} {I I1 : MI} {g g1 : GT} {A : M} {vs vs1 : List Nat} (ys : List α) (q : α → D) (zs : α → List β) (q1 : β → D) (f : α → β → D) (hI : I δ c = .ok (ys.map q) c) (hl : (ys.flatMap fun y => (zs y).map (f y)).length ≤ sizeLine)
    (h : ∀ y ∈ ys, ∃ δ1, g (q y) (wipeD δ vs) = some δ1 ∧ (∀ c', I1 δ1 c' = .ok ((zs y).map q1) c') ∧ ∀ z ∈ zs y, ∃ δ2, g1 (q1 z) (wipeD δ1 vs1) = some δ2 ∧ ∀ c', A δ2 c' = .ok (.d (f y z)) c') :
    mComp2 I g mtYes I1 g1 mtYes A vs vs1 δ c = .ok (.d (.lst (ys.flatMap fun y => (zs y).map (f y)))) c := by
  unfold mComp2
  rw [hI]
  simp only [bind_ok]
  rw [cloop2_map ys [] h (by simpa using hl)]
  simp [finC]
end
def pr (p : Int × Int) : D := .tup [.int p.1, .int p.2]
/-- the links, hearer by hearer -/
theorem sort_pr (ps : List (Int × Int)) : sortOk (ps.map pr) = true := by
  have h1 : (ps.map pr).all (D.ok 50) = true := by
    rw [List.all_eq_true]; intro x hx
    obtain ⟨p, _, rfl⟩ := List.mem_map.mp hx
    rfl
  have h2 : allAlike (ps.map pr) = true := by
    unfold allAlike
    rw [List.all_eq_true]; intro x hx
    rw [List.all_eq_true]; intro y hy
    obtain ⟨p, _, rfl⟩ := List.mem_map.mp hx
    obtain ⟨q, _, rfl⟩ := List.mem_map.mp hy
    rfl
  have h3 : (ps.map pr).all (fun x => isTup1 x.py) = true := by
    rw [List.all_eq_true]; intro x hx
    obtain ⟨p, _, rfl⟩ := List.mem_map.mp hx
    rfl
  unfold sortOk
  rw [h1, h2, h3]; rfl
/-- lot by lot within -/
theorem eqD_pr (p q : Int × Int) : eqD (pr p) (pr q) = decide (p = q) := by
  obtain ⟨a, b⟩ := p
  obtain ⟨x, y⟩ := q
  simp only [pr, eqD, eqDs]
  by_cases h : a = x <;> by_cases k : b = y <;> simp [h, k]
theorem sortL_mem {xs : List D} {x : D} : x ∈ sortL xs ↔ x ∈ xs := List.mem_mergeSort
end Dn

end
section
/-! P9: caught, then, pairs. -/
namespace Dn
open PySem
section
variable {c : Cs} {δ : Sl} {s t : Int} {ls ms : List (List Int)}
def told (d : D) : D := .lst [.str "told", d]
theorem ret_ex {A : M} {k : Nat} {xs : List D} {c' : Cs} (h : A δ c = .ex k xs c') : sRet A δ c = .ex k xs δ c' := by unfold sRet; rw [h]; rfl
theorem told_ok {A : M} {d : D} (h : A δ c = .ok (.d d) c) : mLst (mCons (mC (.str "told")) (mCons A mNil)) δ c = .ok (.d (told d)) c :=
  (congrArg (fun r => R.bind r mkLst) (a2 rfl (a1 h))).trans rfl
theorem told_ex {A : M} {k : Nat} {xs : List D} (h : A δ c = .ex k xs c) : mLst (mCons (mC (.str "told")) (mCons A mNil)) δ c = .ex k xs c := by
  unfold mLst mCons mC
  simp only [bind_ok]
  rw [h]
  rfl
theorem mif_t {C : MT} {A B : M} {c' : Cs} {r : R S} (h : C δ c = .ok true c') (k : A δ c' = r) : mIf C A B δ c = r := by unfold mIf; rw [h]; exact k
theorem mif_f {C : MT} {A B : M} {c' : Cs} {r : R S} (h : C δ c = .ok false c') (k : B δ c' = r) : mIf C A B δ c = r := by unfold mIf; rw [h]; exact k
theorem loop_inv {α : Type} {g : GT} {B : MS} (q : α → D) (J : List α → Sl → Cs → Prop) (all : List α) (hs : ∀ done y rest δ c, all = done ++ y :: rest → J done δ c → ∃ δ1 δ2 c2, g (q y) δ = some δ1 ∧ B δ1 c = .nx δ2 c2 ∧ J (done ++ [y]) δ2 c2) :
    ∀ (ys done : List α) (δ : Sl) (c : Cs), all = done ++ ys → J done δ c → ∃ δ' c', loop g B (ys.map q) δ c = .nx δ' c' ∧ J all δ' c'
  | [], done, δ, c, e, h => ⟨δ, c, rfl, by rw [e]; simpa using h⟩
  | y :: ys, done, δ, c, e, h => by
    obtain ⟨δ1, δ2, c2, h1, h2, h3⟩ := hs done y ys δ c e h
    obtain ⟨δ', c', e', k⟩ := loop_inv q J all hs ys (done ++ [y]) δ2 c2 (by rw [e]; simp) h3
    refine ⟨δ', c', ?_, k⟩
    simp only [List.map_cons]
    unfold loop
    rw [h1]
    simp only
    rw [h2]
    exact e'
theorem for_inv {α : Type} {I : MI} {g : GT} {B : MS} (ys : List α) (q : α → D) (J : List α → Sl → Cs → Prop) {c1 : Cs} (hI : I δ c = .ok (ys.map q) c1) (h0 : J [] δ c1) (hs : ∀ done y rest δ c, ys = done ++ y :: rest → J done δ c → ∃ δ1 δ2 c2, g (q y) δ = some δ1 ∧ B δ1 c = .nx δ2 c2 ∧ J (done ++ [y]) δ2 c2) :
    ∃ δ' c', sFor I g B δ c = .nx δ' c' ∧ J ys δ' c' := by
  obtain ⟨δ', c', e, k⟩ := loop_inv q J ys hs ys [] δ c1 rfl h0
  refine ⟨δ', c', ?_, k⟩
  unfold sFor
  rw [hI]
  exact e
theorem intsOf_map (l : List Int) : intsOf (l.map D.int) = some l := by
  induction l with
  | nil => rfl
  | cons x r ih => simp [intsOf, ih]
theorem sortSet_ok {A : M} {l : List Int} {c' : Cs} (h : A δ c = .ok (.d (lotL l)) c') (hl : l.length ≤ 50) : mSortSet A δ c = .ok (.d (lotL (sortU l))) c' := by
  unfold mSortSet
  rw [h]
  simp only [bind_ok, sortSet, lotL, deref, intsOf_map]
  rw [if_pos hl]
theorem app_ok {A : M} {B : MA} {acc : List D} {x : D} (hA : A δ (c ++ [.lst acc]) = .ok (.c c.length) (c ++ [.lst acc])) (hB : B δ (c ++ [.lst acc]) = .ok [.d x] (c ++ [.lst acc])) (hl : acc.length < sizeLine) : mAppend A B δ (c ++ [.lst acc]) = .ok (.d .non) (c ++ [.lst (acc ++ [x])]) := by
  have e0 : (c ++ [CC.lst acc])[c.length]? = some (CC.lst acc) := by simp
  unfold mAppend
  rw [hA]
  simp only [bind_ok, e0]
  rw [hB]
  simp only [bind_ok, appendC, e0]
  rw [if_pos hl]
  simp
end
end Dn

end
section
/-! K22_8: == by eqY and eqV2. -/
namespace Dn
open PySem
section
variable {c : Cs} {δ : Sl}
theorem eqY_plain {neg : Bool} {x y : D} (hx : x.ok 60 = true) (hy : y.ok 60 = true) : eqY eqs 4 neg (.d x) (.d y) c = .ok (.d (.bl (if neg then !eqD x y else eqD x y))) c := by
  simp only [eqY, deref, hx, hy, Bool.and_self, if_true]
theorem eqV2_plain {x y : D} (hx : x.ok 60 = true) (hy : y.ok 60 = true) : eqV2 eqs 4 (.d x) (.d y) c = .ok (.d (.bl (eqD x y))) c := by
  have e : eqV2 eqs 4 (.d x) (.d y) c = eqY eqs 4 false (.d x) (.d y) c := by
    cases x <;> first | rfl | (unfold D.ok at hx; cases hx)
  rw [e, eqY_plain hx hy]
  rfl
theorem eqV2_int (a b : Int) : eqV2 eqs 4 (.d (.int a)) (.d (.int b)) c = .ok (.d (.bl (a == b))) c := by
  rw [eqV2_plain (by simp [D.ok]) (by simp [D.ok])]
  simp [eqD]
theorem eqV2_web {s t : Int} {ls ms : List (List Int)} : eqV2 eqs 4 (.d (wb s ls)) (.d (wb t ms)) c = .ok (.d (.bl (decide (s = t) && decide (ls = ms)))) c := by
  have h := web_eq (s := s) (t := t) (ls := ls) (ms := ms) (c := [])
  unfold wb at h ⊢
  simp only [eqV2, eqO, if_true, eqs, look, Nat.reduceEqDiff, if_false, h, isB]
end
end Dn

end
section
/-! P12: the box, what is drawn. -/
namespace Dn
open PySem
/-- the box behind at most N draws -/
def BxOk (N : Nat) (xs : List D) : Prop := ∃ a b d : Int, xs = [.int a, .int b, .int d] ∧ 0 ≤ a ∧ 0 ≤ b ∧ b ≤ N ∧ 0 ≤ d ∧ d ≤ 1000000000
theorem BxOk.mono {N M : Nat} {xs : List D} (h : BxOk N xs) (k : N ≤ M) : BxOk M xs := by
  obtain ⟨a, b, d, e, h1, h2, h3, h4, h5⟩ := h
  exact ⟨a, b, d, e, h1, h2, by omega, h4, h5⟩
theorem log_lt {i : Int} {k : Nat} (h0 : 0 ≤ i) (h : i < 2 ^ k) (hk : 0 < k) : i.natAbs.log2 < k := by
  by_cases z : i.natAbs = 0
  · rw [z]; simpa using hk
  · rw [Nat.log2_lt z]
    have : (i.natAbs : Int) = i := Int.natAbs_of_nonneg h0
    have e : ((2 ^ k : Nat) : Int) = 2 ^ k := by simp
    omega
section
variable {c : Cs} {δ : Sl} {n : Nat}
theorem ix_cell {xs : List D} {A B : M} {i : Int} {x : D} (hn : c[n]? = some (.lst xs)) (hA : A δ c = .ok (.c n) c) (hB : B δ c = .ok (.d (.int i)) c) (e : ixD (.lst xs) (.int i) = some x) : mBin (lift2 ixD) A B δ c = .ok (.d x) c :=
  bin hA hB (by simp [lift2, deref, hn, e])
theorem set_cell {xs ys : List D} {A I V : M} {i : Int} {j : Nat} {x : D} (hn : c[n]? = some (.lst xs)) (hV : V δ c = .ok (.d x) c) (hA : A δ c = .ok (.c n) c) (hI : I δ c = .ok (.d (.int i)) c) (e : L2.ixN xs.length i = some j) (e2 : xs.set j x = ys) : sSetIx A I V δ c = .nx δ (c.set n (.lst ys)) := by
  unfold sSetIx
  rw [hV]
  simp only [andS_ok]
  rw [hA]
  simp only [andS_ok]
  rw [hI]
  simp only [andS_ok, setC, hn, e, e2]
theorem fn_rs {kp : Bool} {np m : Nat} {b : MS} {ss : List S} {c' : Cs} {x : D} (h : ss.length = np) (hl : c'.length = c.length) (k : b (ss.map some ++ List.replicate (m - np) none) c = .rt (.d x) c') : fnG kp np m b ss c = .ok (.d x) c' := by
  rw [fnG_eq h, k]
  simp [exitR, ← hl]
theorem take_ok {xs : List D} {N : Nat} {m : Int} (hn : c[n]? = some (.lst xs)) (hx : BxOk N xs) (hN : N ≤ 1000000) (hm : 1 ≤ m ∧ m ≤ 1000) :
    ∃ v xs', d_law_take [.c n, .d (.int m)] c = .ok (.d (.int v)) (c.set n (.lst xs')) ∧ 0 ≤ v ∧ v < m ∧ BxOk (N + 1) xs' := by
  obtain ⟨a, b, d, rfl, ha, hb, hbN, hd, hd9⟩ := hx
  have hm0 : m ≠ 0 := by omega
  have hdiv : divOk m = true := by
    have : m.natAbs.log2 < 10 := log_lt (by omega) (Int.lt_of_le_of_lt hm.2 (by decide)) (by decide)
    have : m.natAbs.log2 < 9000 := by omega
    simp [divOk, hm0, this]
  have e18 : powD (.int 10) (.int 18) = some (.int 1000000000000000000) := by
    have : powOk 10 18 = true := by decide +kernel
    simp only [powD, this, if_true]
    rfl
  have i0 : ixD (.lst [.int a, .int b, .int d]) (.int 0) = some (.int a) := rfl
  have i1 : ixD (.lst [.int a, .int b, .int d]) (.int 1) = some (.int b) := rfl
  have hnl : n < c.length := (List.getElem?_eq_some_iff.mp hn).1
  by_cases hbig : (1000000000000000000 : Int) ≤ a
  · refine ⟨a.fmod m, [.int (a.fdiv m), .int b, .int d], fn_rs rfl (by simp) (seq_rt ((if_t (c' := c) (tb_ok (bin (ix_cell hn (vr rfl) rfl i0) (bin rfl rfl (l2 e18)) (l2 (by simp [geD, cmpD, hbig]))))).trans (seq_go (set_ok (bin (blt (a1 (ix_cell hn (vr rfl) rfl i0)) (lN1 rfl)) (vr rfl) (l2 (show modD (.int a) (.int m) = some (.int (a.fmod m)) from if_pos hm0)))) (seq_go (set_cell hn (bin (ix_cell hn (vr rfl) rfl i0) (vr rfl) (l2 (show fdivD (.int a) (.int m) = some (.int (a.fdiv m)) from if_pos hdiv))) (vr rfl) rfl rfl rfl) (ret_ok (vr rfl)))))), ?_, ?_, ?_⟩
    · exact Int.fmod_nonneg_of_pos _ (by omega)
    · exact Int.fmod_lt_of_pos _ (by omega)
    · exact ⟨_, b, d, rfl, by rw [Int.fdiv_eq_ediv_of_nonneg _ (by omega)]; exact Int.ediv_nonneg ha (by omega), hb, by omega, hd, hd9⟩
  · have ha' : a < 1000000000000000000 := by omega
    have lg : ∀ {i : Int}, 0 ≤ i → i < 2 ^ 100 → i.natAbs.log2 < 100 := fun h0 h => log_lt h0 h (by decide)
    have bk : ∀ {i j : Int}, 0 ≤ i → i < 2 ^ 100 → 0 ≤ j → j < 2 ^ 100 → mulD (.int i) (.int j) = some (.int (i * j)) := fun {i j} h0 h1 h2 h3 => by
      have := lg h0 h1
      have := lg h2 h3
      have e : bitsOk i j = true := by simp only [bitsOk, decide_eq_true_eq]; omega
      exact if_pos e
    have pk : ∀ {i : Int}, 0 ≤ i → i < 2 ^ 100 → powD (.int i) (.int 3) = some (.int (i ^ 3)) := fun {i} h0 h1 => by
      have := lg h0 h1
      have e : powOk i 3 = true := by simp only [powOk, decide_eq_true_eq]; omega
      exact if_pos e
    have md : ∀ {i j : Int}, j ≠ 0 → modD (.int i) (.int j) = some (.int (i.fmod j)) := fun h => if_pos h
    have d64 : ∀ i : Int, fdivD (.int i) (.int 64) = some (.int (i.fdiv 64)) := fun i => by
      have e : divOk 64 = true := by decide +kernel
      simp only [fdivD, e, if_true]
    have e100 : (2 : Int) ^ 100 = 1267650600228229401496703205376 := by decide +kernel
    obtain ⟨x1, hx1⟩ : ∃ x1, x1 = (((a + 7) * 69069 + (b + 1) * 40813 + d) ^ 3).fmod 2147483647 := ⟨_, rfl⟩
    obtain ⟨x2, hx2⟩ : ∃ x2, x2 = ((x1 + (b + 1) * 17389) ^ 3).fmod 2147483399 := ⟨_, rfl⟩
    have x1a : 0 ≤ x1 := by rw [hx1]; exact Int.fmod_nonneg_of_pos _ (by decide)
    have x1b : x1 < 2147483647 := by rw [hx1]; exact Int.fmod_lt_of_pos _ (by decide)
    have hn2 : (c.set n (.lst [.int a, .int (b + 1), .int d]))[n]? = some (.lst [.int a, .int (b + 1), .int d]) := List.getElem?_set_self hnl
    have j0 : ixD (.lst [.int a, .int (b + 1), .int d]) (.int 0) = some (.int a) := rfl
    have j1 : ixD (.lst [.int a, .int (b + 1), .int d]) (.int 1) = some (.int (b + 1)) := rfl
    have j2 : ixD (.lst [.int a, .int (b + 1), .int d]) (.int 2) = some (.int d) := rfl
    refine ⟨(x2.fdiv 64).fmod m, [.int a, .int (b + 1), .int d], fn_rs rfl (by simp) (seq_go (if_no (tb_ok (bin (ix_cell hn (vr rfl) rfl i0) (bin rfl rfl (l2 e18)) (l2 (by simp [geD, cmpD]; omega))))) (seq_go (set_cell hn (bin (ix_cell hn (vr rfl) rfl i1) rfl (l2 rfl)) (vr rfl) rfl rfl rfl) (seq_go (set_ok (bin (bin (blt (a1 (bin (bin (bin (bin (ix_cell hn2 (vr rfl) rfl j0) rfl (l2 rfl)) rfl (l2 (bk ?_ ?_ ?_ ?_))) (bin (ix_cell hn2 (vr rfl) rfl j1) rfl (l2 (bk ?_ ?_ ?_ ?_))) (l2 rfl)) (ix_cell hn2 (vr rfl) rfl j2) (l2 rfl))) (lN1 rfl)) rfl (l2 (pk ?_ ?_))) rfl (l2 (d := .int x1) ((md (by decide)).trans (by rw [hx1]))))) (seq_go (set_ok (bin (bin (blt (a1 (bin (vr rfl) (bin (ix_cell hn2 (vr rfl) rfl j1) rfl (l2 (bk ?_ ?_ ?_ ?_))) (l2 rfl))) (lN1 rfl)) rfl (l2 (pk ?_ ?_))) rfl (l2 (d := .int x2) ((md (by decide)).trans (by rw [hx2]))))) (ret_ok (bin (blt (a1 (bin (vr rfl) rfl (l2 (d64 _)))) (lN1 rfl)) (vr rfl) (l2 (md hm0)))))))), Int.fmod_nonneg_of_pos _ (by omega), Int.fmod_lt_of_pos _ (by omega), ⟨a, b + 1, d, rfl, ha, by omega, by omega, hd, hd9⟩⟩
    all_goals (try rw [e100])
    all_goals omega
/-- a comprehension whose test draws from the box: a part of the list is taken -/
theorem cloopS {α : Type} {g : GT} {C : MT} {A : M} {δ : Sl} {q f : α → D} (J : Nat → Cs → Prop) : ∀ (ys : List α) (acc : List D) (N : Nat) (c1 : Cs), J N c1 → c1.length = n →
    (∀ y ∈ ys, ∃ δ1, g (q y) δ = some δ1 ∧ (∀ c', A δ1 c' = .ok (.d (f y)) c') ∧ ∀ (N : Nat) (c1 : Cs) (acc : List D), J N c1 → c1.length = n → N < 100000 → ∃ b c2, C δ1 (c1 ++ [.lst acc]) = .ok b (c2 ++ [.lst acc]) ∧ J (N + 1) c2 ∧ c2.length = n) → acc.length + ys.length ≤ sizeLine → N + ys.length < 100000 →
    ∃ (c2 : Cs) (zs : List α), cloop g C (fun δ1 c1 => (A δ1 c1).bindN (push n)) δ (ys.map q) (c1 ++ [.lst acc]) = .ok () (c2 ++ [.lst (acc ++ zs.map f)]) ∧ J (N + ys.length) c2 ∧ c2.length = n ∧ zs.Sublist ys
  | [], acc, N, c1, hJ, hl, _, _, _ => ⟨c1, [], by simp [cloop], hJ, hl, List.Sublist.refl _⟩
  | y :: ys, acc, N, c1, hJ, hl, h, hs, hN => by
    obtain ⟨δ1, h1, h2, h3⟩ := h y List.mem_cons_self
    simp only [List.length_cons] at hs hN
    obtain ⟨b, c2, e, hJ2, hl2⟩ := h3 N c1 acc hJ hl (by omega)
    simp only [List.map_cons]
    unfold cloop
    rw [h1]
    simp only
    rw [e]
    simp only [bindN_ok]
    cases b with
    | true =>
      rw [if_pos rfl, h2]
      have ep : push n (.d (f y)) (c2 ++ [.lst acc]) = .ok () (c2 ++ [.lst (acc ++ [f y])]) := by
        have e0 : (c2 ++ [CC.lst acc])[n]? = some (CC.lst acc) := by rw [← hl2]; simp
        unfold push
        simp only [e0]
        rw [if_pos (by omega), ← hl2]
        simp
      simp only [bindN_ok, ep]
      obtain ⟨c3, zs, e3, hJ3, hl3, hz⟩ := cloopS J ys (acc ++ [f y]) (N + 1) c2 hJ2 hl2 (fun x hx => h x (List.mem_cons_of_mem _ hx)) (by simp; omega) (by omega)
      refine ⟨c3, y :: zs, by rw [e3]; simp, by rw [show N + (y :: ys).length = N + 1 + ys.length by simp; omega]; exact hJ3, hl3, hz.cons_cons _⟩
    | false =>
      rw [if_neg (by simp)]
      obtain ⟨c3, zs, e3, hJ3, hl3, hz⟩ := cloopS J ys acc (N + 1) c2 hJ2 hl2 (fun x hx => h x (List.mem_cons_of_mem _ hx)) (by omega) (by omega)
      refine ⟨c3, zs, e3, by rw [show N + (y :: ys).length = N + 1 + ys.length by simp; omega]; exact hJ3, hl3, hz.cons _⟩
theorem compS {α : Type} {I : MI} {g : GT} {C : MT} {A : M} {vs : List Nat} {c : Cs} (J : Nat → Cs → Prop) (ys : List α) (q f : α → D) {N : Nat} (hI : I δ c = .ok (ys.map q) c) (hJ : J N c) (hl : ys.length ≤ 1000) (hN : N ≤ 50000)
    (h : ∀ y ∈ ys, ∃ δ1, g (q y) (wipeD δ vs) = some δ1 ∧ (∀ c', A δ1 c' = .ok (.d (f y)) c') ∧ ∀ (N : Nat) (c1 : Cs) (acc : List D), J N c1 → c1.length = c.length → N < 100000 → ∃ b c2, C δ1 (c1 ++ [.lst acc]) = .ok b (c2 ++ [.lst acc]) ∧ J (N + 1) c2 ∧ c2.length = c.length) :
    ∃ (c2 : Cs) (zs : List α), mComp I g C A vs δ c = .ok (.d (.lst (zs.map f))) c2 ∧ J (N + ys.length) c2 ∧ c2.length = c.length ∧ zs.Sublist ys := by
  obtain ⟨c2, zs, e, hJ2, hl2, hz⟩ := cloopS J ys [] N c hJ rfl h (by simpa using small_size hl) (by omega)
  refine ⟨c2, zs, ?_, hJ2, hl2, hz⟩
  unfold mComp
  rw [hI]
  simp only [bind_ok]
  rw [e]
  simp only [bindN_ok, List.nil_append, finC]
  have e0 : (c2 ++ [CC.lst (zs.map f)])[c.length]? = some (CC.lst (zs.map f)) := by rw [← hl2]; simp
  simp only [e0]
  rw [← hl2]
  simp
end
end Dn

end
section
/-! P13: lots that are drawn. -/
namespace Dn
open PySem
section
variable {c : Cs} {δ : Sl} {n : Nat}
/-- the box stands at n, all else is as in c -/
def BxAt (c : Cs) (n N : Nat) (c1 : Cs) : Prop := ∃ xs, c1 = c.set n (.lst xs) ∧ BxOk N xs
theorem BxAt.len {N : Nat} {c1 : Cs} (h : BxAt c n N c1) : c1.length = c.length := by
  obtain ⟨xs, rfl, _⟩ := h; simp
theorem BxAt.mono {N M : Nat} {c1 : Cs} (h : BxAt c n N c1) (k : N ≤ M) : BxAt c n M c1 := by
  obtain ⟨xs, e, b⟩ := h; exact ⟨xs, e, b.mono k⟩
theorem take_at {N : Nat} {c1 e : Cs} {m : Int} (hn : n < c.length) (h : BxAt c n N c1) (hN : N ≤ 1000000) (hm : 1 ≤ m ∧ m ≤ 1000) : ∃ v c2, d_law_take [.c n, .d (.int m)] (c1 ++ e) = .ok (.d (.int v)) (c2 ++ e) ∧ 0 ≤ v ∧ v < m ∧ BxAt c n (N + 1) c2 := by
  obtain ⟨xs, rfl, hx⟩ := h
  have g : (c.set n (.lst xs) ++ e)[n]? = some (.lst xs) := by
    rw [List.getElem?_append_left (by simpa using hn), List.getElem?_set_self hn]
  obtain ⟨v, xs', e1, h1, h2, h3⟩ := take_ok g hx hN hm
  refine ⟨v, c.set n (.lst xs'), ?_, h1, h2, xs', rfl, h3⟩
  rw [e1, List.set_append_left _ _ (by simpa using hn), List.set_set]
theorem sub_lot {s : Nat} {zs : List Nat} (h : zs.Sublist (List.range s)) : LotOk s (zs.map fun (i : Nat) => (i : Int)) := by
  refine ⟨fun x hx => ?_, ?_⟩
  · obtain ⟨i, hi, rfl⟩ := List.mem_map.mp hx
    have := List.mem_range.mp (h.subset hi)
    omega
  · rw [List.pairwise_map]
    exact (List.pairwise_lt_range.sublist h).imp fun h => by omega
theorem rng_ok {B : MA} {s : Nat} {c' : Cs} (h : B δ c = .ok [.d (.int s)] c') (hs : s ≤ 100) : iRng B δ c = .ok ((List.range s).map fun (i : Nat) => D.int (i : Int)) c' := by
  unfold iRng
  rw [h]
  simp only [bind_ok, rng1]
  rw [if_pos (by omega)]
  simp [rngL]
abbrev lotBody : MS := sSeq (sSet 5 (mBlt d_law_take (mCons (mVar 0) (mCons (mC (.int 6)) mNil)))) (sSeq (sSet 6 (mComp (iRng (mCons (mVar 1) mNil)) (gtName 7) (mTB (mBin (eqV2 eqs 4) (mBlt d_law_take (mCons (mVar 0) (mCons (mC (.int 2)) mNil))) (mC (.int 0)))) (mVar 7) [7])) (sExpr (mAppend (mVar 3) (mCons (mIf (mTB (mBin (eqV2 eqs 4) (mVar 5) (mC (.int 0)))) (mLstRng (mVar 1)) (mIf (mTB (mBin (eqV2 eqs 4) (mVar 5) (mC (.int 1)))) (mLst mNil) (mVar 6))) mNil))))
abbrev ls8 (n k : Nat) (s h : Int) (x4 x5 x6 x7 : Option S) : Sl := [some (.c n), some (.d (.int s)), some (.d (.int h)), some (.c k), x4, x5, x6, x7]
theorem draw_lots {s h N : Nat} {xs : List D} (hs : 0 < s ∧ s < 4) (hh : h ≤ 3) (hn : c[n]? = some (.lst xs)) (hx : BxOk N xs) (hN : N ≤ 10000) :
    ∃ (ls : List (List Int)) (c2 : Cs), d_law_lots [.c n, .d (.int s), .d (.int h)] c = .ok (.d (.lst (ls.map lotL))) c2 ∧ ls.length = h ∧ (∀ l ∈ ls, LotOk s l) ∧ BxAt c n (N + 12) c2 := by
  have hnl : n < c.length := (List.getElem?_eq_some_iff.mp hn).1
  have b0 : BxAt c n N c := ⟨xs, by
    obtain ⟨h1, e⟩ := List.getElem?_eq_some_iff.mp hn
    rw [← e]; simp, hx⟩
  have step : ∀ (k : Nat) (c1 : Cs) (ls : List (List Int)) (x4 x5 x6 x7 : Option S), BxAt c n (N + 4 * k) c1 → ls.length = k → k ≤ 3 → (∀ l ∈ ls, LotOk s l) →
      ∃ (c2 : Cs) (l : List Int) (y5 y6 : Option S), lotBody (ls8 n c.length s h x4 x5 x6 x7) (c1 ++ [.lst (ls.map lotL)]) = .nx (ls8 n c.length s h x4 y5 y6 x7) (c2 ++ [.lst ((ls ++ [l]).map lotL)]) ∧ BxAt c n (N + 4 * (k + 1)) c2 ∧ LotOk s l := by
    intro k c1 ls x4 x5 x6 x7 hb hlen hk hok
    obtain ⟨v, c2, e1, v0, v6, hb2⟩ := take_at (e := [.lst (ls.map lotL)]) (m := 6) hnl hb (by omega) (by omega)
    have hl2 := hb2.len
    -- the comprehension
    have comp := compS (δ := ls8 n c.length s h x4 (some (.d (.int v))) x6 x7) (c := c2 ++ [.lst (ls.map lotL)]) (I := iRng (mCons (mVar 1) mNil)) (g := gtName 7) (C := mTB (mBin (eqV2 eqs 4) (mBlt d_law_take (mCons (mVar 0) (mCons (mC (.int 2)) mNil))) (mC (.int 0)))) (A := mVar 7) (vs := [7])
      (fun M c3 => ∃ c4, c3 = c4 ++ [.lst (ls.map lotL)] ∧ BxAt c n M c4) (List.range s) (fun (i : Nat) => D.int (i : Int)) (fun (i : Nat) => D.int (i : Int)) (N := N + 4 * k + 1) (rng_ok (a1 (vr rfl)) (by omega)) ⟨c2, rfl, hb2⟩ (by simp; omega) (by omega) (by
        intro i _
        refine ⟨_, rfl, fun c' => vr rfl, ?_⟩
        rintro M c3 acc ⟨c4, rfl, hb4⟩ hl hM
        obtain ⟨w, c5, e5, w0, w2, hb5⟩ := take_at (e := [.lst (ls.map lotL), .lst acc]) (m := 2) hnl hb4 (by omega) (by omega)
        refine ⟨w == 0, c5 ++ [.lst (ls.map lotL)], ?_, ⟨c5, rfl, hb5⟩, by simp [hb5.len, hl2]⟩
        refine tb_ok (bin (blt (a2 (vr rfl) (a1 rfl)) (c' := c4 ++ [.lst (ls.map lotL)] ++ [.lst acc]) (r := .ok (.d (.int w)) (c5 ++ [.lst (ls.map lotL)] ++ [.lst acc])) ?_) rfl (eqV2_int _ _))
        rw [List.append_assoc, List.append_assoc]
        exact e5)
    obtain ⟨c3, zs, e3, ⟨c4, rfl, hb4⟩, hl3, hz⟩ := comp
    have hl4 := hb4.len
    have hb4' : BxAt c n (N + 4 * (k + 1)) c4 := hb4.mono (by simp; omega)
    have acc_lt : (ls.map lotL).length < sizeLine := by simp [hlen]; exact Nat.lt_of_le_of_lt hk (by decide)
    have iv : ∀ (b : Int) (c : Cs), mTB (mBin (eqV2 eqs 4) (mVar 5) (mC (.int b))) (ls8 n c.length s h x4 (some (.d (.int v))) (some (.d (.lst (zs.map fun (i : Nat) => D.int (i : Int))))) x7) c = .ok (v == b) c := fun b c => tb_ok (bin (vr rfl) rfl (eqV2_int _ _))
    have fin : ∀ (l : List Int), (∀ c', mIf (mTB (mBin (eqV2 eqs 4) (mVar 5) (mC (.int 0)))) (mLstRng (mVar 1)) (mIf (mTB (mBin (eqV2 eqs 4) (mVar 5) (mC (.int 1)))) (mLst mNil) (mVar 6)) (ls8 n c.length s h x4 (some (.d (.int v))) (some (.d (.lst (zs.map fun (i : Nat) => D.int (i : Int))))) x7) c' = .ok (.d (lotL l)) c') → LotOk s l →
        ∃ (c2 : Cs) (l : List Int) (y5 y6 : Option S), lotBody (ls8 n c.length s h x4 x5 x6 x7) (c1 ++ [.lst (ls.map lotL)]) = .nx (ls8 n c.length s h x4 y5 y6 x7) (c2 ++ [.lst ((ls ++ [l]).map lotL)]) ∧ BxAt c n (N + 4 * (k + 1)) c2 ∧ LotOk s l := by
      intro l hl hok
      refine ⟨c4, l, some (.d (.int v)), some (.d (.lst (zs.map fun (i : Nat) => D.int (i : Int)))), seq_go (set_ok (blt (a2 (vr rfl) (a1 rfl)) e1)) (seq_go (set_ok e3) (expr_ok (s := .d .non) ?_)), hb4', hok⟩
      have := app_ok (c := c4) (δ := ls8 n c.length s h x4 (some (.d (.int v))) (some (.d (.lst (zs.map fun (i : Nat) => D.int (i : Int))))) x7) (A := mVar 3) (acc := ls.map lotL) (x := lotL l) (by rw [hl4]; exact vr rfl) (a1 (hl _)) acc_lt
      rw [List.map_append]
      exact this
    by_cases hv0 : v = 0
    · refine fin ((List.range s).map fun (i : Nat) => (i : Int)) (fun c' => mif_t (c' := c') ((tb_ok (bin (vr rfl) rfl (eqV2_int _ _))).trans (by simp [hv0])) ?_) (sub_lot (List.Sublist.refl _))
      unfold mLstRng
      rw [show mVar 1 _ c' = .ok (.d (.int s)) c' from vr rfl]
      simp only [bind_ok, lstRng]
      rw [if_pos (by omega)]
      simp [lotL, rngL]
    · by_cases hv1 : v = 1
      · exact fin [] (fun c' => mif_f (c' := c') ((tb_ok (bin (vr rfl) rfl (eqV2_int _ _))).trans (by simp [hv0])) (mif_t (c' := c') ((tb_ok (bin (vr rfl) rfl (eqV2_int _ _))).trans (by simp [hv1])) rfl)) ⟨fun x hx => by simp at hx, List.Pairwise.nil⟩
      · exact fin (zs.map fun (i : Nat) => (i : Int)) (fun c' => mif_f (c' := c') ((tb_ok (bin (vr rfl) rfl (eqV2_int _ _))).trans (by simp [hv0])) (mif_f (c' := c') ((tb_ok (bin (vr rfl) rfl (eqV2_int _ _))).trans (by simp [hv1])) ((vr (s := .d (.lst (zs.map fun (i : Nat) => D.int (i : Int)))) rfl).trans (by simp [lotL, List.map_map])))) (sub_lot hz)
  obtain ⟨δ', c', e, ls, c1, x4, x5, x6, x7, rfl, rfl, hlen, hok, hb⟩ := for_inv (δ := ls8 n c.length s h none none none none) (c := c ++ [.lst []]) (I := iRng (mCons (mVar 2) mNil)) (g := gtName 4) (B := lotBody) (List.range h) (fun (i : Nat) => D.int (i : Int))
    (fun done δ c' => ∃ ls c1 x4 x5 x6 x7, δ = ls8 n c.length s h x4 x5 x6 x7 ∧ c' = c1 ++ [.lst (ls.map lotL)] ∧ ls.length = done.length ∧ (∀ l ∈ ls, LotOk s l) ∧ BxAt c n (N + 4 * done.length) c1) (rng_ok (a1 (vr rfl)) (by omega)) ⟨[], c, none, none, none, none, rfl, rfl, rfl, fun l hl => by simp at hl, b0⟩ (by
      rintro d y r δ c2 hy ⟨ls, c1, x4, x5, x6, x7, rfl, rfl, hlen, hok, hb⟩
      have hd : d.length + 1 ≤ h := by have := congrArg List.length hy; simp at this; omega
      obtain ⟨c3, l, y5, y6, e, hb3, hl⟩ := step d.length c1 ls (some (.d (.int y))) x5 x6 x7 hb hlen (by omega) hok
      refine ⟨_, _, _, rfl, e, ls ++ [l], c3, some (.d (.int y)), y5, y6, x7, rfl, rfl, by simp [hlen], fun m hm => ?_, by simpa using hb3⟩
      rcases List.mem_append.mp hm with z | z
      · exact hok m z
      · rw [List.mem_singleton.mp z]; exact hl)
  have hl1 := hb.len
  refine ⟨ls, c1, ?_, by simpa using hlen, hok, hb.mono (by simp; omega)⟩
  refine (fnG_eq rfl).trans ?_
  have body : b_law_lots [some (.c n), some (.d (.int s)), some (.d (.int h)), none, none, none, none, none] c = .rt (.c c.length) (c1 ++ [.lst (ls.map lotL)]) := seq_go (δ' := ls8 n c.length s h none none none none) (c' := c ++ [.lst []]) rfl (seq_go e (ret_ok (vr rfl)))
  show exitR false c.length (b_law_lots [some (.c n), some (.d (.int s)), some (.d (.int h)), none, none, none, none, none] c) = _
  rw [body]
  simp [exitR, ← hl1]
end
end Dn

end
section
/-! P14: the box, sizes. -/
namespace Dn
open PySem
section
variable {c : Cs} {δ : Sl} {n : Nat}
/-- a comprehension whose item draws -/
theorem cloopA {α : Type} {g : GT} {A : M} {δ : Sl} {q : α → D} (J : Nat → Cs → Prop) (P : D → Prop) : ∀ (ys : List α) (acc : List D) (N : Nat) (c1 : Cs), J N c1 → c1.length = n →
    (∀ y ∈ ys, ∃ δ1, g (q y) δ = some δ1 ∧ ∀ (N : Nat) (c1 : Cs) (acc : List D), J N c1 → c1.length = n → N < 100000 → ∃ d c2, A δ1 (c1 ++ [.lst acc]) = .ok (.d d) (c2 ++ [.lst acc]) ∧ P d ∧ J (N + 1) c2 ∧ c2.length = n) → acc.length + ys.length ≤ sizeLine → N + ys.length < 100000 →
    ∃ (c2 : Cs) (zs : List D), cloop g mtYes (fun δ1 c1 => (A δ1 c1).bindN (push n)) δ (ys.map q) (c1 ++ [.lst acc]) = .ok () (c2 ++ [.lst (acc ++ zs)]) ∧ J (N + ys.length) c2 ∧ c2.length = n ∧ zs.length = ys.length ∧ ∀ z ∈ zs, P z
  | [], acc, N, c1, hJ, hl, _, _, _ => ⟨c1, [], by simp [cloop], hJ, hl, rfl, fun z hz => by simp at hz⟩
  | y :: ys, acc, N, c1, hJ, hl, h, hs, hN => by
    obtain ⟨δ1, h1, h3⟩ := h y List.mem_cons_self
    simp only [List.length_cons] at hs hN
    obtain ⟨d, c2, e, hP, hJ2, hl2⟩ := h3 N c1 acc hJ hl (by omega)
    have ey : ∀ (δ : Sl) (c : Cs), mtYes δ c = .ok true c := fun _ _ => rfl
    simp only [List.map_cons]
    unfold cloop
    rw [h1]
    simp only [ey, bindN_ok, if_true]
    rw [e]
    have ep : push n (.d d) (c2 ++ [.lst acc]) = .ok () (c2 ++ [.lst (acc ++ [d])]) := by
      have e0 : (c2 ++ [CC.lst acc])[n]? = some (CC.lst acc) := by rw [← hl2]; simp
      unfold push
      simp only [e0]
      rw [if_pos (by omega), ← hl2]
      simp
    simp only [bindN_ok, ep]
    obtain ⟨c3, zs, e3, hJ3, hl3, hz, hPz⟩ := cloopA J P ys (acc ++ [d]) (N + 1) c2 hJ2 hl2 (fun x hx => h x (List.mem_cons_of_mem _ hx)) (by simp; omega) (by omega)
    refine ⟨c3, d :: zs, by rw [e3]; simp, by rw [show N + (y :: ys).length = N + 1 + ys.length by simp; omega]; exact hJ3, hl3, by simp [hz], fun z hzm => ?_⟩
    rcases List.mem_cons.mp hzm with w | w
    · rw [w]; exact hP
    · exact hPz z w
theorem compA {α : Type} {I : MI} {g : GT} {A : M} {vs : List Nat} {c : Cs} (J : Nat → Cs → Prop) (P : D → Prop) (ys : List α) (q : α → D) {N : Nat} (hI : I δ c = .ok (ys.map q) c) (hJ : J N c) (hl : ys.length ≤ 1000) (hN : N ≤ 50000)
    (h : ∀ y ∈ ys, ∃ δ1, g (q y) (wipeD δ vs) = some δ1 ∧ ∀ (N : Nat) (c1 : Cs) (acc : List D), J N c1 → c1.length = c.length → N < 100000 → ∃ d c2, A δ1 (c1 ++ [.lst acc]) = .ok (.d d) (c2 ++ [.lst acc]) ∧ P d ∧ J (N + 1) c2 ∧ c2.length = c.length) :
    ∃ (c2 : Cs) (zs : List D), mComp I g mtYes A vs δ c = .ok (.d (.lst zs)) c2 ∧ J (N + ys.length) c2 ∧ c2.length = c.length ∧ zs.length = ys.length ∧ ∀ z ∈ zs, P z := by
  obtain ⟨c2, zs, e, hJ2, hl2, hz, hP⟩ := cloopA J P ys [] N c hJ rfl h (by simpa using small_size hl) (by omega)
  refine ⟨c2, zs, ?_, hJ2, hl2, hz, hP⟩
  unfold mComp
  rw [hI]
  simp only [bind_ok]
  rw [e]
  simp only [bindN_ok, List.nil_append, finC]
  have e0 : (c2 ++ [CC.lst zs])[c.length]? = some (CC.lst zs) := by rw [← hl2]; simp
  simp only [e0]
  rw [← hl2]
  simp
theorem box_ok {ns : List Int} {k : Nat} (hk : k ≤ 3) : ∃ xs, d_law_box [.d (.scr ns), .d (.int k)] c = .ok (.c c.length) (c ++ [.lst xs]) ∧ BxOk 0 xs := by
  obtain ⟨sp, hsp⟩ : ∃ sp : Int, sp = (ns.sum + (ns.length : Int)).fmod 1000003 := ⟨_, rfl⟩
  have s0 : 0 ≤ sp := by rw [hsp]; exact Int.fmod_nonneg_of_pos _ (by decide)
  have s1 : sp < 1000003 := by rw [hsp]; exact Int.fmod_lt_of_pos _ (by decide)
  have lnE : lenO lens [.scr ns] = some (.int ns.length) := rfl
  have mk : mulD (.int 40597) (.int (k : Int)) = some (.int (40597 * (k : Int))) := by
    have h1 : (40597 : Int).natAbs.log2 < 20 := log_lt (by decide) (by decide) (by decide)
    have h2 : ((k : Nat) : Int).natAbs.log2 < 20 := log_lt (by omega) (Int.lt_of_le_of_lt (show ((k : Nat) : Int) ≤ 3 by omega) (by decide)) (by decide)
    have e : bitsOk 40597 (k : Int) = true := by simp only [bitsOk, decide_eq_true_eq]; omega
    exact if_pos e
  have md : modD (.int (ns.sum + (ns.length : Int))) (.int 1000003) = some (.int sp) := by rw [hsp]; rfl
  have key : ∀ (a : Int), 0 ≤ a → mIf (mTB (mBin (lift2 ltD) (mVar 1) (mBlt (liftN (lenO lens)) (mCons (mVar 0) mNil)))) (mBlt (liftN absD) (mCons (mBlt (liftN intD) (mCons (mBin (lift2 ixD) (mVar 0) (mVar 1)) mNil)) mNil)) (mC (.int 0)) [some (.d (.scr ns)), some (.d (.int k)), some (.d (.int sp))] c = .ok (.d (.int a)) c →
      ∃ xs, d_law_box [.d (.scr ns), .d (.int k)] c = .ok (.c c.length) (c ++ [.lst xs]) ∧ BxOk 0 xs := by
    intro a ha e
    refine ⟨[.int a, .int 0, .int (40597 * (k : Int) + 911 + sp)], ?_, a, 0, _, rfl, ha, by omega, by omega, by omega, by omega⟩
    have body : b_law_box [some (.d (.scr ns)), some (.d (.int k)), none] c = .rt (.c c.length) (c ++ [.lst [.int a, .int 0, .int (40597 * (k : Int) + 911 + sp)]]) := by
      refine seq_go (set_ok (c' := c) (s := .d (.int sp)) (bin (blt (a1 (bin (blt (a1 (vr rfl)) (lN1 rfl)) (blt (a1 (vr rfl)) (lN1 lnE)) (l2 rfl))) (lN1 rfl)) rfl (l2 md))) (ret_ok ?_)
      exact (congrArg (fun r => R.bind r mkCell) (a2 e (a2 rfl (a1 (bin (bin (bin rfl (vr rfl) (l2 mk)) rfl (l2 rfl)) (vr rfl) (l2 rfl)))))).trans rfl
    refine (fnG_eq rfl).trans ?_
    show exitR true c.length (b_law_box [some (.d (.scr ns)), some (.d (.int k)), none] c) = _
    rw [body]
    simp [exitR]
  by_cases hlt : k < ns.length
  · refine key (if ns[k] < 0 then -ns[k] else ns[k]) (by split <;> omega) (mif_t (c' := c) ((tb_ok (bin (vr rfl) (blt (a1 (vr rfl)) (lN1 lnE)) (l2 rfl))).trans (by simp [hlt])) (blt (a1 (blt (a1 (bin (vr rfl) (vr rfl) (l2 (d := .int ns[k]) ?_))) (lN1 rfl))) (lN1 rfl)))
    have := atI_nat (xs := ns.map D.int) (n := k) (by simpa using hlt)
    rw [List.getElem_map] at this
    exact this
  · exact key 0 (by omega) (mif_f (c' := c) ((tb_ok (bin (vr rfl) (blt (a1 (vr rfl)) (lN1 lnE)) (l2 rfl))).trans (by
      have : ¬ ((k : Int) < (ns.length : Int)) := by omega
      simp [this])) rfl)
end
end Dn

end
section
/-! P15: the law of k19. -/
namespace Dn
open PySem
section
variable {c cb : Cs} {δ : Sl} {n : Nat}
theorem BxAt.app {N : Nat} {c1 : Cs} (h : BxAt cb n N c1) (hn : n < cb.length) (e : Cs) : BxAt (cb ++ e) n N (c1 ++ e) := by
  obtain ⟨xs, rfl, b⟩ := h
  exact ⟨xs, by rw [List.set_append_left _ _ hn], b⟩
theorem BxAt.of_app {N : Nat} {c1 e : Cs} (h : BxAt (cb ++ e) n N c1) (hn : n < cb.length) : ∃ c2, c1 = c2 ++ e ∧ BxAt cb n N c2 := by
  obtain ⟨xs, rfl, b⟩ := h
  exact ⟨cb.set n (.lst xs), by rw [List.set_append_left _ _ hn], xs, rfl, b⟩
theorem draw_at {s h N : Nat} {c1 : Cs} (hn : n < cb.length) (hb : BxAt cb n N c1) (hs : 0 < s ∧ s < 4) (hh : h ≤ 3) (hN : N ≤ 10000) :
    ∃ (ls : List (List Int)) (c2 : Cs), d_law_lots [.c n, .d (.int s), .d (.int h)] c1 = .ok (.d (.lst (ls.map lotL))) c2 ∧ ls.length = h ∧ (∀ l ∈ ls, LotOk s l) ∧ BxAt cb n (N + 12) c2 := by
  obtain ⟨xs, rfl, b⟩ := hb
  obtain ⟨ls, c2, e, h1, h2, ys, rfl, b2⟩ := draw_lots (c := cb.set n (.lst xs)) (n := n) hs hh (List.getElem?_set_self hn) b hN
  exact ⟨ls, _, e, h1, h2, ys, by rw [List.set_set], b2⟩
end
end Dn

end
section
/-! K18_16: numbers of seats, lots: any values. -/
namespace Dn
open PySem
section
variable {c : Cs} {δ : Sl} {s : Int} {x y : D}
/-- a value that may be asked for its class -/
def okA : D → Prop
  | .scr _ => False
  | .obj k _ => k = 0 ∨ k = 1
  | _ => True
def isIntD : D → Bool
  | .int _ => true
  | _ => false
def isPlaceD (s : Int) : D → Bool
  | .int i => decide (0 ≤ i) && decide (i < s)
  | _ => false
def isManyD : D → Bool
  | .int i => decide (0 < i) && decide (i < 4)
  | _ => false
theorem is_integer_any (h : okA x) : d_is_integer [.d x] c = .ok (.d (.bl (isIntD x))) c := by
  have no : k_int.ask x = some false → d_is_integer [.d x] c = .ok (.d (.bl false)) c := fun e => fn_rt rfl (ret_ok (and_no (isi (vr rfl) e)))
  cases x with
  | int i => exact is_integer_int i c
  | bl b => exact fn_rt rfl (ret_ok (and_yes (isi (vr rfl) rfl) rfl))
  | non => exact no rfl
  | str _ => exact no rfl
  | lst _ => exact no rfl
  | tup _ => exact no rfl
  | dct _ _ => exact no rfl
  | scr _ => exact h.elim
  | obj k xs =>
    rcases h with rfl | rfl
    · exact no rfl
    · exact no rfl
theorem is_place_any (h : okA x) : d_is_place [.d x, .d (.int s)] c = .ok (.d (.bl (isPlaceD s x))) c := by
  have no : isIntD x = false → d_is_place [.d x, .d (.int s)] c = .ok (.d (.bl false)) c := fun e => fn_rt rfl (ret_ok (and_no (blt (a1 (vr rfl)) ((is_integer_any h).trans (by rw [e])))))
  cases x with
  | int i => exact is_place_int i s c
  | _ => exact no rfl
theorem is_many_any (h : okA x) : d_is_many [.d x] c = .ok (.d (.bl (isManyD x))) c := by
  have no : isIntD x = false → d_is_many [.d x] c = .ok (.d (.bl false)) c := fun e => fn_rt rfl (ret_ok (and_no (blt (a2 (vr rfl) (a1 (bin rfl rfl (l2 rfl)))) ((is_place_any (s := 4) h).trans (by cases x <;> first | rfl | cases e)))))
  cases x with
  | int i => exact is_many_int i c
  | _ => exact no rfl
/-! ### lots -/
def ascL : List Int → Bool
  | x :: y :: r => decide (x < y) && ascL (y :: r)
  | _ => true
theorem ascL_iff : ∀ l : List Int, ascL l = true ↔ l.Pairwise (· < ·)
  | [] => by simp [ascL]
  | [x] => by simp [ascL]
  | x :: y :: r => by
    unfold ascL
    rw [Bool.and_eq_true, decide_eq_true_eq, ascL_iff (y :: r)]
    constructor
    · rintro ⟨h, k⟩
      refine List.pairwise_cons.mpr ⟨fun z hz => ?_, k⟩
      rcases List.mem_cons.mp hz with w | w
      · omega
      · have := (List.pairwise_cons.mp k).1 z w
        omega
    · intro q
      obtain ⟨h, k⟩ := List.pairwise_cons.mp q
      exact ⟨h y List.mem_cons_self, k⟩
def iOf : List D → List Int
  | [] => []
  | .int i :: r => i :: iOf r
  | _ :: r => iOf r
def isLotD (s : Int) : D → Bool
  | .lst xs => xs.all (isPlaceD s) && ascL (iOf xs)
  | .tup xs => xs.all (isPlaceD s) && ascL (iOf xs)
  | _ => false
theorem places_ints : ∀ {xs : List D}, xs.all (isPlaceD s) = true → xs = (iOf xs).map D.int
  | [], _ => rfl
  | x :: r, h => by
    simp only [List.all_cons, Bool.and_eq_true] at h
    cases x with
    | int i => simp only [iOf, List.map_cons]; rw [← places_ints h.2]
    | _ => cases h.1
theorem ints_map (l : List Int) : iOf (l.map D.int) = l := by
  induction l with
  | nil => rfl
  | cons x r ih => simp [iOf, ih]
theorem all_pairs (l : List Int) : ((List.range (l.length - 1)).all fun i => decide (l.getD i 0 < l.getD (i + 1) 0)) = ascL l := by
  rw [Bool.eq_iff_iff, ascL_iff, List.all_eq_true]
  constructor
  · intro h
    rw [← ascL_iff]
    induction l with
    | nil => rfl
    | cons x r ih =>
      cases r with
      | nil => rfl
      | cons y r =>
        unfold ascL
        rw [Bool.and_eq_true]
        refine ⟨by simpa using h 0 (by simp), ih fun i hi => ?_⟩
        have := h (i + 1) (by simp at hi ⊢; omega)
        simpa using this
  · intro h i hi
    have hi := List.mem_range.mp hi
    rw [decide_eq_true_eq, List.getD_eq_getElem?_getD, List.getD_eq_getElem?_getD, List.getElem?_eq_getElem (by omega), List.getElem?_eq_getElem (by omega)]
    exact List.pairwise_iff_getElem.mp h i (i + 1) _ _ (by omega)
theorem is_lot_seq {xs : List D} (hd : IsSeq x xs) (hl : xs.length ≤ 100) (ha : ∀ z ∈ xs, okA z) : d_is_lot [.d x, .d (.int s)] c = .ok (.d (.bl (xs.all (isPlaceD s) && ascL (iOf xs)))) c := by
  have h1 : mtNot (mTB (mBlt (liftN allD) (mCons (mComp (iSeq (mVar 0)) (gtName 2) mtYes (mBlt d_is_place (mCons (mVar 2) (mCons (mVar 1) mNil))) [2]) mNil))) [some (.d x), some (.d (.int s)), none, none] c = .ok (!xs.all (isPlaceD s)) c := by
    refine tnot_ok (tb_ok (all_bl (f := isPlaceD s) (compM xs (fun z => z) (fun z => .bl (isPlaceD s z)) ?_ (small_size (by omega)) fun z hz => ⟨_, rfl, fun c' => blt (a2 (vr rfl) (a1 (vr rfl))) (is_place_any (ha z hz))⟩)))
    rw [List.map_id']
    exact seqI (vr rfl) (items_seq hd)
  by_cases hp : xs.all (isPlaceD s) = true
  · rw [hp] at h1 ⊢
    obtain ⟨l, hxs⟩ : ∃ l, l = iOf xs := ⟨_, rfl⟩
    have hx := places_ints hp
    rw [← hxs] at hx ⊢
    subst hx
    refine fn_rt rfl (seq_go (if_no (tor_no (tnot_ok (tb_ok (isi (vr rfl) (lt_seq hd)))) h1)) (ret_ok ?_))
    rw [Bool.true_and, ← all_pairs l]
    simp only [List.length_map] at hl
    refine all_bl (compM (List.range (l.length - 1)) (fun (i : Nat) => D.int (0 + (i : Int))) (fun i => .bl (decide (l.getD i 0 < l.getD (i + 1) 0))) ?_ (small_size (by simp; omega)) fun i hi => ?_)
    · have e1 : ((l.length : Int) - 1) ≤ 16777216 ∧ -(2 ^ 62) ≤ ((l.length : Int) - 1) := by omega
      have e2 : ((l.length : Int) - 1).toNat = l.length - 1 := by omega
      refine (congrArg (fun r => R.bind r rng1) (a1 (bin (blt (a1 (vr rfl)) (lN1 (lenO_seq hd))) rfl (l2 rfl)))).trans ?_
      simp only [bind_ok, rng1, List.length_map]
      rw [if_pos e1, e2]
      rfl
    · have hi := List.mem_range.mp hi
      have a1' : i < (l.map D.int).length := by simp; omega
      have a2' : i + 1 < (l.map D.int).length := by simp; omega
      have z1 := ix_seq hd a1'
      have z2 := ix_seq hd a2'
      simp only [List.getElem_map] at z1 z2
      have w1 : l.getD i 0 = l[i]'(by omega) := by rw [List.getD_eq_getElem?_getD, List.getElem?_eq_getElem (by omega)]; rfl
      have w2 : l.getD (i + 1) 0 = l[i + 1]'(by omega) := by rw [List.getD_eq_getElem?_getD, List.getElem?_eq_getElem (by omega)]; rfl
      refine ⟨_, rfl, fun c' => bin (bin (vr rfl) (vr rfl) (l2 (d := .int l[i]) (by rw [Int.zero_add]; exact z1))) (bin (vr rfl) (bin (vr rfl) rfl (l2 rfl)) (l2 (d := .int l[i + 1]) (by rw [Int.zero_add]; exact z2))) (l2 ?_)⟩
      rw [w1, w2]
      rfl
  · have hp' : xs.all (isPlaceD s) = false := by simpa using hp
    rw [hp'] at h1 ⊢
    exact fn_rt rfl (seq_rt ((if_t (tor_no (tnot_ok (tb_ok (isi (vr rfl) (lt_seq hd)))) h1)).trans (ret_ok rfl)))
/-- a value whose parts may be asked -/
def okB : D → Prop
  | .lst xs => xs.length ≤ 100 ∧ ∀ z ∈ xs, okA z
  | .tup xs => xs.length ≤ 100 ∧ ∀ z ∈ xs, okA z
  | x => okA x
theorem is_lot_any (h : okB x) : d_is_lot [.d x, .d (.int s)] c = .ok (.d (.bl (isLotD s x))) c := by
  have no : k_list_tuple.ask x = some false → d_is_lot [.d x, .d (.int s)] c = .ok (.d (.bl false)) c := fun e => fn_rt rfl (seq_rt ((if_t (tor_yes ((tnot_ok (tb_ok (isi (vr rfl) e))).trans rfl))).trans (ret_ok rfl)))
  cases x with
  | lst xs => exact is_lot_seq (.inl rfl) h.1 h.2
  | tup xs => exact is_lot_seq (.inr rfl) h.1 h.2
  | int i => exact no rfl
  | bl b => exact no rfl
  | non => exact no rfl
  | str _ => exact no rfl
  | dct _ _ => exact no rfl
  | scr _ => exact h.elim
  | obj k xs =>
    rcases h with rfl | rfl
    · exact no rfl
    · exact no rfl
def areLotsD (s : Int) : D → Bool
  | .lst xs => decide (1 ≤ xs.length) && decide (xs.length ≤ 3) && xs.all (isLotD s)
  | .tup xs => decide (1 ≤ xs.length) && decide (xs.length ≤ 3) && xs.all (isLotD s)
  | _ => false
def okC : D → Prop
  | .lst xs => xs.length ≤ 100 ∧ ∀ z ∈ xs, okB z
  | .tup xs => xs.length ≤ 100 ∧ ∀ z ∈ xs, okB z
  | x => okA x
theorem are_lots_seq {xs : List D} (hd : IsSeq x xs) (hl : xs.length ≤ 100) (ha : ∀ z ∈ xs, okB z) : d_are_lots [.d x, .d (.int s)] c = .ok (.d (.bl (decide (1 ≤ xs.length) && decide (xs.length ≤ 3) && xs.all (isLotD s)))) c := by
  have h1 : mTB (mChain (lift2 leD) (lift2 leD) (mC (.int 1)) (mBlt (liftN (lenO lens)) (mCons (mVar 0) mNil)) (mC (.int 3))) [some (.d x), some (.d (.int s)), none] c = .ok (decide (1 ≤ xs.length) && decide (xs.length ≤ 3)) c := by
    have e : liftN (lenO lens) [S.d x] c = .ok (.d (.int (xs.length : Nat))) c := lN1 (lenO_seq hd)
    by_cases h1 : 1 ≤ xs.length
    · have a1 : (1 : Int) ≤ (xs.length : Nat) := by omega
      by_cases h3 : xs.length ≤ 3
      · have a2 : ((xs.length : Nat) : Int) ≤ 3 := by omega
        simp [mTB, mChain, mC, mBlt, mCons, mNil, mVar, e, lift2, deref, leD, cmpD, a1, a2, h1, h3]
      · have a2 : ¬ ((xs.length : Nat) : Int) ≤ 3 := by omega
        simp [mTB, mChain, mC, mBlt, mCons, mNil, mVar, e, lift2, deref, leD, cmpD, a1, a2, h1, h3]
    · have a1 : ¬ (1 : Int) ≤ (xs.length : Nat) := by omega
      simp [mTB, mChain, mC, mBlt, mCons, mNil, mVar, e, lift2, deref, leD, cmpD, a1, h1]
  by_cases hp : (decide (1 ≤ xs.length) && decide (xs.length ≤ 3)) = true
  · rw [hp] at h1 ⊢
    refine fn_rt rfl (seq_go (if_no (tor_no (tnot_ok (tb_ok (isi (vr rfl) (lt_seq hd)))) ((tnot_ok h1).trans rfl))) (ret_ok ?_))
    rw [Bool.true_and]
    refine all_bl (f := isLotD s) (compM xs (fun z => z) (fun z => .bl (isLotD s z)) ?_ (small_size (by omega)) fun z hz => ⟨_, rfl, fun c' => blt (a2 (vr rfl) (a1 (vr rfl))) (is_lot_any (ha z hz))⟩)
    rw [List.map_id']
    exact seqI (vr rfl) (items_seq hd)
  · have hp' : (decide (1 ≤ xs.length) && decide (xs.length ≤ 3)) = false := by simpa using hp
    rw [hp'] at h1 ⊢
    exact fn_rt rfl (seq_rt ((if_t (tor_no (tnot_ok (tb_ok (isi (vr rfl) (lt_seq hd)))) ((tnot_ok h1).trans rfl))).trans (ret_ok rfl)))
theorem are_lots_any (h : okC x) : d_are_lots [.d x, .d (.int s)] c = .ok (.d (.bl (areLotsD s x))) c := by
  have no : k_list_tuple.ask x = some false → d_are_lots [.d x, .d (.int s)] c = .ok (.d (.bl false)) c := fun e => fn_rt rfl (seq_rt ((if_t (tor_yes ((tnot_ok (tb_ok (isi (vr rfl) e))).trans rfl))).trans (ret_ok rfl)))
  cases x with
  | lst xs => exact are_lots_seq (.inl rfl) h.1 h.2
  | tup xs => exact are_lots_seq (.inr rfl) h.1 h.2
  | int i => exact no rfl
  | bl b => exact no rfl
  | non => exact no rfl
  | str _ => exact no rfl
  | dct _ _ => exact no rfl
  | scr _ => exact h.elim
  | obj k xs =>
    rcases h with rfl | rfl
    · exact no rfl
    · exact no rfl
/-- lots of iOf -/
theorem areLots_ls {ls : List (List Int)} : areLotsD s (.lst (ls.map lotL)) = true ↔ (1 ≤ ls.length ∧ ls.length ≤ 3 ∧ ∀ l ∈ ls, LotOk s l) := by
  unfold areLotsD
  simp only [Bool.and_eq_true, decide_eq_true_eq, List.length_map, List.all_eq_true, and_assoc]
  refine and_congr_right fun _ => and_congr_right fun _ => ?_
  have key : ∀ l : List Int, isLotD s (lotL l) = true ↔ LotOk s l := fun l => by
    unfold lotL isLotD
    rw [Bool.and_eq_true, ints_map, ascL_iff, List.all_eq_true]
    constructor
    · rintro ⟨h, k⟩
      refine ⟨fun x hx => ?_, k⟩
      have := h (.int x) (List.mem_map.mpr ⟨x, hx, rfl⟩)
      simpa [isPlaceD] using this
    · intro h
      refine ⟨fun z hz => ?_, h.so⟩
      obtain ⟨x, hx, rfl⟩ := List.mem_map.mp hz
      simpa [isPlaceD] using h.pl x hx
  constructor
  · intro h l hl
    exact (key l).mp (h _ (List.mem_map.mpr ⟨l, hl, rfl⟩))
  · intro h z hz
    obtain ⟨l, hl, rfl⟩ := List.mem_map.mp hz
    exact (key l).mpr (h l hl)
end
end Dn

end
section
/-! K18_17: texts as lists of code points; the plain reader. -/
namespace Dn
open PySem
section
variable {c : Cs} {δ : Sl} {l w acc : List Nat}
abbrev tx (l : List Nat) : D := .str (SX.S l)
def wds (acc l : List Nat) : List (List Nat) := TL.spl [32] 0 acc l
theorem wds_nil : wds acc [] = [acc] := TL.spl_nil _ _ _
theorem wds_cons {x : Nat} : wds acc (x :: l) = if x = 32 then acc :: wds [] l else wds (acc ++ [x]) l := by
  by_cases h : x = 32
  · rw [if_pos h]
    exact TL.spl_hit (by simp [TL.pre, h])
  · rw [if_neg h]
    exact TL.spl_miss (by simp [TL.pre, h])
theorem wds_ne : ∀ (l acc : List Nat), wds acc l ≠ []
  | [], acc => by rw [wds_nil]; simp
  | x :: l, acc => by
    rw [wds_cons]
    split
    · simp
    · exact wds_ne l _
theorem joinL_cons (p : List Nat) {q : List (List Nat)} (h : q ≠ []) : TL.joinL [32] (p :: q) = p ++ (32 :: TL.joinL [32] q) := by
  cases q with
  | nil => exact absurd rfl h
  | cons a r => rfl
theorem join_wds : ∀ (l acc : List Nat), TL.joinL [32] (wds acc l) = acc ++ l
  | [], acc => by rw [wds_nil]; simp [TL.joinL]
  | x :: l, acc => by
    rw [wds_cons]
    split
    · rename_i h
      subst h
      rw [joinL_cons _ (wds_ne l []), join_wds l []]
      simp
    · rw [join_wds l]
      simp
theorem wds_free : ∀ (l acc : List Nat), 32 ∉ acc → ∀ w ∈ wds acc l, 32 ∉ w
  | [], acc, h, w, hw => by
    rw [wds_nil] at hw
    rw [List.mem_singleton.mp hw]
    exact h
  | x :: l, acc, h, w, hw => by
    rw [wds_cons] at hw
    split at hw
    · rcases List.mem_cons.mp hw with rfl | z
      · exact h
      · exact wds_free l [] (by simp) w z
    · rename_i hx
      exact wds_free l (acc ++ [x]) (by simp [h]; omega) w hw
theorem wds_len : ∀ (l acc : List Nat), (wds acc l).length ≤ l.length + 1
  | [], acc => by rw [wds_nil]; simp
  | x :: l, acc => by
    rw [wds_cons]
    split
    · have := wds_len l []
      simp; omega
    · have := wds_len l (acc ++ [x])
      simp; omega
theorem wds_sub : ∀ (l acc : List Nat), ∀ w ∈ wds acc l, w.length ≤ acc.length + l.length ∧ ∀ x ∈ w, x ∈ acc ∨ x ∈ l
  | [], acc, w, hw => by
    rw [wds_nil] at hw
    rw [List.mem_singleton.mp hw]
    exact ⟨by simp, fun x hx => .inl hx⟩
  | y :: l, acc, w, hw => by
    rw [wds_cons] at hw
    split at hw
    · rcases List.mem_cons.mp hw with rfl | z
      · exact ⟨by simp, fun x hx => .inl hx⟩
      · obtain ⟨h1, h2⟩ := wds_sub l [] w z
        refine ⟨by simp at h1 ⊢; omega, fun x hx => ?_⟩
        rcases h2 x hx with q | q
        · simp at q
        · exact .inr (List.mem_cons_of_mem _ q)
    · obtain ⟨h1, h2⟩ := wds_sub l (acc ++ [y]) w hw
      refine ⟨by simp at h1 ⊢; omega, fun x hx => ?_⟩
      rcases h2 x hx with q | q
      · rcases List.mem_append.mp q with q | q
        · exact .inl q
        · exact .inr (by rw [List.mem_singleton.mp q]; exact List.mem_cons_self)
      · exact .inr (List.mem_cons_of_mem _ q)
theorem split_sp : Txt.split (SX.S l) (" " : Str) = (wds [] l).map SX.S := by
  have : (" " : Str) = SX.S [32] := by decide +kernel
  rw [this, SX.split_S (by simp) (by decide)]
  rfl
theorem join_sp (ws : List (List Nat)) : Txt.join (" " : Str) (ws.map SX.S) = SX.S (TL.joinL [32] ws) := by
  have : (" " : Str) = SX.S [32] := by decide +kernel
  rw [this, SX.join_S]
theorem joinL_nil : ∀ ws : List (List Nat), TL.joinL [] ws = ws.flatten
  | [] => rfl
  | [p] => by simp [TL.joinL]
  | p :: q :: r => by
    have := joinL_nil (q :: r)
    unfold TL.joinL
    rw [this]
    simp
theorem join_no (ws : List (List Nat)) : Txt.join ("" : Str) (ws.map SX.S) = SX.S ws.flatten := by
  have : ("" : Str) = SX.S [] := by decide +kernel
  rw [this, SX.join_S, joinL_nil]
theorem strs_map (ws : List (List Nat)) : strsOf (ws.map tx) = some (ws.map SX.S) := by
  induction ws with
  | nil => rfl
  | cons x r ih => simp [strsOf, ih]
/-! ### find -/
def fnd (x : Nat) : Int := if 48 ≤ x ∧ x ≤ 57 then (x : Int) - 48 else -1
theorem fig_list : ("0123456789" : Str).cps.toList = [48, 49, 50, 51, 52, 53, 54, 55, 56, 57] := by decide +kernel
theorem find_fig (x : Nat) : Txt.find ("0123456789" : Str) (SX.S [x]) = fnd x := by
  by_cases h : 48 ≤ x ∧ x ≤ 57
  · have : x = 48 ∨ x = 49 ∨ x = 50 ∨ x = 51 ∨ x = 52 ∨ x = 53 ∨ x = 54 ∨ x = 55 ∨ x = 56 ∨ x = 57 := by omega
    rcases this with rfl | rfl | rfl | rfl | rfl | rfl | rfl | rfl | rfl | rfl <;> decide +kernel
  · have e := StrLaws.found_one ("0123456789" : Str) x
    have hn : decide (x ∈ ("0123456789" : Str).cps.toList) = false := by
      rw [fig_list, decide_eq_false_iff_not]
      simp only [List.mem_cons, List.not_mem_nil, or_false]
      omega
    rw [hn] at e
    unfold fnd Txt.find
    rw [if_neg h]
    have e2 : SX.S [x] = ⟨#[x]⟩ := rfl
    rw [e2]
    cases ho : Builtin.Str.occurrences ("0123456789" : Str) ⟨#[x]⟩ 0 ("0123456789" : Str).length 1 with
    | nil => rfl
    | cons a r => rw [ho] at e; simp at e
end
end Dn

end
section
/-! K18_18: read_web. -/
namespace Dn
open PySem
section
variable {c : Cs} {δ : Sl} {l w : List Nat}
/-- a short text of plain signs -/
structure Tx (l : List Nat) : Prop where
  len : l.length ≤ 50
  pl : ∀ x ∈ l, x < 128
theorem Tx.ok (h : Tx l) (n : Nat) : (tx l).ok n = true := by
  unfold D.ok
  show (SX.S l).cps.all (· < 0x110000) = true
  rw [← Array.all_toList]
  show l.all (· < 0x110000) = true
  rw [List.all_eq_true]
  intro x hx
  have := h.pl x hx
  simp; omega
theorem tx_len (w : List Nat) : (SX.S w).length = w.length := SX.S_len w
theorem wds_tx (h : Tx l) : ∀ w ∈ wds [] l, Tx w := fun w hw => by
  obtain ⟨a, b⟩ := wds_sub l [] w hw
  refine ⟨by have := h.len; simp at a; omega, fun x hx => ?_⟩
  rcases b x hx with q | q
  · simp at q
  · exact h.pl x q
theorem spl_tx (h : Tx l) : splOk (SX.S l) (" " : Str) := by
  refine ⟨by decide +kernel, ?_, ?_⟩
  · rw [tx_len]
    exact small_size (by have := h.len; omega)
  · rw [split_sp, List.length_map]
    have := wds_len l []
    have := h.len
    exact small_size (by omega)
theorem spl_ok {A : M} (h : Tx l) (hA : A δ c = .ok (.d (tx l)) c) : m1T splF A (mC (.str " ")) δ c = .ok (.d (.lst ((wds [] l).map tx))) c := by
  unfold m1T
  rw [hA]
  simp only [bind_ok, mC, splF]
  rw [if_pos (spl_tx h), split_sp, List.map_map]
  rfl
theorem splC_ok {A : M} (h : Tx l) (hA : A δ c = .ok (.d (tx l)) c) : m1T splC A (mC (.str " ")) δ c = .ok (.c c.length) (c ++ [.lst ((wds [] l).map tx)]) := by
  unfold m1T
  rw [hA]
  simp only [bind_ok, mC, splC]
  rw [if_pos (spl_tx h), split_sp, List.map_map]
  rfl
theorem find_ok {A : M} {x : Nat} (hA : A δ c = .ok (.d (tx [x])) c) : m1T findF (mC (.str "0123456789")) A δ c = .ok (.d (.int (fnd x))) c := by
  unfold m1T
  simp only [bind_ok, mC]
  rw [hA]
  simp only [bind_ok, findF, find_fig]
theorem join_ok {A : M} {ws : List (List Nat)} (hA : A δ c = .ok (.d (.lst (ws.map tx))) c) (hl : (ws.map List.length).sum + ws.length ≤ 1000) : m1T joinF (mC (.str " ")) A δ c = .ok (.d (tx (TL.joinL [32] ws))) c := by
  unfold m1T
  simp only [bind_ok, mC]
  rw [hA]
  simp only [bind_ok, joinF, deref, strs_map]
  have e1 : (" " : Str).length = 1 := by decide +kernel
  have e2 : ((ws.map SX.S).map (·.length)) = ws.map List.length := by rw [List.map_map]; congr 1
  have : joinOk (" " : Str) (ws.map SX.S) := by unfold joinOk; rw [e1, e2, List.length_map]; omega
  rw [if_pos this, join_sp]
theorem join0_ok {A : M} {ws : List (List Nat)} (hA : A δ c = .ok (.d (.lst (ws.map tx))) c) (hl : (ws.map List.length).sum ≤ 1000) : m1T joinF (mC (.str "")) A δ c = .ok (.d (tx ws.flatten)) c := by
  unfold m1T
  simp only [bind_ok, mC]
  rw [hA]
  simp only [bind_ok, joinF, deref, strs_map]
  have e1 : ("" : Str).length = 0 := by decide +kernel
  have e2 : ((ws.map SX.S).map (·.length)) = ws.map List.length := by rw [List.map_map]; congr 1
  have : joinOk ("" : Str) (ws.map SX.S) := by unfold joinOk; rw [e1, e2, List.length_map]; omega
  rw [if_pos this, join_no]
theorem len_tx (h : Tx w) : lenO lens [tx w] = some (.int w.length) := by
  show (if (SX.S w).length ≤ sizeLine then some (D.int (SX.S w).length) else none) = _
  rw [tx_len, if_pos (small_size (by have := h.len; omega))]
theorem signs_tx : signs (SX.S w) = w.map fun x => tx [x] := rfl
theorem items_tx (h : Tx w) : itemsT (.d (tx w)) c = .ok (w.map fun x => tx [x]) c := by
  show (if (SX.S w).length ≤ sizeLine then _ else _) = _
  rw [tx_len, if_pos (small_size (by have := h.len; omega)), signs_tx]
theorem seqT {A : M} {s : S} {xs : List D} {c' : Cs} (h : A δ c = .ok s c') (e : itemsT s c' = .ok xs c') : iSeqT A δ c = .ok xs c' := by unfold iSeqT; rw [h]; exact e
theorem tx_beq (a b : List Nat) : (SX.S a == SX.S b) = decide (a = b) := SX.S_beq_eq
theorem dash : ("-" : Str) = SX.S [45] := by decide +kernel
theorem empt : ("" : Str) = SX.S [] := by decide +kernel
theorem eqP_tx {neg : Bool} (a b : List Nat) (ha : Tx a) (hb : Tx b) : eqP neg (tx a) (tx b) = some (.bl (if neg then !decide (a = b) else decide (a = b))) := by
  have e : eqD (tx a) (tx b) = decide (a = b) := by unfold eqD; exact tx_beq a b
  unfold eqP
  rw [ha.ok, hb.ok, e]
  rfl
theorem cutD_drop {α : Type} (xs : List α) (j : Nat) (h : xs.length ≤ 10000) : cutD xs (some (j : Int)) none = xs.drop j := by
  unfold cutD
  rw [HT.sIx_none, HT.sIx_nat]
  by_cases q : j ≤ xs.length
  · rw [Nat.min_eq_left q, List.take_of_length_le (by simp)]
  · rw [Nat.min_eq_right (by omega), List.drop_length, List.drop_of_length_le (by omega)]
    simp
theorem tail_ok {A : M} {xs : List D} (hA : A δ c = .ok (.d (.lst xs)) c) (hl : xs.length ≤ 1000) : mSl A (moSome (mC (.int 1))) moNone δ c = .ok (.d (.lst xs.tail)) c := by
  unfold mSl
  rw [hA]
  simp only [bind_ok, moSome, mC, asI, moNone, slS, deref, slD]
  have : cutD xs (some (1 : Int)) none = xs.drop 1 := cutD_drop xs 1 (by omega)
  rw [this]
  simp
/-! ### the plain reader -/
def seatOf (w : List Nat) : Int := if w.length = 1 then fnd (w.getD 0 0) else 0
def lotOf (w : List Nat) : List Int := if w = [45] then [] else w.map fnd
def hd (l : List Nat) : List Nat := (wds [] l).headD []
def rst (l : List Nat) : List (List Nat) := (wds [] l).tail
theorem wds_eq (l : List Nat) : wds [] l = hd l :: rst l := by
  have := wds_ne l []
  unfold hd rst
  cases h : wds [] l with
  | nil => exact absurd h this
  | cons a r => rfl
def lts (l : List Nat) : List (List Int) := (rst l).map lotOf
structure Good (l : List Nat) : Prop where
  ne : [] ∉ wds [] l
  w : WOk (seatOf (hd l)) (lts l)
theorem fnd_lt (x : Nat) : fnd x < 10 := by unfold fnd; split <;> omega
theorem lotOf_len (h : Tx w) : (lotOf w).length ≤ 50 := by
  unfold lotOf
  split
  · simp
  · simpa using h.len
theorem okA_int {xs : List Int} : ∀ z ∈ xs.map D.int, okA z := fun z hz => by
  obtain ⟨i, _, rfl⟩ := List.mem_map.mp hz
  exact trivial
theorem lotOf_ok (h : Tx w) : okB (lotL (lotOf w)) := ⟨by rw [List.length_map]; have := lotOf_len h; omega, okA_int⟩
abbrev wordM : M := mIf (mTB (mBin (lift2 (eqP true)) (mVar 4) (mC (.str "-")))) (mComp (iSeqT (mVar 4)) (gtName 5) mtYes (m1T findF (mC (.str "0123456789")) (mVar 5)) [5]) (mLst mNil)
theorem dash_tx : Tx [45] := ⟨by simp, by simp⟩
theorem empt_tx : Tx [] := ⟨by simp, by simp⟩
theorem word_ok {x0 x1 x2 x3 : Option S} (h : Tx w) {x5 : Option S} : wordM [x0, x1, x2, x3, some (.d (tx w)), x5] c = .ok (.d (lotL (lotOf w))) c := by
  have e : mTB (mBin (lift2 (eqP true)) (mVar 4) (mC (.str "-"))) [x0, x1, x2, x3, some (.d (tx w)), x5] c = .ok (!decide (w = [45])) c := by
    refine tb_ok (bin (vr rfl) rfl (l2 ?_))
    rw [dash]
    exact eqP_tx w [45] h dash_tx
  by_cases hw : w = [45]
  · rw [lotOf, if_pos hw]
    exact mif_f (c' := c) (e.trans (by simp [hw])) rfl
  · rw [lotOf, if_neg hw]
    refine mif_t (c' := c) (e.trans (by simp [hw])) ((compM w (fun x => tx [x]) (fun x => .int (fnd x)) (seqT (vr rfl) (items_tx h)) (small_size (by have := h.len; omega)) fun x _ => ⟨_, rfl, fun c' => find_ok (vr rfl)⟩).trans ?_)
    rw [lotL, List.map_map]
    rfl
theorem in_wds {ws : List (List Nat)} (h : ∀ w ∈ ws, Tx w) : inX false (.str "") (.lst (ws.map tx)) = some (.bl (decide ([] ∈ ws))) := by
  show inP false (.str "") (.lst (ws.map tx)) = _
  rw [empt]
  have o1 : (tx []).ok 60 = true := empt_tx.ok 60
  have o2 : oks 59 (ws.map tx) = true := by
    rw [oks_all, List.all_eq_true]
    intro z hz
    obtain ⟨w, hw, rfl⟩ := List.mem_map.mp hz
    exact (h w hw).ok 59
  show (if ((tx []).ok 60 && oks 59 (ws.map tx)) = true then _ else _) = _
  rw [o1, o2]
  simp only [Bool.and_self, if_true]
  have : ((ws.map tx).any fun z => eqD z (tx [])) = decide ([] ∈ ws) := by
    rw [Bool.eq_iff_iff, List.any_eq_true, decide_eq_true_eq]
    constructor
    · rintro ⟨y, hy, e⟩
      obtain ⟨z, hz, rfl⟩ := List.mem_map.mp hy
      have e2 : eqD (tx z) (tx []) = decide (z = []) := by unfold eqD; exact tx_beq z []
      rw [e2, decide_eq_true_eq] at e
      exact e ▸ hz
    · intro hx
      exact ⟨tx [], List.mem_map.mpr ⟨[], hx, rfl⟩, by unfold eqD; rw [tx_beq]; simp⟩
  rw [this]
  simp
abbrev seatM : M := mIf (mTB (mBin (lift2 (eqP false)) (mBlt (liftN (lenO lens)) (mCons (mBin (lift2 ixD) (mVar 1) (mC (.int 0))) mNil)) (mC (.int 1)))) (m1T findF (mC (.str "0123456789")) (mBin (lift2 ixD) (mVar 1) (mC (.int 0)))) (mC (.int 0))
theorem seat_ok (h : Tx l) {x0 x2 x3 x4 x5 : Option S} : seatM [x0, some (.d (.lst ((wds [] l).map tx))), x2, x3, x4, x5] c = .ok (.d (.int (seatOf (hd l)))) c := by
  have hh : Tx (hd l) := wds_tx h _ (by rw [wds_eq l]; exact List.mem_cons_self)
  have ix : ixD (.lst ((wds [] l).map tx)) (.int 0) = some (tx (hd l)) := by
    rw [wds_eq l]
    exact atI_nat (xs := (hd l :: rst l).map tx) (n := 0) (by simp)
  have e : mTB (mBin (lift2 (eqP false)) (mBlt (liftN (lenO lens)) (mCons (mBin (lift2 ixD) (mVar 1) (mC (.int 0))) mNil)) (mC (.int 1))) [x0, some (.d (.lst ((wds [] l).map tx))), x2, x3, x4, x5] c = .ok (decide ((hd l).length = 1)) c := by
    refine tb_ok (bin (blt (a1 (bin (vr rfl) rfl (l2 ix))) (lN1 (len_tx hh))) rfl (l2 ((eqP_int _ _).trans ?_)))
    simp
    omega
  by_cases h1 : (hd l).length = 1
  · obtain ⟨x, hx⟩ := List.length_eq_one_iff.mp h1
    rw [seatOf, if_pos h1]
    refine mif_t (c' := c) (e.trans (by simp [h1])) ((find_ok (bin (vr rfl) rfl (l2 (d := tx [x]) (by rw [ix, hx])))).trans ?_)
    rw [hx]
    rfl
  · rw [seatOf, if_neg h1]
    exact mif_f (c' := c) (e.trans (by simp [h1])) rfl
abbrev lotsM : M := mComp (iSeqT (mSl (mVar 1) (moSome (mC (.int 1))) moNone)) (gtName 4) mtYes wordM [4]
theorem lots_tx (h : Tx l) {x0 x2 x3 x4 x5 : Option S} : lotsM [x0, some (.d (.lst ((wds [] l).map tx))), x2, x3, x4, x5] c = .ok (.d (.lst ((lts l).map lotL))) c := by
  have hlen := wds_len l []
  have hl := h.len
  have hr : (rst l).length ≤ 100 := by have := wds_eq l; rw [this] at hlen; simp at hlen; omega
  refine (compM (rst l) tx (fun w => lotL (lotOf w)) (seqT (tail_ok (vr rfl) (by rw [List.length_map]; omega)) ?_) (small_size (by omega)) fun w hw => ⟨_, rfl, fun c' => word_ok (wds_tx h w (by rw [wds_eq l]; exact List.mem_cons_of_mem _ hw))⟩).trans ?_
  · show items (S.d (D.lst (List.map tx (wds [] l)).tail)) c = _
    rw [wds_eq l]
    rfl
  · rw [lts, List.map_map]
    rfl
theorem lts_okC (h : Tx l) : okC (.lst ((lts l).map lotL)) := by
  have hlen := wds_len l []
  have hl := h.len
  refine ⟨?_, fun z hz => ?_⟩
  · have := wds_eq l; rw [this] at hlen; simp [lts] at hlen ⊢; omega
  · obtain ⟨m, hm, rfl⟩ := List.mem_map.mp hz
    obtain ⟨w, hw, rfl⟩ := List.mem_map.mp hm
    exact lotOf_ok (wds_tx h w (by rw [wds_eq l]; exact List.mem_cons_of_mem _ hw))
theorem raise1_ok {A : M} {k : Nat} {c' : Cs} {x : D} (h : A δ c = .ok (.d x) c') : sRaise1 k A δ c = .ex k [x] δ c' := by unfold sRaise1; rw [h]; rfl
abbrev refuM : MT := mtOr (mTB (mBin (lift2 (inX false)) (mC (.str "")) (mVar 1))) (mtOr (mtNot (mTB (mBlt d_is_many (mCons (mVar 2) mNil)))) (mtNot (mTB (mBlt d_are_lots (mCons (mVar 3) (mCons (mVar 2) mNil))))))
theorem read_yes (h : Tx l) (g : Good l) : d_read_web [.d (tx l)] c = .ok (.d (wb (seatOf (hd l)) (lts l))) c := by
  refine fn_rt rfl (seq_go (if_no ((tnot_ok (tb_ok (isi (vr rfl) rfl))).trans rfl)) (seq_go (set_ok (spl_ok h (vr rfl))) (seq_go (set_ok (seat_ok h)) (seq_go (set_ok (lots_tx h)) (seq_go (if_no (tor_no (c' := c) ?_ (tor_no (c' := c) ?_ ?_))) (ret_ok (make_web g.w (a2 (vr rfl) (a1 (vr rfl))))))))))
  · exact tb_ok (bin rfl (vr rfl) (l2 ((in_wds (wds_tx h)).trans (by simp [g.ne]))))
  · refine (tnot_ok (tb_ok (blt (a1 (vr rfl)) (is_many_int _ _)))).trans ?_
    simp [g.w.lo, g.w.hi]
  · exact (tnot_ok (tb_ok (blt (a2 (vr rfl) (a1 (vr rfl))) (are_lots_ok g.w _)))).trans rfl
theorem read_no (h : Tx l) (g : ¬ Good l) : d_read_web [.d (tx l)] c = .ex 39 [tx l] c := by
  refine fn_ex rfl (seq_go (if_no ((tnot_ok (tb_ok (isi (vr rfl) rfl))).trans rfl)) (seq_go (set_ok (spl_ok h (vr rfl))) (seq_go (set_ok (seat_ok h)) (seq_go (set_ok (lots_tx h)) (seq_ex ((if_t (c' := c) ?_).trans (raise1_ok (vr rfl))))))))
  have e1 : mTB (mBin (lift2 (inX false)) (mC (.str "")) (mVar 1)) [some (.d (tx l)), some (.d (.lst ((wds [] l).map tx))), some (.d (.int (seatOf (hd l)))), some (.d (.lst ((lts l).map lotL))), none, none] c = .ok (decide ([] ∈ wds [] l)) c := tb_ok (bin rfl (vr rfl) (l2 (in_wds (wds_tx h))))
  by_cases n1 : [] ∈ wds [] l
  · exact tor_yes (c' := c) (e1.trans (by simp [n1]))
  · refine tor_no (c' := c) (e1.trans (by simp [n1])) ?_
    have e2 : mtNot (mTB (mBlt d_is_many (mCons (mVar 2) mNil))) [some (.d (tx l)), some (.d (.lst ((wds [] l).map tx))), some (.d (.int (seatOf (hd l)))), some (.d (.lst ((lts l).map lotL))), none, none] c = .ok (!(decide (0 < seatOf (hd l)) && decide (seatOf (hd l) < 4))) c := tnot_ok (tb_ok (blt (a1 (vr rfl)) (is_many_int _ _)))
    by_cases n2 : 0 < seatOf (hd l) ∧ seatOf (hd l) < 4
    · refine tor_no (c' := c) (e2.trans (by simp [n2.1, n2.2])) ((tnot_ok (tb_ok (blt (a2 (vr rfl) (a1 (vr rfl))) (are_lots_any (lts_okC h))))).trans ?_)
      have : areLotsD (seatOf (hd l)) (.lst ((lts l).map lotL)) = false := by
        rw [Bool.eq_false_iff]
        intro q
        obtain ⟨a, b, d⟩ := areLots_ls.mp q
        exact g ⟨n1, n2.1, n2.2, a, b, d⟩
      rw [this]
      rfl
    · refine tor_yes (c' := c) (e2.trans ?_)
      congr 1
      by_cases a : 0 < seatOf (hd l)
      · have : ¬ seatOf (hd l) < 4 := fun z => n2 ⟨a, z⟩
        simp [a, this]
      · simp [a]
end
end Dn

end
section
/-! K18_19: the law's own reader. -/
namespace Dn
open PySem
section
variable {c : Cs} {δ : Sl} {l w : List Nat} {s : Nat}
theorem eqD_tx (a b : List Nat) : eqD (tx a) (tx b) = decide (a = b) := by unfold eqD; exact tx_beq a b
theorem eqY_tx {neg : Bool} {a b : List Nat} (ha : Tx a) (hb : Tx b) : eqY eqs 4 neg (.d (tx a)) (.d (tx b)) c = .ok (.d (.bl (if neg then !decide (a = b) else decide (a = b)))) c := by
  rw [eqY_plain (ha.ok 60) (hb.ok 60), eqD_tx]
theorem eqV2_tx {a b : List Nat} (ha : Tx a) (hb : Tx b) : eqV2 eqs 4 (.d (tx a)) (.d (tx b)) c = .ok (.d (.bl (decide (a = b)))) c := by
  rw [eqV2_plain (ha.ok 60) (hb.ok 60), eqD_tx]
theorem ok_lotL (a : List Int) : (lotL a).ok 60 = true := by
  unfold lotL D.ok
  rw [oks_int]
  rfl
theorem eqY_lotL {neg : Bool} {a b : List Int} : eqY eqs 4 neg (.d (lotL a)) (.d (lotL b)) c = .ok (.d (.bl (if neg then !decide (a = b) else decide (a = b)))) c := by
  rw [eqY_plain (ok_lotL a) (ok_lotL b)]
  have : eqD (lotL a) (lotL b) = decide (a = b) := by unfold lotL eqD; exact eqDs_int a b
  rw [this]
theorem one_txt : ("1" : Str) = SX.S [49] := by decide +kernel
theorem two_txt : ("2" : Str) = SX.S [50] := by decide +kernel
theorem thr_txt : ("3" : Str) = SX.S [51] := by decide +kernel
theorem in3 (h : Tx w) : inX true (tx w) (.lst [.str "1", .str "2", .str "3"]) = some (.bl (!(decide (w = [49]) || (decide (w = [50]) || decide (w = [51]))))) := by
  show inP true (tx w) (.lst [.str "1", .str "2", .str "3"]) = _
  rw [one_txt, two_txt, thr_txt]
  have t1 : Tx [49] := ⟨by simp, by simp⟩
  have t2 : Tx [50] := ⟨by simp, by simp⟩
  have t3 : Tx [51] := ⟨by simp, by simp⟩
  show (if ((tx w).ok 60 && oks 59 [tx [49], tx [50], tx [51]]) = true then _ else _) = _
  rw [h.ok 60]
  simp only [oks, t1.ok 59, t2.ok 59, t3.ok 59, Bool.and_self, if_true, List.any_cons, List.any_nil, eqD_tx, Bool.or_false]
  congr 4
  · simp [eq_comm]
  · congr 1 <;> simp [eq_comm]
/-! ### int of a figure -/
theorem int_fig {x : Nat} (h : 48 ≤ x ∧ x ≤ 51) : intT [tx [x]] = some (.int (fnd x)) := by
  have key : PySem.intText? (SX.S [x]) = some (fnd x) ∧ (SX.S [x]).length ≤ 640 := by
    have : x = 48 ∨ x = 49 ∨ x = 50 ∨ x = 51 := by omega
    rcases this with rfl | rfl | rfl | rfl <;> decide +kernel
  show (match PySem.intText? (SX.S [x]) with
    | some n => if (SX.S [x]).length ≤ 640 then some (D.int n) else none
    | none => none) = _
  rw [key.1]
  exact if_pos key.2
/-! ### "012"[:s] -/
def up (s : Nat) : Str := L2.cutS ("012" : Str) none (some (s : Int))
theorem up_mem (h1 : 1 ≤ s) (h3 : s ≤ 3) (x : Nat) : x ∈ (up s).cps.toList ↔ 48 ≤ x ∧ x < 48 + s := by
  have : s = 1 ∨ s = 2 ∨ s = 3 := by omega
  have e1 : (up 1).cps.toList = [48] := by decide +kernel
  have e2 : (up 2).cps.toList = [48, 49] := by decide +kernel
  have e3 : (up 3).cps.toList = [48, 49, 50] := by decide +kernel
  rcases this with rfl | rfl | rfl
  · rw [e1]; simp; omega
  · rw [e2]; simp; omega
  · rw [e3]; simp; omega
theorem up_ok {i : Nat} (hv : mVar i δ c = .ok (.d (.int s)) c) : mSl (mC (.str "012")) moNone (moSome (mVar i)) δ c = .ok (.d (.str (up s))) c := by
  unfold mSl
  simp only [mC, bind_ok, moNone, moSome]
  rw [hv]
  simp only [bind_ok, asI, slS, deref, slD]
  have : ("012" : Str).length ≤ sizeLine := by decide +kernel
  rw [if_pos this]
  rfl
/-! ### one word -/
abbrev rd7 (s k : Nat) (x0 x1 x4 x5 x6 : Option S) : Sl := [x0, x1, some (.d (.int s)), some (.c k), x4, x5, x6]
abbrev bad1M : MT := mtAnd (mTB (mBin (eqY eqs 4 true) (mVar 4) (mC (.str "-")))) (mtOr (mTB (mBin (eqV2 eqs 4) (mVar 4) (mC (.str "")))) (mTB (mBin (eqY eqs 4 true) (mComp (iSeqT (mVar 4)) (gtName 6) (mTB (mBin (lift2 (inX true)) (mVar 6) (mSl (mC (.str "012")) moNone (moSome (mVar 2))))) (mVar 6) [6]) (mLst mNil))))
abbrev rdlM : M := mIf (mTB (mBin (eqV2 eqs 4) (mVar 4) (mC (.str "-")))) (mLst mNil) (mComp (iSeqT (mVar 4)) (gtName 6) mtYes (mBlt (liftN intT) (mCons (mVar 6) mNil)) [6])
abbrev rdB : MS := sSeq (sIf bad1M (sRet (mC .non)) sNil) (sSeq (sSet 5 rdlM) (sSeq (sIf (mTB (mBin (eqY eqs 4 true) (mVar 5) (mSortSet (mVar 5)))) (sRet (mC .non)) sNil) (sExpr (mAppend (mVar 3) (mCons (mVar 5) mNil)))))
def okW (s : Nat) (w : List Nat) : Bool := decide (w = [45]) || (!decide (w = []) && w.all fun x => decide (48 ≤ x ∧ x < 48 + s))
theorem eqY_nil_txs {ws : List (List Nat)} (h : ∀ w ∈ ws, Tx w) : eqY eqs 4 true (.d (.lst (ws.map tx))) (.d (.lst [])) c = .ok (.d (.bl (!decide (ws = [])))) c := by
  have o : (D.lst (ws.map tx)).ok 60 = true := by
    unfold D.ok
    rw [oks_all]
    simp only [Bool.and_eq_true, decide_eq_true_eq, List.all_eq_true]
    refine ⟨by omega, fun z hz => ?_⟩
    obtain ⟨w, hw, rfl⟩ := List.mem_map.mp hz
    exact (h w hw).ok _
  rw [eqY_plain o rfl]
  cases ws with
  | nil => rfl
  | cons a r => rfl
theorem sign_tx {x : Nat} (h : x < 128) : Tx [x] := ⟨by simp, by simpa using h⟩
theorem bad1_ok (h1 : 1 ≤ s) (h3 : s ≤ 3) (h : Tx w) {k : Nat} {x0 x1 x5 x6 : Option S} : bad1M (rd7 s k x0 x1 (some (.d (tx w))) x5 x6) c = .ok (!okW s w) c := by
  have e1 : mTB (mBin (eqY eqs 4 true) (mVar 4) (mC (.str "-"))) (rd7 s k x0 x1 (some (.d (tx w))) x5 x6) c = .ok (!decide (w = [45])) c := by
    rw [dash]
    exact tb_ok (bin (vr rfl) rfl (eqY_tx h dash_tx))
  have e2 : mTB (mBin (eqV2 eqs 4) (mVar 4) (mC (.str ""))) (rd7 s k x0 x1 (some (.d (tx w))) x5 x6) c = .ok (decide (w = [])) c := by
    rw [empt]
    exact tb_ok (bin (vr rfl) rfl (eqV2_tx h empt_tx))
  unfold okW
  by_cases a : w = [45]
  · have : decide (w = [45]) = true := by simp [a]
    rw [this]
    exact tand_no (e1.trans (by rw [this]; rfl))
  · have ha : decide (w = [45]) = false := by simp [a]
    rw [ha, Bool.false_or]
    refine tand_yes (c' := c) (e1.trans (by rw [ha]; rfl)) ?_
    by_cases b : w = []
    · have hb : decide (w = []) = true := by simp [b]
      rw [hb]
      exact tor_yes (e2.trans (by rw [hb]))
    · have hb : decide (w = []) = false := by simp [b]
      rw [hb]
      refine tor_no (c' := c) (e2.trans (by rw [hb])) (tb_ok (bin (x := .d (.lst ((w.filter fun x => !decide (48 ≤ x ∧ x < 48 + s)).map fun x => tx [x]))) (c' := c) ?_ rfl ?_))
      · refine compF w (fun x => tx [x]) (fun x => !decide (48 ≤ x ∧ x < 48 + s)) (fun x => tx [x]) (seqT (vr rfl) (items_tx h)) (small_size (by have := h.len; omega)) fun x _ => ⟨_, rfl, fun c' => ⟨tb_ok (bin (vr rfl) (up_ok (vr rfl)) (l2 ?_)), fun _ => vr rfl⟩⟩
        show some (D.bl (if true = true then !decide (x ∈ (up s).cps.toList) else _)) = _
        simp [up_mem h1 h3]
      · have := eqY_nil_txs (c := c) (ws := (w.filter fun x => !decide (48 ≤ x ∧ x < 48 + s)).map fun x => [x]) fun z hz => by
          obtain ⟨x, hx, rfl⟩ := List.mem_map.mp hz
          exact sign_tx (h.pl x (List.mem_filter.mp hx).1)
        rw [List.map_map] at this
        refine this.trans ?_
        congr 3
        rw [Bool.eq_iff_iff]
        simp only [Bool.not_eq_true', decide_eq_false_iff_not, List.map_eq_nil_iff, List.filter_eq_nil_iff, Bool.and_eq_false_iff, Bool.not_false, Bool.true_and]
        simp [List.all_eq_false]
theorem okW_lot (h1 : 1 ≤ s) (h3 : s ≤ 3) (h : okW s w = true) : ∀ x ∈ lotOf w, 0 ≤ x ∧ x < (s : Int) := by
  intro x hx
  unfold lotOf at hx
  split at hx
  · simp at hx
  · rename_i hw
    obtain ⟨y, hy, rfl⟩ := List.mem_map.mp hx
    unfold okW at h
    simp only [hw, decide_false, Bool.false_or, Bool.and_eq_true, List.all_eq_true, decide_eq_true_eq] at h
    have := h.2 y hy
    unfold fnd
    rw [if_pos (by omega)]
    omega
theorem lot_iff (h1 : 1 ≤ s) (h3 : s ≤ 3) (hw : w ≠ []) : LotOk s (lotOf w) ↔ okW s w = true ∧ (lotOf w).Pairwise (· < ·) := by
  constructor
  · intro k
    refine ⟨?_, k.so⟩
    unfold okW
    by_cases a : w = [45]
    · simp [a]
    · have hl : lotOf w = w.map fnd := by rw [lotOf, if_neg a]
      simp only [a, hw, decide_false, Bool.false_or, Bool.not_false, Bool.true_and, List.all_eq_true, decide_eq_true_eq]
      intro x hx
      have := k.pl (fnd x) (by rw [hl]; exact List.mem_map.mpr ⟨x, hx, rfl⟩)
      unfold fnd at this
      split at this
      · omega
      · omega
  · rintro ⟨a, b⟩
    exact ⟨okW_lot h1 h3 a, b⟩
theorem rdl_ok (h1 : 1 ≤ s) (h3 : s ≤ 3) (h : Tx w) (hw : okW s w = true) {k : Nat} {x0 x1 x5 x6 : Option S} : rdlM (rd7 s k x0 x1 (some (.d (tx w))) x5 x6) c = .ok (.d (lotL (lotOf w))) c := by
  have e1 : mTB (mBin (eqV2 eqs 4) (mVar 4) (mC (.str "-"))) (rd7 s k x0 x1 (some (.d (tx w))) x5 x6) c = .ok (decide (w = [45])) c := by
    rw [dash]
    exact tb_ok (bin (vr rfl) rfl (eqV2_tx h dash_tx))
  by_cases a : w = [45]
  · rw [lotOf, if_pos a]
    exact mif_t (c' := c) (e1.trans (by simp [a])) rfl
  · rw [lotOf, if_neg a]
    refine mif_f (c' := c) (e1.trans (by simp [a])) ((compM w (fun x => tx [x]) (fun x => .int (fnd x)) (seqT (vr rfl) (items_tx h)) (small_size (by have := h.len; omega)) fun x hx => ⟨_, rfl, fun c' => blt (a1 (vr rfl)) (lN1 (int_fig ?_))⟩).trans ?_)
    · unfold okW at hw
      simp only [a, decide_false, Bool.false_or, Bool.and_eq_true, List.all_eq_true, decide_eq_true_eq] at hw
      have := hw.2 x hx
      omega
    · rw [lotL, List.map_map]
      rfl
theorem asc_iff (a : List Int) : a = sortU a ↔ a.Pairwise (· < ·) := by
  constructor
  · intro h
    rw [h]
    exact lt_sortU a
  · intro h
    exact lt_unique h (lt_sortU a) fun x => (mem_sortU).symm
theorem step_yes (h1 : 1 ≤ s) (h3 : s ≤ 3) (h : Tx w) (hw : w ≠ []) (hl : LotOk s (lotOf w)) {acc : List D} (ha : acc.length < 900) {x0 x1 x5 x6 : Option S} :
    rdB (rd7 s c.length x0 x1 (some (.d (tx w))) x5 x6) (c ++ [.lst acc]) = .nx (rd7 s c.length x0 x1 (some (.d (tx w))) (some (.d (lotL (lotOf w)))) x6) (c ++ [.lst (acc ++ [lotL (lotOf w)])]) := by
  obtain ⟨k1, k2⟩ := (lot_iff h1 h3 hw).mp hl
  have e3 := (asc_iff (lotOf w)).mpr k2
  have hsz : acc.length + 1 ≤ sizeLine := small_size (by omega)
  refine seq_go (if_no ((bad1_ok h1 h3 h).trans (by rw [k1]; rfl))) (seq_go (set_ok (rdl_ok h1 h3 h k1)) (seq_go (if_no (tb_ok (bin (vr rfl) (sortSet_ok (vr rfl) (lotOf_len h)) (eqY_lotL.trans ?_)))) (expr_ok (app_ok (vr rfl) (a1 (vr rfl)) (by omega)))))
  simp [← e3]
theorem step_no (h1 : 1 ≤ s) (h3 : s ≤ 3) (h : Tx w) (hn : ¬ (w ≠ [] ∧ LotOk s (lotOf w))) {x0 x1 x5 x6 : Option S} {k : Nat} : rdB (rd7 s k x0 x1 (some (.d (tx w))) x5 x6) c = .rt (.d .non) c := by
  by_cases k1 : okW s w = true
  · have hw : w ≠ [] := fun z => by subst z; simp [okW] at k1
    have hp : ¬ (lotOf w).Pairwise (· < ·) := fun z => hn ⟨hw, (lot_iff h1 h3 hw).mpr ⟨k1, z⟩⟩
    have e3 : ¬ lotOf w = sortU (lotOf w) := fun z => hp ((asc_iff _).mp z)
    refine seq_go (if_no ((bad1_ok h1 h3 h).trans (by rw [k1]; rfl))) (seq_go (set_ok (rdl_ok h1 h3 h k1)) (seq_rt ((if_t (c' := c) (tb_ok (bin (vr rfl) (sortSet_ok (vr rfl) (lotOf_len h)) (eqY_lotL.trans ?_)))).trans (ret_ok rfl))))
    simp [e3]
  · have k1 : okW s w = false := by simpa using k1
    exact seq_rt ((if_t (c' := c) ((bad1_ok h1 h3 h).trans (by rw [k1]; rfl))).trans (ret_ok rfl))
end
end Dn

end
section
/-! K18_20: the law's own reader, whole. -/
namespace Dn
open PySem
section
variable {c : Cs} {δ : Sl} {l w : List Nat} {s : Nat}
theorem rd_yes (h1 : 1 ≤ s) (h3 : s ≤ 3) {x0 x1 : Option S} : ∀ (ws : List (List Nat)) (acc : List D) (x4 x5 x6 : Option S), (∀ w ∈ ws, Tx w ∧ w ≠ [] ∧ LotOk s (lotOf w)) → acc.length + ws.length < 900 →
    ∃ y4 y5, loop (gtName 4) rdB (ws.map tx) (rd7 s c.length x0 x1 x4 x5 x6) (c ++ [.lst acc]) = .nx (rd7 s c.length x0 x1 y4 y5 x6) (c ++ [.lst (acc ++ (ws.map lotOf).map lotL)])
  | [], acc, x4, x5, x6, _, _ => ⟨x4, x5, by simp [loop]⟩
  | w :: ws, acc, x4, x5, x6, h, hl => by
    obtain ⟨a, b, d⟩ := h w List.mem_cons_self
    simp only [List.length_cons] at hl
    have st := step_yes (c := c) (x0 := x0) (x1 := x1) (x5 := x5) (x6 := x6) h1 h3 a b d (acc := acc) (by omega)
    obtain ⟨y4, y5, e⟩ := rd_yes h1 h3 (x0 := x0) (x1 := x1) ws (acc ++ [lotL (lotOf w)]) (some (.d (tx w))) (some (.d (lotL (lotOf w)))) x6 (fun z hz => h z (List.mem_cons_of_mem _ hz)) (by simp; omega)
    refine ⟨y4, y5, ?_⟩
    rw [List.map_cons]
    unfold loop
    show (match rdB (rd7 s c.length x0 x1 (some (.d (tx w))) x5 x6) (c ++ [.lst acc]) with
      | .nx δ c => loop (gtName 4) rdB (ws.map tx) δ c
      | .ct δ c => loop (gtName 4) rdB (ws.map tx) δ c
      | .bk δ c => .nx δ c
      | r => r) = _
    rw [st]
    refine e.trans ?_
    simp
theorem rd_no (h1 : 1 ≤ s) (h3 : s ≤ 3) {x0 x1 : Option S} : ∀ (ws : List (List Nat)) (acc : List D) (x4 x5 x6 : Option S), (∀ w ∈ ws, Tx w) → (∃ w ∈ ws, ¬ (w ≠ [] ∧ LotOk s (lotOf w))) → acc.length + ws.length < 900 →
    ∃ e, loop (gtName 4) rdB (ws.map tx) (rd7 s c.length x0 x1 x4 x5 x6) (c ++ [.lst acc]) = .rt (.d .non) (c ++ [e])
  | [], acc, x4, x5, x6, _, h, _ => by obtain ⟨w, hw, _⟩ := h; simp at hw
  | w :: ws, acc, x4, x5, x6, ht, h, hl => by
    simp only [List.length_cons] at hl
    have tw := ht w List.mem_cons_self
    rw [List.map_cons]
    unfold loop
    show ∃ e, (match rdB (rd7 s c.length x0 x1 (some (.d (tx w))) x5 x6) (c ++ [.lst acc]) with
      | .nx δ c => loop (gtName 4) rdB (ws.map tx) δ c
      | .ct δ c => loop (gtName 4) rdB (ws.map tx) δ c
      | .bk δ c => .nx δ c
      | r => r) = .rt (.d .non) (c ++ [e])
    by_cases hw : w ≠ [] ∧ LotOk s (lotOf w)
    · rw [step_yes (c := c) (x0 := x0) (x1 := x1) (x5 := x5) (x6 := x6) h1 h3 tw hw.1 hw.2 (acc := acc) (by omega)]
      refine rd_no h1 h3 ws (acc ++ [lotL (lotOf w)]) (some (.d (tx w))) (some (.d (lotL (lotOf w)))) x6 (fun z hz => ht z (List.mem_cons_of_mem _ hz)) ?_ (by simp; omega)
      obtain ⟨z, hz, k⟩ := h
      rcases List.mem_cons.mp hz with rfl | q
      · exact absurd hw k
      · exact ⟨z, q, k⟩
    · exact ⟨.lst acc, by rw [step_no h1 h3 tw hw]⟩
theorem seat_iff : (0 < seatOf w ∧ seatOf w < 4) ↔ (w = [49] ∨ w = [50] ∨ w = [51]) := by
  constructor
  · rintro ⟨a, b⟩
    unfold seatOf at a b
    split at a
    · rename_i h1
      obtain ⟨x, rfl⟩ := List.length_eq_one_iff.mp h1
      rw [if_pos h1] at b
      have a : 0 < fnd x := a
      have b : fnd x < 4 := b
      unfold fnd at a b
      split at a
      · rename_i hx
        rw [if_pos hx] at b
        have : x = 49 ∨ x = 50 ∨ x = 51 := by omega
        rcases this with rfl | rfl | rfl <;> simp
      · omega
    · omega
  · rintro (rfl | rfl | rfl) <;> decide
abbrev tst1 : MT := mtOr (mTB (mBin (lift2 (inX true)) (mBin (lift2 ixD) (mVar 1) (mC (.int 0))) (mLst (mCons (mC (.str "1")) (mCons (mC (.str "2")) (mCons (mC (.str "3")) mNil)))))) (mtNot (mTB (mChain (lift2 leD) (lift2 leD) (mC (.int 2)) (mBlt (liftN (lenO lens)) (mCons (mVar 1) mNil)) (mC (.int 4)))))
abbrev l7 (l : List Nat) : Sl := [some (.d (tx l)), some (.d (.lst ((wds [] l).map tx))), none, none, none, none, none]
theorem ix0 (l : List Nat) : ixD (.lst ((wds [] l).map tx)) (.int 0) = some (tx (hd l)) := by
  rw [wds_eq l]
  exact atI_nat (xs := (hd l :: rst l).map tx) (n := 0) (by simp)
theorem hd_tx (h : Tx l) : Tx (hd l) := wds_tx h _ (by rw [wds_eq l]; exact List.mem_cons_self)
theorem rst_tx (h : Tx l) : ∀ w ∈ rst l, Tx w := fun w hw => wds_tx h w (by rw [wds_eq l]; exact List.mem_cons_of_mem _ hw)
theorem rst_len (l : List Nat) : (wds [] l).length = (rst l).length + 1 := by rw [wds_eq l]; simp
theorem tst1_ok (h : Tx l) : tst1 (l7 l) c = .ok (!(decide (hd l = [49] ∨ hd l = [50] ∨ hd l = [51]) && (decide (1 ≤ (rst l).length) && decide ((rst l).length ≤ 3)))) c := by
  have e1 : mTB (mBin (lift2 (inX true)) (mBin (lift2 ixD) (mVar 1) (mC (.int 0))) (mLst (mCons (mC (.str "1")) (mCons (mC (.str "2")) (mCons (mC (.str "3")) mNil))))) (l7 l) c = .ok (!decide (hd l = [49] ∨ hd l = [50] ∨ hd l = [51])) c := by
    refine tb_ok (bin (bin (vr rfl) rfl (l2 (ix0 l))) (y := .d (.lst [.str "1", .str "2", .str "3"])) (c'' := c) rfl (l2 ((in3 (hd_tx h)).trans ?_)))
    simp
  have e2 : mtNot (mTB (mChain (lift2 leD) (lift2 leD) (mC (.int 2)) (mBlt (liftN (lenO lens)) (mCons (mVar 1) mNil)) (mC (.int 4)))) (l7 l) c = .ok (!(decide (1 ≤ (rst l).length) && decide ((rst l).length ≤ 3))) c := by
    refine tnot_ok ?_
    have e : liftN (lenO lens) [S.d (.lst ((wds [] l).map tx))] c = .ok (.d (.int (((rst l).length + 1 : Nat) : Int))) c := lN1 ((lenO_seq (.inl rfl)).trans (by rw [List.length_map, rst_len]))
    by_cases h1 : 1 ≤ (rst l).length
    · have a1 : (2 : Int) ≤ (((rst l).length + 1 : Nat) : Int) := by omega
      by_cases h3 : (rst l).length ≤ 3
      · have a2 : (((rst l).length + 1 : Nat) : Int) ≤ 4 := by omega
        simp only [mTB, mChain, mC, mBlt, mCons, mNil, mVar, l7, List.getElem?_cons_succ, List.getElem?_cons_zero, bind_ok, e, lift2, deref, leD, cmpD, a1, a2, h1, h3, decide_true, asB_bl, if_true, Bool.and_self]
      · have a2 : ¬ (((rst l).length + 1 : Nat) : Int) ≤ 4 := by omega
        simp only [mTB, mChain, mC, mBlt, mCons, mNil, mVar, l7, List.getElem?_cons_succ, List.getElem?_cons_zero, bind_ok, e, lift2, deref, leD, cmpD, a1, a2, h1, h3, decide_true, decide_false, asB_bl, if_true, Bool.and_false]
    · have a1 : ¬ (2 : Int) ≤ (((rst l).length + 1 : Nat) : Int) := by omega
      simp only [mTB, mChain, mC, mBlt, mCons, mNil, mVar, l7, List.getElem?_cons_succ, List.getElem?_cons_zero, bind_ok, e, lift2, deref, leD, cmpD, a1, h1, decide_false, asB_bl, Bool.false_eq_true, if_false, Bool.false_and]
  by_cases q : hd l = [49] ∨ hd l = [50] ∨ hd l = [51]
  · refine (tor_no (c' := c) (e1.trans (by simp [q])) e2).trans ?_
    simp [q]
  · refine (tor_yes (c' := c) (e1.trans (by simp [q]))).trans ?_
    simp [q]
theorem fnE_eq {ext : Nat → RS → R S} {np m : Nat} {b : MS} {ss : List S} (h : ss.length = np) : fnE ext np m b ss c = ext c.length (b (ss.map some ++ List.replicate (m - np) none) c) := if_pos h
abbrev rdT : MS := sSeq (sPar 2 3 (mCons (mBlt (liftN intT) (mCons (mBin (lift2 ixD) (mVar 1) (mC (.int 0))) mNil)) (mCons (mCell mNil) mNil))) (sSeq (sFor (iSeqT (mSl (mVar 1) (moSome (mC (.int 1))) moNone)) (gtName 4) rdB) (sRet (mLstC (mCons (mVar 2) (mCons (mVar 3) mNil)))))
theorem par_ok {i j : Nat} {B : MA} {s t : S} {c' : Cs} (h : B δ c = .ok [s, t] c') : sPar i j B δ c = .nx ((δ.set i (some s)).set j (some t)) c' := by unfold sPar; rw [h]; rfl
theorem rdT_start (h : Tx l) (hs : hd l = [48 + s]) (h1 : 1 ≤ s) (h3 : s ≤ 3) : sPar 2 3 (mCons (mBlt (liftN intT) (mCons (mBin (lift2 ixD) (mVar 1) (mC (.int 0))) mNil)) (mCons (mCell mNil) mNil)) (l7 l) c = .nx (rd7 s c.length (some (.d (tx l))) (some (.d (.lst ((wds [] l).map tx)))) none none none) (c ++ [.lst []]) := by
  have e : fnd (48 + s) = (s : Int) := by unfold fnd; rw [if_pos (by omega)]; omega
  refine par_ok (a2 (blt (a1 (bin (vr rfl) rfl (l2 (ix0 l)))) (lN1 (d := .int s) ?_)) (a1 rfl))
  rw [hs, int_fig (by omega), e]
theorem rdT_for (h : Tx l) {r : RS} (e : loop (gtName 4) rdB ((rst l).map tx) (rd7 s c.length (some (.d (tx l))) (some (.d (.lst ((wds [] l).map tx)))) none none none) (c ++ [.lst []]) = r) :
    sFor (iSeqT (mSl (mVar 1) (moSome (mC (.int 1))) moNone)) (gtName 4) rdB (rd7 s c.length (some (.d (tx l))) (some (.d (.lst ((wds [] l).map tx)))) none none none) (c ++ [.lst []]) = r := by
  have hlen := wds_len l []
  have hl := h.len
  unfold sFor
  rw [seqT (xs := (rst l).map tx) (tail_ok (vr rfl) (by rw [List.length_map]; omega)) (by
    show items (S.d (D.lst (List.map tx (wds [] l)).tail)) _ = _
    rw [wds_eq l]
    rfl)]
  exact e
theorem nat_seat (a : 0 < seatOf (hd l) ∧ seatOf (hd l) < 4) : ∃ s : Nat, 1 ≤ s ∧ s ≤ 3 ∧ hd l = [48 + s] ∧ seatOf (hd l) = s := by
  rcases seat_iff.mp a with h | h | h
  · exact ⟨1, by omega, by omega, h, by rw [h]; rfl⟩
  · exact ⟨2, by omega, by omega, h, by rw [h]; rfl⟩
  · exact ⟨3, by omega, by omega, h, by rw [h]; rfl⟩
theorem law_read_yes (h : Tx l) (g : Good l) : d_law_read [.d (tx l)] c = .ok (.d (.lst [.int (seatOf (hd l)), .lst ((lts l).map lotL)])) c := by
  have gw := g.w
  obtain ⟨s, h1, h3, hs, es⟩ := nat_seat ⟨gw.lo, gw.hi⟩
  rw [es] at gw ⊢
  have l1 := gw.l1
  have l3 := gw.l3
  have ll : (lts l).length = (rst l).length := by simp [lts]
  obtain ⟨y4, y5, e⟩ := rd_yes (c := c) (x0 := some (.d (tx l))) (x1 := some (.d (.lst ((wds [] l).map tx)))) h1 h3 (rst l) [] none none none (fun w hw => ⟨rst_tx h w hw, fun z => g.ne (by rw [wds_eq l]; exact List.mem_cons_of_mem _ (z ▸ hw)), gw.ok _ (List.mem_map.mpr ⟨w, hw, rfl⟩)⟩) (by simp; omega)
  have body : b_law_read [some (.d (tx l)), none, none, none, none, none, none] c = .rt (.c (c.length + 1)) (c ++ [.lst ((lts l).map lotL), .lS [.d (.int s), .c c.length]]) := by
    refine seq_go (set_ok (spl_ok h (vr rfl))) (seq_go (if_no ((tst1_ok h).trans ?_)) (seq_go (rdT_start h hs h1 h3) (seq_go (rdT_for h e) (ret_ok ?_))))
    · have q : hd l = [49] ∨ hd l = [50] ∨ hd l = [51] := seat_iff.mp ⟨by rw [es]; exact gw.lo, by rw [es]; exact gw.hi⟩
      have a1 : 1 ≤ (rst l).length := by omega
      have a3 : (rst l).length ≤ 3 := by omega
      simp [q, a1, a3]
    · unfold mLstC
      rw [a2 (vr rfl) (a1 (vr rfl))]
      have h2 : ([S.d (.int s), .c c.length] : List S).length ≤ sizeLine := small_size (by simp)
      simp only [bind_ok, mkLstC]
      rw [if_pos ⟨rfl, h2⟩]
      simp [lts]
  refine ((fnE_eq (ext := exitF) (np := 1) (m := 7) (b := b_law_read) (ss := [.d (tx l)]) rfl).trans (congrArg (exitF c.length) body)).trans ?_
  have e1 : (c ++ [CC.lst ((lts l).map lotL), .lS [.d (.int s), .c c.length]])[c.length + 1]? = some (.lS [.d (.int s), .c c.length]) := by simp
  have e0 : (c ++ [CC.lst ((lts l).map lotL), .lS [.d (.int s), .c c.length]])[c.length]? = some (.lst ((lts l).map lotL)) := by simp
  have f : frz c.length (c ++ [CC.lst ((lts l).map lotL), .lS [.d (.int s), .c c.length]]) 8 (.c (c.length + 1)) = some (.lst [.int s, .lst ((lts l).map lotL)]) := by
    simp only [frz, e1]
    rw [if_neg (by omega)]
    simp [List.mapM_cons, frz, e0]
  simp only [exitF, f]
  simp
theorem exitF_non (e : Cs) : exitF c.length (.rt (.d .non) (c ++ e)) = .ok (.d .non) c := by
  simp [exitF, frz]
theorem law_read_no (h : Tx l) (g : ¬ Good l) : d_law_read [.d (tx l)] c = .ok (.d .non) c := by
  have body : ∃ e, b_law_read [some (.d (tx l)), none, none, none, none, none, none] c = .rt (.d .non) (c ++ e) := by
    by_cases q : (decide (hd l = [49] ∨ hd l = [50] ∨ hd l = [51]) && (decide (1 ≤ (rst l).length) && decide ((rst l).length ≤ 3))) = true
    · have q2 := q
      simp only [Bool.and_eq_true, decide_eq_true_eq] at q2
      obtain ⟨qa, q1, q3⟩ := q2
      obtain ⟨s, h1, h3, hs, es⟩ := nat_seat (seat_iff.mpr qa)
      have hw : ∃ w ∈ rst l, ¬ (w ≠ [] ∧ LotOk s (lotOf w)) := by
        refine Classical.byContradiction fun z => ?_
        have all : ∀ w ∈ rst l, w ≠ [] ∧ LotOk s (lotOf w) := fun w hw => Classical.byContradiction fun y => z ⟨w, hw, y⟩
        refine g ⟨fun m => ?_, ?_⟩
        · rw [wds_eq l] at m
          rcases List.mem_cons.mp m with m | m
          · rw [hs] at m; simp at m
          · exact (all [] m).1 rfl
        · have ll : (lts l).length = (rst l).length := by simp [lts]
          rw [es]
          refine ⟨by omega, by omega, by omega, by omega, fun m hm => ?_⟩
          obtain ⟨w, hw, rfl⟩ := List.mem_map.mp hm
          exact (all w hw).2
      obtain ⟨e, he⟩ := rd_no (c := c) (x0 := some (.d (tx l))) (x1 := some (.d (.lst ((wds [] l).map tx)))) h1 h3 (rst l) [] none none none (rst_tx h) hw (by simp; omega)
      exact ⟨[e], seq_go (set_ok (spl_ok h (vr rfl))) (seq_go (if_no ((tst1_ok h).trans (by rw [q]; rfl))) (seq_go (rdT_start h hs h1 h3) (seq_rt (rdT_for h he))))⟩
    · have q' : (decide (hd l = [49] ∨ hd l = [50] ∨ hd l = [51]) && (decide (1 ≤ (rst l).length) && decide ((rst l).length ≤ 3))) = false := by simpa using q
      refine ⟨[], ?_⟩
      rw [List.append_nil]
      exact seq_go (set_ok (spl_ok h (vr rfl))) (seq_rt ((if_t (c' := c) ((tst1_ok h).trans (by rw [q']; rfl))).trans (ret_ok rfl)))
  obtain ⟨e, he⟩ := body
  exact ((fnE_eq (ext := exitF) (np := 1) (m := 7) (b := b_law_read) (ss := [.d (tx l)]) rfl).trans (congrArg (exitF c.length) he)).trans (exitF_non e)
end
end Dn

end
section
/-! K18_21: texts of webs; reading is right. -/
namespace Dn
open PySem
section
variable {c : Cs} {δ : Sl} {l w : List Nat} {s : Nat} {ls : List (List Int)}
theorem tryM_rt {hds : List Hd} {m : MS} {x : S} {c' : Cs} (h : m δ c = .rt x c') : sTryM hds m δ c = .rt x c' := by unfold sTryM; rw [h]
theorem tryM_nx {hds : List Hd} {m : MS} {δ' : Sl} {c' : Cs} (h : m δ c = .nx δ' c') : sTryM hds m δ c = .nx δ' c' := by unfold sTryM; rw [h]
theorem tryM_ex {hds : List Hd} {m : MS} {k : Nat} {xs : List D} {δ' : Sl} {c' : Cs} {r : RS} (h : m δ c = .ex k xs δ' c') (e : runH hds k xs δ' c' = r) : sTryM hds m δ c = r := by unfold sTryM; rw [h]; exact e
theorem eqRs_self {e : D → D → Option Bool} : ∀ xs : List D, (∀ x ∈ xs, e x x = some true) → eqRs e xs xs = some true
  | [], _ => rfl
  | x :: xs, h => by
    unfold eqRs
    rw [h x List.mem_cons_self]
    exact eqRs_self xs fun y hy => h y (List.mem_cons_of_mem _ hy)
theorem eqR_ok50 {x : D} (f : Nat) (h : x.ok 50 = true) : eqR eqs f x x = some true := by
  cases f <;> (unfold eqR; rw [if_pos (by simp [h]), eqD_refl 50 _ h])
theorem eqR_lst {f : Nat} {xs : List D} (h : ∀ x ∈ xs, eqR eqs f x x = some true) : eqR eqs (f + 1) (.lst xs) (.lst xs) = some true := by
  by_cases ok : (D.lst xs).ok 50 = true
  · exact eqR_ok50 _ ok
  · unfold eqR
    rw [if_neg (by simp [ok])]
    simp only [if_true]
    exact eqRs_self xs h
theorem eqR_tup {f : Nat} {xs : List D} (h : ∀ x ∈ xs, eqR eqs f x x = some true) : eqR eqs (f + 1) (.tup xs) (.tup xs) = some true := by
  by_cases ok : (D.tup xs).ok 50 = true
  · exact eqR_ok50 _ ok
  · unfold eqR
    rw [if_neg (by simp [ok])]
    simp only [if_true]
    exact eqRs_self xs h
theorem eqR_web {f : Nat} {s : Int} : eqR eqs (f + 1) (wb s ls) (wb s ls) = some true := by
  have h := web_eq (s := s) (t := s) (ls := ls) (ms := ls) (c := [])
  unfold wb at h ⊢
  unfold eqR
  rw [if_neg (by simp [D.ok])]
  simp only [objEq, if_true, eqs, look, Nat.reduceEqDiff, if_false, h, isB, decide_true, Bool.and_self]
/-- a list of a word and a thing that is equal to itself -/
theorem eqY_two {neg : Bool} {w : Str} {x : D} (hw : PyData.strOk w = true) (hx : eqR eqs 4 x x = some true) : eqY eqs 4 neg (.d (.lst [.str w, x])) (.d (.lst [.str w, x])) c = .ok (.d (.bl (!neg))) c := by
  by_cases ok : (D.lst [.str w, x]).ok 60 = true
  · rw [eqY_plain ok ok, eqD_refl 60 _ ok]
    cases neg <;> rfl
  · have hws : eqR eqs 4 (.str w) (.str w) = some true := eqR_ok50 _ (by unfold D.ok; exact hw)
    simp only [eqY, deref]
    rw [if_neg (by simp [ok])]
    simp only [if_true, eqRs, hws, hx]
    cases neg <;> rfl
theorem eqR_tx (h : Tx l) (f : Nat) : eqR eqs f (tx l) (tx l) = some true := eqR_ok50 f (h.ok 50)
/-! ### texts -/
def wordL (lot : List Int) : List Nat := if lot = [] then [45] else lot.map fun i => 48 + i.toNat
def textL (s : Nat) (ls : List (List Int)) : List Nat := TL.joinL [32] ([48 + s] :: ls.map wordL)
theorem str_fig {i : Int} (h : 0 ≤ i ∧ i ≤ 3) : strD [.int i] = some (tx [48 + i.toNat]) := by
  have key : i.natAbs.log2 < 1920 ∧ ((toString i : String) : Str) = SX.S [48 + i.toNat] := by
    have : i = 0 ∨ i = 1 ∨ i = 2 ∨ i = 3 := by omega
    rcases this with rfl | rfl | rfl | rfl <;> decide +kernel
  show (if i.natAbs.log2 < 1920 then some (D.str (toString i)) else none) = _
  rw [if_pos key.1, key.2]
theorem sum_ones {α : Type} (f : α → List Nat) (hf : ∀ x, (f x).length = 1) (m : List α) : ((m.map f).map List.length).sum = m.length := by
  induction m with
  | nil => rfl
  | cons a r ih => simp only [List.map_cons, List.sum_cons, hf, ih, List.length_cons]; omega
theorem flat_ones (m : List Int) : (m.map fun i => [48 + i.toNat]).flatten = m.map fun i => 48 + i.toNat := by
  induction m with
  | nil => rfl
  | cons a r ih => simp [ih]
/-- the figures of a lot, written -/
theorem figs_ok {A : M} {g : GT} {vs : List Nat} {m : List Int} {j : Nat} {I : MI} (hm : ∀ x ∈ m, 0 ≤ x ∧ x ≤ 3) (hl : m.length ≤ 100) (hI : I δ c = .ok (m.map D.int) c) (hg : ∀ x : D, ∃ δ1, g x (wipeD δ vs) = some δ1 ∧ ∀ c', mVar j δ1 c' = .ok (.d x) c') :
    m1T joinF (mC (.str "")) (mComp I g mtYes (mBlt (liftN strD) (mCons (mVar j) mNil)) vs) δ c = .ok (.d (tx (m.map fun i => 48 + i.toNat))) c := by
  refine (join0_ok (ws := m.map fun i => [48 + i.toNat]) ((compM m D.int (fun i => tx [48 + i.toNat]) hI (small_size (by omega)) fun i hi => ?_).trans ?_) ?_).trans ?_
  · obtain ⟨δ1, e1, e2⟩ := hg (D.int i)
    exact ⟨δ1, e1, fun c' => blt (a1 (e2 c')) (lN1 (str_fig (hm i hi)))⟩
  · rw [List.map_map]
    rfl
  · rw [sum_ones (fun i : Int => [48 + i.toNat]) (fun _ => rfl)]
    omega
  · rw [flat_ones]
theorem lot_small {s : Int} {m : List Int} (h : LotOk s m) (hs : s < 4) : (∀ x ∈ m, 0 ≤ x ∧ x ≤ 3) ∧ m.length ≤ 3 := ⟨fun x hx => by have := h.pl x hx; omega, h.len hs⟩
theorem wordL_len {s : Int} {m : List Int} (h : LotOk s m) (hs : s < 4) : (wordL m).length ≤ 3 := by
  unfold wordL
  split
  · simp
  · rw [List.length_map]; exact h.len hs
theorem sum_le (f : List Int → List Nat) : ∀ (ls : List (List Int)), (∀ m ∈ ls, (f m).length ≤ 3) → ((ls.map f).map List.length).sum ≤ 3 * ls.length
  | [], _ => by simp
  | m :: r, h => by
    have := sum_le f r fun z hz => h z (List.mem_cons_of_mem _ hz)
    have := h m List.mem_cons_self
    simp only [List.map_cons, List.sum_cons, List.length_cons]
    omega
theorem web_text (h : WOk s ls) : d_Web_text [.d (wb s ls)] c = .ok (.d (tx (textL s ls))) c := by
  have l3 := h.l3
  have hi := h.hi
  have lo := h.lo
  refine fn_rt rfl (seq_go (set_ok (s := .d (.lst ((ls.map wordL).map tx))) (c' := c) ?_) (ret_ok ?_))
  · refine (compM ls lotT (fun m => tx (wordL m)) (seqI (attr (vr rfl) rfl rfl) rfl) (small_size (by omega)) fun m hm => ⟨_, rfl, fun c' => ?_⟩).trans (by rw [List.map_map]; rfl)
    obtain ⟨a, b⟩ := lot_small (h.ok m hm) h.hi
    have e : eqP true (lotT m) (.tup []) = some (.bl (!decide (m = []))) := by
      have ok : (lotT m).ok 60 = true := by unfold lotT D.ok; rw [oks_int]; rfl
      unfold eqP
      rw [ok]
      cases m <;> rfl
    unfold wordL
    by_cases q : m = []
    · rw [if_pos q]
      refine mif_f (c' := c') (tb_ok (bin (vr rfl) rfl (l2 (e.trans (by simp [q]))))) ?_
      rw [dash]
      rfl
    · rw [if_neg q]
      exact mif_t (c' := c') (tb_ok (bin (vr rfl) rfl (l2 (e.trans (by simp [q]))))) (figs_ok (A := mC .non) a (by omega) (seqI (vr rfl) rfl) fun x => ⟨_, rfl, fun c'' => vr rfl⟩)
  · refine join_ok (ws := [48 + s] :: ls.map wordL) ?_ ?_
    · have e1 : mBlt (liftN strD) (mCons (mAttr f_seats (mVar 0)) mNil) [some (.d (wb s ls)), some (.d (.lst ((ls.map wordL).map tx))), none, none] c = .ok (.d (tx [48 + s])) c := blt (a1 (attr (vr rfl) rfl rfl)) (lN1 ((str_fig (i := s) (by omega)).trans (by simp)))
      have e2 : mCons (mBlt (liftN strD) (mCons (mAttr f_seats (mVar 0)) mNil)) (mStarC (mVar 1) mNil) [some (.d (wb s ls)), some (.d (.lst ((ls.map wordL).map tx))), none, none] c = .ok (.d (tx [48 + s]) :: ((ls.map wordL).map tx).map S.d) c := by
        refine a2 e1 ?_
        unfold mStarC
        rw [vr rfl]
        simp [bind_ok, starF, deref, mNil]
      refine (congrArg (fun r => R.bind r mkLst) e2).trans ?_
      have ed : ∀ zs : List D, datas (zs.map S.d) = some zs := fun zs => by
        induction zs with
        | nil => rfl
        | cons a r ih => simp [datas, ih]
      have := ed (tx [48 + s] :: (ls.map wordL).map tx)
      rw [List.map_cons] at this
      show mkLst _ c = _
      unfold mkLst
      rw [this]
      exact if_pos (small_size (by simp; omega))
    · have := sum_le wordL ls fun m hm => wordL_len (h.ok m hm) h.hi
      simp only [List.map_cons, List.sum_cons, List.length_cons, List.length_nil, List.length_map]
      omega
/-- what was read is the text -/
theorem text_back (g : Good l) (hs : hd l = [48 + s]) (es : seatOf (hd l) = s) : textL s (lts l) = l := by
  have gw := g.w
  rw [es] at gw
  have lo := gw.lo
  have hi := gw.hi
  have key : ∀ w ∈ rst l, wordL (lotOf w) = w := fun w hw => by
    have hne : w ≠ [] := fun z => g.ne (by rw [wds_eq l]; exact List.mem_cons_of_mem _ (z ▸ hw))
    have k := gw.ok _ (List.mem_map.mpr ⟨w, hw, rfl⟩)
    unfold wordL
    by_cases a : w = [45]
    · rw [lotOf, if_pos a, if_pos rfl, a]
    · have hl : lotOf w = w.map fnd := by rw [lotOf, if_neg a]
      rw [hl, if_neg (by simpa using hne), List.map_map]
      conv => rhs; rw [← List.map_id w]
      refine List.map_congr_left fun x hx => ?_
      have := k.pl (fnd x) (by rw [hl]; exact List.mem_map.mpr ⟨x, hx, rfl⟩)
      simp only [Function.comp, id]
      unfold fnd at this ⊢
      split at this
      · rename_i q
        rw [if_pos q]
        omega
      · omega
  unfold textL lts
  have e : List.map (wordL ∘ lotOf) (rst l) = rst l := by
    conv => rhs; rw [← List.map_id (rst l)]
    exact List.map_congr_left fun w hw => key w hw
  rw [List.map_map, e, ← hs, ← wds_eq l, join_wds]
  rfl
/-! ### what is caught -/
abbrev hdT : Hd := ⟨[39], [27, 13, 26], some 1, sRet (mLst (mCons (mC (.str "text")) (mCons (mXf xf_given 1) mNil)))⟩
theorem run39 {x a : D} : runH [hdT] 39 [x] [some (.d a), none] c = .rt (.d (.lst [.str "text", x])) c := rfl
theorem caught_yes (h : Tx l) (g : Good l) : d_law_caught [.d (tx l)] c = .ok (.d (told (wb (seatOf (hd l)) (lts l)))) c :=
  fn_rt rfl (tryM_rt (ret_ok (told_ok (blt (a1 (vr rfl)) (read_yes h g)))))
theorem caught_no (h : Tx l) (g : ¬ Good l) : d_law_caught [.d (tx l)] c = .ok (.d (.lst [.str "text", tx l])) c :=
  fn_rt rfl (tryM_ex (ret_ex (told_ex (blt (a1 (vr rfl)) (read_no h g)))) run39)
theorem caught_odd {x : D} (h : k_str.ask x = some false) : d_law_caught [.d x] c = .ok (.d (.lst [.str "text", x])) c :=
  fn_rt rfl (tryM_ex (ret_ex (told_ex (blt (a1 (vr rfl)) (fn_ex rfl (seq_ex ((if_t ((tnot_ok (tb_ok (isi (vr rfl) h))).trans rfl)).trans (raise1_ok (vr rfl)))))))) run39)
theorem reading_right (h : Tx l) : d_law_reading_right [.d (tx l)] c = .ok (.d (.bl true)) c := by
  by_cases g : Good l
  · have gw := g.w
    obtain ⟨s, h1, h3, hs, es⟩ := nat_seat ⟨gw.lo, gw.hi⟩
    have y1 := law_read_yes (c := c) h g
    have y2 := caught_yes (c := c) h g
    have tb := text_back g hs es
    rw [es] at y1 y2 gw
    refine fn_rt rfl (seq_go (par_ok (a2 (blt (a1 (vr rfl)) y1) (a1 (blt (a1 (vr rfl)) y2)))) (seq_go (if_no (tb_ok rfl)) (ret_ok (and_yes (bin (vr rfl) (told_ok (make_web gw (a2 (bin (vr rfl) rfl (l2 rfl)) (a1 (bin (vr rfl) rfl (l2 rfl)))))) (eqY_two (neg := false) (w := "told") (by decide +kernel) eqR_web)) (bin (meth (bin (x := .d (told (wb s (lts l)))) (vr rfl) rfl (l2 rfl)) rfl rfl (web_text gw)) (vr rfl) ?_)))))
    rw [tb]
    exact (eqV2_tx h h).trans (by simp)
  · exact fn_rt rfl (seq_go (par_ok (a2 (blt (a1 (vr rfl)) (law_read_no h g)) (a1 (blt (a1 (vr rfl)) (caught_no h g))))) (seq_rt ((if_t (tb_ok rfl)).trans (ret_ok (bin (vr rfl) (y := .d (.lst [.str "text", tx l])) (c'' := c) ((congrArg (fun r => R.bind r mkLst) (a2 rfl (a1 (vr rfl)))).trans rfl) (eqY_two (neg := false) (w := "text") (by decide +kernel) (eqR_tx h 4)))))))
end
end Dn

end
section
/-! K18_22: the law's own writing. -/
namespace Dn
open PySem
section
variable {c : Cs} {δ : Sl} {l w : List Nat} {s : Nat} {ls : List (List Int)}
def figs (m : List Int) : List Nat := m.map fun i => 48 + i.toNat
theorem figs_tx {t : Int} {m : List Int} (h : LotOk t m) (hs : t < 4) : Tx (figs m) := by
  refine ⟨by have := h.len hs; simp [figs]; omega, fun x hx => ?_⟩
  obtain ⟨i, hi, rfl⟩ := List.mem_map.mp hx
  have := h.pl i hi
  omega
theorem wordL_figs (m : List Int) : wordL m = if figs m = [] then [45] else figs m := by
  unfold wordL figs
  by_cases h : m = []
  · simp [h]
  · rw [if_neg h, if_neg (by simpa using h)]
theorem wordL_tx {t : Int} {m : List Int} (h : LotOk t m) (hs : t < 4) : Tx (wordL m) := by
  rw [wordL_figs]
  split
  · exact dash_tx
  · exact figs_tx h hs
theorem law_text_ok (h : WOk s ls) : d_law_text [.d (.int s), .d (.lst (ls.map lotL))] c = .ok (.d (tx (textL s ls))) c := by
  have l3 := h.l3
  have hi := h.hi
  have lo := h.lo
  refine fn_rt rfl (seq_go (set_ok (s := .d (.lst ((ls.map figs).map tx))) (c' := c) ?_) (ret_ok (join_ok (ws := [48 + s] :: ls.map wordL) (bin (x := .d (.lst [tx [48 + s]])) (y := .d (.lst ((ls.map wordL).map tx))) (c' := c) (c'' := c) ?_ ?_ (l2 ?_)) ?_)))
  · refine (compM ls lotL (fun m => tx (figs m)) (seqI (vr rfl) rfl) (small_size (by omega)) fun m hm => ⟨_, rfl, fun c' => ?_⟩).trans (by rw [List.map_map]; rfl)
    obtain ⟨a, b⟩ := lot_small (h.ok m hm) h.hi
    exact figs_ok (A := mC .non) a (by omega) (seqI (vr rfl) rfl) fun x => ⟨_, rfl, fun c'' => vr rfl⟩
  · exact (congrArg (fun r => R.bind r mkLst) (a1 (blt (a1 (vr rfl)) (lN1 ((str_fig (i := s) (by omega)).trans (by simp)))))).trans rfl
  · refine (compM ls (fun m => tx (figs m)) (fun m => tx (wordL m)) (seqI (vr rfl) (by rw [List.map_map]; rfl)) (small_size (by omega)) fun m hm => ⟨_, rfl, fun c' => ?_⟩).trans (by rw [List.map_map]; rfl)
    have ft := figs_tx (h.ok m hm) h.hi
    have e : ∀ δ : Sl, mVar 5 δ c' = .ok (.d (tx (figs m))) c' → mTB (mBin (eqY eqs 4 true) (mVar 5) (mC (.str ""))) δ c' = .ok (!decide (figs m = [])) c' := fun δ hv => by
      rw [empt]
      exact tb_ok (bin hv rfl (eqY_tx ft empt_tx))
    rw [wordL_figs]
    by_cases q : figs m = []
    · rw [if_pos q]
      refine mif_f (c' := c') ((e _ (vr rfl)).trans (by simp [q])) ?_
      rw [dash]
      rfl
    · rw [if_neg q]
      exact mif_t (c' := c') ((e _ (vr rfl)).trans (by simp [q])) (vr rfl)
  · show (if ([tx [48 + s]] : List D).length + ((ls.map wordL).map tx).length ≤ sizeLine then _ else _) = _
    rw [if_pos (small_size (by simp; omega))]
    rfl
  · have := sum_le wordL ls fun m hm => wordL_len (h.ok m hm) h.hi
    simp only [List.map_cons, List.sum_cons, List.length_cons, List.length_nil, List.length_map]
    omega
/-- the words of a web's text -/
structure Wd (ws : List (List Nat)) : Prop where
  n1 : 1 ≤ ws.length
  n4 : ws.length ≤ 4
  w3 : ∀ w ∈ ws, w.length ≤ 3 ∧ 32 ∉ w ∧ ∀ x ∈ w, x < 128
theorem text_wd (h : WOk s ls) : Wd ([48 + s] :: ls.map wordL) := by
  have l3 := h.l3
  have hi := h.hi
  refine ⟨by simp, by simp; omega, fun w hw => ?_⟩
  rcases List.mem_cons.mp hw with rfl | q
  · exact ⟨by simp, by simp; omega, by simp; omega⟩
  · obtain ⟨m, hm, rfl⟩ := List.mem_map.mp q
    refine ⟨wordL_len (h.ok m hm) h.hi, ?_, (wordL_tx (h.ok m hm) h.hi).pl⟩
    unfold wordL
    split
    · simp
    · intro z
      obtain ⟨i, _, e⟩ := List.mem_map.mp z
      omega
theorem wd_words {ws : List (List Nat)} (h : Wd ws) : wds [] (TL.joinL [32] ws) = ws := TL.spl_join (by have := h.n1; intro z; rw [z] at this; simp at this) fun p hp => (h.w3 p hp).2.1
theorem joinL_len : ∀ ws : List (List Nat), (TL.joinL [32] ws).length ≤ (ws.map List.length).sum + ws.length
  | [] => by simp [TL.joinL]
  | [p] => by simp [TL.joinL]
  | p :: q :: r => by
    have := joinL_len (q :: r)
    unfold TL.joinL
    simp only [List.length_append, List.length_cons, List.map_cons, List.sum_cons, List.length_nil] at this ⊢
    omega
theorem joinL_mem : ∀ (ws : List (List Nat)) (x : Nat), x ∈ TL.joinL [32] ws → x = 32 ∨ ∃ w ∈ ws, x ∈ w
  | [], x, h => by simp [TL.joinL] at h
  | [p], x, h => by exact .inr ⟨p, by simp, h⟩
  | p :: q :: r, x, h => by
    unfold TL.joinL at h
    rcases List.mem_append.mp h with a | a
    · exact .inr ⟨p, by simp, a⟩
    · rcases List.mem_append.mp a with b | b
      · exact .inl (by simpa using b)
      · rcases joinL_mem (q :: r) x b with d | ⟨w, hw, hx⟩
        · exact .inl d
        · exact .inr ⟨w, List.mem_cons_of_mem _ hw, hx⟩
theorem sum_bound (k : Nat) : ∀ ws : List (List Nat), (∀ w ∈ ws, w.length ≤ k) → (ws.map List.length).sum ≤ k * ws.length
  | [], _ => by simp
  | p :: r, h => by
    have := sum_bound k r fun z hz => h z (List.mem_cons_of_mem _ hz)
    have := h p List.mem_cons_self
    simp only [List.map_cons, List.sum_cons, List.length_cons, Nat.mul_add]
    omega
theorem join_tx {ws : List (List Nat)} {k n : Nat} (hk : ∀ w ∈ ws, w.length ≤ k) (hp : ∀ w ∈ ws, ∀ x ∈ w, x < 128) (hn : ws.length ≤ n) (hb : k * n + n ≤ 50) : Tx (TL.joinL [32] ws) := by
  have a := sum_bound k ws hk
  have b := joinL_len ws
  have d : k * ws.length ≤ k * n := Nat.mul_le_mul_left k hn
  refine ⟨by omega, fun x hx => ?_⟩
  rcases joinL_mem ws x hx with e | ⟨w, hw, hx⟩
  · omega
  · exact hp w hw x hx
theorem text_tx (h : WOk s ls) : Tx (textL s ls) := by
  have k := text_wd h
  exact join_tx (k := 3) (n := 4) (fun w hw => (k.w3 w hw).1) (fun w hw => (k.w3 w hw).2.2) k.n4 (by omega)
/-! ### slices of texts -/
theorem cutS_take (j : Nat) : L2.cutS (SX.S l) none (some (j : Int)) = SX.S (l.take j) := by
  unfold L2.cutS
  rw [HT.sIx_none, HT.sIx_nat, tx_len]
  simp
theorem cutS_drop (j : Nat) : L2.cutS (SX.S l) (some (j : Int)) none = SX.S (l.drop j) := by
  unfold L2.cutS
  rw [HT.sIx_none, HT.sIx_nat, tx_len]
  show SX.S ((l.drop (min j l.length)).take (l.length - min j l.length)) = _
  congr 1
  by_cases q : j ≤ l.length
  · rw [Nat.min_eq_left q, List.take_of_length_le (by simp)]
  · rw [Nat.min_eq_right (by omega), List.drop_length, List.drop_of_length_le (by omega)]
    simp
theorem sl_take {A B : M} {j : Nat} (h : Tx l) (hA : A δ c = .ok (.d (tx l)) c) (hB : B δ c = .ok (.d (.int j)) c) : mSl A moNone (moSome B) δ c = .ok (.d (tx (l.take j))) c := by
  unfold mSl
  rw [hA]
  simp only [bind_ok, moNone, moSome]
  rw [hB]
  simp only [bind_ok, asI, slS, deref, slD]
  rw [if_pos (by rw [tx_len]; exact small_size (by have := h.len; omega)), cutS_take]
theorem sl_drop {A B : M} {j : Nat} (h : Tx l) (hA : A δ c = .ok (.d (tx l)) c) (hB : B δ c = .ok (.d (.int j)) c) : mSl A (moSome B) moNone δ c = .ok (.d (tx (l.drop j))) c := by
  unfold mSl
  rw [hA]
  simp only [bind_ok, moNone, moSome]
  rw [hB]
  simp only [bind_ok, asI, slS, deref, slD]
  rw [if_pos (by rw [tx_len]; exact small_size (by have := h.len; omega)), cutS_drop]
theorem add_tx {a b : List Nat} (h : a.length + b.length ≤ 500) : addD (tx a) (tx b) = some (tx (a ++ b)) := by
  show (if (SX.S a).length + (SX.S b).length ≤ sizeLine then some (D.str (SX.S a ++ SX.S b)) else none) = _
  rw [tx_len, tx_len, if_pos (small_size (by omega)), SX.S_cat]
theorem rev_tx (w : List Nat) : ∃ v : List Nat, revS (SX.S w) = SX.S v ∧ v.length ≤ w.length ∧ ∀ x ∈ v, x ∈ w := by
  refine ⟨(revS (SX.S w)).cps.toList, (SX.S_tl _).symm, ?_, fun x hx => ?_⟩
  · have h1 := revS_len (SX.S w)
    rw [tx_len w] at h1
    have e : (revS (SX.S w)).length = (revS (SX.S w)).cps.toList.length := by simp [Str.length]
    rw [← e]
    exact h1
  · have hx : x ∈ (Builtin.Str.strSliceIndices none none (-1) (SX.S w).length).filterMap fun i => (SX.S w).cps[i]? := hx
    obtain ⟨i, _, e⟩ := List.mem_filterMap.mp hx
    have e : w.toArray[i]? = some x := e
    rw [List.getElem?_toArray] at e
    exact List.mem_of_getElem? e
end
end Dn

end
section
/-! K18_23: spoilt texts. -/
namespace Dn
open PySem
section
variable {c cb : Cs} {δ : Sl} {l w : List Nat} {s : Nat} {ls : List (List Int)} {n : Nat}
theorem fn_tk {kp : Bool} {np m : Nat} {b : MS} {ss : List S} {x : D} {c2 e : Cs} (h : ss.length = np) (hl : c2.length = c.length) (k : b (ss.map some ++ List.replicate (m - np) none) c = .rt (.d x) (c2 ++ e)) : fnG kp np m b ss c = .ok (.d x) c2 := by
  rw [fnG_eq h, k]
  simp [exitR, ← hl]
theorem takeN {N m : Nat} {c1 e : Cs} (hn : n < cb.length) (hb : BxAt cb n N c1) (hN : N ≤ 100000) (h1 : 1 ≤ m) (h2 : m ≤ 1000) : ∃ (v : Nat) (c2 : Cs), d_law_take [.c n, .d (.int m)] (c1 ++ e) = .ok (.d (.int v)) (c2 ++ e) ∧ v < m ∧ BxAt cb n (N + 1) c2 := by
  obtain ⟨v, c2, e1, a, b, d⟩ := take_at (e := e) (m := (m : Int)) hn hb (by omega) ⟨by omega, by omega⟩
  exact ⟨v.toNat, c2, by rw [e1, Int.toNat_of_nonneg a], by omega, d⟩
theorem len_cell {xs : List D} {k : Nat} (h : c[k]? = some (.lst xs)) : liftN (lenO lens) [.c k] c = .ok (.d (.int xs.length)) c := by
  simp only [liftN, derefs, deref, h]
  rfl
theorem set_cell2 {xs : List D} {A I V : M} {c' : Cs} {i : Int} {j k : Nat} {x : D} (hV : V δ c = .ok (.d x) c') (hA : A δ c' = .ok (.c k) c') (hI : I δ c' = .ok (.d (.int i)) c') (hn : c'[k]? = some (.lst xs)) (e : L2.ixN xs.length i = some j) : sSetIx A I V δ c = .nx δ (c'.set k (.lst (xs.set j x))) := by
  unfold sSetIx
  rw [hV]
  simp only [andS_ok]
  rw [hA]
  simp only [andS_ok]
  rw [hI]
  simp only [andS_ok, setC, hn, e]
theorem join_ok2 {B : M} {t : S} {c' : Cs} {ws : List (List Nat)} (hB : B δ c = .ok t c') (hd : deref t c' = some (.lst (ws.map tx))) (hl : (ws.map List.length).sum + ws.length ≤ 1000) : m1T joinF (mC (.str " ")) B δ c = .ok (.d (tx (TL.joinL [32] ws))) c' := by
  unfold m1T
  simp only [bind_ok, mC]
  rw [hB]
  simp only [bind_ok, joinF, hd, strs_map]
  have e1 : (" " : Str).length = 1 := by decide +kernel
  have e2 : ((ws.map SX.S).map (·.length)) = ws.map List.length := by rw [List.map_map]; congr 1
  have : joinOk (" " : Str) (ws.map SX.S) := by unfold joinOk; rw [e1, e2, List.length_map]; omega
  rw [if_pos this, join_sp]
def sgnL : List Nat := [48, 49, 50, 51, 32, 45, 43, 97, 10, 52]
theorem sgn_txt : ("0123 -+a\n4" : Str) = SX.S sgnL := by decide +kernel
theorem sgn_ix {v : Nat} (h : v < 10) : ∃ x, ixD (.str "0123 -+a\n4") (.int v) = some (tx [x]) ∧ x < 128 := by
  have hv : v < sgnL.length := h
  refine ⟨sgnL[v], ?_, ?_⟩
  · rw [sgn_txt]
    show (if (SX.S sgnL).length ≤ sizeLine then (L2.atI sgnL (v : Int)).map (fun c => D.str ⟨#[c]⟩) else none) = _
    rw [if_pos (by decide +kernel), atI_nat hv]
    rfl
  · have : ∀ x ∈ sgnL, x < 128 := by decide
    exact this _ (List.getElem_mem hv)
/-- a short word of plain signs -/
structure W6 (w : List Nat) : Prop where
  len : w.length ≤ 6
  pl : ∀ x ∈ w, x < 128
def lits : List (List Nat) := [[], [45], [48], [48, 49], [48, 49, 50], [51], [50], [48, 48]]
theorem lits_ok : ∀ w ∈ lits, W6 w := by
  intro w hw
  simp only [lits, List.mem_cons, List.not_mem_nil, or_false] at hw
  rcases hw with rfl | rfl | rfl | rfl | rfl | rfl | rfl | rfl <;> exact ⟨by simp, by simp⟩
theorem lit_list : ([.str "", .str "-", .str "0", .str "01", .str "012", .str "3", .str "2", .str "00"] : List D) = lits.map tx := by
  have h0 : ("0" : Str) = SX.S [48] := by decide +kernel
  have h1 : ("01" : Str) = SX.S [48, 49] := by decide +kernel
  have h2 : ("012" : Str) = SX.S [48, 49, 50] := by decide +kernel
  have h3 : ("00" : Str) = SX.S [48, 48] := by decide +kernel
  rw [empt, dash, h0, h1, h2, h3, two_txt, thr_txt]
  rfl
abbrev newM : M := mLst (mCons (mBin (lift2 addD) (mBin (lift2 ixD) (mVar 5) (mVar 6)) (mBin (lift2 ixD) (mVar 5) (mVar 6))) (mCons (mRev (mBin (lift2 ixD) (mVar 5) (mVar 6))) (mCons (mC (.str "")) (mCons (mC (.str "-")) (mCons (mC (.str "0")) (mCons (mC (.str "01")) (mCons (mC (.str "012")) (mCons (mC (.str "3")) (mCons (mC (.str "2")) (mCons (mC (.str "00")) mNil))))))))))
theorem new_ok {ws : List (List Nat)} {k a : Nat} (h : Wd ws) (ha : a < ws.length) (hk : c[k]? = some (.lst (ws.map tx))) (h5 : mVar 5 δ c = .ok (.c k) c) (h6 : mVar 6 δ c = .ok (.d (.int a)) c) : ∃ vs : List (List Nat), newM δ c = .ok (.d (.lst (vs.map tx))) c ∧ vs.length = 10 ∧ ∀ w ∈ vs, W6 w := by
  have hw := h.w3 ws[a] (List.getElem_mem ha)
  have ix : ixD (.lst (ws.map tx)) (.int a) = some (tx ws[a]) := by
    have := atI_nat (xs := ws.map tx) (n := a) (by simpa using ha)
    rw [List.getElem_map] at this
    exact this
  have e := ix_cell hk h5 h6 ix
  obtain ⟨v, e2, v1, v2⟩ := rev_tx ws[a]
  refine ⟨(ws[a] ++ ws[a]) :: v :: lits, ?_, by simp [lits], fun w hw' => ?_⟩
  · have er : mRev (mBin (lift2 ixD) (mVar 5) (mVar 6)) δ c = .ok (.d (tx v)) c := by
      unfold mRev
      rw [e]
      simp only [bind_ok, revF, deref]
      rw [if_pos (by rw [tx_len]; exact small_size (by omega)), e2]
    refine (congrArg (fun r => R.bind r mkLst) (a2 (bin e e (l2 (add_tx (by omega)))) (a2 er (a2 rfl (a2 rfl (a2 rfl (a2 rfl (a2 rfl (a2 rfl (a2 rfl (a1 rfl))))))))))).trans ?_
    have : mkLst [.d (tx (ws[a] ++ ws[a])), .d (tx v), .d (.str ""), .d (.str "-"), .d (.str "0"), .d (.str "01"), .d (.str "012"), .d (.str "3"), .d (.str "2"), .d (.str "00")] c = .ok (.d (.lst (tx (ws[a] ++ ws[a]) :: tx v :: [.str "", .str "-", .str "0", .str "01", .str "012", .str "3", .str "2", .str "00"]))) c := rfl
    refine this.trans ?_
    rw [lit_list]
    rfl
  · rcases List.mem_cons.mp hw' with rfl | q
    · refine ⟨by simp; omega, fun x hx => ?_⟩
      rcases List.mem_append.mp hx with z | z <;> exact hw.2.2 x z
    · rcases List.mem_cons.mp q with rfl | q
      · exact ⟨by omega, fun x hx => hw.2.2 x (v2 x hx)⟩
      · exact lits_ok w q
theorem atI_last {α : Type} {xs : List α} (h : 0 < xs.length) : L2.atI xs (-1) = some (xs[xs.length - 1]'(by omega)) := by
  have e : L2.ixN xs.length (-1) = some (xs.length - 1) := by
    unfold L2.ixN
    have h1 : ¬ (0 : Int) ≤ -1 := by omega
    simp
    omega
  unfold L2.atI
  rw [e]
  exact List.getElem?_eq_getElem _
theorem txs_add {a b : List (List Nat)} (h : a.length + b.length ≤ 500) : addD (.lst (a.map tx)) (.lst (b.map tx)) = some (.lst ((a ++ b).map tx)) := by
  show (if (a.map tx).length + (b.map tx).length ≤ sizeLine then _ else _) = _
  rw [if_pos (small_size (by simp; omega)), List.map_append]
end
end Dn

end
section
/-! K18_24: spoilt texts, whole. -/
namespace Dn
open PySem
section
variable {c cb : Cs} {δ : Sl} {l w : List Nat} {n : Nat}
theorem cutD_take {α : Type} (xs : List α) (j : Nat) : cutD xs none (some (j : Int)) = xs.take j := by
  unfold cutD
  rw [HT.sIx_none, HT.sIx_nat]
  simp
theorem slC_take {A B : M} {j k : Nat} {xs : List D} (hA : A δ c = .ok (.c k) c) (hk : c[k]? = some (.lst xs)) (hB : B δ c = .ok (.d (.int j)) c) : mSl A moNone (moSome B) δ c = .ok (.d (.lst (xs.take j))) c := by
  unfold mSl
  rw [hA]
  simp only [bind_ok, moNone, moSome]
  rw [hB]
  simp only [bind_ok, asI, slS, deref, hk, slD, cutD_take]
theorem slC_drop {A B : M} {j k : Nat} {xs : List D} (hA : A δ c = .ok (.c k) c) (hk : c[k]? = some (.lst xs)) (hl : xs.length ≤ 1000) (hB : B δ c = .ok (.d (.int j)) c) : mSl A (moSome B) moNone δ c = .ok (.d (.lst (xs.drop j))) c := by
  unfold mSl
  rw [hA]
  simp only [bind_ok, moNone, moSome]
  rw [hB]
  simp only [bind_ok, asI, slS, deref, hk, slD]
  rw [cutD_drop xs j (by omega)]
theorem l2c {g : D → D → Option D} {k : Nat} {xs : List D} {y d : D} (hk : c[k]? = some (.lst xs)) (h : g (.lst xs) y = some d) : lift2 g (.c k) (.d y) c = .ok (.d d) c := by simp [lift2, deref, hk, h]
abbrev altM : M := mLstC (mCons (mVar 5) (mCons (mBin (lift2 addD) (mSl (mVar 5) moNone (moSome (mVar 6))) (mSl (mVar 5) (moSome (mBin (lift2 addD) (mVar 6) (mC (.int 1)))) moNone)) (mCons (mBin (lift2 addD) (mVar 5) (mLst (mCons (mBin (lift2 ixD) (mVar 5) (mUn (lift1 negD) (mC (.int 1)))) mNil))) mNil)))
theorem alt_ok {ws : List (List Nat)} {a : Nat} (hn : 0 < ws.length) (hl : ws.length ≤ 10) (h5 : δ[5]? = some (some (.c c.length))) (h6 : δ[6]? = some (some (.d (.int a)))) :
    altM δ (c ++ [.lst (ws.map tx)]) = .ok (.c (c.length + 1)) (c ++ [.lst (ws.map tx), .lS [.c c.length, .d (.lst ((ws.take a ++ ws.drop (a + 1)).map tx)), .d (.lst ((ws ++ [ws[ws.length - 1]'(by omega)]).map tx))]]) := by
  have hk : (c ++ [CC.lst (ws.map tx)])[c.length]? = some (.lst (ws.map tx)) := by simp
  have e1 : mBin (lift2 addD) (mSl (mVar 5) moNone (moSome (mVar 6))) (mSl (mVar 5) (moSome (mBin (lift2 addD) (mVar 6) (mC (.int 1)))) moNone) δ (c ++ [.lst (ws.map tx)]) = .ok (.d (.lst ((ws.take a ++ ws.drop (a + 1)).map tx))) (c ++ [.lst (ws.map tx)]) := by
    refine bin (slC_take (vr h5) hk (vr h6)) (slC_drop (j := a + 1) (vr h5) hk (by simp; omega) (bin (vr h6) rfl (l2 rfl))) (l2 ?_)
    rw [← List.map_take, ← List.map_drop]
    exact txs_add (by have := List.length_take_le a ws; have : (ws.drop (a + 1)).length ≤ ws.length := by simp
                      simp; omega)
  have ix : ixD (.lst (ws.map tx)) (.int (-1)) = some (tx (ws[ws.length - 1]'(by omega))) := by
    have := atI_last (xs := ws.map tx) (by simpa using hn)
    simp only [List.getElem_map, List.length_map] at this
    exact this
  have e2 : mBin (lift2 addD) (mVar 5) (mLst (mCons (mBin (lift2 ixD) (mVar 5) (mUn (lift1 negD) (mC (.int 1)))) mNil)) δ (c ++ [.lst (ws.map tx)]) = .ok (.d (.lst ((ws ++ [ws[ws.length - 1]'(by omega)]).map tx))) (c ++ [.lst (ws.map tx)]) := by
    refine bin (vr h5) (y := .d (.lst ([ws[ws.length - 1]'(by omega)].map tx))) (c'' := c ++ [.lst (ws.map tx)]) ((congrArg (fun r => R.bind r mkLst) (a1 (ix_cell hk (vr h5) rfl ix))).trans rfl) (l2c hk (txs_add (by simp; omega)))
  unfold altM mLstC
  rw [a2 (vr h5) (a2 e1 (a1 e2))]
  simp only [bind_ok, mkLstC]
  rw [if_pos ⟨rfl, small_size (by simp)⟩]
  simp
theorem pick_ok {ws : List (List Nat)} {a k : Nat} {A : M} {i : Nat} (hi : i < 3) (hn : 0 < ws.length) (hl : ws.length ≤ 10) (h5 : δ[5]? = some (some (.c c.length))) (h6 : δ[6]? = some (some (.d (.int a)))) (hA : ∀ c', A δ c' = .ok (.d (.int i)) c') :
    ∃ (us : List (List Nat)) (t : S) (c2 : Cs), mBin ixS altM A δ (c ++ [.lst (ws.map tx)]) = .ok t (c ++ c2) ∧ deref t (c ++ c2) = some (.lst (us.map tx)) ∧ us.length ≤ ws.length + 1 ∧ ∀ w ∈ us, w ∈ ws := by
  have e := alt_ok (c := c) (δ := δ) (ws := ws) (a := a) hn hl h5 h6
  have hk : (c ++ [CC.lst (ws.map tx), .lS [.c c.length, .d (.lst ((ws.take a ++ ws.drop (a + 1)).map tx)), .d (.lst ((ws ++ [ws[ws.length - 1]'(by omega)]).map tx))]])[c.length + 1]? = some (.lS [.c c.length, .d (.lst ((ws.take a ++ ws.drop (a + 1)).map tx)), .d (.lst ((ws ++ [ws[ws.length - 1]'(by omega)]).map tx))]) := by simp
  have hk0 : (c ++ [CC.lst (ws.map tx), .lS [.c c.length, .d (.lst ((ws.take a ++ ws.drop (a + 1)).map tx)), .d (.lst ((ws ++ [ws[ws.length - 1]'(by omega)]).map tx))]])[c.length]? = some (.lst (ws.map tx)) := by simp
  obtain ⟨ct, hct⟩ : ∃ ct : Cs, ct = [CC.lst (ws.map tx), .lS [.c c.length, .d (.lst ((ws.take a ++ ws.drop (a + 1)).map tx)), .d (.lst ((ws ++ [ws[ws.length - 1]'(by omega)]).map tx))]] := ⟨_, rfl⟩
  rw [← hct] at e hk hk0
  have : i = 0 ∨ i = 1 ∨ i = 2 := by omega
  rcases this with rfl | rfl | rfl
  · refine ⟨ws, .c c.length, ct, bin e (hA _) ?_, ?_, by omega, fun w hw => hw⟩
    · simp only [ixS, hk]; rfl
    · simp only [deref, hk0]
  · refine ⟨ws.take a ++ ws.drop (a + 1), .d (.lst ((ws.take a ++ ws.drop (a + 1)).map tx)), ct, bin e (hA _) ?_, rfl, by simp; omega, fun w hw => ?_⟩
    · simp only [ixS, hk]; rfl
    · rcases List.mem_append.mp hw with q | q
      · exact List.mem_of_mem_take q
      · exact List.mem_of_mem_drop q
  · refine ⟨ws ++ [ws[ws.length - 1]'(by omega)], .d (.lst ((ws ++ [ws[ws.length - 1]'(by omega)]).map tx)), ct, bin e (hA _) ?_, rfl, by simp, fun w hw => ?_⟩
    · simp only [ixS, hk]; rfl
    · rcases List.mem_append.mp hw with q | q
      · exact q
      · rw [List.mem_singleton.mp q]; exact List.getElem_mem _
theorem spoilt_ok {ws : List (List Nat)} {N : Nat} {c1 : Cs} (h : Wd ws) (hl : l = TL.joinL [32] ws) (hn : n < cb.length) (hb : BxAt cb n N c1) (hN : N ≤ 10000) :
    ∃ (l' : List Nat) (c2 : Cs), d_law_spoilt [.c n, .d (tx l)] c1 = .ok (.d (tx l')) c2 ∧ Tx l' ∧ BxAt cb n (N + 5) c2 := by
  have ht : Tx l := by rw [hl]; exact join_tx (k := 3) (n := 4) (fun w hw => (h.w3 w hw).1) (fun w hw => (h.w3 w hw).2.2) h.n4 (by omega)
  have l16 : l.length ≤ 16 := by
    have a := sum_bound 3 ws fun w hw => (h.w3 w hw).1
    have b := joinL_len ws
    have := h.n4
    rw [hl]; omega
  have hw : wds [] l = ws := by rw [hl]; exact wd_words h
  obtain ⟨way, c2, e2, hway, b2⟩ := takeN (e := []) (m := 6) hn hb (by omega) (by omega) (by omega)
  obtain ⟨spot, c3, e3, hspot, b3⟩ := takeN (e := []) (m := l.length + 1) hn b2 (by omega) (by omega) (by omega)
  obtain ⟨v, c4, e4, hv, b4⟩ := takeN (e := []) (m := 10) hn b3 (by omega) (by omega) (by omega)
  simp only [List.append_nil] at e2 e3 e4
  obtain ⟨x, ex, hx⟩ := sgn_ix hv
  have len4 : c4.length = cb.length := b4.len
  have len1 : c1.length = cb.length := hb.len
  have start : ∀ r, (sSeq (sIf (mTB (mBin (lift2 ltD) (mVar 2) (mC (.int 3)))) (sRet (mBin (lift2 addD) (mBin (lift2 addD) (mSl (mVar 1) moNone (moSome (mVar 3))) (mBin (lift2 ixD) (mLst (mCons (mVar 4) (mCons (mC (.str "")) (mCons (mVar 4) mNil)))) (mVar 2))) (mSl (mVar 1) (moSome (mBin (lift2 addD) (mVar 3) (mBin (lift2 ixD) (mLst (mCons (mC (.int 0)) (mCons (mC (.int 1)) (mCons (mC (.int 1)) mNil)))) (mVar 2)))) moNone))) sNil) (sSeq (sSet 5 (m1T splC (mVar 1) (mC (.str " ")))) (sSeq (sSet 6 (mBlt d_law_take (mCons (mVar 0) (mCons (mBlt (liftN (lenO lens)) (mCons (mVar 5) mNil)) mNil)))) (sSeq (sSetIx (mVar 5) (mVar 6) (mBin (lift2 ixD) newM (mBlt d_law_take (mCons (mVar 0) (mCons (mC (.int 10)) mNil))))) (sRet (m1T joinF (mC (.str " ")) (mBin ixS altM (mBin (lift2 subD) (mVar 2) (mC (.int 3)))))))))) [some (.c n), some (.d (tx l)), some (.d (.int way)), some (.d (.int spot)), some (.d (tx [x])), none, none] c4 = r →
      b_law_spoilt [some (.c n), some (.d (tx l)), none, none, none, none, none] c1 = r := fun r hr =>
    seq_go (par_ok (a2 (blt (a2 (vr rfl) (a1 rfl)) e2) (a1 (blt (a2 (vr rfl) (a1 (bin (blt (a1 (vr rfl)) (lN1 (len_tx ht))) rfl (l2 rfl)))) e3)))) (seq_go (set_ok (bin rfl (blt (a2 (vr rfl) (a1 rfl)) e4) (l2 ex))) hr)
  by_cases hw3 : way < 3
  · have main : ∀ (mid : List Nat) (d : Nat), (∀ c', mBin (lift2 ixD) (mLst (mCons (mVar 4) (mCons (mC (.str "")) (mCons (mVar 4) mNil)))) (mVar 2) [some (.c n), some (.d (tx l)), some (.d (.int way)), some (.d (.int spot)), some (.d (tx [x])), none, none] c' = .ok (.d (tx mid)) c') → (∀ c', mBin (lift2 ixD) (mLst (mCons (mC (.int 0)) (mCons (mC (.int 1)) (mCons (mC (.int 1)) mNil)))) (mVar 2) [some (.c n), some (.d (tx l)), some (.d (.int way)), some (.d (.int spot)), some (.d (tx [x])), none, none] c' = .ok (.d (.int d)) c') → mid.length ≤ 1 → (∀ y ∈ mid, y < 128) →
        ∃ (l' : List Nat) (c2 : Cs), d_law_spoilt [.c n, .d (tx l)] c1 = .ok (.d (tx l')) c2 ∧ Tx l' ∧ BxAt cb n (N + 5) c2 := by
      intro mid d hm hd m1 m2
      refine ⟨l.take spot ++ mid ++ l.drop (spot + d), c4, fn_tk (e := []) rfl (by omega) (start _ ?_), ?_, b4.mono (by omega)⟩
      · rw [List.append_nil]
        have hlt : (way : Int) < 3 := by omega
        have t1 : (l.take spot).length ≤ l.length := by simp; omega
        have t2 : (l.drop (spot + d)).length ≤ l.length := by simp
        exact seq_rt ((if_t (c' := c4) ((tb_ok (bin (vr rfl) rfl (l2 rfl))).trans (by simp [hlt]))).trans (ret_ok (bin (bin (sl_take ht (vr rfl) (vr rfl)) (hm _) (l2 (add_tx (by omega)))) (sl_drop (j := spot + d) ht (vr rfl) (bin (vr rfl) (hd _) (l2 rfl))) (l2 (add_tx (by rw [List.length_append]; omega))))))
      · have t1 : (l.take spot).length ≤ l.length := by simp; omega
        have t2 : (l.drop (spot + d)).length ≤ l.length := by simp
        refine ⟨by rw [List.length_append, List.length_append]; omega, fun y hy => ?_⟩
        rcases List.mem_append.mp hy with q | q
        · rcases List.mem_append.mp q with q | q
          · exact ht.pl y (List.mem_of_mem_take q)
          · exact m2 y q
        · exact ht.pl y (List.mem_of_mem_drop q)
    have : way = 0 ∨ way = 1 ∨ way = 2 := by omega
    rcases this with rfl | rfl | rfl
    · exact main [x] 0 (fun _ => rfl) (fun _ => rfl) (by simp) (by simpa using hx)
    · refine main [] 1 (fun c' => ?_) (fun _ => rfl) (by simp) (by simp)
      show R.ok (S.d (.str "")) c' = _
      rw [empt]
    · exact main [x] 1 (fun _ => rfl) (fun _ => rfl) (by simp) (by simpa using hx)
  · have n1 := h.n1
    have n4 := h.n4
    obtain ⟨a, c5, e5, ha, b5⟩ := takeN (e := [CC.lst (ws.map tx)]) (m := ws.length) hn b4 (by omega) (by omega) (by omega)
    obtain ⟨j, c6, e6, hj, b6⟩ := takeN (e := [CC.lst (ws.map tx)]) (m := 10) hn b5 (by omega) (by omega) (by omega)
    have len5 : c5.length = cb.length := b5.len
    have len6 : c6.length = cb.length := b6.len
    have hk4 : (c4 ++ [CC.lst (ws.map tx)])[c4.length]? = some (.lst (ws.map tx)) := by simp
    have hk5 : (c5 ++ [CC.lst (ws.map tx)])[c4.length]? = some (.lst (ws.map tx)) := by rw [len4, ← len5]; simp
    have hk6 : (c6 ++ [CC.lst (ws.map tx)])[c4.length]? = some (.lst (ws.map tx)) := by rw [len4, ← len6]; simp
    obtain ⟨vs, ev, v10, v6⟩ := new_ok (δ := [some (.c n), some (.d (tx l)), some (.d (.int way)), some (.d (.int spot)), some (.d (tx [x])), some (.c c4.length), some (.d (.int a))]) h ha hk5 (vr rfl) (vr rfl)
    have hj' : j < vs.length := by omega
    have ixv : ixD (.lst (vs.map tx)) (.int j) = some (tx vs[j]) := by
      have := atI_nat (xs := vs.map tx) (n := j) (by simpa using hj')
      rw [List.getElem_map] at this
      exact this
    have ixa : L2.ixN (ws.map tx).length a = some a := by
      unfold L2.ixN
      rw [if_pos (by omega), if_pos (by simp; omega)]
      simp
    obtain ⟨us, t, ct, ep, dp, ul, um⟩ := pick_ok (c := c6) (δ := [some (.c n), some (.d (tx l)), some (.d (.int way)), some (.d (.int spot)), some (.d (tx [x])), some (.c c4.length), some (.d (.int a))]) (ws := ws.set a vs[j]) (a := a) (k := 0) (A := mBin (lift2 subD) (mVar 2) (mC (.int 3))) (i := way - 3) (by omega) (by rw [List.length_set]; omega) (by simp; omega) (by rw [len4, ← len6]; rfl) rfl (fun c' => (bin (vr rfl) rfl (l2 (d := .int ((way : Int) - 3)) rfl)).trans (by congr 3; omega))
    have u6 : ∀ w ∈ us, W6 w := fun w hw => by
      have := um w hw
      rcases List.mem_or_eq_of_mem_set this with q | q
      · exact ⟨by have := (h.w3 w q).1; omega, (h.w3 w q).2.2⟩
      · rw [q]; exact v6 _ (List.getElem_mem hj')
    have ul' : us.length ≤ 5 := by simp at ul; omega
    have usum := sum_bound 6 us fun w hw => (u6 w hw).len
    refine ⟨TL.joinL [32] us, c6, fn_tk (e := ct) rfl (by omega) (start _ ?_), join_tx (k := 6) (n := 5) (fun w hw => (u6 w hw).len) (fun w hw => (u6 w hw).pl) ul' (by omega), b6.mono (by omega)⟩
    have hlt : ¬ (way : Int) < 3 := by omega
    have es : m1T splC (mVar 1) (mC (.str " ")) [some (.c n), some (.d (tx l)), some (.d (.int way)), some (.d (.int spot)), some (.d (tx [x])), none, none] c4 = .ok (.c c4.length) (c4 ++ [.lst (ws.map tx)]) := by
      have := splC_ok (c := c4) (δ := [some (.c n), some (.d (tx l)), some (.d (.int way)), some (.d (.int spot)), some (.d (tx [x])), none, none]) ht (vr (i := 1) rfl)
      rw [hw] at this
      exact this
    have el := len_cell hk4
    rw [List.length_map] at el
    refine seq_go (if_no ((tb_ok (bin (vr rfl) rfl (l2 rfl))).trans (by simp [hlt]))) (seq_go (set_ok es) (seq_go (set_ok (blt (a2 (vr rfl) (a1 (blt (a1 (vr rfl)) el))) e5)) (seq_go (set_cell2 (bin ev (blt (a2 (vr rfl) (a1 rfl)) e6) (l2 ixv)) (vr rfl) (vr rfl) hk6 ixa) (ret_ok ?_))))
    have ec : (c6 ++ [CC.lst (ws.map tx)]).set c4.length (.lst ((ws.map tx).set a (tx vs[j]))) = c6 ++ [.lst ((ws.set a vs[j]).map tx)] := by
      rw [len4, ← len6, List.set_append_right _ _ (Nat.le_refl _), Nat.sub_self, List.map_set]
      rfl
    rw [ec]
    exact join_ok2 ep dp (by omega)
end
end Dn

end
section
/-! K18_25: webs that are refused, and that are named. -/
namespace Dn
open PySem
section
variable {c cb : Cs} {δ : Sl} {s n : Nat} {x y : D}
theorem many_no (h : okA x) (hm : isManyD x = false) {i : Nat} (hv : mVar i δ c = .ok (.d x) c) : mtNot (mTB (mBlt d_is_many (mCons (mVar i) mNil))) δ c = .ok true c := (tnot_ok (tb_ok (blt (a1 hv) (is_many_any h)))).trans (by rw [hm]; rfl)
theorem many_yes (h1 : 1 ≤ s) (h3 : s ≤ 3) {i : Nat} (hv : mVar i δ c = .ok (.d (.int s)) c) : mtNot (mTB (mBlt d_is_many (mCons (mVar i) mNil))) δ c = .ok false c := by
  refine (tnot_ok (tb_ok (blt (a1 hv) (is_many_int _ _)))).trans ?_
  have a : (0 : Int) < s := by omega
  have b : (s : Int) < 4 := by omega
  simp only [a, b, decide_true, Bool.and_self, Bool.not_true]
theorem make_ex {B : MA} {k : Nat} {z : D} (hB : B δ c = .ok [.d x, .d y] c) (h : d_Web_init [.c c.length, .d x, .d y] (c ++ [.obj 0 []]) = .ex k [z] (c ++ [.obj 0 []])) : mMake 0 2 d_Web_init B δ c = .ex k [z] c := by
  unfold mMake
  rw [hB]
  simp only [bind_ok]
  rw [h]
  simp [Dn.fin]
theorem make_seat {B : MA} (h : okA x) (hm : isManyD x = false) (hB : B δ c = .ok [.d x, .d y] c) : mMake 0 2 d_Web_init B δ c = .ex 27 [x] c :=
  make_ex hB (fn_ex rfl (seq_ex ((if_t (many_no h hm (vr rfl))).trans (raise1_ok (vr rfl)))))
theorem make_lot {B : MA} (h1 : 1 ≤ s) (h3 : s ≤ 3) (h : okC y) (hm : areLotsD s y = false) (hB : B δ c = .ok [.d (.int s), .d y] c) : mMake 0 2 d_Web_init B δ c = .ex 26 [y] c :=
  make_ex hB (fn_ex rfl (seq_go (if_no (many_yes h1 h3 (vr rfl))) (seq_ex ((if_t ((tnot_ok (tb_ok (blt (a2 (vr rfl) (a1 (vr rfl))) (are_lots_any h)))).trans (by rw [hm]; rfl))).trans (raise1_ok (vr rfl))))))
/-! ### law_word -/
abbrev hdS : Hd := ⟨[27], [39, 13, 26], some 3, sRet (mLst (mCons (mC (.str "seat")) (mCons (mXf xf_given 3) mNil)))⟩
abbrev hdL : Hd := ⟨[26], [27, 39, 13], some 3, sRet (mLst (mCons (mC (.str "lot")) (mCons (mXf xf_given 3) mNil)))⟩
abbrev hdO : Hd := ⟨[12, 13, 39, 27, 26], [], none, sRet (mLst (mCons (mC (.str "other")) mNil))⟩
theorem run27 {z a b d : D} : runH [hdS, hdL, hdO] 27 [z] [some (.d a), some (.d b), some (.d d), none] c = .rt (.d (.lst [.str "seat", z])) c := rfl
theorem run26 {z a b d : D} : runH [hdS, hdL, hdO] 26 [z] [some (.d a), some (.d b), some (.d d), none] c = .rt (.d (.lst [.str "lot", z])) c := rfl
theorem wayI {a : Int} {b : Int} : mTB (mBin (eqV2 eqs 4) (mVar 0) (mC (.int b))) [some (.d (.int a)), some (.d x), some (.d y), none] c = .ok (a == b) c := tb_ok (bin (vr rfl) rfl (eqV2_int _ _))
abbrev w0 : MS := sExpr (mMake 0 2 d_Web_init (mCons (mVar 1) (mCons (mVar 2) mNil)))
abbrev w1 : MS := sExpr (mBlt d_full_web (mCons (mVar 1) (mCons (mVar 2) mNil)))
abbrev w2 : MS := sExpr (mBlt d_all_webs (mCons (mVar 1) (mCons (mVar 2) mNil)))
abbrev w3' : MS := sExpr (mBlt d_own_web (mCons (mVar 1) mNil))
abbrev w4 : MS := sExpr (mBlt d_time_web (mCons (mVar 1) mNil))
abbrev wIf : MS := sIf (mTB (mBin (eqV2 eqs 4) (mVar 0) (mC (.int 0)))) w0 (sIf (mTB (mBin (eqV2 eqs 4) (mVar 0) (mC (.int 1)))) w1 (sIf (mTB (mBin (eqV2 eqs 4) (mVar 0) (mC (.int 2)))) w2 (sIf (mTB (mBin (eqV2 eqs 4) (mVar 0) (mC (.int 3)))) w3' w4)))
def wOf : Nat → MS
  | 0 => w0
  | 1 => w1
  | 2 => w2
  | 3 => w3'
  | _ => w4
theorem wIf_eq {i : Nat} (hi : i ≤ 4) : wIf [some (.d (.int i)), some (.d x), some (.d y), none] c = wOf i [some (.d (.int i)), some (.d x), some (.d y), none] c := by
  have : i = 0 ∨ i = 1 ∨ i = 2 ∨ i = 3 ∨ i = 4 := by omega
  rcases this with rfl | rfl | rfl | rfl | rfl
  · exact if_t wayI
  · exact (if_f wayI).trans (if_t wayI)
  · exact (if_f wayI).trans ((if_f wayI).trans (if_t wayI))
  · exact (if_f wayI).trans ((if_f wayI).trans ((if_f wayI).trans (if_t wayI)))
  · exact (if_f wayI).trans ((if_f wayI).trans ((if_f wayI).trans (if_f wayI)))
theorem word_seat {i : Nat} {z : D} (hi : i ≤ 4) (h : wOf i [some (.d (.int i)), some (.d x), some (.d y), none] c = .ex 27 [z] [some (.d (.int i)), some (.d x), some (.d y), none] c) : d_law_word [.d (.int i), .d x, .d y] c = .ok (.d (.lst [.str "seat", z])) c :=
  fn_rt rfl (seq_rt (tryM_ex ((wIf_eq hi).trans h) run27))
theorem word_lot {i : Nat} {z : D} (hi : i ≤ 4) (h : wOf i [some (.d (.int i)), some (.d x), some (.d y), none] c = .ex 26 [z] [some (.d (.int i)), some (.d x), some (.d y), none] c) : d_law_word [.d (.int i), .d x, .d y] c = .ok (.d (.lst [.str "lot", z])) c :=
  fn_rt rfl (seq_rt (tryM_ex ((wIf_eq hi).trans h) run26))
theorem word_fine {i : Nat} (hi : i ≤ 4) (h : wOf i [some (.d (.int i)), some (.d x), some (.d y), none] c = .nx [some (.d (.int i)), some (.d x), some (.d y), none] c) : d_law_word [.d (.int i), .d x, .d y] c = .ok (.d (.lst [.str "fine"])) c :=
  fn_rt rfl (seq_go (tryM_nx ((wIf_eq hi).trans h)) (ret_ok rfl))
section
variable (h : okA x) (hm : isManyD x = false)
include h hm
theorem bad_first {i : Nat} (hi : i ≤ 4) : d_law_word [.d (.int i), .d x, .d y] c = .ok (.d (.lst [.str "seat", x])) c := by
  refine word_seat hi ?_
  have : i = 0 ∨ i = 1 ∨ i = 2 ∨ i = 3 ∨ i = 4 := by omega
  rcases this with rfl | rfl | rfl | rfl | rfl
  · exact expr_ex (make_seat h hm (a2 (vr rfl) (a1 (vr rfl))))
  · exact expr_ex (blt (a2 (vr rfl) (a1 (vr rfl))) (fn_ex rfl (seq_ex ((if_t (many_no h hm (vr rfl))).trans (raise1_ok (vr rfl))))))
  · exact expr_ex (blt (a2 (vr rfl) (a1 (vr rfl))) (fn_ex rfl (seq_ex ((if_t (many_no h hm (vr rfl))).trans (raise1_ok (vr rfl))))))
  · exact expr_ex (blt (a1 (vr rfl)) (fn_ex rfl (seq_ex ((if_t (many_no h hm (vr rfl))).trans (raise1_ok (vr rfl))))))
  · exact expr_ex (blt (a1 (vr rfl)) (fn_ex rfl (seq_ex ((if_t (many_no h hm (vr rfl))).trans (raise1_ok (vr rfl))))))
theorem bad_second {i : Nat} (h1 : 1 ≤ s) (h3 : s ≤ 3) (hi : i = 1 ∨ i = 2) : d_law_word [.d (.int i), .d (.int s), .d x] c = .ok (.d (.lst [.str "seat", x])) c := by
  refine word_seat (by omega) ?_
  rcases hi with rfl | rfl
  · exact expr_ex (blt (a2 (vr rfl) (a1 (vr rfl))) (fn_ex rfl (seq_go (if_no (many_yes h1 h3 (vr rfl))) (seq_ex ((if_t (many_no h hm (vr rfl))).trans (raise1_ok (vr rfl)))))))
  · exact expr_ex (blt (a2 (vr rfl) (a1 (vr rfl))) (fn_ex rfl (seq_go (if_no (many_yes h1 h3 (vr rfl))) (seq_ex ((if_t (many_no h hm (vr rfl))).trans (raise1_ok (vr rfl)))))))
end
theorem bad_lots (h1 : 1 ≤ s) (h3 : s ≤ 3) (h : okC x) (hm : areLotsD s x = false) : d_law_word [.d (.int 0), .d (.int s), .d x] c = .ok (.d (.lst [.str "lot", x])) c :=
  word_lot (i := 0) (by omega) (expr_ex (make_lot h1 h3 h hm (a2 (vr rfl) (a1 (vr rfl)))))
/-! ### full_web -/
def rngI (s : Nat) : List Int := (List.range s).map fun (i : Nat) => (i : Int)
theorem rngI_ok (h : s ≤ 3) : LotOk s (rngI s) := by
  have := sub_lot (List.Sublist.refl (List.range s))
  exact this
theorem lstRng_ok {A : M} (h : A δ c = .ok (.d (.int s)) c) (hs : s ≤ 3) : mLstRng A δ c = .ok (.d (lotL (rngI s))) c := by
  unfold mLstRng
  rw [h]
  have : (s : Int) ≤ 16777216 ∧ -(2 ^ 62) ≤ (s : Int) := by omega
  simp only [bind_ok, lstRng]
  rw [if_pos (by omega)]
  simp [lotL, rngL, rngI]
theorem full_ok (h1 : 1 ≤ s) (h3 : s ≤ 3) (n1 : 1 ≤ n) (n3 : n ≤ 3) : d_full_web [.d (.int s), .d (.int n)] c = .ok (.d (wb s (List.replicate n (rngI s)))) c := by
  have hw : WOk s (List.replicate n (rngI s)) := ⟨by omega, by omega, by simpa using n1, by simpa using n3, fun l hl => by rw [(List.mem_replicate.mp hl).2]; exact rngI_ok h3⟩
  refine fn_rt rfl (seq_go (if_no (many_yes h1 h3 (vr rfl))) (seq_go (if_no (many_yes n1 n3 (vr rfl))) (ret_ok (make_web hw (a2 (vr rfl) (a1 ?_))))))
  refine (compM (List.range n) (fun (i : Nat) => D.int (i : Int)) (fun _ => lotL (rngI s)) (rng_ok (a1 (vr rfl)) (by omega)) (small_size (by simp; omega)) fun i _ => ⟨_, rfl, fun c' => ?_⟩).trans ?_
  · exact lstRng_ok (vr rfl) h3
  · congr 3
    rw [List.map_replicate, List.map_const']
    simp
end
end Dn

end
section
/-! K18_26: all webs. -/
namespace Dn
open PySem
section
variable {c cb : Cs} {δ : Sl} {s n : Nat} {x y : D}
def allL : Nat → List (List Int)
  | 0 => [[]]
  | k + 1 => allL k ++ (allL k).map fun m => m ++ [(k : Int)]
theorem allL_len : ∀ k, (allL k).length = 2 ^ k
  | 0 => rfl
  | k + 1 => by
    unfold allL
    rw [List.length_append, List.length_map, allL_len k, Nat.pow_succ]
    omega
theorem allL_ok : ∀ k, ∀ m ∈ allL k, LotOk k m
  | 0, m, h => by
    rw [List.mem_singleton.mp h]
    exact ⟨fun x hx => by simp at hx, List.Pairwise.nil⟩
  | k + 1, m, h => by
    unfold allL at h
    rcases List.mem_append.mp h with q | q
    · have := allL_ok k m q
      exact ⟨fun x hx => by have := this.pl x hx; omega, this.so⟩
    · obtain ⟨z, hz, rfl⟩ := List.mem_map.mp q
      have := allL_ok k z hz
      refine ⟨fun x hx => ?_, ?_⟩
      · rcases List.mem_append.mp hx with a | a
        · have := this.pl x a; omega
        · rw [List.mem_singleton.mp a]; omega
      · rw [List.pairwise_append]
        refine ⟨this.so, List.pairwise_singleton _ _, fun a ha b hb => ?_⟩
        rw [List.mem_singleton.mp hb]
        have := this.pl a ha
        omega
theorem datas_map (zs : List D) : datas (zs.map S.d) = some zs := by
  induction zs with
  | nil => rfl
  | cons a r ih => simp [datas, ih]
/-- [*xs, y] -/
theorem star_ok {A B : M} {xs : List D} (hA : A δ c = .ok (.d (.lst xs)) c) (hB : B δ c = .ok (.d y) c) (hl : xs.length ≤ 500) : mLst (mStarC A (mCons B mNil)) δ c = .ok (.d (.lst (xs ++ [y]))) c := by
  have e : mStarC A (mCons B mNil) δ c = .ok ((xs ++ [y]).map S.d) c := by
    unfold mStarC
    rw [hA]
    simp only [bind_ok, starF, deref]
    rw [a1 hB]
    simp
  refine (congrArg (fun r => R.bind r mkLst) e).trans ?_
  show mkLst _ c = _
  unfold mkLst
  rw [datas_map]
  exact if_pos (small_size (by simp; omega))
theorem ext_ok {A : M} {B : MA} {acc ys : List D} (hA : A δ (c ++ [.lst acc]) = .ok (.c c.length) (c ++ [.lst acc])) (hB : B δ (c ++ [.lst acc]) = .ok [.d (.lst ys)] (c ++ [.lst acc])) (hl : acc.length + ys.length ≤ 900) : mExtend A B δ (c ++ [.lst acc]) = .ok (.d .non) (c ++ [.lst (acc ++ ys)]) := by
  have e0 : (c ++ [CC.lst acc])[c.length]? = some (CC.lst acc) := by simp
  unfold mExtend
  rw [hA]
  simp only [bind_ok, e0]
  rw [hB]
  simp only [bind_ok, extC, e0, deref]
  rw [if_pos (small_size (by omega))]
  simp
abbrev alB : MS := sExpr (mExtend (mVar 1) (mCons (mComp (iSeq (mBlt (liftN listD) (mCons (mVar 1) mNil))) (gtName 3) mtYes (mLst (mStarC (mVar 3) (mCons (mVar 2) mNil))) [3]) mNil))
theorem lot_add (m : List Int) (i : Int) : (lotL m, i).1 = lotL m := rfl
theorem alikeAll_ints : ∀ a b : List Int, PySem.W.alikeAll (pys (a.map D.int)) (pys (b.map D.int)) = true
  | [], b => by unfold pys; simp [PySem.W.alikeAll]
  | _ :: _, [] => by simp [pys, PySem.W.alikeAll]
  | x :: a, y :: b => by
    simp only [List.map_cons, pys, PySem.W.alikeAll, D.py, PySem.W.alike, Bool.true_and]
    exact alikeAll_ints a b
theorem sort_lots (L : List (List Int)) : sortOk (L.map lotL) = true := by
  unfold sortOk
  have h1 : (L.map lotL).all (D.ok 50) = true := by
    rw [List.all_eq_true]; intro z hz
    obtain ⟨m, _, rfl⟩ := List.mem_map.mp hz
    unfold lotL D.ok
    rw [oks_int]
    rfl
  have h2 : allAlike (L.map lotL) = true := by
    unfold allAlike
    rw [List.all_eq_true]; intro a ha
    rw [List.all_eq_true]; intro b hb
    obtain ⟨m, _, rfl⟩ := List.mem_map.mp ha
    obtain ⟨k, _, rfl⟩ := List.mem_map.mp hb
    simp only [lotL, D.py, PySem.W.alike]
    exact alikeAll_ints m k
  have h3 : (L.map lotL).all (fun x => notTup x.py) = true := by
    rw [List.all_eq_true]; intro a ha
    obtain ⟨m, _, rfl⟩ := List.mem_map.mp ha
    simp only [lotL, D.py, notTup]
  rw [h1, h2, h3]
  simp
theorem lots_of : ∀ (zs : List D) (L : List (List Int)), (∀ z ∈ zs, z ∈ L.map lotL) → ∃ ms : List (List Int), zs = ms.map lotL ∧ ∀ m ∈ ms, m ∈ L
  | [], L, _ => ⟨[], rfl, fun m hm => by simp at hm⟩
  | z :: zs, L, h => by
    obtain ⟨m, hm, rfl⟩ := List.mem_map.mp (h z List.mem_cons_self)
    obtain ⟨ms, rfl, k⟩ := lots_of zs L fun y hy => h y (List.mem_cons_of_mem _ hy)
    refine ⟨m :: ms, rfl, fun y hy => ?_⟩
    rcases List.mem_cons.mp hy with rfl | q
    · exact hm
    · exact k y q
theorem fn_take {kp : Bool} {np m : Nat} {b : MS} {ss : List S} {x : D} {e : Cs} (h : ss.length = np) (k : b (ss.map some ++ List.replicate (m - np) none) c = .rt (.d x) (c ++ e)) : fnG kp np m b ss c = .ok (.d x) c := by
  rw [fnG_eq h, k]
  simp [exitR]
theorem all_lots_ok (h3 : s ≤ 3) : ∃ ms : List (List Int), (∀ c, d_all_lots [.d (.int s)] c = .ok (.d (.lst (ms.map lotL))) c) ∧ ms.length ≤ 8 ∧ ∀ m ∈ ms, LotOk s m := by
  obtain ⟨ms, em, hm⟩ := lots_of (sortL ((allL s).map lotL)) (allL s) fun z hz => sortL_mem.mp hz
  have hlen : ms.length = 2 ^ s := by
    have := congrArg List.length em
    rw [List.length_map, sortL, List.length_mergeSort, List.length_map, allL_len] at this
    exact this.symm
  have h8 : 2 ^ s ≤ 2 ^ 3 := Nat.pow_le_pow_right (by omega) h3
  refine ⟨ms, fun c => ?_, by omega, fun m hm' => allL_ok s m (hm m hm')⟩
  obtain ⟨δ', c', e, x2, rfl, rfl⟩ := for_inv (δ := [some (.d (.int s)), some (.c c.length), none, none]) (c := c ++ [.lst [.lst []]]) (I := iRng (mCons (mVar 0) mNil)) (g := gtName 2) (B := alB) (List.range s) (fun (i : Nat) => D.int (i : Int))
    (fun done δ c' => ∃ x2, δ = [some (.d (.int s)), some (.c c.length), x2, none] ∧ c' = c ++ [.lst ((allL done.length).map lotL)]) (rng_ok (a1 (vr rfl)) (by omega)) ⟨none, rfl, rfl⟩ (by
      rintro d y r δ c2 hy ⟨x2, rfl, rfl⟩
      have hdy : y = d.length ∧ d.length < 3 := by
        have hlen := congrArg List.length hy
        simp at hlen
        have := congrArg (fun l : List Nat => l[d.length]?) hy
        simp at this
        rw [List.getElem?_range (by omega)] at this
        simp at this
        omega
      obtain ⟨rfl, hd3⟩ := hdy
      have p8 : 2 ^ d.length ≤ 2 ^ 3 := Nat.pow_le_pow_right (by omega) (by omega)
      have hal := allL_len d.length
      have e0 : (c ++ [CC.lst ((allL d.length).map lotL)])[c.length]? = some (.lst ((allL d.length).map lotL)) := by simp
      refine ⟨_, _, _, rfl, expr_ok (ext_ok (ys := (allL d.length).map fun m => lotL (m ++ [(d.length : Int)])) (vr rfl) (a1 (compM (allL d.length) lotL (fun m => lotL (m ++ [(d.length : Int)])) ?_ (small_size (by omega)) fun m hm => ⟨_, rfl, fun c' => ?_⟩)) (by simp; omega)), some (.d (.int d.length)), rfl, ?_⟩
      · refine seqI (s := .d (.lst ((allL d.length).map lotL))) (blt (a1 (vr rfl)) ?_) rfl
        simp only [liftN, derefs, deref, e0]
        rfl
      · have hk := (allL_ok d.length m hm).len (by omega)
        refine (star_ok (xs := m.map D.int) (y := .int d.length) (vr rfl) (vr rfl) (by simp; omega)).trans ?_
        simp [lotL]
      · rw [List.length_append, List.length_singleton]
        simp [allL])
  refine fn_take (e := [.lst ((allL s).map lotL)]) rfl (seq_go (set_ok (s := .c c.length) (c' := c ++ [CC.lst [D.lst []]]) rfl) (seq_go e (ret_ok (blt (a1 (vr rfl)) ?_))))
  rw [List.length_range]
  have e0 : (c ++ [CC.lst ((allL s).map lotL)])[c.length]? = some (.lst ((allL s).map lotL)) := by simp
  simp only [liftN, derefs, deref, e0]
  show (match (if sortOk ((allL s).map lotL) = true then some (D.lst (sortL ((allL s).map lotL))) else none) with
    | some d => R.ok (S.d d) _
    | none => .bad) = _
  rw [if_pos (sort_lots _), em]
/-! ### all webs -/
abbrev lsD (L : List (List Int)) : D := .lst (L.map lotL)
def allW (ms : List (List Int)) : Nat → List (List (List Int))
  | 0 => [[]]
  | k + 1 => (allW ms k).flatMap fun L => ms.map fun m => L ++ [m]
theorem allW_ok {ms : List (List Int)} : ∀ k, ∀ L ∈ allW ms k, L.length = k ∧ ∀ m ∈ L, m ∈ ms
  | 0, L, h => by
    rw [List.mem_singleton.mp h]
    exact ⟨rfl, fun m hm => by simp at hm⟩
  | k + 1, L, h => by
    unfold allW at h
    obtain ⟨z, hz, q⟩ := List.mem_flatMap.mp h
    obtain ⟨m, hm, rfl⟩ := List.mem_map.mp q
    obtain ⟨a, b⟩ := allW_ok k z hz
    refine ⟨by simp [a], fun y hy => ?_⟩
    rcases List.mem_append.mp hy with w | w
    · exact b y w
    · rw [List.mem_singleton.mp w]; exact hm
theorem allW_len {ms : List (List Int)} (h : ms.length ≤ 8) : ∀ k, (allW ms k).length ≤ 8 ^ k
  | 0 => by simp [allW]
  | k + 1 => by
    have ih := allW_len h k
    unfold allW
    rw [List.length_flatMap]
    have : ((allW ms k).map fun L => (ms.map fun m => L ++ [m]).length).sum ≤ 8 * (allW ms k).length := by
      generalize allW ms k = F
      induction F with
      | nil => simp
      | cons a r ih2 => simp only [List.map_cons, List.sum_cons, List.length_cons, List.length_map] at ih2 ⊢; omega
    rw [Nat.pow_succ]
    omega
abbrev awB : MS := sSet 2 (mComp2 (iSeq (mVar 2)) (gtName 4) mtYes (iSeq (mBlt d_all_lots (mCons (mVar 0) mNil))) (gtName 5) mtYes (mLst (mStarC (mVar 4) (mCons (mVar 5) mNil))) [4, 5] [5])
theorem all_webs_ok (h1 : 1 ≤ s) (h3 : s ≤ 3) (n1 : 1 ≤ n) (n3 : n ≤ 3) : ∃ d, d_all_webs [.d (.int s), .d (.int n)] c = .ok (.d d) c := by
  obtain ⟨ms, em, m8, mok⟩ := all_lots_ok h3
  obtain ⟨δ', c', e, x3, rfl, rfl⟩ := for_inv (δ := [some (.d (.int s)), some (.d (.int n)), some (.d (.lst [.lst []])), none, none, none]) (c := c) (I := iRng (mCons (mVar 1) mNil)) (g := gtName 3) (B := awB) (List.range n) (fun (i : Nat) => D.int (i : Int))
    (fun done δ c' => ∃ x3, δ = [some (.d (.int s)), some (.d (.int n)), some (.d (.lst ((allW ms done.length).map lsD))), x3, none, none] ∧ c' = c) (rng_ok (a1 (vr rfl)) (by omega)) ⟨none, rfl, rfl⟩ (by
      rintro d y r δ c2 hy ⟨x3, rfl, rfl⟩
      have hd3 : d.length < 3 := by
        have hlen := congrArg List.length hy
        simp at hlen
        omega
      have p8 : 8 ^ (d.length + 1) ≤ 8 ^ 3 := Nat.pow_le_pow_right (by omega) (by omega)
      have hl1 := allW_len m8 (d.length + 1)
      refine ⟨_, _, _, rfl, set_ok (comp2M (allW ms d.length) lsD (fun _ => ms) lotL (fun L m => lsD (L ++ [m])) (seqI (vr rfl) rfl) ?_ fun L hL => ⟨_, rfl, fun c' => seqI (blt (a1 (vr rfl)) (em _)) rfl, fun m hm => ⟨_, rfl, fun c' => ?_⟩⟩), some (.d (.int y)), ?_, rfl⟩
      · have el : ((allW ms d.length).flatMap fun L => ms.map fun m => lsD (L ++ [m])) = (allW ms (d.length + 1)).map lsD := by
          rw [allW, List.map_flatMap]
          congr 1
          funext L
          rw [List.map_map]
          rfl
        rw [el, List.length_map]
        exact small_size (by omega)
      · have := (allW_ok d.length L hL).1
        refine (star_ok (xs := L.map lotL) (y := lotL m) (vr rfl) (vr rfl) (by simp; omega)).trans ?_
        simp
      · have el : ((allW ms d.length).flatMap fun L => ms.map fun m => lsD (L ++ [m])) = (allW ms (d.length + 1)).map lsD := by
          rw [allW, List.map_flatMap]
          congr 1
          funext L
          rw [List.map_map]
          rfl
        rw [List.length_append, List.length_singleton, ← el]
        rfl)
  rw [List.length_range] at e
  have p8 : 8 ^ n ≤ 8 ^ 3 := Nat.pow_le_pow_right (by omega : 0 < 8) n3
  have hl1 := allW_len m8 n
  refine ⟨_, fn_rt rfl (seq_go (if_no (many_yes h1 h3 (vr rfl))) (seq_go (if_no (many_yes n1 n3 (vr rfl))) (seq_go (set_ok (s := .d (.lst [.lst []])) (c' := c') rfl) (seq_go e (ret_ok (compM (allW ms n) lsD (fun L => wb s L) (seqI (vr rfl) rfl) (small_size (by omega)) fun L hL => ⟨_, rfl, fun c' => make_web ?_ (a2 (vr rfl) (a1 (vr rfl)))⟩))))))⟩
  obtain ⟨a, b⟩ := allW_ok n L hL
  exact ⟨by omega, by omega, by omega, by omega, fun l hl => mok l (b l hl)⟩
end
end Dn

end
section
/-! K18_27: values that are refused. -/
namespace Dn
open PySem
section
variable {c cb : Cs} {δ : Sl} {s n : Nat} {x y : D} {ls : List (List Int)}
abbrev rat (k : Int) : D := .obj 1 [.int k, .int 1]
theorem rat_ok {k : Int} {B : MA} (h : B δ c = .ok [.d (.int k)] c) : mMake 1 2 d_Ratio_init (mDfl B 1) δ c = .ok (.d (rat k)) c := by
  have h2 : mDfl B 1 δ c = .ok [.d (.int k), .d (.int 1)] c := by unfold mDfl; rw [h]; rfl
  have hd : divOk 1 = true := by decide +kernel
  have d1 : fdivD (.int 1) (.int 1) = some (.int 1) := rfl
  have dk : fdivD (.int k) (.int 1) = some (.int k) := by
    show (if divOk 1 = true then some (D.int (k.fdiv 1)) else none) = _
    rw [if_pos hd, Int.fdiv_one]
  have gk : gcdD [.int k, .int 1] = some (.int 1) := by
    show some (D.int (Nat.gcd k.natAbs 1 : Nat)) = _
    rw [Nat.gcd_one_right]
    rfl
  have key : d_Ratio_init [.c c.length, .d (.int k), .d (.int 1)] (c ++ [.obj 1 []]) = .ok (.d .non) (c ++ [.obj 1 [.int k, .int 1]]) := by
    refine fn_to (δ' := [some (.c c.length), some (.d (.int k)), some (.d (.int 1)), some (.d (.int 1))]) rfl ?_ (by simp)
    have gl : liftN gcdD [.d (.int k), .d (.int 1)] (c ++ [.obj 1 []]) = .ok (.d (.int 1)) (c ++ [.obj 1 []]) := by simp only [liftN, derefs, deref, gk]
    exact seq_go (if_no rfl) (seq_go (set_ok (s := .d (.int 1)) (blt (a2 (vr rfl) (a1 (vr rfl))) gl)) (seq_go (if_no rfl) (seq_go (fld_ok (bin (vr rfl) (vr rfl) (l2 dk)) (vr rfl) rfl rfl) (fld_ok (bin (vr rfl) (vr rfl) (l2 d1)) (vr rfl) rfl rfl))))
  unfold mMake
  rw [h2]
  simp only [bind_ok]
  rw [key]
  simp [Dn.fin]
theorem eqR_rat2 {f : Nat} : eqR eqs (f + 1) (rat 2) (rat 2) = some true := by
  have h : d_Ratio_eq [.d (rat 2), .d (rat 2)] [] = .ok (.d (.bl true)) [] := rfl
  unfold eqR
  rw [if_neg (by simp [D.ok])]
  simp only [objEq, if_true, eqs, look, h, isB]
theorem eqR_rat0 {f : Nat} : eqR eqs (f + 1) (rat 0) (rat 0) = some true := by
  have h : d_Ratio_eq [.d (rat 0), .d (rat 0)] [] = .ok (.d (.bl true)) [] := rfl
  unfold eqR
  rw [if_neg (by simp [D.ok])]
  simp only [objEq, if_true, eqs, look, h, isB]
theorem ok_str {z : Str} (h : PyData.strOk z = true) (n : Nat) : (D.str z).ok n = true := by unfold D.ok; exact h
/-! ### numbers of seats -/
structure BadS (x : D) : Prop where
  a : okA x
  m : isManyD x = false
  e : eqR eqs 4 x x = some true
def bseats : List D := [.non, .int 0, .int 4, .int (-1), .bl true, .str "2", .lst [.int 2], .tup [], rat 2, .int (10 ^ 25), .dct [.inr "a"] [.int 1]]
theorem bseats_bad : ∀ x ∈ bseats, BadS x := by
  intro x hx
  simp only [bseats, List.mem_cons, List.not_mem_nil, or_false] at hx
  rcases hx with rfl | rfl | rfl | rfl | rfl | rfl | rfl | rfl | rfl | rfl | rfl
  · exact ⟨trivial, rfl, eqR_ok50 _ rfl⟩
  · exact ⟨trivial, rfl, eqR_ok50 _ rfl⟩
  · exact ⟨trivial, rfl, eqR_ok50 _ rfl⟩
  · exact ⟨trivial, rfl, eqR_ok50 _ rfl⟩
  · exact ⟨trivial, rfl, eqR_ok50 _ rfl⟩
  · exact ⟨trivial, rfl, eqR_ok50 _ (ok_str (by decide +kernel) _)⟩
  · exact ⟨trivial, rfl, eqR_ok50 _ rfl⟩
  · exact ⟨trivial, rfl, eqR_ok50 _ rfl⟩
  · exact ⟨.inr rfl, rfl, eqR_rat2⟩
  · exact ⟨trivial, by decide, eqR_ok50 _ rfl⟩
  · exact ⟨trivial, rfl, rfl⟩
theorem bad_seats_ok : d_law_bad_seats [] c = .ok (.d (.lst bseats)) c := by
  have e25 : powD (.int 10) (.int 25) = some (.int (10 ^ 25)) := by
    have : powOk 10 25 = true := by decide +kernel
    simp only [powD, this, if_true]
    rfl
  exact fn_rt rfl (ret_ok ((congrArg (fun r => R.bind r mkLst) (a2 rfl (a2 rfl (a2 rfl (a2 rfl (a2 rfl (a2 rfl (a2 (s := .d (.lst [.int 2])) rfl (a2 (s := .d (.tup [])) rfl (a2 (rat_ok (a1 rfl)) (a2 (bin rfl rfl (l2 e25)) (a1 rfl)))))))))))).trans rfl))
/-! ### lots -/
structure BadL (s : Nat) (x : D) : Prop where
  a : okC x
  m : areLotsD s x = false
  e : eqR eqs 4 x x = some true
theorem okC1 {z : D} (h : okB z) : okC (.lst [z]) := ⟨by simp, fun w hw => by rw [List.mem_singleton.mp hw]; exact h⟩
theorem okB1 {z : D} (h : okA z) : okB (.lst [z]) := ⟨by simp, fun w hw => by rw [List.mem_singleton.mp hw]; exact h⟩
theorem okB_int (l : List Int) (h : l.length ≤ 100) : okB (.lst (l.map D.int)) := ⟨by simpa using h, okA_int⟩
theorem three_s (h1 : 1 ≤ s) (h3 : s ≤ 3) : s = 1 ∨ s = 2 ∨ s = 3 := by omega
theorem eqR_one {f : Nat} {z : D} (h : eqR eqs f z z = some true) : eqR eqs (f + 1) (.lst [z]) (.lst [z]) = some true := eqR_lst fun w hw => by rw [List.mem_singleton.mp hw]; exact h
def bl1 (s : Nat) (ls : List (List Int)) : List D := [.non, .lst [], .tup [], .int 5, .str "01", .dct [.inr "a"] [.int 1], .lst [.lst [], .lst [], .lst [], .lst []], .lst ((ls.map lotL).take 2 ++ [.non]), .lst [.lst [.int 0, .int 0]], .lst [.lst [.int s]], .lst [.lst [.int (-1)]], .lst [.lst [.bl true]]]
def bl2 : List D := [.lst [.lst [.str "0"]], .lst [.lst [.non]], .lst [.int 0], .lst [.lst [.str "a"]], .lst [.lst [rat 0]], .lst [.dct [.inr "a"] [.int 0]], .lst [.lst [.lst [.int 0]]], .lst [.lst [.int 0], .lst [.int (10 ^ 20)]], .lst [.str "0"]]
def bl3 : List D := [.lst [.lst [.int 1, .int 0]], .lst [.lst [], .lst [.int 0, .int 2, .int 1]], .lst [.lst [.int 0, .int 1, .int 2, .int 3]]]
theorem areL1 {z : D} (h : isLotD s z = false) : areLotsD s (.lst [z]) = false := by simp [areLotsD, h]
theorem lot1 {z : D} (h : isPlaceD s z = false) : isLotD s (.lst [z]) = false := by simp [isLotD, h]
theorem bl1_bad (h1 : 1 ≤ s) (h3 : s ≤ 3) (h : WOk s ls) : ∀ x ∈ bl1 s ls, BadL s x := by
  intro x hx
  simp only [bl1, List.mem_cons, List.not_mem_nil, or_false] at hx
  rcases hx with rfl | rfl | rfl | rfl | rfl | rfl | rfl | rfl | rfl | rfl | rfl | rfl
  · exact ⟨trivial, rfl, eqR_ok50 _ rfl⟩
  · exact ⟨⟨by simp, by simp⟩, rfl, eqR_ok50 _ rfl⟩
  · exact ⟨⟨by simp, by simp⟩, rfl, eqR_ok50 _ rfl⟩
  · exact ⟨trivial, rfl, eqR_ok50 _ rfl⟩
  · exact ⟨trivial, rfl, eqR_ok50 _ (ok_str (by decide +kernel) _)⟩
  · exact ⟨trivial, rfl, rfl⟩
  · refine ⟨⟨by simp, fun z hz => ?_⟩, by simp [areLotsD], eqR_ok50 _ rfl⟩
    simp only [List.mem_cons, List.not_mem_nil, or_false, or_self] at hz
    subst hz
    exact ⟨by simp, by simp⟩
  · have l3 := h.l3
    have hz : ∀ z ∈ (ls.map lotL).take 2 ++ [D.non], z = .non ∨ ∃ m ∈ ls, z = lotL m := fun z hz => by
      rcases List.mem_append.mp hz with q | q
      · obtain ⟨m, hm, e⟩ := List.mem_map.mp (List.mem_of_mem_take q)
        exact .inr ⟨m, hm, e.symm⟩
      · exact .inl (List.mem_singleton.mp q)
    refine ⟨⟨by simp; omega, fun z q => ?_⟩, ?_, eqR_lst fun z q => ?_⟩
    · rcases hz z q with rfl | ⟨m, hm, rfl⟩
      · exact trivial
      · exact okB_int m (by have := (h.ok m hm).len h.hi; omega)
    · have : ((ls.map lotL).take 2 ++ [D.non]).all (isLotD s) = false := by
        rw [List.all_append]
        simp [isLotD]
      show (decide (1 ≤ ((ls.map lotL).take 2 ++ [D.non]).length) && decide (((ls.map lotL).take 2 ++ [D.non]).length ≤ 3) && ((ls.map lotL).take 2 ++ [D.non]).all (isLotD s)) = false
      rw [this, Bool.and_false]
    · rcases hz z q with rfl | ⟨m, hm, rfl⟩
      · exact eqR_ok50 _ rfl
      · exact eqR_ok50 _ (by unfold lotL D.ok; rw [oks_int]; rfl)
  · exact ⟨okC1 (okB_int [0, 0] (by simp)), areL1 (by simp [isLotD, iOf, ascL]), eqR_ok50 _ rfl⟩
  · exact ⟨okC1 (okB1 trivial), areL1 (lot1 (by simp [isPlaceD])), eqR_ok50 _ rfl⟩
  · exact ⟨okC1 (okB1 trivial), areL1 (lot1 (by simp [isPlaceD])), eqR_ok50 _ rfl⟩
  · exact ⟨okC1 (okB1 trivial), areL1 (lot1 rfl), eqR_ok50 _ rfl⟩
theorem bl2_bad (h1 : 1 ≤ s) (h3 : s ≤ 3) : ∀ x ∈ bl2, BadL s x := by
  intro x hx
  have big : ¬ ((10 : Int) ^ 20 < (s : Int)) := by
    have : (10 : Int) ^ 20 = 100000000000000000000 := by decide +kernel
    rw [this]; omega
  simp only [bl2, List.mem_cons, List.not_mem_nil, or_false] at hx
  rcases hx with rfl | rfl | rfl | rfl | rfl | rfl | rfl | rfl | rfl
  · exact ⟨okC1 (okB1 trivial), areL1 (lot1 rfl), eqR_one (eqR_one (eqR_ok50 _ (ok_str (by decide +kernel) _)))⟩
  · exact ⟨okC1 (okB1 trivial), areL1 (lot1 rfl), eqR_ok50 _ rfl⟩
  · exact ⟨okC1 trivial, areL1 rfl, eqR_ok50 _ rfl⟩
  · exact ⟨okC1 (okB1 trivial), areL1 (lot1 rfl), eqR_one (eqR_one (eqR_ok50 _ (ok_str (by decide +kernel) _)))⟩
  · exact ⟨okC1 (okB1 (.inr rfl)), areL1 (lot1 rfl), eqR_one (eqR_one eqR_rat0)⟩
  · exact ⟨okC1 trivial, areL1 rfl, eqR_one rfl⟩
  · exact ⟨okC1 (okB1 trivial), areL1 (lot1 rfl), eqR_ok50 _ rfl⟩
  · refine ⟨⟨by simp, fun z hz => ?_⟩, ?_, eqR_ok50 _ rfl⟩
    · simp only [List.mem_cons, List.not_mem_nil, or_false] at hz
      rcases hz with rfl | rfl
      · exact okB1 trivial
      · exact okB1 trivial
    · have pl : isPlaceD s (.int (10 ^ 20)) = false := by
        show (decide (0 ≤ (10 : Int) ^ 20) && decide ((10 : Int) ^ 20 < s)) = false
        rw [decide_eq_false big, Bool.and_false]
      have : isLotD s (.lst [.int (10 ^ 20)]) = false := lot1 pl
      show (decide (1 ≤ 2) && decide (2 ≤ 3) && (isLotD s (.lst [.int 0]) && (isLotD s (.lst [.int (10 ^ 20)]) && true))) = false
      rw [this, Bool.false_and, Bool.and_false, Bool.and_false]
  · exact ⟨okC1 trivial, areL1 rfl, eqR_one (eqR_ok50 _ (ok_str (by decide +kernel) _))⟩
theorem bl3_bad (h1 : 1 ≤ s) (h3 : s ≤ 3) : ∀ x ∈ bl3, BadL s x := by
  intro x hx
  simp only [bl3, List.mem_cons, List.not_mem_nil, or_false] at hx
  rcases hx with rfl | rfl | rfl
  · exact ⟨okC1 (okB_int [1, 0] (by simp)), areL1 (by simp [isLotD, iOf, ascL]), eqR_ok50 _ rfl⟩
  · refine ⟨⟨by simp, fun z hz => ?_⟩, ?_, eqR_ok50 _ rfl⟩
    · simp only [List.mem_cons, List.not_mem_nil, or_false] at hz
      rcases hz with rfl | rfl
      · exact ⟨by simp, by simp⟩
      · exact okB_int [0, 2, 1] (by simp)
    · simp [areLotsD, isLotD, iOf, ascL]
  · refine ⟨okC1 (okB_int [0, 1, 2, 3] (by simp)), areL1 ?_, eqR_ok50 _ rfl⟩
    have : ¬ ((3 : Int) < s) := by omega
    simp [isLotD, isPlaceD, this]
def blots (s : Nat) (ls : List (List Int)) : List D := bl1 s ls ++ bl2 ++ bl3
theorem blots_bad (h1 : 1 ≤ s) (h3 : s ≤ 3) (h : WOk s ls) : ∀ x ∈ blots s ls, BadL s x := by
  intro x hx
  rcases List.mem_append.mp hx with q | q
  · rcases List.mem_append.mp q with q | q
    · exact bl1_bad h1 h3 h x q
    · exact bl2_bad h1 h3 x q
  · exact bl3_bad h1 h3 x q
theorem blots_len : (blots s ls).length = 24 := rfl
theorem take2_ok {A : M} {xs : List D} (hA : A δ c = .ok (.d (.lst xs)) c) : mSl A moNone (moSome (mC (.int 2))) δ c = .ok (.d (.lst (xs.take 2))) c := by
  unfold mSl
  rw [hA]
  have : cutD xs none (some (2 : Int)) = xs.take 2 := cutD_take xs 2
  simp only [bind_ok, moNone, moSome, mC, asI, slS, deref, slD, this]
theorem add_lst {a b : List D} (h : a.length + b.length ≤ 500) : addD (.lst a) (.lst b) = some (.lst (a ++ b)) := by
  show (if a.length + b.length ≤ sizeLine then _ else _) = _
  rw [if_pos (small_size (by omega))]
theorem bad_lots_ok (h : WOk s ls) : d_law_bad_lots [.d (.int s), .d (.lst (ls.map lotL))] c = .ok (.d (.lst (blots s ls))) c := by
  have l3 := h.l3
  have e20 : powD (.int 10) (.int 20) = some (.int (10 ^ 20)) := by
    have : powOk 10 20 = true := by decide +kernel
    simp only [powD, this, if_true]
    rfl
  refine fn_rt rfl (seq_go (set_ok (s := .d (.lst (bl1 s ls))) (c' := c) ?_) (seq_go (set_ok (s := .d (.lst (bl1 s ls ++ bl2))) (c' := c) (bin (vr rfl) (y := .d (.lst bl2)) (c'' := c) ?_ (l2 (add_lst (by simp [bl1, bl2]))))) (ret_ok (bin (vr rfl) (y := .d (.lst bl3)) (c'' := c) ?_ (l2 (add_lst (by simp [bl1, bl2, bl3])))))))
  · have t : (ls.map lotL).take 2 ++ [D.non] = (ls.map lotL).take 2 ++ [D.non] := rfl
    have tl : ((ls.map lotL).take 2).length + ([D.non] : List D).length ≤ 500 := by simp; omega
    exact (congrArg (fun r => R.bind r mkLst) (a2 rfl (a2 (s := .d (.lst [])) rfl (a2 (s := .d (.tup [])) rfl (a2 rfl (a2 rfl (a2 rfl (a2 (s := .d (.lst [.lst [], .lst [], .lst [], .lst []])) rfl (a2 (bin (take2_ok (vr rfl)) (y := .d (.lst [.non])) (c'' := c) rfl (l2 (add_lst tl))) (a2 (s := .d (.lst [.lst [.int 0, .int 0]])) rfl (a2 (s := .d (.lst [.lst [.int s]])) rfl (a2 (s := .d (.lst [.lst [.int (-1)]])) rfl (a1 (s := .d (.lst [.lst [.bl true]])) rfl))))))))))))).trans rfl
  · have r0 : mLst (mCons (mLst (mCons (mMake 1 2 d_Ratio_init (mDfl (mCons (mC (.int 0)) mNil) 1)) mNil)) mNil) [some (.d (.int s)), some (.d (.lst (ls.map lotL))), some (.d (.lst (bl1 s ls)))] c = .ok (.d (.lst [.lst [rat 0]])) c :=
      (congrArg (fun r => R.bind r mkLst) (a1 ((congrArg (fun r => R.bind r mkLst) (a1 (rat_ok (a1 rfl)))).trans (show _ = R.ok (S.d (.lst [rat 0])) c from rfl)))).trans rfl
    have r1 : mLst (mCons (mLst (mCons (mC (.int 0)) mNil)) (mCons (mLst (mCons (mBin (lift2 powD) (mC (.int 10)) (mC (.int 20))) mNil)) mNil)) [some (.d (.int s)), some (.d (.lst (ls.map lotL))), some (.d (.lst (bl1 s ls)))] c = .ok (.d (.lst [.lst [.int 0], .lst [.int (10 ^ 20)]])) c :=
      (congrArg (fun r => R.bind r mkLst) (a2 (s := .d (.lst [.int 0])) (c' := c) rfl (a1 ((congrArg (fun r => R.bind r mkLst) (a1 (bin rfl rfl (l2 e20)))).trans (show _ = R.ok (S.d (.lst [.int (10 ^ 20)])) c from rfl))))).trans rfl
    exact (congrArg (fun r => R.bind r mkLst) (a2 (s := .d (.lst [.lst [.str "0"]])) rfl (a2 (s := .d (.lst [.lst [.non]])) rfl (a2 (s := .d (.lst [.int 0])) rfl (a2 (s := .d (.lst [.lst [.str "a"]])) rfl (a2 r0 (a2 (s := .d (.lst [.dct [.inr "a"] [.int 0]])) rfl (a2 (s := .d (.lst [.lst [.lst [.int 0]]])) rfl (a2 r1 (a1 (s := .d (.lst [.str "0"])) rfl)))))))))).trans rfl
  · rfl
end
end Dn

end
section
/-! K18_28: the law of k18. -/
namespace Dn
open PySem
section
variable {c cb : Cs} {δ : Sl} {s h k : Nat} {ls : List (List Int)} {l : List Nat} {x : D} {x0 x1 x8 x9 x10 x11 : Option S}
theorem pairX {w : Str} {A B : M} {c' : Cs} (hw : PyData.strOk w = true) (he : eqR eqs 4 x x = some true) (hA : A δ c = .ok (.d (.lst [.str w, x])) c') (hB : B δ c' = .ok (.d x) c') : mTB (mBin (eqY eqs 4 true) A (mLst (mCons (mC (.str w)) (mCons B mNil)))) δ c = .ok false c' :=
  tb_ok (bin hA ((congrArg (fun r => R.bind r mkLst) (a2 rfl (a1 hB))).trans rfl) (eqY_two (neg := true) hw he))
abbrev t12 (x0 x1 : Option S) (k s h : Nat) (ls : List (List Int)) (l : List Nat) (x8 x9 x10 x11 : Option S) : Sl := [x0, x1, some (.c k), some (.d (.int s)), some (.d (.int h)), some (.d (.lst (ls.map lotL))), some (.d (tx l)), some (.d (.lst (blots s ls))), x8, x9, x10, x11]
/-! spoilt -/
abbrev spB : MS := sSeq (sSet 9 (mBlt d_law_spoilt (mCons (mVar 2) (mCons (mVar 6) mNil)))) (sIf (mtNot (mTB (mBlt d_law_reading_right (mCons (mVar 9) mNil)))) (sRet (mC (.bl false))) sNil)
theorem sp_loop {ws : List (List Nat)} {N : Nat} (hw : Wd ws) (hl : l = TL.joinL [32] ws) (hn : k < cb.length) (hb : BxAt cb k N c) (hN : N ≤ 1000) : ∃ y8 y9 c2, sFor (iRng (mCons (mC (.int 14)) mNil)) (gtName 8) spB (t12 x0 x1 k s h ls l x8 x9 x10 x11) c = .nx (t12 x0 x1 k s h ls l y8 y9 x10 x11) c2 ∧ BxAt cb k (N + 70) c2 := by
  obtain ⟨δ', c', e, y8, y9, rfl, b⟩ := for_inv (δ := t12 x0 x1 k s h ls l x8 x9 x10 x11) (c := c) (I := iRng (mCons (mC (.int 14)) mNil)) (g := gtName 8) (B := spB) (List.range 14) (fun (i : Nat) => D.int (i : Int))
    (fun done δ c' => ∃ y8 y9, δ = t12 x0 x1 k s h ls l y8 y9 x10 x11 ∧ BxAt cb k (N + 5 * done.length) c') (rng_ok (s := 14) (a1 rfl) (by omega)) ⟨x8, x9, rfl, hb⟩ (by
      rintro d y r δ c2 hy ⟨y8, y9, rfl, b⟩
      have hd : d.length ≤ 14 := by
        have := congrArg List.length hy
        simp at this
        omega
      obtain ⟨l', c3, e1, t1, b1⟩ := spoilt_ok hw hl hn b (by omega)
      exact ⟨_, _, _, rfl, seq_go (set_ok (blt (a2 (vr rfl) (a1 (vr rfl))) e1)) (if_no ((tnot_ok (tb_ok (blt (a1 (vr rfl)) (reading_right t1)))).trans rfl)), _, _, rfl, by
        rw [List.length_append, List.length_singleton, Nat.mul_add, ← Nat.add_assoc]; exact b1⟩)
  exact ⟨y8, y9, c', e, by simpa using b⟩
/-! no texts -/
def odds (s : Nat) (ls : List (List Int)) (l : List Nat) : List D := [.non, .int 5, .bl true, .lst [tx l], .tup [tx l], .dct [.inr "a"] [tx l], wb s ls]
theorem odds_ok (t : Tx l) : ∀ x ∈ odds s ls l, k_str.ask x = some false ∧ eqR eqs 4 x x = some true := by
  intro x hx
  simp only [odds, List.mem_cons, List.not_mem_nil, or_false] at hx
  rcases hx with rfl | rfl | rfl | rfl | rfl | rfl | rfl
  · exact ⟨rfl, eqR_ok50 _ rfl⟩
  · exact ⟨rfl, eqR_ok50 _ rfl⟩
  · exact ⟨rfl, eqR_ok50 _ rfl⟩
  · exact ⟨rfl, eqR_one (eqR_tx t 3)⟩
  · exact ⟨rfl, eqR_tup fun z hz => by rw [List.mem_singleton.mp hz]; exact eqR_tx t 3⟩
  · refine ⟨rfl, ?_⟩
    have f : flatEq (tx l) (tx l) = true := by show (SX.S l == SX.S l) = true; rw [tx_beq]; simp
    unfold eqR
    rw [if_neg (by simp [D.ok])]
    simp [f]
  · exact ⟨rfl, eqR_web⟩
abbrev odB : MS := sIf (mTB (mBin (eqY eqs 4 true) (mBlt d_law_caught (mCons (mVar 10) mNil)) (mLst (mCons (mC (.str "text")) (mCons (mVar 10) mNil))))) (sRet (mC (.bl false))) sNil
abbrev odM : M := mLst (mCons (mC .non) (mCons (mC (.int 5)) (mCons (mC (.bl true)) (mCons (mLst (mCons (mVar 6) mNil)) (mCons (mTup (mCons (mVar 6) mNil)) (mCons (mDctV "a" 6) (mCons (mMake 0 2 d_Web_init (mCons (mVar 3) (mCons (mVar 5) mNil))) mNil)))))))
theorem od_loop (t : Tx l) (hw : WOk s ls) : ∃ y10, sFor (iSeq odM) (gtName 10) odB (t12 x0 x1 k s h ls l x8 x9 x10 x11) c = .nx (t12 x0 x1 k s h ls l x8 x9 y10 x11) c := by
  have e0 : odM (t12 x0 x1 k s h ls l x8 x9 x10 x11) c = .ok (.d (.lst (odds s ls l))) c :=
    (congrArg (fun r => R.bind r mkLst) (a2 rfl (a2 rfl (a2 rfl (a2 (s := .d (.lst [tx l])) rfl (a2 (s := .d (.tup [tx l])) rfl (a2 (s := .d (.dct [.inr "a"] [tx l])) rfl (a1 (make_web hw (a2 (vr rfl) (a1 (vr rfl)))))))))))).trans rfl
  obtain ⟨δ', c', e, y10, rfl, rfl⟩ := for_inv (δ := t12 x0 x1 k s h ls l x8 x9 x10 x11) (c := c) (I := iSeq odM) (g := gtName 10) (B := odB) (odds s ls l) (fun x => x)
    (fun done δ c' => ∃ y10, δ = t12 x0 x1 k s h ls l x8 x9 y10 x11 ∧ c' = c) (seqI e0 (by simp; rfl)) ⟨x10, rfl, rfl⟩ (by
      rintro d y r δ c2 hy ⟨y10, rfl, rfl⟩
      obtain ⟨p1, p2⟩ := odds_ok t y (by rw [hy]; simp)
      exact ⟨_, _, _, rfl, if_no (pairX (w := "text") (by decide +kernel) p2 (blt (a1 (vr rfl)) (caught_odd p1)) (vr rfl)), _, rfl, rfl⟩)
  exact ⟨y10, e⟩
/-! no numbers of seats -/
abbrev st0 : MT := mTB (mBin (eqY eqs 4 true) (mBlt d_law_word (mCons (mC (.int 0)) (mCons (mVar 10) (mCons (mBin (lift2 ixD) (mLst (mCons (mVar 5) (mCons (mBin (lift2 ixD) (mVar 7) (mBlt d_law_take (mCons (mVar 2) (mCons (mBlt (liftN (lenO lens)) (mCons (mVar 7) mNil)) mNil)))) mNil))) (mBlt d_law_take (mCons (mVar 2) (mCons (mC (.int 2)) mNil)))) mNil)))) (mLst (mCons (mC (.str "seat")) (mCons (mVar 10) mNil))))
abbrev wyB : MS := sSeq (sIf (mTB (mBin (eqY eqs 4 true) (mBlt d_law_word (mCons (mVar 11) (mCons (mVar 10) (mCons (mBin (lift2 ixD) (mLst (mCons (mVar 4) (mCons (mC .non) mNil))) (mBlt d_law_take (mCons (mVar 2) (mCons (mC (.int 2)) mNil)))) mNil)))) (mLst (mCons (mC (.str "seat")) (mCons (mVar 10) mNil))))) (sRet (mC (.bl false))) sNil) (sIf (mTB (mBin (eqY eqs 4 true) (mBlt d_law_word (mCons (mVar 11) (mCons (mVar 3) (mCons (mVar 10) mNil)))) (mLst (mCons (mC (.str "seat")) (mCons (mVar 10) mNil))))) (sRet (mC (.bl false))) sNil)
abbrev st3 : MT := mtOr (mTB (mBin (eqY eqs 4 true) (mBlt d_law_word (mCons (mC (.int 3)) (mCons (mVar 10) (mCons (mC .non) mNil)))) (mLst (mCons (mC (.str "seat")) (mCons (mVar 10) mNil))))) (mTB (mBin (eqY eqs 4 true) (mBlt d_law_word (mCons (mC (.int 4)) (mCons (mVar 10) (mCons (mC .non) mNil)))) (mLst (mCons (mC (.str "seat")) (mCons (mVar 10) mNil)))))
abbrev seB : MS := sSeq (sIf st0 (sRet (mC (.bl false))) sNil) (sSeq (sFor (iSeq (mLst (mCons (mC (.int 1)) (mCons (mC (.int 2)) mNil)))) (gtName 11) wyB) (sIf st3 (sRet (mC (.bl false))) sNil))
theorem ix2 {a b : D} {v : Nat} (hv : v < 2) : ∃ y, ixD (.lst [a, b]) (.int v) = some y := by
  have : v = 0 ∨ v = 1 := by omega
  rcases this with rfl | rfl
  · exact ⟨a, rfl⟩
  · exact ⟨b, rfl⟩
theorem if_no2 {C : MT} {m : MS} {c' : Cs} (h : C δ c = .ok false c') : sIf C m sNil δ c = .nx δ c' := if_f h
theorem se_step {N : Nat} (bx : BadS x) (h1 : 1 ≤ s) (h3 : s ≤ 3) (hn : k < cb.length) (hb : BxAt cb k N c) (hN : N ≤ 1000) : ∃ y11 c2, seB (t12 x0 x1 k s h ls l x8 x9 (some (.d x)) x11) c = .nx (t12 x0 x1 k s h ls l x8 x9 (some (.d x)) y11) c2 ∧ BxAt cb k (N + 4) c2 := by
  obtain ⟨v1, c1, e1, hv1, b1⟩ := takeN (e := []) (m := 24) hn hb (by omega) (by omega) (by omega)
  obtain ⟨v2, c2, e2, hv2, b2⟩ := takeN (e := []) (m := 2) hn b1 (by omega) (by omega) (by omega)
  simp only [List.append_nil] at e1 e2
  have hv1' : v1 < (blots s ls).length := hv1
  have ixw : ixD (.lst (blots s ls)) (.int v1) = some (blots s ls)[v1] := atI_nat hv1'
  obtain ⟨y, ey⟩ := ix2 (a := .lst (ls.map lotL)) (b := (blots s ls)[v1]) hv2
  have s0 : sIf st0 (sRet (mC (.bl false))) sNil (t12 x0 x1 k s h ls l x8 x9 (some (.d x)) x11) c = .nx (t12 x0 x1 k s h ls l x8 x9 (some (.d x)) x11) c2 := by
    refine if_no2 (pairX (w := "seat") (by decide +kernel) bx.e (blt (a2 rfl (a2 (vr rfl) (a1 (bin (x := .d (.lst [.lst (ls.map lotL), (blots s ls)[v1]])) (c' := c1) ?_ (blt (a2 (vr rfl) (a1 rfl)) e2) (l2 ey))))) (bad_first (i := 0) bx.a bx.m (by omega))) (vr rfl))
    exact (congrArg (fun r => R.bind r mkLst) (a2 (vr rfl) (a1 (bin (vr rfl) (blt (a2 (vr rfl) (a1 (blt (a1 (vr rfl)) (lN1 (d := .int (24 : Nat)) rfl)))) e1) (l2 ixw))))).trans rfl
  obtain ⟨δ', c', e, y11, rfl, b⟩ := for_inv (δ := t12 x0 x1 k s h ls l x8 x9 (some (.d x)) x11) (c := c2) (I := iSeq (mLst (mCons (mC (.int 1)) (mCons (mC (.int 2)) mNil)))) (g := gtName 11) (B := wyB) [1, 2] (fun (i : Nat) => D.int (i : Int))
    (fun done δ c' => ∃ y11, δ = t12 x0 x1 k s h ls l x8 x9 (some (.d x)) y11 ∧ BxAt cb k (N + 2 + done.length) c') (seqI (s := .d (.lst [.int 1, .int 2])) rfl rfl) ⟨x11, rfl, b2⟩ (by
      rintro d y r δ c3 hy ⟨y11, rfl, b⟩
      have hd : d.length ≤ 2 := by
        have := congrArg List.length hy
        simp at this
        omega
      have hy12 : y = 1 ∨ y = 2 := by
        have : y ∈ [1, 2] := by rw [hy]; simp
        simpa using this
      obtain ⟨v3, c4, e3, hv3, b3⟩ := takeN (e := []) (m := 2) hn b (by omega) (by omega) (by omega)
      simp only [List.append_nil] at e3
      obtain ⟨z, ez⟩ := ix2 (a := .int h) (b := .non) hv3
      exact ⟨_, _, c4, rfl, seq_go (if_no2 (pairX (w := "seat") (by decide +kernel) bx.e (blt (a2 (vr rfl) (a2 (vr rfl) (a1 (bin (x := .d (.lst [.int h, .non])) (c' := c3) rfl (blt (a2 (vr rfl) (a1 rfl)) e3) (l2 ez))))) (bad_first (i := y) bx.a bx.m (by omega))) (vr rfl))) (if_no (pairX (w := "seat") (by decide +kernel) bx.e (blt (a2 (vr rfl) (a2 (vr rfl) (a1 (vr rfl)))) (bad_second bx.a bx.m h1 h3 hy12)) (vr rfl))), _, rfl, by
        rw [List.length_append, List.length_singleton, ← Nat.add_assoc]; exact b3⟩)
  exact ⟨y11, c', seq_go s0 (seq_go e (if_no (tor_no (pairX (w := "seat") (by decide +kernel) bx.e (blt (a2 rfl (a2 (vr rfl) (a1 rfl))) (bad_first (i := 3) bx.a bx.m (by omega))) (vr rfl)) (pairX (w := "seat") (by decide +kernel) bx.e (blt (a2 rfl (a2 (vr rfl) (a1 rfl))) (bad_first (i := 4) bx.a bx.m (by omega))) (vr rfl))))), b.mono (by simp)⟩
theorem se_loop {N : Nat} (h1 : 1 ≤ s) (h3 : s ≤ 3) (hn : k < cb.length) (hb : BxAt cb k N c) (hN : N ≤ 500) : ∃ y10 y11 c2, sFor (iSeq (mBlt d_law_bad_seats mNil)) (gtName 10) seB (t12 x0 x1 k s h ls l x8 x9 x10 x11) c = .nx (t12 x0 x1 k s h ls l x8 x9 y10 y11) c2 := by
  obtain ⟨δ', c', e, y10, y11, rfl, b⟩ := for_inv (δ := t12 x0 x1 k s h ls l x8 x9 x10 x11) (c := c) (I := iSeq (mBlt d_law_bad_seats mNil)) (g := gtName 10) (B := seB) bseats (fun x => x)
    (fun done δ c' => ∃ y10 y11, δ = t12 x0 x1 k s h ls l x8 x9 y10 y11 ∧ BxAt cb k (N + 4 * done.length) c') (seqI (blt rfl bad_seats_ok) (by simp; rfl)) ⟨x10, x11, rfl, hb⟩ (by
      rintro d y r δ c2 hy ⟨y10, y11, rfl, b⟩
      have hd : d.length ≤ 11 := by
        have := congrArg List.length hy
        simp [bseats] at this
        omega
      obtain ⟨z11, c3, e1, b1⟩ := se_step (x0 := x0) (x1 := x1) (h := h) (ls := ls) (l := l) (x8 := x8) (x9 := x9) (x11 := y11) (bseats_bad y (by rw [hy]; simp)) h1 h3 hn b (by omega)
      exact ⟨_, _, _, rfl, e1, _, _, rfl, by rw [List.length_append, List.length_singleton, Nat.mul_add, ← Nat.add_assoc]; exact b1⟩)
  exact ⟨y10, y11, c', e⟩
abbrev loB : MS := sIf (mTB (mBin (eqY eqs 4 true) (mBlt d_law_word (mCons (mC (.int 0)) (mCons (mVar 3) (mCons (mVar 10) mNil)))) (mLst (mCons (mC (.str "lot")) (mCons (mVar 10) mNil))))) (sRet (mC (.bl false))) sNil
theorem lo_loop (h1 : 1 ≤ s) (h3 : s ≤ 3) (hw : WOk s ls) : ∃ y10, sFor (iSeq (mVar 7)) (gtName 10) loB (t12 x0 x1 k s h ls l x8 x9 x10 x11) c = .nx (t12 x0 x1 k s h ls l x8 x9 y10 x11) c := by
  obtain ⟨δ', c', e, y10, rfl, rfl⟩ := for_inv (δ := t12 x0 x1 k s h ls l x8 x9 x10 x11) (c := c) (I := iSeq (mVar 7)) (g := gtName 10) (B := loB) (blots s ls) (fun x => x)
    (fun done δ c' => ∃ y10, δ = t12 x0 x1 k s h ls l x8 x9 y10 x11 ∧ c' = c) (seqI (vr rfl) (by simp; rfl)) ⟨x10, rfl, rfl⟩ (by
      rintro d y r δ c2 hy ⟨y10, rfl, rfl⟩
      have b := blots_bad h1 h3 hw y (by rw [hy]; simp)
      exact ⟨_, _, _, rfl, if_no (pairX (w := "lot") (by decide +kernel) b.e (blt (a2 rfl (a2 (vr rfl) (a1 (vr rfl)))) (bad_lots h1 h3 b.a b.m)) (vr rfl)), _, rfl, rfl⟩)
  exact ⟨y10, e⟩
abbrev fiM : M := mComp (iRng (mCons (mC (.int 3)) mNil)) (gtName 11) mtYes (mBlt d_law_word (mCons (mVar 11) (mCons (mVar 3) (mCons (mBin (lift2 ixD) (mLst (mCons (mVar 5) (mCons (mVar 4) (mCons (mVar 4) mNil)))) (mVar 11)) mNil)))) [11]
theorem fi_ok (h1 : 1 ≤ s) (h3 : s ≤ 3) (n1 : 1 ≤ h) (n3 : h ≤ 3) (hw : WOk s ls) : fiM (t12 x0 x1 k s h ls l x8 x9 x10 x11) c = .ok (.d (.lst [.lst [.str "fine"], .lst [.str "fine"], .lst [.str "fine"]])) c := by
  refine (compM (List.range 3) (fun (i : Nat) => D.int (i : Int)) (fun _ => .lst [.str "fine"]) (rng_ok (s := 3) (a1 rfl) (by omega)) (small_size (by simp)) fun i hi => ⟨_, rfl, fun c' => ?_⟩).trans rfl
  have hi := List.mem_range.mp hi
  have : i = 0 ∨ i = 1 ∨ i = 2 := by omega
  rcases this with rfl | rfl | rfl
  · exact blt (a2 (vr rfl) (a2 (vr rfl) (a1 (s := .d (.lst (ls.map lotL))) (c' := c') rfl))) (word_fine (i := 0) (by omega) (expr_ok (make_web hw (a2 (vr rfl) (a1 (vr rfl))))))
  · exact blt (a2 (vr rfl) (a2 (vr rfl) (a1 (s := .d (.int h)) (c' := c') rfl))) (word_fine (i := 1) (by omega) (expr_ok (blt (a2 (vr rfl) (a1 (vr rfl))) (full_ok h1 h3 n1 n3))))
  · obtain ⟨d, e⟩ := all_webs_ok (c := c') h1 h3 n1 n3
    exact blt (a2 (vr rfl) (a2 (vr rfl) (a1 (s := .d (.int h)) (c' := c') rfl))) (word_fine (i := 2) (by omega) (expr_ok (blt (a2 (vr rfl) (a1 (vr rfl))) e)))
theorem eqY_fine : eqY eqs 4 true (.d (.lst [.lst [.str "fine"], .lst [.str "fine"], .lst [.str "fine"]])) (.d (.lst [.lst [.str "fine"], .lst [.str "fine"], .lst [.str "fine"]])) c = .ok (.d (.bl false)) c := by
  have hs : PyData.strOk ("fine" : Str) = true := by decide +kernel
  have ok : (D.lst [.lst [.str "fine"], .lst [.str "fine"], .lst [.str "fine"]]).ok 60 = true := by simp [D.ok, oks, hs]
  rw [eqY_plain ok ok, eqD_refl 60 _ ok]
  rfl
end
end Dn

end
section
/-! K18_29: the law of k18, whole. -/
namespace Dn
open PySem
section
variable {c cb : Cs} {δ : Sl} {ns : List Int}
abbrev sz : MS := sAsg (gtTup (gtCons (gtName 3) (gtCons (gtName 4) gtNil))) (mTup (mCons (mBin (lift2 addD) (mC (.int 1)) (mBlt d_law_take (mCons (mVar 2) (mCons (mC (.int 3)) mNil)))) (mCons (mBin (lift2 addD) (mC (.int 1)) (mBlt d_law_take (mCons (mVar 2) (mCons (mC (.int 3)) mNil)))) mNil)))
abbrev txB : MS := sIf (mtOr (mTB (mBin (eqY eqs 4 true) (mMeth t_text (mMake 0 2 d_Web_init (mCons (mVar 3) (mCons (mVar 5) mNil))) mNil) (mVar 6))) (mtNot (mTB (mBlt d_law_reading_right (mCons (mVar 6) mNil))))) (sRet (mC (.bl false))) sNil
abbrev fiB : MS := sIf (mTB (mBin (eqY eqs 4 true) fiM (mBin (lift2 mulD) (mLst (mCons (mLst (mCons (mC (.str "fine")) mNil)) mNil)) (mC (.int 3))))) (sRet (mC (.bl false))) sNil
abbrev turnB : MS := sSeq (sSet 2 (mBlt d_law_box (mCons (mVar 0) (mCons (mVar 1) mNil)))) (sSeq sz (sSeq (sSet 5 (mBlt d_law_lots (mCons (mVar 2) (mCons (mVar 3) (mCons (mVar 4) mNil))))) (sSeq (sPar 6 7 (mCons (mBlt d_law_text (mCons (mVar 3) (mCons (mVar 5) mNil))) (mCons (mBlt d_law_bad_lots (mCons (mVar 3) (mCons (mVar 5) mNil))) mNil))) (sSeq txB (sSeq (sFor (iRng (mCons (mC (.int 14)) mNil)) (gtName 8) spB) (sSeq (sFor (iSeq odM) (gtName 10) odB) (sSeq (sFor (iSeq (mBlt d_law_bad_seats mNil)) (gtName 10) seB) (sSeq (sFor (iSeq (mVar 7)) (gtName 10) loB) fiB))))))))
theorem turn_ok {k : Int} (hk : 0 ≤ k ∧ k ≤ 3) {x2 x3 x4 x5 x6 x7 x8 x9 x10 x11 : Option S} : ∃ y2 y3 y4 y5 y6 y7 y8 y9 y10 y11 c', turnB [some (.d (.scr ns)), some (.d (.int k)), x2, x3, x4, x5, x6, x7, x8, x9, x10, x11] c = .nx [some (.d (.scr ns)), some (.d (.int k)), y2, y3, y4, y5, y6, y7, y8, y9, y10, y11] c' := by
  obtain ⟨xs, e0, b0⟩ := box_ok (c := c) (ns := ns) (k := k.toNat) (by omega)
  rw [Int.toNat_of_nonneg hk.1] at e0
  have hcb : c.length < (c ++ [CC.lst xs]).length := by simp
  have hb0 : BxAt (c ++ [.lst xs]) c.length 0 (c ++ [.lst xs]) := ⟨xs, by simp, b0⟩
  obtain ⟨v1, c1, e1, hv1, b1⟩ := takeN (e := []) (m := 3) hcb hb0 (by omega) (by omega) (by omega)
  obtain ⟨v2, c2, e2, hv2, b2⟩ := takeN (e := []) (m := 3) hcb b1 (by omega) (by omega) (by omega)
  simp only [List.append_nil] at e1 e2
  obtain ⟨s, hs⟩ : ∃ s, s = 1 + v1 := ⟨_, rfl⟩
  obtain ⟨h, hh⟩ : ∃ h, h = 1 + v2 := ⟨_, rfl⟩
  have s1 : 1 ≤ s := by omega
  have s3 : s ≤ 3 := by omega
  have h1 : 1 ≤ h := by omega
  have h3 : h ≤ 3 := by omega
  have eT : mTup (mCons (mBin (lift2 addD) (mC (.int 1)) (mBlt d_law_take (mCons (mVar 2) (mCons (mC (.int 3)) mNil)))) (mCons (mBin (lift2 addD) (mC (.int 1)) (mBlt d_law_take (mCons (mVar 2) (mCons (mC (.int 3)) mNil)))) mNil)) [some (.d (.scr ns)), some (.d (.int k)), some (.c c.length), x3, x4, x5, x6, x7, x8, x9, x10, x11] (c ++ [.lst xs]) = .ok (.d (.tup [.int s, .int h])) c2 := by
    refine (congrArg (fun r => R.bind r mkTup) (a2 (bin rfl (blt (a2 (vr rfl) (a1 rfl)) e1) (l2 (d := .int (1 + (v1 : Int))) rfl)) (a1 (bin rfl (blt (a2 (vr rfl) (a1 rfl)) e2) (l2 (d := .int (1 + (v2 : Int))) rfl))))).trans ?_
    rw [hs, hh]
    simp only [Int.natCast_add, Int.natCast_one]
    rfl
  have eZ : sz [some (.d (.scr ns)), some (.d (.int k)), some (.c c.length), x3, x4, x5, x6, x7, x8, x9, x10, x11] (c ++ [.lst xs]) = .nx [some (.d (.scr ns)), some (.d (.int k)), some (.c c.length), some (.d (.int s)), some (.d (.int h)), x5, x6, x7, x8, x9, x10, x11] c2 := by
    unfold sz sAsg
    exact (congrArg (fun r => R.andS _ r _) eT).trans rfl
  obtain ⟨ls, c3, e3, l1, l2', b3⟩ := draw_at (s := s) (h := h) hcb b2 ⟨by omega, by omega⟩ (by omega) (by omega)
  have hw : WOk s ls := ⟨by omega, by omega, by omega, by omega, l2'⟩
  have wd := text_wd hw
  have tt := text_tx hw
  obtain ⟨y8, y9, c4, e4, b4⟩ := sp_loop (x0 := some (.d (.scr ns))) (x1 := some (.d (.int k))) (s := s) (h := h) (ls := ls) (l := textL s ls) (x8 := x8) (x9 := x9) (x10 := x10) (x11 := x11) wd rfl hcb b3 (by omega)
  obtain ⟨y10, e5⟩ := od_loop (c := c4) (x0 := some (.d (.scr ns))) (x1 := some (.d (.int k))) (k := c.length) (h := h) (x8 := y8) (x9 := y9) (x10 := x10) (x11 := x11) tt hw
  obtain ⟨z10, z11, c6, e6⟩ := se_loop (x0 := some (.d (.scr ns))) (x1 := some (.d (.int k))) (h := h) (ls := ls) (l := textL s ls) (x8 := y8) (x9 := y9) (x10 := y10) (x11 := x11) s1 s3 hcb b4 (by omega)
  obtain ⟨w10, e7⟩ := lo_loop (c := c6) (x0 := some (.d (.scr ns))) (x1 := some (.d (.int k))) (k := c.length) (h := h) (l := textL s ls) (x8 := y8) (x9 := y9) (x10 := z10) (x11 := z11) s1 s3 hw
  have e8 := fi_ok (c := c6) (x0 := some (.d (.scr ns))) (x1 := some (.d (.int k))) (k := c.length) (l := textL s ls) (x8 := y8) (x9 := y9) (x10 := w10) (x11 := z11) s1 s3 h1 h3 hw
  refine ⟨_, _, _, _, _, _, _, _, _, _, c6, seq_go (set_ok (blt (a2 (vr rfl) (a1 (vr rfl))) e0)) (seq_go eZ (seq_go (set_ok (blt (a2 (vr rfl) (a2 (vr rfl) (a1 (vr rfl)))) e3)) (seq_go (par_ok (a2 (blt (a2 (vr rfl) (a1 (vr rfl))) (law_text_ok hw)) (a1 (blt (a2 (vr rfl) (a1 (vr rfl))) (bad_lots_ok hw))))) (seq_go (if_no (tor_no (tb_ok (bin (meth (make_web hw (a2 (vr rfl) (a1 (vr rfl)))) rfl rfl (web_text hw)) (vr rfl) ((eqY_tx tt tt).trans (by simp)))) ((tnot_ok (tb_ok (blt (a1 (vr rfl)) (reading_right tt)))).trans rfl))) (seq_go e4 (seq_go e5 (seq_go e6 (seq_go e7 (if_no (tb_ok (bin e8 (y := .d (.lst [.lst [.str "fine"], .lst [.str "fine"], .lst [.str "fine"]])) (c'' := c6) ?_ eqY_fine)))))))))))⟩
  rfl
theorem law_true' : LawTrue d_law := by
  intro ns hl _
  have hI : iRng (mCons (mBlt (liftN max2D) (mCons (mC (.int 1)) (mCons (mBlt (liftN min2D) (mCons (mC (.int 2)) (mCons (mBlt (liftN (lenO lens)) (mCons (mVar 0) mNil)) mNil))) mNil))) mNil) [some (.d (.scr ns)), none, none, none, none, none, none, none, none, none, none, none] [] = .ok ((List.range (max 1 (min 2 ns.length))).map fun (i : Nat) => D.int (i : Int)) [] := by
    have emin : liftN min2D [.d (.int 2), .d (.int (ns.length : Int))] [] = .ok (.d (.int ((min 2 ns.length : Nat) : Int))) [] := by
      have : (if (ns.length : Int) < 2 then (ns.length : Int) else 2) = ((min 2 ns.length : Nat) : Int) := by
        by_cases hq : (ns.length : Int) < 2
        · rw [if_pos hq]; omega
        · rw [if_neg hq]; omega
      simp only [liftN, derefs, deref, min2D, this]
    have emax : liftN max2D [.d (.int 1), .d (.int ((min 2 ns.length : Nat) : Int))] [] = .ok (.d (.int ((max 1 (min 2 ns.length) : Nat) : Int))) [] := by
      have : (if ((min 2 ns.length : Nat) : Int) > 1 then ((min 2 ns.length : Nat) : Int) else 1) = ((max 1 (min 2 ns.length) : Nat) : Int) := by
        by_cases hq : ((min 2 ns.length : Nat) : Int) > 1
        · rw [if_pos hq]; omega
        · rw [if_neg hq]; omega
      simp only [liftN, derefs, deref, max2D, this]
    exact rng_ok (a1 (blt (a2 rfl (a1 (blt (a2 rfl (a1 (blt (a1 (vr rfl)) (lN1 (g := lenO lens) (d := .int ns.length) rfl)))) emin))) emax)) (by omega)
  obtain ⟨δ', c', e, y1, y2, y3, y4, y5, y6, y7, y8, y9, y10, y11, rfl⟩ := for_inv (δ := [some (.d (.scr ns)), none, none, none, none, none, none, none, none, none, none, none]) (c := []) (I := iRng (mCons (mBlt (liftN max2D) (mCons (mC (.int 1)) (mCons (mBlt (liftN min2D) (mCons (mC (.int 2)) (mCons (mBlt (liftN (lenO lens)) (mCons (mVar 0) mNil)) mNil))) mNil))) mNil)) (g := gtName 1) (B := turnB) (List.range (max 1 (min 2 ns.length))) (fun (i : Nat) => D.int (i : Int))
    (fun _ δ c' => ∃ y1 y2 y3 y4 y5 y6 y7 y8 y9 y10 y11, δ = [some (.d (.scr ns)), y1, y2, y3, y4, y5, y6, y7, y8, y9, y10, y11]) hI ⟨none, none, none, none, none, none, none, none, none, none, none, rfl⟩ (by
      rintro d i r δ c2 hy ⟨y1, y2, y3, y4, y5, y6, y7, y8, y9, y10, y11, rfl⟩
      have hi : i < max 1 (min 2 ns.length) := List.mem_range.mp (by rw [hy]; simp)
      obtain ⟨z2, z3, z4, z5, z6, z7, z8, z9, z10, z11, c3, e⟩ := turn_ok (c := c2) (ns := ns) (k := (i : Int)) ⟨by omega, by omega⟩ (x2 := y2) (x3 := y3) (x4 := y4) (x5 := y5) (x6 := y6) (x7 := y7) (x8 := y8) (x9 := y9) (x10 := y10) (x11 := y11)
      exact ⟨_, _, c3, rfl, e, some (.d (.int i)), z2, z3, z4, z5, z6, z7, z8, z9, z10, z11, rfl⟩)
  have body : b_law [some (.d (.scr ns)), none, none, none, none, none, none, none, none, none, none, none] [] = .rt (.d (.bl true)) c' := seq_go e rfl
  refine (fnG_eq rfl).trans ?_
  show exitR false 0 (b_law [some (.d (.scr ns)), none, none, none, none, none, none, none, none, none, none, none] []) = _
  rw [body]
  simp [exitR]
end
end Dn

end
theorem Dn.law_true : Dn.LawTrue Dn.d_law := Dn.law_true'
set_option maxHeartbeats 4000000
/-! the walks of law_k18_webs_refused_and_read, printed by gen.py -/
namespace Dn
open PySem PySem.Spec PyProof.Rows L2
def top (i : Nat) : Stmt := PySem.Challenge.pw_tellsmore_k18_webs_refused_and_read.main.body.getD i (.Pass ⟨0, 0, 0, 0⟩)
abbrev s_Ratio_init : Stmt := inClass (top 10) 0
abbrev s_is_number : Stmt := top 11
abbrev s_parts_of : Stmt := top 9
abbrev s_Ratio_eq : Stmt := inClass (top 10) 10
abbrev s_Web_eq : Stmt := inClass (top 21) 1
abbrev s_law_bad_lots : Stmt := top 38
abbrev s_law_bad_seats : Stmt := top 37
abbrev s_Web_len : Stmt := inClass (top 21) 2
abbrev s_law_box : Stmt := top 29
abbrev s_is_integer : Stmt := top 14
abbrev s_is_place : Stmt := top 15
abbrev s_is_lot : Stmt := top 19
abbrev s_are_lots : Stmt := top 20
abbrev s_is_many : Stmt := top 18
abbrev s_Web_init : Stmt := inClass (top 21) 0
abbrev s_read_web : Stmt := top 27
abbrev s_law_caught : Stmt := top 34
abbrev s_law_take : Stmt := top 30
abbrev s_law_lots : Stmt := top 31
abbrev s_law_read : Stmt := top 33
abbrev s_Web_text : Stmt := inClass (top 21) 7
abbrev s_law_reading_right : Stmt := top 35
abbrev s_law_spoilt : Stmt := top 39
abbrev s_law_text : Stmt := top 32
abbrev s_all_lots : Stmt := top 25
abbrev s_all_webs : Stmt := top 26
abbrev s_full_web : Stmt := top 23
abbrev s_own_web : Stmt := top 22
abbrev s_time_web : Stmt := top 24
abbrev s_law_word : Stmt := top 36
abbrev s_law : Stmt := top 40
abbrev s_InvalidText_init : Stmt := inClass (top 5) 0
abbrev s_InvalidSeat_init : Stmt := inClass (top 6) 0
abbrev s_InvalidLot_init : Stmt := inClass (top 7) 0
abbrev s_Ratio_bottom : Stmt := inClass (top 10) 2
abbrev s_Ratio_top : Stmt := inClass (top 10) 1
structure Txt (K : PySem.W.Frag) (mg : Str → Option Value) (T : Tb) : Prop where
  hT : K = T.K
  hx : T.x = none
  g_TellError : mg "TellError" = some (.ref (T.cl 12))
  g_ByZero : mg "ByZero" = some (.ref (T.cl 13))
  g_InvalidText : mg "InvalidText" = some (.ref (T.cl 39))
  g_InvalidSeat : mg "InvalidSeat" = some (.ref (T.cl 27))
  g_InvalidLot : mg "InvalidLot" = some (.ref (T.cl 26))
  g_Ratio : mg "Ratio" = some (.ref (T.cl 1))
  g_Web : mg "Web" = some (.ref (T.cl 0))
  g_FIGURES : ∃ t, mg "FIGURES" = some (.str "0123456789" t)
  g_MOST_SEATS : ∃ t, mg "MOST_SEATS" = some (.int 3 t)
  n_abs : mg "abs" = none
  n_all : mg "all" = none
  n_bool : mg "bool" = none
  n_int : mg "int" = none
  n_isinstance : mg "isinstance" = none
  n_len : mg "len" = none
  n_list : mg "list" = none
  n_max : mg "max" = none
  n_min : mg "min" = none
  n_range : mg "range" = none
  n_set : mg "set" = none
  n_sorted : mg "sorted" = none
  n_str : mg "str" = none
  n_sum : mg "sum" = none
  n_tuple : mg "tuple" = none
  y_Ratio : Cls K (T.cl 1)
  l_Ratio : (T.fl 1).length = 2
  y_Web : Cls K (T.cl 0)
  l_Web : (T.fl 0).length = 2
  f__bottom : FldsAt K T "_bottom" f__bottom
  f__top : FldsAt K T "_top" f__top
  f_heard_lots : FldsAt K T "heard_lots" f_heard_lots
  f_seats : FldsAt K T "seats" f_seats
  k_Ratio : KindsOk K T (fun t => PySem.W.kitOne K t (.ref (T.cl 1))) k_Ratio
  k_Web : KindsOk K T (fun t => PySem.W.kitOne K t (.ref (T.cl 0))) k_Web
  k_bool : KindsOk K T (fun t => PySem.W.kitOne K t (.type "bool")) k_bool
  k_int : KindsOk K T (fun t => PySem.W.kitOne K t (.type "int")) k_int
  k_int_Ratio : KindsOk K T (fun t => PySem.W.kitAny K t [(.type "int"), (.ref (T.cl 1))]) k_int_Ratio
  k_list_tuple : KindsOk K T (fun t => PySem.W.kitAny K t [(.type "list"), (.type "tuple")]) k_list_tuple
  k_str : KindsOk K T (fun t => PySem.W.kitOne K t (.type "str")) k_str
  e_ByZero : ∀ X : Cx, X.K = K → X.mg = mg → ExcAt X T "ByZero" 13 [.type "ValueError", .type "Exception", .type "BaseException", .type "object"] "ValueError.__new__"
  c_InvalidLot : Catches K T (.ref (T.cl 26)) true [26]
  n_InvalidLot : Catches K T (.ref (T.cl 26)) false [27, 39, 13]
  c_InvalidSeat : Catches K T (.ref (T.cl 27)) true [27]
  n_InvalidSeat : Catches K T (.ref (T.cl 27)) false [39, 13, 26]
  c_InvalidText : Catches K T (.ref (T.cl 39)) true [39]
  n_InvalidText : Catches K T (.ref (T.cl 39)) false [27, 13, 26]
  c_TellError : Catches K T (.ref (T.cl 12)) true [12, 13, 39, 27, 26]
  n_TellError : Catches K T (.ref (T.cl 12)) false []
  le : Lends K (T.cl 12)
  xi_InvalidText : ∃ f fd, Fun K "__init__" "InvalidText.__init__" s_InvalidText_init f fd ∧ PySem.W.findIn K (.ref (T.cl 39)) "__init__" = some (some (.ref f)) ∧ PySem.W.typeIn K (.ref f) = some (.type "function") ∧ Binds K fd ["self", "given"] []
  xo_InvalidText : OexC K (T.cl 39)
  xn_InvalidText : PySem.W.findIn K (.ref (T.cl 39)) "given" = some none
  xl_InvalidText : T.fl 39 = (["given"] : List Str)
  xi_InvalidSeat : ∃ f fd, Fun K "__init__" "InvalidSeat.__init__" s_InvalidSeat_init f fd ∧ PySem.W.findIn K (.ref (T.cl 27)) "__init__" = some (some (.ref f)) ∧ PySem.W.typeIn K (.ref f) = some (.type "function") ∧ Binds K fd ["self", "given"] []
  xo_InvalidSeat : OexC K (T.cl 27)
  xn_InvalidSeat : PySem.W.findIn K (.ref (T.cl 27)) "given" = some none
  xl_InvalidSeat : T.fl 27 = (["given"] : List Str)
  xi_InvalidLot : ∃ f fd, Fun K "__init__" "InvalidLot.__init__" s_InvalidLot_init f fd ∧ PySem.W.findIn K (.ref (T.cl 26)) "__init__" = some (some (.ref f)) ∧ PySem.W.typeIn K (.ref f) = some (.type "function") ∧ Binds K fd ["self", "given"] []
  xo_InvalidLot : OexC K (T.cl 26)
  xn_InvalidLot : PySem.W.findIn K (.ref (T.cl 26)) "given" = some none
  xl_InvalidLot : T.fl 26 = (["given"] : List Str)
  xf_given : XFldsAt K T "given" xf_given
  gcd : mg "gcd" = some (.builtin "math.gcd")
  p_Ratio_bottom : ∀ X : Cx, X.K = K → X.mg = mg → PropAt X T "bottom" "_bottom" 1 1
  p_Ratio_top : ∀ X : Cx, X.K = K → X.mg = mg → PropAt X T "top" "_top" 1 0
  d_Ratio_init : IDefDAt K (T.cl 1) "Ratio.__init__" s_Ratio_init ["self", "top", "bottom"] 1
  d_is_number : DefAt K mg "is_number" s_is_number ["value"]
  d_parts_of : DefAt K mg "parts_of" s_parts_of ["number"]
  d_Ratio_eq : MDefAt K (T.cl 1) "__eq__" "Ratio.__eq__" s_Ratio_eq ["self", "other"]
  m_Ratio_eq : ("__eq__" : Str) ∉ T.fl 1
  d_Web_eq : MDefAt K (T.cl 0) "__eq__" "Web.__eq__" s_Web_eq ["self", "other"]
  m_Web_eq : ("__eq__" : Str) ∉ T.fl 0
  d_law_bad_lots : DefAt K mg "_law_bad_lots" s_law_bad_lots ["_law_seats1", "_law_lots1"]
  d_law_bad_seats : DefAt K mg "_law_bad_seats" s_law_bad_seats []
  d_Web_len : MDefAt K (T.cl 0) "__len__" "Web.__len__" s_Web_len ["self"]
  m_Web_len : ("__len__" : Str) ∉ T.fl 0
  d_law_box : DefAt K mg "_law_box" s_law_box ["_law_script", "_law_k"]
  d_is_integer : DefAt K mg "is_integer" s_is_integer ["value"]
  d_is_place : DefAt K mg "is_place" s_is_place ["value", "many"]
  d_is_lot : DefAt K mg "is_lot" s_is_lot ["value", "seats"]
  d_are_lots : DefAt K mg "are_lots" s_are_lots ["value", "seats"]
  d_is_many : DefAt K mg "is_many" s_is_many ["value"]
  d_Web_init : IDefAt K (T.cl 0) "Web.__init__" s_Web_init ["self", "seats", "lots"]
  d_read_web : DefAt K mg "read_web" s_read_web ["text"]
  d_law_caught : DefAt K mg "_law_caught" s_law_caught ["_law_text_here"]
  d_law_take : DefAt K mg "_law_take" s_law_take ["_law_box_here", "_law_many"]
  d_law_lots : DefAt K mg "_law_lots" s_law_lots ["_law_box_here", "_law_seats1", "_law_hearers1"]
  d_law_read : DefAt K mg "_law_read" s_law_read ["_law_text_here"]
  d_Web_text : MDefAt K (T.cl 0) "text" "Web.text" s_Web_text ["self"]
  m_Web_text : ("text" : Str) ∉ T.fl 0
  d_law_reading_right : DefAt K mg "_law_reading_right" s_law_reading_right ["_law_text_here"]
  d_law_spoilt : DefAt K mg "_law_spoilt" s_law_spoilt ["_law_box_here", "_law_text_here"]
  d_law_text : DefAt K mg "_law_text" s_law_text ["_law_seats1", "_law_lots1"]
  d_all_lots : DefAt K mg "all_lots" s_all_lots ["seats"]
  d_all_webs : DefAt K mg "all_webs" s_all_webs ["seats", "hearers"]
  d_full_web : DefAt K mg "full_web" s_full_web ["seats", "hearers"]
  d_own_web : DefAt K mg "own_web" s_own_web ["seats"]
  d_time_web : DefAt K mg "time_web" s_time_web ["seats"]
  d_law_word : DefAt K mg "_law_word" s_law_word ["_law_way", "_law_one", "_law_other"]
section
variable {P : Program} {w : World} {K : PySem.W.Frag} {mg : Str → Option Value} {base : Heap} {T : Tb}
theorem sc_x_InvalidText : FnScope ["self", "given"] ["self", "given"] (defScope s_InvalidText_init) := ⟨rfl, rfl, rfl, by decide +kernel, rfl, by decide +kernel, by decide +kernel⟩
theorem xa_InvalidText (TX : Txt K mg T) : XAt P w K mg base T "InvalidText" 39 "given" := by
  obtain ⟨f, fd, F, iC, tI, hb⟩ := TX.xi_InvalidText
  exact ⟨f, fd, _, xi_ok (k := 0) F sc_x_InvalidText (fun f cdv A outer s H E => pss_xi rfl TX.g_TellError TX.le rfl (Or.inl rfl) rfl (Or.inl rfl)), TX.xo_InvalidText, iC, tI, hb, TX.g_InvalidText, TX.xn_InvalidText, TX.xl_InvalidText⟩
theorem sc_x_InvalidSeat : FnScope ["self", "given"] ["self", "given"] (defScope s_InvalidSeat_init) := ⟨rfl, rfl, rfl, by decide +kernel, rfl, by decide +kernel, by decide +kernel⟩
theorem xa_InvalidSeat (TX : Txt K mg T) : XAt P w K mg base T "InvalidSeat" 27 "given" := by
  obtain ⟨f, fd, F, iC, tI, hb⟩ := TX.xi_InvalidSeat
  exact ⟨f, fd, _, xi_ok (k := 0) F sc_x_InvalidSeat (fun f cdv A outer s H E => pss_xi rfl TX.g_TellError TX.le rfl (Or.inl rfl) rfl (Or.inl rfl)), TX.xo_InvalidSeat, iC, tI, hb, TX.g_InvalidSeat, TX.xn_InvalidSeat, TX.xl_InvalidSeat⟩
theorem sc_x_InvalidLot : FnScope ["self", "given"] ["self", "given"] (defScope s_InvalidLot_init) := ⟨rfl, rfl, rfl, by decide +kernel, rfl, by decide +kernel, by decide +kernel⟩
theorem xa_InvalidLot (TX : Txt K mg T) : XAt P w K mg base T "InvalidLot" 26 "given" := by
  obtain ⟨f, fd, F, iC, tI, hb⟩ := TX.xi_InvalidLot
  exact ⟨f, fd, _, xi_ok (k := 0) F sc_x_InvalidLot (fun f cdv A outer s H E => pss_xi rfl TX.g_TellError TX.le rfl (Or.inl rfl) rfl (Or.inl rfl)), TX.xo_InvalidLot, iC, tI, hb, TX.g_InvalidLot, TX.xn_InvalidLot, TX.xl_InvalidLot⟩
theorem sc_Ratio_init : FnScope ["self", "top", "bottom", "shared"] ["self", "top", "bottom"] (defScope s_Ratio_init) := ⟨rfl, rfl, rfl, by decide +kernel, rfl, by decide +kernel, by decide +kernel⟩
theorem mk_Ratio (TX : Txt K mg T) : MakeDAt P w K mg base T "Ratio" 1 2 1 d_Ratio_init 1 :=
  make_atD (kp := false) (k := 0) (N := ["self", "top", "bottom", "shared"]) (body := b_Ratio_init) TX.d_Ratio_init TX.g_Ratio TX.l_Ratio sc_Ratio_init (fun f cdv A outer s H E hr tk => have sc := sc_Ratio_init; (ss_cons (ds_if (dt_eq TX.hT hr (vv 2) dn_int) (ss_one (ds_raise0 PySem.F.excBase_ValueError (TX.e_ByZero _ rfl rfl) rfl tk rfl)) ss_nil) (ss_cons (ds_set (i := 3) sc.nd rfl (Or.inl rfl) (dn_gcd rfl TX.gcd (da_cons (vv 1) (da_cons (vv 2) da_nil)))) (ss_cons (ds_if (dt_lt (vv 2) dn_int) (ss_one (ds_set (i := 3) sc.nd rfl (Or.inl rfl) (dn_neg (vv 3)))) ss_nil) (ss_cons (ds_fld (vv 0) (dn_fdiv (vv 1) (vv 3)) TX.f__top) (ss_one (ds_fld (vv 0) (dn_fdiv (vv 2) (vv 3)) TX.f__bottom)))))))
theorem sc_is_number : FnScope ["value"] ["value"] (defScope s_is_number) := ⟨rfl, rfl, rfl, by decide +kernel, rfl, by decide +kernel, by decide +kernel⟩
theorem ok_is_number (TX : Txt K mg T) : FnAt P w K mg base T "is_number" 1 d_is_number :=
  fn_at (kp := false) (k := 0) (N := ["value"]) (body := b_is_number) TX.d_is_number sc_is_number (fun f cdv A outer s H E hr tk => have sc := sc_is_number; (ss_cons (ds_if (dt_val (dn_isi TX.hT (pe_ty rfl TX.n_bool boot_ty_bool) (.ty "bool") TX.k_bool rfl TX.n_isinstance (vv 0))) (ss_one (ds_ret dn_bl)) ss_nil) (ss_one (ds_ret (dn_isi2 TX.hT (pe_ty rfl TX.n_int boot_ty_int) (pe_glob rfl TX.g_Ratio (show RelV (.ref _) (.ref _) from rfl)) (.ty "int") (.own _) TX.k_int_Ratio rfl TX.n_isinstance (vv 0))))))
theorem sc_parts_of : FnScope ["number"] ["number"] (defScope s_parts_of) := ⟨rfl, rfl, rfl, by decide +kernel, rfl, by decide +kernel, by decide +kernel⟩
theorem ok_parts_of (TX : Txt K mg T) : FnAt P w K mg base T "parts_of" 3 d_parts_of :=
  fn_at (kp := false) (k := 2) (N := ["number"]) (body := b_parts_of) TX.d_parts_of sc_parts_of (fun f cdv A outer s H E hr tk => have sc := sc_parts_of; (ss_cons (ds_if (dt_val (dn_isi TX.hT (pe_glob rfl TX.g_Ratio (show RelV (.ref _) (.ref _) from rfl)) (.own _) TX.k_Ratio rfl TX.n_isinstance (vv 0))) (ss_one (ds_ret (dn_tup (da_cons (dn_prop (TX.p_Ratio_top _ rfl rfl) (hr.mono (by decide)) (vv 0)) (da_cons (dn_prop (TX.p_Ratio_bottom _ rfl rfl) (hr.mono (by decide)) (vv 0)) da_nil))))) ss_nil) (ss_one (ds_ret (dn_tup (da_cons (vv 0) (da_cons dn_int da_nil)))))))
theorem sc_Ratio_eq : FnScope ["self", "other", "top", "bottom"] ["self", "other"] (defScope s_Ratio_eq) := ⟨rfl, rfl, rfl, by decide +kernel, rfl, by decide +kernel, by decide +kernel⟩
theorem mt_Ratio_eq (TX : Txt K mg T) : MethAt P w K mg base T "__eq__" 1 4 d_Ratio_eq :=
  meth_at (kp := false) (k := 3) (N := ["self", "other", "top", "bottom"]) (body := b_Ratio_eq) TX.d_Ratio_eq TX.y_Ratio TX.m_Ratio_eq sc_Ratio_eq (fun f cdv A outer s H E hr tk => have sc := sc_Ratio_eq; (ss_cons (ds_if (dt_not (dt_val (dn_call (ok_is_number TX) (hr.mono (by decide)) tk rfl (da_cons (vv 1) da_nil)))) (ss_one (ds_ret dn_bl)) ss_nil) (ss_cons (ds_asg (dn_call (ok_parts_of TX) (hr.mono (by decide)) tk rfl (da_cons (vv 1) da_nil)) (dg_tup rfl TX.hT (dgs_cons (dg_name (i := 2) sc.nd rfl (Or.inl rfl)) (dgs_cons (dg_name (i := 3) sc.nd rfl (Or.inl rfl)) dgs_nil)) (gtCons_len (gtCons_len gtNil_len)))) (ss_one (ds_ret (dn_and (dn_eq TX.hT hr (dn_attr TX.hT (vv 0) TX.f__top rfl) (vv 2)) (dn_one (dn_eq TX.hT hr (dn_attr TX.hT (vv 0) TX.f__bottom rfl) (vv 3)))))))))
theorem sc_Web_eq : FnScope ["self", "other"] ["self", "other"] (defScope s_Web_eq) := ⟨rfl, rfl, rfl, by decide +kernel, rfl, by decide +kernel, by decide +kernel⟩
theorem mt_Web_eq (TX : Txt K mg T) : MethAt P w K mg base T "__eq__" 0 1 d_Web_eq :=
  meth_at (kp := false) (k := 0) (N := ["self", "other"]) (body := b_Web_eq) TX.d_Web_eq TX.y_Web TX.m_Web_eq sc_Web_eq (fun f cdv A outer s H E hr tk => have sc := sc_Web_eq; (ss_one (ds_ret (dn_and (dn_isi TX.hT (pe_glob rfl TX.g_Web (show RelV (.ref _) (.ref _) from rfl)) (.own _) TX.k_Web rfl TX.n_isinstance (vv 1)) (dn_and (dn_eq TX.hT hr (dn_attr TX.hT (vv 0) TX.f_seats rfl) (dn_attr TX.hT (vv 1) TX.f_seats rfl)) (dn_one (dn_eq TX.hT hr (dn_attr TX.hT (vv 0) TX.f_heard_lots rfl) (dn_attr TX.hT (vv 1) TX.f_heard_lots rfl))))))))
theorem eqs_ok (TX : Txt K mg T) : MethsAt P w K mg base T "__eq__" 4 eqs := (.cons (mt_Ratio_eq TX) (by decide) (.cons (mt_Web_eq TX) (by decide) .nil))
theorem sc_law_bad_lots : FnScope ["_law_seats1", "_law_lots1", "_law_some"] ["_law_seats1", "_law_lots1"] (defScope s_law_bad_lots) := ⟨rfl, rfl, rfl, by decide +kernel, rfl, by decide +kernel, by decide +kernel⟩
theorem ok_law_bad_lots (TX : Txt K mg T) : FnAt P w K mg base T "_law_bad_lots" 3 d_law_bad_lots :=
  fn_at (kp := false) (k := 2) (N := ["_law_seats1", "_law_lots1", "_law_some"]) (body := b_law_bad_lots) TX.d_law_bad_lots sc_law_bad_lots (fun f cdv A outer s H E hr tk => have sc := sc_law_bad_lots; (ss_cons (ds_set (i := 2) sc.nd rfl (Or.inl rfl) (dn_lst (da_cons dn_non (da_cons (dn_lst da_nil) (da_cons (dn_tup da_nil) (da_cons dn_int (da_cons dn_str (da_cons dn_dct1 (da_cons (dn_mul (dn_lst (da_cons (dn_lst da_nil) da_nil)) dn_int) (da_cons (dn_add TX.hT (dn_slice TX.hT (vv 1) do_none (do_some dn_int)) (dn_lst (da_cons dn_non da_nil))) (da_cons (dn_lst (da_cons (dn_lst (da_cons dn_int (da_cons dn_int da_nil))) da_nil)) (da_cons (dn_lst (da_cons (dn_lst (da_cons (vv 0) da_nil)) da_nil)) (da_cons (dn_lst (da_cons (dn_lst (da_cons (dn_neg dn_int) da_nil)) da_nil)) (da_cons (dn_lst (da_cons (dn_lst (da_cons dn_bl da_nil)) da_nil)) da_nil)))))))))))))) (ss_cons (ds_set (i := 2) sc.nd rfl (Or.inl rfl) (dn_add TX.hT (vv 2) (dn_lst (da_cons (dn_lst (da_cons (dn_lst (da_cons dn_str da_nil)) da_nil)) (da_cons (dn_lst (da_cons (dn_lst (da_cons dn_non da_nil)) da_nil)) (da_cons (dn_lst (da_cons dn_int da_nil)) (da_cons (dn_lst (da_cons (dn_lst (da_cons dn_str da_nil)) da_nil)) (da_cons (dn_lst (da_cons (dn_lst (da_cons (dn_makeD (mk_Ratio TX) (hr.mono (by decide)) tk rfl (da_cons dn_int da_nil)) da_nil)) da_nil)) (da_cons (dn_lst (da_cons dn_dct1 da_nil)) (da_cons (dn_lst (da_cons (dn_lst (da_cons (dn_lst (da_cons dn_int da_nil)) da_nil)) da_nil)) (da_cons (dn_lst (da_cons (dn_lst (da_cons dn_int da_nil)) (da_cons (dn_lst (da_cons (dn_pow dn_int dn_int) da_nil)) da_nil))) (da_cons (dn_lst (da_cons dn_str da_nil)) da_nil)))))))))))) (ss_one (ds_ret (dn_add TX.hT (vv 2) (dn_lst (da_cons (dn_lst (da_cons (dn_lst (da_cons dn_int (da_cons dn_int da_nil))) da_nil)) (da_cons (dn_lst (da_cons (dn_lst da_nil) (da_cons (dn_lst (da_cons dn_int (da_cons dn_int (da_cons dn_int da_nil)))) da_nil))) (da_cons (dn_lst (da_cons (dn_lst (da_cons dn_int (da_cons dn_int (da_cons dn_int (da_cons dn_int da_nil))))) da_nil)) da_nil))))))))))
theorem sc_law_bad_seats : FnScope [] [] (defScope s_law_bad_seats) := ⟨rfl, rfl, rfl, by decide +kernel, rfl, by decide +kernel, by decide +kernel⟩
theorem ok_law_bad_seats (TX : Txt K mg T) : FnAt P w K mg base T "_law_bad_seats" 3 d_law_bad_seats :=
  fn_at (kp := false) (k := 2) (N := []) (body := b_law_bad_seats) TX.d_law_bad_seats sc_law_bad_seats (fun f cdv A outer s H E hr tk => have sc := sc_law_bad_seats; (ss_one (ds_ret (dn_lst (da_cons dn_non (da_cons dn_int (da_cons dn_int (da_cons (dn_neg dn_int) (da_cons dn_bl (da_cons dn_str (da_cons (dn_lst (da_cons dn_int da_nil)) (da_cons (dn_tup da_nil) (da_cons (dn_makeD (mk_Ratio TX) (hr.mono (by decide)) tk rfl (da_cons dn_int da_nil)) (da_cons (dn_pow dn_int dn_int) (da_cons dn_dct1 da_nil)))))))))))))))
theorem sc_Web_len : FnScope ["self"] ["self"] (defScope s_Web_len) := ⟨rfl, rfl, rfl, by decide +kernel, rfl, by decide +kernel, by decide +kernel⟩
theorem mt_Web_len (TX : Txt K mg T) : MethAt P w K mg base T "__len__" 0 1 d_Web_len :=
  meth_at (kp := false) (k := 0) (N := ["self"]) (body := b_Web_len) TX.d_Web_len TX.y_Web TX.m_Web_len sc_Web_len (fun f cdv A outer s H E hr tk => have sc := sc_Web_len; (ss_one (ds_ret (dn_len TX.hT rfl TX.n_len (da_cons (dn_attr TX.hT (vv 0) TX.f_heard_lots rfl) da_nil)))))
theorem lens_ok (TX : Txt K mg T) : LensAt P w K mg base T 1 lens := (.cons (mt_Web_len TX) (by decide) TX.l_Web .nil)
theorem sc_law_box : FnScope ["_law_script", "_law_k", "_law_spare"] ["_law_script", "_law_k"] (defScope s_law_box) := ⟨rfl, rfl, rfl, by decide +kernel, rfl, by decide +kernel, by decide +kernel⟩
theorem ok_law_box (TX : Txt K mg T) : FnAt P w K mg base T "_law_box" 3 d_law_box :=
  fn_at (kp := true) (k := 2) (N := ["_law_script", "_law_k", "_law_spare"]) (body := b_law_box) TX.d_law_box sc_law_box (fun f cdv A outer s H E hr tk => have sc := sc_law_box; (ss_cons (ds_set (i := 2) sc.nd rfl (Or.inl rfl) (dn_mod (dn_intc rfl TX.n_int (da_cons (dn_add TX.hT (dn_sum TX.hT rfl rfl TX.n_sum (da_cons (vv 0) da_nil)) (dn_lenO TX.hT (hr.mono (by decide)) (lens_ok TX) rfl TX.n_len (da_cons (vv 0) da_nil))) da_nil)) dn_int)) (ss_one (ds_ret (dn_cell (da_cons (dn_if (dt_lt (vv 1) (dn_lenO TX.hT (hr.mono (by decide)) (lens_ok TX) rfl TX.n_len (da_cons (vv 0) da_nil))) (dn_abs rfl TX.n_abs (da_cons (dn_intc rfl TX.n_int (da_cons (dn_ix TX.hT (vv 0) (vv 1)) da_nil)) da_nil)) dn_int) (da_cons dn_int (da_cons (dn_add TX.hT (dn_add TX.hT (dn_mul dn_int (vv 1)) dn_int) (vv 2)) da_nil))))))))
theorem sc_is_integer : FnScope ["value"] ["value"] (defScope s_is_integer) := ⟨rfl, rfl, rfl, by decide +kernel, rfl, by decide +kernel, by decide +kernel⟩
theorem ok_is_integer (TX : Txt K mg T) : FnAt P w K mg base T "is_integer" 1 d_is_integer :=
  fn_at (kp := false) (k := 0) (N := ["value"]) (body := b_is_integer) TX.d_is_integer sc_is_integer (fun f cdv A outer s H E hr tk => have sc := sc_is_integer; (ss_one (ds_ret (dn_and (dn_isi TX.hT (pe_ty rfl TX.n_int boot_ty_int) (.ty "int") TX.k_int rfl TX.n_isinstance (vv 0)) (dn_one (dn_not (dn_isi TX.hT (pe_ty rfl TX.n_bool boot_ty_bool) (.ty "bool") TX.k_bool rfl TX.n_isinstance (vv 0))))))))
theorem sc_is_place : FnScope ["value", "many"] ["value", "many"] (defScope s_is_place) := ⟨rfl, rfl, rfl, by decide +kernel, rfl, by decide +kernel, by decide +kernel⟩
theorem ok_is_place (TX : Txt K mg T) : FnAt P w K mg base T "is_place" 2 d_is_place :=
  fn_at (kp := false) (k := 1) (N := ["value", "many"]) (body := b_is_place) TX.d_is_place sc_is_place (fun f cdv A outer s H E hr tk => have sc := sc_is_place; (ss_one (ds_ret (dn_and (dn_call (ok_is_integer TX) (hr.mono (by decide)) tk rfl (da_cons (vv 0) da_nil)) (dn_one (dn_le_lt dn_int (vv 0) (vv 1)))))))
theorem sc_is_lot : FnScope ["value", "seats", "seat", "at"] ["value", "seats"] (defScope s_is_lot) := ⟨rfl, rfl, rfl, by decide +kernel, rfl, by decide +kernel, by decide +kernel⟩
theorem ok_is_lot (TX : Txt K mg T) : FnAt P w K mg base T "is_lot" 3 d_is_lot :=
  fn_at (kp := false) (k := 2) (N := ["value", "seats", "seat", "at"]) (body := b_is_lot) TX.d_is_lot sc_is_lot (fun f cdv A outer s H E hr tk => have sc := sc_is_lot; (ss_cons (ds_if (PW.pt (dw_or (dt_not (dt_val (dn_isi2 TX.hT (pe_ty rfl TX.n_list boot_ty_list) (pe_ty rfl TX.n_tuple boot_ty_tuple) (.ty "list") (.ty "tuple") TX.k_list_tuple rfl TX.n_isinstance (vv 0)))) (dw_or1 (dt_not (dt_val (dn_all TX.hT rfl rfl TX.n_all (da_cons (dn_comp (own := [("seat", 2)]) rfl sc.nd (di_seq TX.hT (vv 0)) (blkOk_by rfl) (fun _ _ _ _ _ => (dv_name (i := 2) sc.nd rfl (by first | exact Or.inl rfl | exact Or.inr rfl) (by decide))) (fun _ _ _ _ _ => dts_nil) (fun _ _ _ _ _ => (dn_call (ok_is_place TX) (hr.mono (by decide)) takes0 rfl (da_cons (vv 2) (da_cons (vv 1) da_nil))))) da_nil))))))) (ss_one (ds_ret dn_bl)) ss_nil) (ss_one (ds_ret (dn_all TX.hT rfl rfl TX.n_all (da_cons (dn_comp (own := [("at", 3)]) rfl sc.nd (di_range rfl TX.n_range (da_cons (dn_sub (dn_lenO TX.hT (hr.mono (by decide)) (lens_ok TX) rfl TX.n_len (da_cons (vv 0) da_nil)) dn_int) da_nil)) (blkOk_by rfl) (fun _ _ _ _ _ => (dv_name (i := 3) sc.nd rfl (by first | exact Or.inl rfl | exact Or.inr rfl) (by decide))) (fun _ _ _ _ _ => dts_nil) (fun _ _ _ _ _ => (dn_lt (dn_ix TX.hT (vv 0) (vv 3)) (dn_ix TX.hT (vv 0) (dn_add TX.hT (vv 3) dn_int))))) da_nil))))))
theorem sc_are_lots : FnScope ["value", "seats", "lot"] ["value", "seats"] (defScope s_are_lots) := ⟨rfl, rfl, rfl, by decide +kernel, rfl, by decide +kernel, by decide +kernel⟩
theorem ok_are_lots (TX : Txt K mg T) : FnAt P w K mg base T "are_lots" 4 d_are_lots :=
  fn_at (kp := false) (k := 3) (N := ["value", "seats", "lot"]) (body := b_are_lots) TX.d_are_lots sc_are_lots (fun f cdv A outer s H E hr tk => have sc := sc_are_lots; (ss_cons (ds_if (PW.pt (dw_or (dt_not (dt_val (dn_isi2 TX.hT (pe_ty rfl TX.n_list boot_ty_list) (pe_ty rfl TX.n_tuple boot_ty_tuple) (.ty "list") (.ty "tuple") TX.k_list_tuple rfl TX.n_isinstance (vv 0)))) (dw_or1 (dt_not (dt_le_le dn_int (dn_lenO TX.hT (hr.mono (by decide)) (lens_ok TX) rfl TX.n_len (da_cons (vv 0) da_nil)) (dn_gint rfl TX.g_MOST_SEATS)))))) (ss_one (ds_ret dn_bl)) ss_nil) (ss_one (ds_ret (dn_all TX.hT rfl rfl TX.n_all (da_cons (dn_comp (own := [("lot", 2)]) rfl sc.nd (di_seq TX.hT (vv 0)) (blkOk_by rfl) (fun _ _ _ _ _ => (dv_name (i := 2) sc.nd rfl (by first | exact Or.inl rfl | exact Or.inr rfl) (by decide))) (fun _ _ _ _ _ => dts_nil) (fun _ _ _ _ _ => (dn_call (ok_is_lot TX) (hr.mono (by decide)) takes0 rfl (da_cons (vv 2) (da_cons (vv 1) da_nil))))) da_nil))))))
theorem sc_is_many : FnScope ["value"] ["value"] (defScope s_is_many) := ⟨rfl, rfl, rfl, by decide +kernel, rfl, by decide +kernel, by decide +kernel⟩
theorem ok_is_many (TX : Txt K mg T) : FnAt P w K mg base T "is_many" 3 d_is_many :=
  fn_at (kp := false) (k := 2) (N := ["value"]) (body := b_is_many) TX.d_is_many sc_is_many (fun f cdv A outer s H E hr tk => have sc := sc_is_many; (ss_one (ds_ret (dn_and (dn_call (ok_is_place TX) (hr.mono (by decide)) tk rfl (da_cons (vv 0) (da_cons (dn_add TX.hT (dn_gint rfl TX.g_MOST_SEATS) dn_int) da_nil))) (dn_one (dn_gt (vv 0) dn_int))))))
theorem sc_Web_init : FnScope ["self", "seats", "lots", "lot"] ["self", "seats", "lots"] (defScope s_Web_init) := ⟨rfl, rfl, rfl, by decide +kernel, rfl, by decide +kernel, by decide +kernel⟩
theorem mk_Web (TX : Txt K mg T) : MakeAt P w K mg base T "Web" 0 2 5 d_Web_init :=
  make_at (kp := false) (k := 4) (N := ["self", "seats", "lots", "lot"]) (body := b_Web_init) TX.d_Web_init TX.g_Web TX.l_Web sc_Web_init (fun f cdv A outer s H E hr tk => have sc := sc_Web_init; (ss_cons (ds_if (dt_not (dt_val (dn_call (ok_is_many TX) (hr.mono (by decide)) tk rfl (da_cons (vv 1) da_nil)))) (ss_one (ds_raise1 (xa_InvalidSeat TX) (hr.mono (by decide)) rfl tk rfl (vv 1))) ss_nil) (ss_cons (ds_if (dt_not (dt_val (dn_call (ok_are_lots TX) (hr.mono (by decide)) tk rfl (da_cons (vv 2) (da_cons (vv 1) da_nil))))) (ss_one (ds_raise1 (xa_InvalidLot TX) (hr.mono (by decide)) rfl tk rfl (vv 2))) ss_nil) (ss_cons (ds_fld (vv 0) (vv 1) TX.f_seats) (ss_one (ds_fld (vv 0) (dn_tuple TX.hT rfl TX.n_tuple (da_cons (dn_comp (own := [("lot", 3)]) rfl sc.nd (di_seq TX.hT (vv 2)) (blkOk_by rfl) (fun _ _ _ _ _ => (dv_name (i := 3) sc.nd rfl (by first | exact Or.inl rfl | exact Or.inr rfl) (by decide))) (fun _ _ _ _ _ => dts_nil) (fun _ _ _ _ _ => (dn_tuple TX.hT rfl TX.n_tuple (da_cons (vv 3) da_nil)))) da_nil)) TX.f_heard_lots))))))
theorem sc_read_web : FnScope ["text", "words", "seats", "lots", "word", "sign"] ["text"] (defScope s_read_web) := ⟨rfl, rfl, rfl, by decide +kernel, rfl, by decide +kernel, by decide +kernel⟩
theorem ok_read_web (TX : Txt K mg T) : FnAt P w K mg base T "read_web" 7 d_read_web :=
  fn_at (kp := false) (k := 6) (N := ["text", "words", "seats", "lots", "word", "sign"]) (body := b_read_web) TX.d_read_web sc_read_web (fun f cdv A outer s H E hr tk => have sc := sc_read_web; (ss_cons (ds_if (dt_not (dt_val (dn_isi TX.hT (pe_ty rfl TX.n_str boot_ty_str) (.ty "str") TX.k_str rfl TX.n_isinstance (vv 0)))) (ss_one (ds_raise1 (xa_InvalidText TX) (hr.mono (by decide)) rfl tk rfl (vv 0))) ss_nil) (ss_cons (ds_set (i := 1) sc.nd rfl (Or.inl rfl) (dn_split (vv 0) dn_str)) (ss_cons (ds_set (i := 2) sc.nd rfl (Or.inl rfl) (dn_if (dt_eq TX.hT hr (dn_lenO TX.hT (hr.mono (by decide)) (lens_ok TX) rfl TX.n_len (da_cons (dn_ix TX.hT (vv 1) dn_int) da_nil)) dn_int) (dn_find (dn_gstr rfl TX.g_FIGURES) (dn_ix TX.hT (vv 1) dn_int)) dn_int)) (ss_cons (ds_setComp (own := [("word", 4)]) (i := 3) rfl sc.nd rfl rfl rfl (di_seqT TX.hT (dn_slice TX.hT (vv 1) (do_some dn_int) do_none)) (blkOk_by rfl) (fun _ _ _ _ _ => (dv_name (i := 4) sc.nd rfl (by first | exact Or.inl rfl | exact Or.inr rfl) (by decide))) (fun _ _ _ _ _ => dts_nil) (fun _ _ _ _ _ => (dn_if (dt_ne TX.hT hr (vv 4) dn_str) (dn_comp (own := [("sign", 5)]) rfl sc.nd (di_seqT TX.hT (vv 4)) (blkOk_by rfl) (fun _ _ _ _ _ => (dv_name (i := 5) sc.nd rfl (by first | exact Or.inl rfl | exact Or.inr rfl) (by decide))) (fun _ _ _ _ _ => dts_nil) (fun _ _ _ _ _ => (dn_find (dn_gstr rfl TX.g_FIGURES) (vv 5)))) (dn_lst da_nil)))) (ss_cons (ds_if (PW.pt (dw_or (dt_inX (k := 0) TX.hT (hr.mono (by decide)) dn_str (vv 1)) (dw_or (dt_not (dt_val (dn_call (ok_is_many TX) (hr.mono (by decide)) tk rfl (da_cons (vv 2) da_nil)))) (dw_or1 (dt_not (dt_val (dn_call (ok_are_lots TX) (hr.mono (by decide)) tk rfl (da_cons (vv 3) (da_cons (vv 2) da_nil))))))))) (ss_one (ds_raise1 (xa_InvalidText TX) (hr.mono (by decide)) rfl tk rfl (vv 0))) ss_nil) (ss_one (ds_ret (dn_make (mk_Web TX) (hr.mono (by decide)) tk rfl (da_cons (vv 2) (da_cons (vv 3) da_nil)))))))))))
theorem sc_law_caught : FnScope ["_law_text_here", "e"] ["_law_text_here"] (defScope s_law_caught) := ⟨rfl, rfl, rfl, by decide +kernel, rfl, by decide +kernel, by decide +kernel⟩
theorem ok_law_caught (TX : Txt K mg T) : FnAt P w K mg base T "_law_caught" 8 d_law_caught :=
  fn_at (kp := false) (k := 7) (N := ["_law_text_here", "e"]) (body := b_law_caught) TX.d_law_caught sc_law_caught (fun f cdv A outer s H E hr tk => have sc := sc_law_caught; (ss_one (ds_tryM TX.hx rfl rfl tk (fun W' pn xe tk' hp' => (ss_one (ds_ret (dn_lst (da_cons dn_str (da_cons (dn_call (ok_read_web TX) (hr.mono (by decide)) tk' rfl (da_cons (vv 0) da_nil)) da_nil)))))) (.cons ⟨rfl, by decide, .inl TX.g_InvalidText⟩ ⟨sc.nd, rfl, rfl⟩ TX.c_InvalidText TX.n_InvalidText (fun a oe cls d pn hz hf => su_some fun k hk => (ss_one (ds_ret (dn_lst (da_cons dn_str (da_cons (dn_xf hk hz hf TX.xf_given rfl (Or.inl rfl)) da_nil)))))) .nil))))
theorem sc_law_take : FnScope ["_law_box_here", "_law_many", "_law_digit", "_law_blend"] ["_law_box_here", "_law_many"] (defScope s_law_take) := ⟨rfl, rfl, rfl, by decide +kernel, rfl, by decide +kernel, by decide +kernel⟩
theorem ok_law_take (TX : Txt K mg T) : FnAt P w K mg base T "_law_take" 1 d_law_take :=
  fn_at (kp := false) (k := 0) (N := ["_law_box_here", "_law_many", "_law_digit", "_law_blend"]) (body := b_law_take) TX.d_law_take sc_law_take (fun f cdv A outer s H E hr tk => have sc := sc_law_take; (ss_cons (ds_if (dt_ge (dn_ix TX.hT (vv 0) dn_int) (dn_pow dn_int dn_int)) (ss_cons (ds_set (i := 2) sc.nd rfl (Or.inl rfl) (dn_mod (dn_intc rfl TX.n_int (da_cons (dn_ix TX.hT (vv 0) dn_int) da_nil)) (vv 1))) (ss_cons (ds_setAt (vv 0) dn_int (dn_fdiv (dn_ix TX.hT (vv 0) dn_int) (vv 1))) (ss_one (ds_ret (vv 2))))) ss_nil) (ss_cons (ds_setAt (vv 0) dn_int (dn_add TX.hT (dn_ix TX.hT (vv 0) dn_int) dn_int)) (ss_cons (ds_set (i := 3) sc.nd rfl (Or.inl rfl) (dn_mod (dn_pow (dn_intc rfl TX.n_int (da_cons (dn_add TX.hT (dn_add TX.hT (dn_mul (dn_add TX.hT (dn_ix TX.hT (vv 0) dn_int) dn_int) dn_int) (dn_mul (dn_ix TX.hT (vv 0) dn_int) dn_int)) (dn_ix TX.hT (vv 0) dn_int)) da_nil)) dn_int) dn_int)) (ss_cons (ds_set (i := 3) sc.nd rfl (Or.inl rfl) (dn_mod (dn_pow (dn_intc rfl TX.n_int (da_cons (dn_add TX.hT (vv 3) (dn_mul (dn_ix TX.hT (vv 0) dn_int) dn_int)) da_nil)) dn_int) dn_int)) (ss_one (ds_ret (dn_mod (dn_intc rfl TX.n_int (da_cons (dn_fdiv (vv 3) dn_int) da_nil)) (vv 1)))))))))
theorem sc_law_lots : FnScope ["_law_box_here", "_law_seats1", "_law_hearers1", "_law_found", "_law_hearer", "_law_way", "_law_lot", "_law_seat"] ["_law_box_here", "_law_seats1", "_law_hearers1"] (defScope s_law_lots) := ⟨rfl, rfl, rfl, by decide +kernel, rfl, by decide +kernel, by decide +kernel⟩
theorem ok_law_lots (TX : Txt K mg T) : FnAt P w K mg base T "_law_lots" 10 d_law_lots :=
  fn_at (kp := false) (k := 9) (N := ["_law_box_here", "_law_seats1", "_law_hearers1", "_law_found", "_law_hearer", "_law_way", "_law_lot", "_law_seat"]) (body := b_law_lots) TX.d_law_lots sc_law_lots (fun f cdv A outer s H E hr tk => have sc := sc_law_lots; (ss_cons (ds_set (i := 3) sc.nd rfl (Or.inl rfl) (dn_cell da_nil)) (ss_cons (ds_for PassesOwn.leaving rfl (di_range rfl TX.n_range (da_cons (vv 2) da_nil)) (dg_name (i := 4) sc.nd rfl (Or.inl rfl)) (ss_cons (ds_set (i := 5) sc.nd rfl (Or.inl rfl) (dn_call (ok_law_take TX) (hr.mono (by decide)) tk rfl (da_cons (vv 0) (da_cons dn_int da_nil)))) (ss_cons (ds_setComp (own := [("_law_seat", 7)]) (i := 6) rfl sc.nd rfl rfl rfl (di_range rfl TX.n_range (da_cons (vv 1) da_nil)) (blkOk_by rfl) (fun _ _ _ _ _ => (dv_name (i := 7) sc.nd rfl (by first | exact Or.inl rfl | exact Or.inr rfl) (by decide))) (fun _ _ _ _ _ => (dts_one (dt_eqY (eqs_ok TX) TX.hT (hr.mono (by decide)) (dn_call (ok_law_take TX) (hr.mono (by decide)) takes0 rfl (da_cons (vv 0) (da_cons dn_int da_nil))) dn_int))) (fun _ _ _ _ _ => (vv 7))) (ss_one (ds_expr (dn_app (vv 3) (da_cons (dn_if (dt_eqY (eqs_ok TX) TX.hT (hr.mono (by decide)) (vv 5) dn_int) (dn_listRng rfl rfl TX.n_list rfl TX.n_range (vv 1)) (dn_if (dt_eqY (eqs_ok TX) TX.hT (hr.mono (by decide)) (vv 5) dn_int) (dn_lst da_nil) (vv 6))) da_nil))))))) (ss_one (ds_ret (vv 3))))))
theorem sc_law_read : FnScope ["_law_text_here", "_law_words", "_law_seats1", "_law_lots1", "_law_word_here", "_law_lot", "_law_sign"] ["_law_text_here"] (defScope s_law_read) := ⟨rfl, rfl, rfl, by decide +kernel, rfl, by decide +kernel, by decide +kernel⟩
theorem ok_law_read (TX : Txt K mg T) : FnAt P w K mg base T "_law_read" 10 d_law_read :=
  fn_atE (ext := exitF) exF (k := 9) (N := ["_law_text_here", "_law_words", "_law_seats1", "_law_lots1", "_law_word_here", "_law_lot", "_law_sign"]) (body := b_law_read) TX.d_law_read sc_law_read (fun f cdv A outer s H E hr tk => have sc := sc_law_read; (ss_cons (ds_set (i := 1) sc.nd rfl (Or.inl rfl) (dn_split (vv 0) dn_str)) (ss_cons (ds_if (PW.pt (dw_or (dt_notInX (k := 0) TX.hT (hr.mono (by decide)) (dn_ix TX.hT (vv 1) dn_int) (dn_lst (da_cons dn_str (da_cons dn_str (da_cons dn_str da_nil))))) (dw_or1 (dt_not (dt_le_le dn_int (dn_lenO TX.hT (hr.mono (by decide)) (lens_ok TX) rfl TX.n_len (da_cons (vv 1) da_nil)) dn_int))))) (ss_one (ds_ret dn_non)) ss_nil) (ss_cons (ds_parT (i := 2) (j := 3) rfl sc.nd rfl rfl (Or.inr rfl) (Or.inl rfl) (da_cons (dn_intT rfl TX.n_int (da_cons (dn_ix TX.hT (vv 1) dn_int) da_nil)) (da_cons (dn_cell da_nil) da_nil))) (ss_cons (ds_for PassesOwn.leaving rfl (di_seqT TX.hT (dn_slice TX.hT (vv 1) (do_some dn_int) do_none)) (dg_name (i := 4) sc.nd rfl (Or.inl rfl)) (ss_cons (ds_if (PW.pt (dw_and (dt_neY (eqs_ok TX) TX.hT (hr.mono (by decide)) (vv 4) dn_str) (dw_and1 (PW.pt (dw_or (dt_eqY (eqs_ok TX) TX.hT (hr.mono (by decide)) (vv 4) dn_str) (dw_or1 (dt_neY (eqs_ok TX) TX.hT (hr.mono (by decide)) (dn_comp (own := [("_law_sign", 6)]) rfl sc.nd (di_seqT TX.hT (vv 4)) (blkOk_by rfl) (fun _ _ _ _ _ => (dv_name (i := 6) sc.nd rfl (by first | exact Or.inl rfl | exact Or.inr rfl) (by decide))) (fun _ _ _ _ _ => (dts_one (dt_notInX (k := 0) TX.hT (hr.mono (by decide)) (vv 6) (dn_slice TX.hT dn_str do_none (do_some (vv 2)))))) (fun _ _ _ _ _ => (vv 6))) (dn_lst da_nil)))))))) (ss_one (ds_ret dn_non)) ss_nil) (ss_cons (ds_set (i := 5) sc.nd rfl (Or.inl rfl) (dn_if (dt_eqY (eqs_ok TX) TX.hT (hr.mono (by decide)) (vv 4) dn_str) (dn_lst da_nil) (dn_comp (own := [("_law_sign", 6)]) rfl sc.nd (di_seqT TX.hT (vv 4)) (blkOk_by rfl) (fun _ _ _ _ _ => (dv_name (i := 6) sc.nd rfl (by first | exact Or.inl rfl | exact Or.inr rfl) (by decide))) (fun _ _ _ _ _ => dts_nil) (fun _ _ _ _ _ => (dn_intT rfl TX.n_int (da_cons (vv 6) da_nil)))))) (ss_cons (ds_if (dt_neY (eqs_ok TX) TX.hT (hr.mono (by decide)) (vv 5) (dn_sortSet TX.hT rfl rfl TX.n_sorted rfl TX.n_set (vv 5))) (ss_one (ds_ret dn_non)) ss_nil) (ss_one (ds_expr (dn_app (vv 3) (da_cons (vv 5) da_nil)))))))) (ss_one (ds_ret (dn_lstC (da_cons (vv 2) (da_cons (vv 3) da_nil))))))))))
theorem okA_law_read (TX : Txt K mg T) : FnAt P w K mg base T "_law_read" 10 dA_law_read :=
  fn_atE (ext := exitA) exA (k := 9) (N := ["_law_text_here", "_law_words", "_law_seats1", "_law_lots1", "_law_word_here", "_law_lot", "_law_sign"]) (body := b_law_read) TX.d_law_read sc_law_read (fun f cdv A outer s H E hr tk => have sc := sc_law_read; (ss_cons (ds_set (i := 1) sc.nd rfl (Or.inl rfl) (dn_split (vv 0) dn_str)) (ss_cons (ds_if (PW.pt (dw_or (dt_notInX (k := 0) TX.hT (hr.mono (by decide)) (dn_ix TX.hT (vv 1) dn_int) (dn_lst (da_cons dn_str (da_cons dn_str (da_cons dn_str da_nil))))) (dw_or1 (dt_not (dt_le_le dn_int (dn_lenO TX.hT (hr.mono (by decide)) (lens_ok TX) rfl TX.n_len (da_cons (vv 1) da_nil)) dn_int))))) (ss_one (ds_ret dn_non)) ss_nil) (ss_cons (ds_parT (i := 2) (j := 3) rfl sc.nd rfl rfl (Or.inr rfl) (Or.inl rfl) (da_cons (dn_intT rfl TX.n_int (da_cons (dn_ix TX.hT (vv 1) dn_int) da_nil)) (da_cons (dn_cell da_nil) da_nil))) (ss_cons (ds_for PassesOwn.leaving rfl (di_seqT TX.hT (dn_slice TX.hT (vv 1) (do_some dn_int) do_none)) (dg_name (i := 4) sc.nd rfl (Or.inl rfl)) (ss_cons (ds_if (PW.pt (dw_and (dt_neY (eqs_ok TX) TX.hT (hr.mono (by decide)) (vv 4) dn_str) (dw_and1 (PW.pt (dw_or (dt_eqY (eqs_ok TX) TX.hT (hr.mono (by decide)) (vv 4) dn_str) (dw_or1 (dt_neY (eqs_ok TX) TX.hT (hr.mono (by decide)) (dn_comp (own := [("_law_sign", 6)]) rfl sc.nd (di_seqT TX.hT (vv 4)) (blkOk_by rfl) (fun _ _ _ _ _ => (dv_name (i := 6) sc.nd rfl (by first | exact Or.inl rfl | exact Or.inr rfl) (by decide))) (fun _ _ _ _ _ => (dts_one (dt_notInX (k := 0) TX.hT (hr.mono (by decide)) (vv 6) (dn_slice TX.hT dn_str do_none (do_some (vv 2)))))) (fun _ _ _ _ _ => (vv 6))) (dn_lst da_nil)))))))) (ss_one (ds_ret dn_non)) ss_nil) (ss_cons (ds_set (i := 5) sc.nd rfl (Or.inl rfl) (dn_if (dt_eqY (eqs_ok TX) TX.hT (hr.mono (by decide)) (vv 4) dn_str) (dn_lst da_nil) (dn_comp (own := [("_law_sign", 6)]) rfl sc.nd (di_seqT TX.hT (vv 4)) (blkOk_by rfl) (fun _ _ _ _ _ => (dv_name (i := 6) sc.nd rfl (by first | exact Or.inl rfl | exact Or.inr rfl) (by decide))) (fun _ _ _ _ _ => dts_nil) (fun _ _ _ _ _ => (dn_intT rfl TX.n_int (da_cons (vv 6) da_nil)))))) (ss_cons (ds_if (dt_neY (eqs_ok TX) TX.hT (hr.mono (by decide)) (vv 5) (dn_sortSet TX.hT rfl rfl TX.n_sorted rfl TX.n_set (vv 5))) (ss_one (ds_ret dn_non)) ss_nil) (ss_one (ds_expr (dn_app (vv 3) (da_cons (vv 5) da_nil)))))))) (ss_one (ds_ret (dn_lstC (da_cons (vv 2) (da_cons (vv 3) da_nil))))))))))
theorem sc_Web_text : FnScope ["self", "words", "lot", "seat"] ["self"] (defScope s_Web_text) := ⟨rfl, rfl, rfl, by decide +kernel, rfl, by decide +kernel, by decide +kernel⟩
theorem mt_Web_text (TX : Txt K mg T) : MethAt P w K mg base T "text" 0 1 d_Web_text :=
  meth_at (kp := false) (k := 0) (N := ["self", "words", "lot", "seat"]) (body := b_Web_text) TX.d_Web_text TX.y_Web TX.m_Web_text sc_Web_text (fun f cdv A outer s H E hr tk => have sc := sc_Web_text; (ss_cons (ds_setComp (own := [("lot", 2)]) (i := 1) rfl sc.nd rfl rfl rfl (di_seq TX.hT (dn_attr TX.hT (vv 0) TX.f_heard_lots rfl)) (blkOk_by rfl) (fun _ _ _ _ _ => (dv_name (i := 2) sc.nd rfl (by first | exact Or.inl rfl | exact Or.inr rfl) (by decide))) (fun _ _ _ _ _ => dts_nil) (fun _ _ _ _ _ => (dn_if (dt_ne TX.hT hr (vv 2) (dn_tup da_nil)) (dn_join TX.hT dn_str (dn_comp (own := [("seat", 3)]) rfl sc.nd (di_seq TX.hT (vv 2)) (blkOk_by rfl) (fun _ _ _ _ _ => (dv_name (i := 3) sc.nd rfl (by first | exact Or.inl rfl | exact Or.inr rfl) (by decide))) (fun _ _ _ _ _ => dts_nil) (fun _ _ _ _ _ => (dn_strc rfl TX.n_str (da_cons (vv 3) da_nil))))) dn_str))) (ss_one (ds_ret (dn_join TX.hT dn_str (dn_lst (da_cons (dn_strc rfl TX.n_str (da_cons (dn_attr TX.hT (vv 0) TX.f_seats rfl) da_nil)) (da_star TX.hT (vv 1) da_nil))))))))
theorem t_text_ok (TX : Txt K mg T) : MethsAt P w K mg base T "text" 1 t_text := (.cons (mt_Web_text TX) (by decide) .nil)
theorem sc_law_reading_right : FnScope ["_law_text_here", "_law_due", "_law_told"] ["_law_text_here"] (defScope s_law_reading_right) := ⟨rfl, rfl, rfl, by decide +kernel, rfl, by decide +kernel, by decide +kernel⟩
theorem ok_law_reading_right (TX : Txt K mg T) : FnAt P w K mg base T "_law_reading_right" 11 d_law_reading_right :=
  fn_at (kp := false) (k := 10) (N := ["_law_text_here", "_law_due", "_law_told"]) (body := b_law_reading_right) TX.d_law_reading_right sc_law_reading_right (fun f cdv A outer s H E hr tk => have sc := sc_law_reading_right; (ss_cons (ds_par (i := 1) (j := 2) rfl sc.nd rfl rfl (by decide) rfl rfl (da_cons (dn_call (ok_law_read TX) (hr.mono (by decide)) tk rfl (da_cons (vv 0) da_nil)) (da_cons (dn_call (ok_law_caught TX) (hr.mono (by decide)) tk rfl (da_cons (vv 0) da_nil)) da_nil)) rfl) (ss_cons (ds_if (dt_isN (vv 1)) (ss_one (ds_ret (dn_eqY (eqs_ok TX) TX.hT (hr.mono (by decide)) (vv 2) (dn_lst (da_cons dn_str (da_cons (vv 0) da_nil)))))) ss_nil) (ss_one (ds_ret (dn_and (dn_eqY (eqs_ok TX) TX.hT (hr.mono (by decide)) (vv 2) (dn_lst (da_cons dn_str (da_cons (dn_make (mk_Web TX) (hr.mono (by decide)) tk rfl (da_cons (dn_ix TX.hT (vv 1) dn_int) (da_cons (dn_ix TX.hT (vv 1) dn_int) da_nil))) da_nil)))) (dn_one (dn_eqY (eqs_ok TX) TX.hT (hr.mono (by decide)) (dn_meth0 (dn_ix TX.hT (vv 2) dn_int) (t_text_ok TX) (hr.mono (by decide)) tk) (vv 0)))))))))
theorem sc_law_spoilt : FnScope ["_law_box_here", "_law_text_here", "_law_way", "_law_spot", "_law_sign", "_law_words", "_law_at"] ["_law_box_here", "_law_text_here"] (defScope s_law_spoilt) := ⟨rfl, rfl, rfl, by decide +kernel, rfl, by decide +kernel, by decide +kernel⟩
theorem ok_law_spoilt (TX : Txt K mg T) : FnAt P w K mg base T "_law_spoilt" 3 d_law_spoilt :=
  fn_at (kp := false) (k := 2) (N := ["_law_box_here", "_law_text_here", "_law_way", "_law_spot", "_law_sign", "_law_words", "_law_at"]) (body := b_law_spoilt) TX.d_law_spoilt sc_law_spoilt (fun f cdv A outer s H E hr tk => have sc := sc_law_spoilt; (ss_cons (ds_par (i := 2) (j := 3) rfl sc.nd rfl rfl (by decide) rfl rfl (da_cons (dn_call (ok_law_take TX) (hr.mono (by decide)) tk rfl (da_cons (vv 0) (da_cons dn_int da_nil))) (da_cons (dn_call (ok_law_take TX) (hr.mono (by decide)) tk rfl (da_cons (vv 0) (da_cons (dn_add TX.hT (dn_lenO TX.hT (hr.mono (by decide)) (lens_ok TX) rfl TX.n_len (da_cons (vv 1) da_nil)) dn_int) da_nil))) da_nil)) rfl) (ss_cons (ds_set (i := 4) sc.nd rfl (Or.inl rfl) (dn_ix TX.hT dn_str (dn_call (ok_law_take TX) (hr.mono (by decide)) tk rfl (da_cons (vv 0) (da_cons dn_int da_nil))))) (ss_cons (ds_if (dt_lt (vv 2) dn_int) (ss_one (ds_ret (dn_add TX.hT (dn_add TX.hT (dn_slice TX.hT (vv 1) do_none (do_some (vv 3))) (dn_ix TX.hT (dn_lst (da_cons (vv 4) (da_cons dn_str (da_cons (vv 4) da_nil)))) (vv 2))) (dn_slice TX.hT (vv 1) (do_some (dn_add TX.hT (vv 3) (dn_ix TX.hT (dn_lst (da_cons dn_int (da_cons dn_int (da_cons dn_int da_nil)))) (vv 2)))) do_none)))) ss_nil) (ss_cons (ds_set (i := 5) sc.nd rfl (Or.inl rfl) (dn_splitC (vv 1) dn_str)) (ss_cons (ds_set (i := 6) sc.nd rfl (Or.inl rfl) (dn_call (ok_law_take TX) (hr.mono (by decide)) tk rfl (da_cons (vv 0) (da_cons (dn_lenO TX.hT (hr.mono (by decide)) (lens_ok TX) rfl TX.n_len (da_cons (vv 5) da_nil)) da_nil)))) (ss_cons (ds_setAt (vv 5) (vv 6) (dn_ix TX.hT (dn_lst (da_cons (dn_add TX.hT (dn_ix TX.hT (vv 5) (vv 6)) (dn_ix TX.hT (vv 5) (vv 6))) (da_cons (dn_rev TX.hT (dn_ix TX.hT (vv 5) (vv 6))) (da_cons dn_str (da_cons dn_str (da_cons dn_str (da_cons dn_str (da_cons dn_str (da_cons dn_str (da_cons dn_str (da_cons dn_str da_nil))))))))))) (dn_call (ok_law_take TX) (hr.mono (by decide)) tk rfl (da_cons (vv 0) (da_cons dn_int da_nil))))) (ss_one (ds_ret (dn_join TX.hT dn_str (dn_ixS TX.hT (dn_lstC (da_cons (vv 5) (da_cons (dn_add TX.hT (dn_slice TX.hT (vv 5) do_none (do_some (vv 6))) (dn_slice TX.hT (vv 5) (do_some (dn_add TX.hT (vv 6) dn_int)) do_none)) (da_cons (dn_add TX.hT (vv 5) (dn_lst (da_cons (dn_ix TX.hT (vv 5) (dn_neg dn_int)) da_nil))) da_nil)))) (dn_sub (vv 2) dn_int))))))))))))
theorem sc_law_text : FnScope ["_law_seats1", "_law_lots1", "_law_words", "_law_lot", "_law_seat", "_law_word_here"] ["_law_seats1", "_law_lots1"] (defScope s_law_text) := ⟨rfl, rfl, rfl, by decide +kernel, rfl, by decide +kernel, by decide +kernel⟩
theorem ok_law_text (TX : Txt K mg T) : FnAt P w K mg base T "_law_text" 10 d_law_text :=
  fn_at (kp := false) (k := 9) (N := ["_law_seats1", "_law_lots1", "_law_words", "_law_lot", "_law_seat", "_law_word_here"]) (body := b_law_text) TX.d_law_text sc_law_text (fun f cdv A outer s H E hr tk => have sc := sc_law_text; (ss_cons (ds_setComp (own := [("_law_lot", 3)]) (i := 2) rfl sc.nd rfl rfl rfl (di_seq TX.hT (vv 1)) (blkOk_by rfl) (fun _ _ _ _ _ => (dv_name (i := 3) sc.nd rfl (by first | exact Or.inl rfl | exact Or.inr rfl) (by decide))) (fun _ _ _ _ _ => dts_nil) (fun _ _ _ _ _ => (dn_join TX.hT dn_str (dn_comp (own := [("_law_seat", 4)]) rfl sc.nd (di_seq TX.hT (vv 3)) (blkOk_by rfl) (fun _ _ _ _ _ => (dv_name (i := 4) sc.nd rfl (by first | exact Or.inl rfl | exact Or.inr rfl) (by decide))) (fun _ _ _ _ _ => dts_nil) (fun _ _ _ _ _ => (dn_strc rfl TX.n_str (da_cons (vv 4) da_nil))))))) (ss_one (ds_ret (dn_join TX.hT dn_str (dn_add TX.hT (dn_lst (da_cons (dn_strc rfl TX.n_str (da_cons (vv 0) da_nil)) da_nil)) (dn_comp (own := [("_law_word_here", 5)]) rfl sc.nd (di_seq TX.hT (vv 2)) (blkOk_by rfl) (fun _ _ _ _ _ => (dv_name (i := 5) sc.nd rfl (by first | exact Or.inl rfl | exact Or.inr rfl) (by decide))) (fun _ _ _ _ _ => dts_nil) (fun _ _ _ _ _ => (dn_if (dt_neY (eqs_ok TX) TX.hT (hr.mono (by decide)) (vv 5) dn_str) (vv 5) dn_str)))))))))
theorem sc_all_lots : FnScope ["seats", "found", "seat", "lot"] ["seats"] (defScope s_all_lots) := ⟨rfl, rfl, rfl, by decide +kernel, rfl, by decide +kernel, by decide +kernel⟩
theorem ok_all_lots (TX : Txt K mg T) : FnAt P w K mg base T "all_lots" 1 d_all_lots :=
  fn_at (kp := false) (k := 0) (N := ["seats", "found", "seat", "lot"]) (body := b_all_lots) TX.d_all_lots sc_all_lots (fun f cdv A outer s H E hr tk => have sc := sc_all_lots; (ss_cons (ds_set (i := 1) sc.nd rfl (Or.inl rfl) (dn_cell (da_cons (dn_lst da_nil) da_nil))) (ss_cons (ds_for PassesOwn.leaving rfl (di_range rfl TX.n_range (da_cons (vv 0) da_nil)) (dg_name (i := 2) sc.nd rfl (Or.inr rfl)) (ss_one (ds_expr (dn_extend (vv 1) (da_cons (dn_comp (own := [("lot", 3)]) rfl sc.nd (di_seq TX.hT (dn_list TX.hT rfl TX.n_list (da_cons (vv 1) da_nil))) (blkOk_by rfl) (fun _ _ _ _ _ => (dv_name (i := 3) sc.nd rfl (by first | exact Or.inl rfl | exact Or.inr rfl) (by decide))) (fun _ _ _ _ _ => dts_nil) (fun _ _ _ _ _ => (dn_lst (da_star TX.hT (vv 3) (da_cons (vv 2) da_nil))))) da_nil))))) (ss_one (ds_ret (dn_sorted TX.hT hr rfl TX.n_sorted (da_cons (vv 1) da_nil)))))))
theorem sc_all_webs : FnScope ["seats", "hearers", "found", "hearer", "lots", "lot"] ["seats", "hearers"] (defScope s_all_webs) := ⟨rfl, rfl, rfl, by decide +kernel, rfl, by decide +kernel, by decide +kernel⟩
theorem ok_all_webs (TX : Txt K mg T) : FnAt P w K mg base T "all_webs" 7 d_all_webs :=
  fn_at (kp := false) (k := 6) (N := ["seats", "hearers", "found", "hearer", "lots", "lot"]) (body := b_all_webs) TX.d_all_webs sc_all_webs (fun f cdv A outer s H E hr tk => have sc := sc_all_webs; (ss_cons (ds_if (dt_not (dt_val (dn_call (ok_is_many TX) (hr.mono (by decide)) tk rfl (da_cons (vv 0) da_nil)))) (ss_one (ds_raise1 (xa_InvalidSeat TX) (hr.mono (by decide)) rfl tk rfl (vv 0))) ss_nil) (ss_cons (ds_if (dt_not (dt_val (dn_call (ok_is_many TX) (hr.mono (by decide)) tk rfl (da_cons (vv 1) da_nil)))) (ss_one (ds_raise1 (xa_InvalidSeat TX) (hr.mono (by decide)) rfl tk rfl (vv 1))) ss_nil) (ss_cons (ds_set (i := 2) sc.nd rfl (Or.inl rfl) (dn_lst (da_cons (dn_lst da_nil) da_nil))) (ss_cons (ds_for PassesOwn.leaving rfl (di_range rfl TX.n_range (da_cons (vv 1) da_nil)) (dg_name (i := 3) sc.nd rfl (Or.inl rfl)) (ss_one (ds_setComp2 (own := [("lots", 4), ("lot", 5)]) (i := 2) rfl sc.nd rfl rfl rfl (di_seq TX.hT (vv 2)) (blkOk_by rfl) (by decide) (fun _ _ _ _ _ => (dv_name (i := 4) sc.nd rfl (by first | exact Or.inl rfl | exact Or.inr rfl) (by decide))) (fun _ _ _ _ _ => dts_nil) (fun _ _ _ _ _ => (di_seq TX.hT (dn_call (ok_all_lots TX) (hr.mono (by decide)) takes0 rfl (da_cons (vv 0) da_nil)))) (fun _ _ _ _ _ => (dv_name (i := 5) sc.nd rfl (by first | exact Or.inl rfl | exact Or.inr rfl) (by decide))) (fun _ _ _ _ _ => dts_nil) (fun _ _ _ _ _ => (dn_lst (da_star TX.hT (vv 4) (da_cons (vv 5) da_nil))))))) (ss_one (ds_ret (dn_comp (own := [("lots", 4)]) rfl sc.nd (di_seq TX.hT (vv 2)) (blkOk_by rfl) (fun _ _ _ _ _ => (dv_name (i := 4) sc.nd rfl (by first | exact Or.inl rfl | exact Or.inr rfl) (by decide))) (fun _ _ _ _ _ => dts_nil) (fun _ _ _ _ _ => (dn_make (mk_Web TX) (hr.mono (by decide)) takes0 rfl (da_cons (vv 0) (da_cons (vv 4) da_nil))))))))))))
theorem sc_full_web : FnScope ["seats", "hearers", "hearer"] ["seats", "hearers"] (defScope s_full_web) := ⟨rfl, rfl, rfl, by decide +kernel, rfl, by decide +kernel, by decide +kernel⟩
theorem ok_full_web (TX : Txt K mg T) : FnAt P w K mg base T "full_web" 7 d_full_web :=
  fn_at (kp := false) (k := 6) (N := ["seats", "hearers", "hearer"]) (body := b_full_web) TX.d_full_web sc_full_web (fun f cdv A outer s H E hr tk => have sc := sc_full_web; (ss_cons (ds_if (dt_not (dt_val (dn_call (ok_is_many TX) (hr.mono (by decide)) tk rfl (da_cons (vv 0) da_nil)))) (ss_one (ds_raise1 (xa_InvalidSeat TX) (hr.mono (by decide)) rfl tk rfl (vv 0))) ss_nil) (ss_cons (ds_if (dt_not (dt_val (dn_call (ok_is_many TX) (hr.mono (by decide)) tk rfl (da_cons (vv 1) da_nil)))) (ss_one (ds_raise1 (xa_InvalidSeat TX) (hr.mono (by decide)) rfl tk rfl (vv 1))) ss_nil) (ss_one (ds_ret (dn_make (mk_Web TX) (hr.mono (by decide)) tk rfl (da_cons (vv 0) (da_cons (dn_comp (own := [("hearer", 2)]) rfl sc.nd (di_range rfl TX.n_range (da_cons (vv 1) da_nil)) (blkOk_by rfl) (fun _ _ _ _ _ => (dv_name (i := 2) sc.nd rfl (by first | exact Or.inl rfl | exact Or.inr rfl) (by decide))) (fun _ _ _ _ _ => dts_nil) (fun _ _ _ _ _ => (dn_listRng rfl rfl TX.n_list rfl TX.n_range (vv 0)))) da_nil))))))))
theorem sc_own_web : FnScope ["seats", "seat"] ["seats"] (defScope s_own_web) := ⟨rfl, rfl, rfl, by decide +kernel, rfl, by decide +kernel, by decide +kernel⟩
theorem ok_own_web (TX : Txt K mg T) : FnAt P w K mg base T "own_web" 7 d_own_web :=
  fn_at (kp := false) (k := 6) (N := ["seats", "seat"]) (body := b_own_web) TX.d_own_web sc_own_web (fun f cdv A outer s H E hr tk => have sc := sc_own_web; (ss_cons (ds_if (dt_not (dt_val (dn_call (ok_is_many TX) (hr.mono (by decide)) tk rfl (da_cons (vv 0) da_nil)))) (ss_one (ds_raise1 (xa_InvalidSeat TX) (hr.mono (by decide)) rfl tk rfl (vv 0))) ss_nil) (ss_one (ds_ret (dn_make (mk_Web TX) (hr.mono (by decide)) tk rfl (da_cons (vv 0) (da_cons (dn_comp (own := [("seat", 1)]) rfl sc.nd (di_range rfl TX.n_range (da_cons (vv 0) da_nil)) (blkOk_by rfl) (fun _ _ _ _ _ => (dv_name (i := 1) sc.nd rfl (by first | exact Or.inl rfl | exact Or.inr rfl) (by decide))) (fun _ _ _ _ _ => dts_nil) (fun _ _ _ _ _ => (dn_lst (da_cons (vv 1) da_nil)))) da_nil)))))))
theorem sc_time_web : FnScope ["seats", "seat"] ["seats"] (defScope s_time_web) := ⟨rfl, rfl, rfl, by decide +kernel, rfl, by decide +kernel, by decide +kernel⟩
theorem ok_time_web (TX : Txt K mg T) : FnAt P w K mg base T "time_web" 7 d_time_web :=
  fn_at (kp := false) (k := 6) (N := ["seats", "seat"]) (body := b_time_web) TX.d_time_web sc_time_web (fun f cdv A outer s H E hr tk => have sc := sc_time_web; (ss_cons (ds_if (dt_not (dt_val (dn_call (ok_is_many TX) (hr.mono (by decide)) tk rfl (da_cons (vv 0) da_nil)))) (ss_one (ds_raise1 (xa_InvalidSeat TX) (hr.mono (by decide)) rfl tk rfl (vv 0))) ss_nil) (ss_one (ds_ret (dn_make (mk_Web TX) (hr.mono (by decide)) tk rfl (da_cons (vv 0) (da_cons (dn_comp (own := [("seat", 1)]) rfl sc.nd (di_range rfl TX.n_range (da_cons (vv 0) da_nil)) (blkOk_by rfl) (fun _ _ _ _ _ => (dv_name (i := 1) sc.nd rfl (by first | exact Or.inl rfl | exact Or.inr rfl) (by decide))) (fun _ _ _ _ _ => dts_nil) (fun _ _ _ _ _ => (dn_listRng rfl rfl TX.n_list rfl TX.n_range (dn_add TX.hT (vv 1) dn_int)))) da_nil)))))))
theorem sc_law_word : FnScope ["_law_way", "_law_one", "_law_other", "e"] ["_law_way", "_law_one", "_law_other"] (defScope s_law_word) := ⟨rfl, rfl, rfl, by decide +kernel, rfl, by decide +kernel, by decide +kernel⟩
theorem ok_law_word (TX : Txt K mg T) : FnAt P w K mg base T "_law_word" 10 d_law_word :=
  fn_at (kp := false) (k := 9) (N := ["_law_way", "_law_one", "_law_other", "e"]) (body := b_law_word) TX.d_law_word sc_law_word (fun f cdv A outer s H E hr tk => have sc := sc_law_word; (ss_cons (ds_tryM TX.hx rfl rfl tk (fun W' pn xe tk' hp' => (ss_one (ds_if (dt_eqY (eqs_ok TX) TX.hT (hr.mono (by decide)) (vv 0) dn_int) (ss_one (ds_expr (dn_make (mk_Web TX) (hr.mono (by decide)) tk' rfl (da_cons (vv 1) (da_cons (vv 2) da_nil))))) (ss_one (ds_if (dt_eqY (eqs_ok TX) TX.hT (hr.mono (by decide)) (vv 0) dn_int) (ss_one (ds_expr (dn_call (ok_full_web TX) (hr.mono (by decide)) tk' rfl (da_cons (vv 1) (da_cons (vv 2) da_nil))))) (ss_one (ds_if (dt_eqY (eqs_ok TX) TX.hT (hr.mono (by decide)) (vv 0) dn_int) (ss_one (ds_expr (dn_call (ok_all_webs TX) (hr.mono (by decide)) tk' rfl (da_cons (vv 1) (da_cons (vv 2) da_nil))))) (ss_one (ds_if (dt_eqY (eqs_ok TX) TX.hT (hr.mono (by decide)) (vv 0) dn_int) (ss_one (ds_expr (dn_call (ok_own_web TX) (hr.mono (by decide)) tk' rfl (da_cons (vv 1) da_nil)))) (ss_one (ds_expr (dn_call (ok_time_web TX) (hr.mono (by decide)) tk' rfl (da_cons (vv 1) da_nil))))))))))))) (.cons ⟨rfl, by decide, .inl TX.g_InvalidSeat⟩ ⟨sc.nd, rfl, rfl⟩ TX.c_InvalidSeat TX.n_InvalidSeat (fun a oe cls d pn hz hf => su_some fun k hk => (ss_one (ds_ret (dn_lst (da_cons dn_str (da_cons (dn_xf hk hz hf TX.xf_given rfl (Or.inl rfl)) da_nil)))))) (.cons ⟨rfl, by decide, .inl TX.g_InvalidLot⟩ ⟨sc.nd, rfl, rfl⟩ TX.c_InvalidLot TX.n_InvalidLot (fun a oe cls d pn hz hf => su_some fun k hk => (ss_one (ds_ret (dn_lst (da_cons dn_str (da_cons (dn_xf hk hz hf TX.xf_given rfl (Or.inl rfl)) da_nil)))))) (.cons ⟨rfl, by decide, .inl TX.g_TellError⟩ trivial TX.c_TellError TX.n_TellError (fun a oe cls d pn hz hf => su_none (ss_one (ds_ret (dn_lst (da_cons dn_str da_nil))))) .nil)))) (ss_one (ds_ret (dn_lst (da_cons dn_str da_nil))))))
theorem sc_law : FnScope ["_law_script", "_law_k", "_law_box_here", "_law_seats1", "_law_hearers1", "_law_lots1", "_law_text_here", "_law_worse", "_law_turn", "_law_spoilt_here", "_law_bad", "_law_way"] ["_law_script"] (defScope s_law) := ⟨rfl, rfl, rfl, by decide +kernel, rfl, by decide +kernel, by decide +kernel⟩
theorem ok_law (TX : Txt K mg T) {f : Addr} {fd : FuncData} (F : Fun K "law" "law" s_law f fd) : FnOk P w K mg base (L2.CX P w) 12 f fd ["_law_script"] (spD T d_law) :=
  fn_okT (kp := false) (k := 11) (N := ["_law_script", "_law_k", "_law_box_here", "_law_seats1", "_law_hearers1", "_law_lots1", "_law_text_here", "_law_worse", "_law_turn", "_law_spoilt_here", "_law_bad", "_law_way"]) (body := b_law) F sc_law (fun f cdv A outer s H E hr tk => have sc := sc_law; (ss_cons (ds_for PassesOwn.leaving rfl (di_range rfl TX.n_range (da_cons (dn_max2 rfl rfl TX.n_max (da_cons dn_int (da_cons (dn_min2 rfl rfl TX.n_min (da_cons dn_int (da_cons (dn_lenO TX.hT (hr.mono (by decide)) (lens_ok TX) rfl TX.n_len (da_cons (vv 0) da_nil)) da_nil))) da_nil))) da_nil)) (dg_name (i := 1) sc.nd rfl (Or.inl rfl)) (ss_cons (ds_set (i := 2) sc.nd rfl (Or.inl rfl) (dn_call (ok_law_box TX) (hr.mono (by decide)) tk rfl (da_cons (vv 0) (da_cons (vv 1) da_nil)))) (ss_cons (ds_asg (dn_tup (da_cons (dn_add TX.hT dn_int (dn_call (ok_law_take TX) (hr.mono (by decide)) tk rfl (da_cons (vv 2) (da_cons dn_int da_nil)))) (da_cons (dn_add TX.hT dn_int (dn_call (ok_law_take TX) (hr.mono (by decide)) tk rfl (da_cons (vv 2) (da_cons dn_int da_nil)))) da_nil))) (dg_tup rfl TX.hT (dgs_cons (dg_name (i := 3) sc.nd rfl (Or.inr rfl)) (dgs_cons (dg_name (i := 4) sc.nd rfl (Or.inr rfl)) dgs_nil)) (gtCons_len (gtCons_len gtNil_len)))) (ss_cons (ds_set (i := 5) sc.nd rfl (Or.inr rfl) (dn_call (ok_law_lots TX) (hr.mono (by decide)) tk rfl (da_cons (vv 2) (da_cons (vv 3) (da_cons (vv 4) da_nil))))) (ss_cons (ds_par (i := 6) (j := 7) rfl sc.nd rfl rfl (by decide) rfl rfl (da_cons (dn_call (ok_law_text TX) (hr.mono (by decide)) tk rfl (da_cons (vv 3) (da_cons (vv 5) da_nil))) (da_cons (dn_call (ok_law_bad_lots TX) (hr.mono (by decide)) tk rfl (da_cons (vv 3) (da_cons (vv 5) da_nil))) da_nil)) rfl) (ss_cons (ds_if (PW.pt (dw_or (dt_neY (eqs_ok TX) TX.hT (hr.mono (by decide)) (dn_meth0 (dn_make (mk_Web TX) (hr.mono (by decide)) tk rfl (da_cons (vv 3) (da_cons (vv 5) da_nil))) (t_text_ok TX) (hr.mono (by decide)) tk) (vv 6)) (dw_or1 (dt_not (dt_val (dn_call (ok_law_reading_right TX) (hr.mono (by decide)) tk rfl (da_cons (vv 6) da_nil))))))) (ss_one (ds_ret dn_bl)) ss_nil) (ss_cons (ds_for PassesOwn.leaving rfl (di_range rfl TX.n_range (da_cons dn_int da_nil)) (dg_name (i := 8) sc.nd rfl (Or.inl rfl)) (ss_cons (ds_set (i := 9) sc.nd rfl (Or.inl rfl) (dn_call (ok_law_spoilt TX) (hr.mono (by decide)) tk rfl (da_cons (vv 2) (da_cons (vv 6) da_nil)))) (ss_one (ds_if (dt_not (dt_val (dn_call (ok_law_reading_right TX) (hr.mono (by decide)) tk rfl (da_cons (vv 9) da_nil)))) (ss_one (ds_ret dn_bl)) ss_nil)))) (ss_cons (ds_for PassesOwn.leaving rfl (di_seq TX.hT (dn_lst (da_cons dn_non (da_cons dn_int (da_cons dn_bl (da_cons (dn_lst (da_cons (vv 6) da_nil)) (da_cons (dn_tup (da_cons (vv 6) da_nil)) (da_cons (dn_dctV (i := 6) rfl (by first | exact Or.inl rfl | exact Or.inr rfl)) (da_cons (dn_make (mk_Web TX) (hr.mono (by decide)) tk rfl (da_cons (vv 3) (da_cons (vv 5) da_nil))) da_nil))))))))) (dg_name (i := 10) sc.nd rfl (Or.inl rfl)) (ss_one (ds_if (dt_neY (eqs_ok TX) TX.hT (hr.mono (by decide)) (dn_call (ok_law_caught TX) (hr.mono (by decide)) tk rfl (da_cons (vv 10) da_nil)) (dn_lst (da_cons dn_str (da_cons (vv 10) da_nil)))) (ss_one (ds_ret dn_bl)) ss_nil))) (ss_cons (ds_for PassesOwn.leaving rfl (di_seq TX.hT (dn_call0 (ok_law_bad_seats TX) (hr.mono (by decide)) tk rfl)) (dg_name (i := 10) sc.nd rfl (Or.inl rfl)) (ss_cons (ds_if (dt_neY (eqs_ok TX) TX.hT (hr.mono (by decide)) (dn_call (ok_law_word TX) (hr.mono (by decide)) tk rfl (da_cons dn_int (da_cons (vv 10) (da_cons (dn_ix TX.hT (dn_lst (da_cons (vv 5) (da_cons (dn_ix TX.hT (vv 7) (dn_call (ok_law_take TX) (hr.mono (by decide)) tk rfl (da_cons (vv 2) (da_cons (dn_lenO TX.hT (hr.mono (by decide)) (lens_ok TX) rfl TX.n_len (da_cons (vv 7) da_nil)) da_nil)))) da_nil))) (dn_call (ok_law_take TX) (hr.mono (by decide)) tk rfl (da_cons (vv 2) (da_cons dn_int da_nil)))) da_nil)))) (dn_lst (da_cons dn_str (da_cons (vv 10) da_nil)))) (ss_one (ds_ret dn_bl)) ss_nil) (ss_cons (ds_for PassesOwn.leaving rfl (di_seq TX.hT (dn_lst (da_cons dn_int (da_cons dn_int da_nil)))) (dg_name (i := 11) sc.nd rfl (Or.inl rfl)) (ss_cons (ds_if (dt_neY (eqs_ok TX) TX.hT (hr.mono (by decide)) (dn_call (ok_law_word TX) (hr.mono (by decide)) tk rfl (da_cons (vv 11) (da_cons (vv 10) (da_cons (dn_ix TX.hT (dn_lst (da_cons (vv 4) (da_cons dn_non da_nil))) (dn_call (ok_law_take TX) (hr.mono (by decide)) tk rfl (da_cons (vv 2) (da_cons dn_int da_nil)))) da_nil)))) (dn_lst (da_cons dn_str (da_cons (vv 10) da_nil)))) (ss_one (ds_ret dn_bl)) ss_nil) (ss_one (ds_if (dt_neY (eqs_ok TX) TX.hT (hr.mono (by decide)) (dn_call (ok_law_word TX) (hr.mono (by decide)) tk rfl (da_cons (vv 11) (da_cons (vv 3) (da_cons (vv 10) da_nil)))) (dn_lst (da_cons dn_str (da_cons (vv 10) da_nil)))) (ss_one (ds_ret dn_bl)) ss_nil)))) (ss_one (ds_if (PW.pt (dw_or (dt_neY (eqs_ok TX) TX.hT (hr.mono (by decide)) (dn_call (ok_law_word TX) (hr.mono (by decide)) tk rfl (da_cons dn_int (da_cons (vv 10) (da_cons dn_non da_nil)))) (dn_lst (da_cons dn_str (da_cons (vv 10) da_nil)))) (dw_or1 (dt_neY (eqs_ok TX) TX.hT (hr.mono (by decide)) (dn_call (ok_law_word TX) (hr.mono (by decide)) tk rfl (da_cons dn_int (da_cons (vv 10) (da_cons dn_non da_nil)))) (dn_lst (da_cons dn_str (da_cons (vv 10) da_nil))))))) (ss_one (ds_ret dn_bl)) ss_nil))))) (ss_cons (ds_for PassesOwn.leaving rfl (di_seq TX.hT (vv 7)) (dg_name (i := 10) sc.nd rfl (Or.inl rfl)) (ss_one (ds_if (dt_neY (eqs_ok TX) TX.hT (hr.mono (by decide)) (dn_call (ok_law_word TX) (hr.mono (by decide)) tk rfl (da_cons dn_int (da_cons (vv 3) (da_cons (vv 10) da_nil)))) (dn_lst (da_cons dn_str (da_cons (vv 10) da_nil)))) (ss_one (ds_ret dn_bl)) ss_nil))) (ss_one (ds_if (dt_neY (eqs_ok TX) TX.hT (hr.mono (by decide)) (dn_comp (own := [("_law_way", 11)]) rfl sc.nd (di_range rfl TX.n_range (da_cons dn_int da_nil)) (blkOk_by rfl) (fun _ _ _ _ _ => (dv_name (i := 11) sc.nd rfl (by first | exact Or.inl rfl | exact Or.inr rfl) (by decide))) (fun _ _ _ _ _ => dts_nil) (fun _ _ _ _ _ => (dn_call (ok_law_word TX) (hr.mono (by decide)) takes0 rfl (da_cons (vv 11) (da_cons (vv 3) (da_cons (dn_ix TX.hT (dn_lst (da_cons (vv 5) (da_cons (vv 4) (da_cons (vv 4) da_nil)))) (vv 11)) da_nil)))))) (dn_mul (dn_lst (da_cons (dn_lst (da_cons dn_str da_nil)) da_nil)) dn_int)) (ss_one (ds_ret dn_bl)) ss_nil)))))))))))) (ss_one (ds_ret dn_bl))))
end
theorem all_mk {l : PySem.W.OpenLaw} {w : World} {K : PySem.W.Frag} {h : Heap} {mg : Str → Option Value} {fa : Addr} {C12 C13 C39 C27 C26 C1 C0 : Addr} {f_Ratio_init f_is_number f_parts_of f_Ratio_eq f_Web_eq f_law_bad_lots f_law_bad_seats f_Web_len f_law_box f_is_integer f_is_place f_is_lot f_are_lots f_is_many f_Web_init f_read_web f_law_caught f_law_take f_law_lots f_law_read f_Web_text f_law_reading_right f_law_spoilt f_law_text f_all_lots f_all_webs f_full_web f_own_web f_time_web f_law_word f_law : Addr} (X_ : K.In h) (G : h.Ns mainGlobals mg) (hfa : mg "law" = some (.ref fa))
    {od_Ratio_init an_Ratio_init od_is_number an_is_number od_parts_of an_parts_of od_Ratio_eq an_Ratio_eq od_Web_eq an_Web_eq od_law_bad_lots an_law_bad_lots od_law_bad_seats an_law_bad_seats od_Web_len an_Web_len od_law_box an_law_box od_is_integer an_is_integer od_is_place an_is_place od_is_lot an_is_lot od_are_lots an_are_lots od_is_many an_is_many od_Web_init an_Web_init od_read_web an_read_web od_law_caught an_law_caught od_law_take an_law_take od_law_lots an_law_lots od_law_read an_law_read od_Web_text an_Web_text od_law_reading_right an_law_reading_right od_law_spoilt an_law_spoilt od_law_text an_law_text od_all_lots an_all_lots od_all_webs an_all_webs od_full_web an_full_web od_own_web an_own_web od_time_web an_time_web od_law_word an_law_word od_law an_law : Option Addr} {sl_Ratio_init sl_is_number sl_parts_of sl_Ratio_eq sl_Web_eq sl_law_bad_lots sl_law_bad_seats sl_Web_len sl_law_box sl_is_integer sl_is_place sl_is_lot sl_are_lots sl_is_many sl_Web_init sl_read_web sl_law_caught sl_law_take sl_law_lots sl_law_read sl_Web_text sl_law_reading_right sl_law_spoilt sl_law_text sl_all_lots sl_all_webs sl_full_web sl_own_web sl_time_web sl_law_word sl_law : Array (Option Value)} {oc_Ratio_init kV_Ratio_init dc_Ratio_init pm_Ratio_init cd_Ratio_init ct_Ratio_init oc_is_number kV_is_number dc_is_number pm_is_number cd_is_number ct_is_number oc_parts_of kV_parts_of dc_parts_of pm_parts_of cd_parts_of ct_parts_of oc_Ratio_eq kV_Ratio_eq dc_Ratio_eq pm_Ratio_eq cd_Ratio_eq ct_Ratio_eq oc_Web_eq kV_Web_eq dc_Web_eq pm_Web_eq cd_Web_eq ct_Web_eq oc_law_bad_lots kV_law_bad_lots dc_law_bad_lots pm_law_bad_lots cd_law_bad_lots ct_law_bad_lots oc_law_bad_seats kV_law_bad_seats dc_law_bad_seats pm_law_bad_seats cd_law_bad_seats ct_law_bad_seats oc_Web_len kV_Web_len dc_Web_len pm_Web_len cd_Web_len ct_Web_len oc_law_box kV_law_box dc_law_box pm_law_box cd_law_box ct_law_box oc_is_integer kV_is_integer dc_is_integer pm_is_integer cd_is_integer ct_is_integer oc_is_place kV_is_place dc_is_place pm_is_place cd_is_place ct_is_place oc_is_lot kV_is_lot dc_is_lot pm_is_lot cd_is_lot ct_is_lot oc_are_lots kV_are_lots dc_are_lots pm_are_lots cd_are_lots ct_are_lots oc_is_many kV_is_many dc_is_many pm_is_many cd_is_many ct_is_many oc_Web_init kV_Web_init dc_Web_init pm_Web_init cd_Web_init ct_Web_init oc_read_web kV_read_web dc_read_web pm_read_web cd_read_web ct_read_web oc_law_caught kV_law_caught dc_law_caught pm_law_caught cd_law_caught ct_law_caught oc_law_take kV_law_take dc_law_take pm_law_take cd_law_take ct_law_take oc_law_lots kV_law_lots dc_law_lots pm_law_lots cd_law_lots ct_law_lots oc_law_read kV_law_read dc_law_read pm_law_read cd_law_read ct_law_read oc_Web_text kV_Web_text dc_Web_text pm_Web_text cd_Web_text ct_Web_text oc_law_reading_right kV_law_reading_right dc_law_reading_right pm_law_reading_right cd_law_reading_right ct_law_reading_right oc_law_spoilt kV_law_spoilt dc_law_spoilt pm_law_spoilt cd_law_spoilt ct_law_spoilt oc_law_text kV_law_text dc_law_text pm_law_text cd_law_text ct_law_text oc_all_lots kV_all_lots dc_all_lots pm_all_lots cd_all_lots ct_all_lots oc_all_webs kV_all_webs dc_all_webs pm_all_webs cd_all_webs ct_all_webs oc_full_web kV_full_web dc_full_web pm_full_web cd_full_web ct_full_web oc_own_web kV_own_web dc_own_web pm_own_web cd_own_web ct_own_web oc_time_web kV_time_web dc_time_web pm_time_web cd_time_web ct_time_web oc_law_word kV_law_word dc_law_word pm_law_word cd_law_word ct_law_word oc_law kV_law dc_law pm_law cd_law ct_law : Value} {t_FIGURES t_MOST_SEATS : Tok}
    {fn_x39 N_x39 : Addr}
    {nm_x39 q_x39 : Str}
    {bs_x39 bm_x39 sub_x39 : List Value}
    {sn_x39 : List Str}
    {ab_x39 : Bool}
    {col_x39 : Option Bool}
    {dd_x39 : Option Addr}
    {k0_x39 k1_x39 k2_x39 k3_x39 k5_x39 : Option Value}
    {od_x39 an_x39 : Option Addr}
    {sl_x39 : Array (Option Value)}
    {oc_x39 kV_x39 dc_x39 pm_x39 cd_x39 ct_x39 : Value}
    {fn_x27 N_x27 : Addr}
    {nm_x27 q_x27 : Str}
    {bs_x27 bm_x27 sub_x27 : List Value}
    {sn_x27 : List Str}
    {ab_x27 : Bool}
    {col_x27 : Option Bool}
    {dd_x27 : Option Addr}
    {k0_x27 k1_x27 k2_x27 k3_x27 k5_x27 : Option Value}
    {od_x27 an_x27 : Option Addr}
    {sl_x27 : Array (Option Value)}
    {oc_x27 kV_x27 dc_x27 pm_x27 cd_x27 ct_x27 : Value}
    {fn_x26 N_x26 : Addr}
    {nm_x26 q_x26 : Str}
    {bs_x26 bm_x26 sub_x26 : List Value}
    {sn_x26 : List Str}
    {ab_x26 : Bool}
    {col_x26 : Option Bool}
    {dd_x26 : Option Addr}
    {k0_x26 k1_x26 k2_x26 k3_x26 k5_x26 : Option Value}
    {od_x26 an_x26 : Option Addr}
    {sl_x26 : Array (Option Value)}
    {oc_x26 kV_x26 dc_x26 pm_x26 cd_x26 ct_x26 : Value}
    {pp_p1_bottom ga_p1_bottom : Addr}
    {rs_p1_bottom : List Value}
    {od_p1_bottom an_p1_bottom : Option Addr}
    {sl_p1_bottom : Array (Option Value)}
    {oc_p1_bottom kV_p1_bottom dc_p1_bottom pm_p1_bottom cd_p1_bottom ct_p1_bottom : Value}
    {pp_p1_top ga_p1_top : Addr}
    {rs_p1_top : List Value}
    {od_p1_top an_p1_top : Option Addr}
    {sl_p1_top : Array (Option Value)}
    {oc_p1_top kV_p1_top dc_p1_top pm_p1_top cd_p1_top ct_p1_top : Value}
    {TT_Ratio_init : Addr}
    {ot_Ratio_init : Obj}
    {tt_Ratio_init : Tok}
    {nn_Ratio_init : Nat}
    (a12 : PySem.W.nsIn K mainGlobals "TellError" = some (some (.ref C12)))
    (a13 : PySem.W.nsIn K mainGlobals "ByZero" = some (some (.ref C13)))
    (a39 : PySem.W.nsIn K mainGlobals "InvalidText" = some (some (.ref C39)))
    (a27 : PySem.W.nsIn K mainGlobals "InvalidSeat" = some (some (.ref C27)))
    (a26 : PySem.W.nsIn K mainGlobals "InvalidLot" = some (some (.ref C26)))
    (a1 : PySem.W.nsIn K mainGlobals "Ratio" = some (some (.ref C1)))
    (a0 : PySem.W.nsIn K mainGlobals "Web" = some (some (.ref C0)))
    (gi_FIGURES : PySem.W.nsIn K mainGlobals "FIGURES" = some (some (.str "0123456789" t_FIGURES)))
    (gi_MOST_SEATS : PySem.W.nsIn K mainGlobals "MOST_SEATS" = some (some (.int 3 t_MOST_SEATS)))
    (n_abs : PySem.W.nsIn K mainGlobals "abs" = some none)
    (n_all : PySem.W.nsIn K mainGlobals "all" = some none)
    (n_bool : PySem.W.nsIn K mainGlobals "bool" = some none)
    (n_int : PySem.W.nsIn K mainGlobals "int" = some none)
    (n_isinstance : PySem.W.nsIn K mainGlobals "isinstance" = some none)
    (n_len : PySem.W.nsIn K mainGlobals "len" = some none)
    (n_list : PySem.W.nsIn K mainGlobals "list" = some none)
    (n_max : PySem.W.nsIn K mainGlobals "max" = some none)
    (n_min : PySem.W.nsIn K mainGlobals "min" = some none)
    (n_range : PySem.W.nsIn K mainGlobals "range" = some none)
    (n_set : PySem.W.nsIn K mainGlobals "set" = some none)
    (n_sorted : PySem.W.nsIn K mainGlobals "sorted" = some none)
    (n_str : PySem.W.nsIn K mainGlobals "str" = some none)
    (n_sum : PySem.W.nsIn K mainGlobals "sum" = some none)
    (n_tuple : PySem.W.nsIn K mainGlobals "tuple" = some none)
    (pg1 : PySem.W.plainGet K C1 Str.empty = true)
    (hd1 : PySem.W.hasDictIn K C1 = true)
    (po1 : PySem.W.plainOver K C1 = true)
    (sa1 : PySem.W.findIn K (.ref C1) "__setattr__" = some (some (.builtin "object.__setattr__")))
    (pg0 : PySem.W.plainGet K C0 Str.empty = true)
    (hd0 : PySem.W.hasDictIn K C0 = true)
    (po0 : PySem.W.plainOver K C0 = true)
    (sa0 : PySem.W.findIn K (.ref C0) "__setattr__" = some (some (.builtin "object.__setattr__")))
    (no1__bottom : PySem.W.findIn K (.ref C1) "_bottom" = some none)
    (no1__top : PySem.W.findIn K (.ref C1) "_top" = some none)
    (no0_heard_lots : PySem.W.findIn K (.ref C0) "heard_lots" = some none)
    (no0_seats : PySem.W.findIn K (.ref C0) "seats" = some none)
    (ha0 : PySem.W.findIn K (.ref C0) "__class__" = some (some (.builtin "object.__class__")))
    (hn0 : PySem.W.specialIn K (.builtin "object.__class__") "__get__" = some (some (.builtin "getset_descriptor.__get__")))
    (ht0 : PySem.W.takesIn K (.builtin "object.__class__") = some true)
    (hm0 : PySem.W.mroIn K C0 (.type "object") = some true)
    (xi1 : PySem.W.isClsIn K C1 = true)
    (xt1 : PySem.W.typeIn K (.ref C1) = some (.type "type"))
    (sc_0_1 : PySem.W.subIn K (.ref C0) (.ref C1) = some false)
    (sn_0_1 : (Value.ref C0 == Value.ref C1) = false)
    (ha1 : PySem.W.findIn K (.ref C1) "__class__" = some (some (.builtin "object.__class__")))
    (hn1 : PySem.W.specialIn K (.builtin "object.__class__") "__get__" = some (some (.builtin "getset_descriptor.__get__")))
    (ht1 : PySem.W.takesIn K (.builtin "object.__class__") = some true)
    (hm1 : PySem.W.mroIn K C1 (.type "object") = some true)
    (st_NoneType_1 : PySem.W.subIn K (.type "NoneType") (.ref C1) = some false)
    (st_bool_1 : PySem.W.subIn K (.type "bool") (.ref C1) = some false)
    (st_int_1 : PySem.W.subIn K (.type "int") (.ref C1) = some false)
    (st_str_1 : PySem.W.subIn K (.type "str") (.ref C1) = some false)
    (st_list_1 : PySem.W.subIn K (.type "list") (.ref C1) = some false)
    (st_tuple_1 : PySem.W.subIn K (.type "tuple") (.ref C1) = some false)
    (st_dict_1 : PySem.W.subIn K (.type "dict") (.ref C1) = some false)
    (xi0 : PySem.W.isClsIn K C0 = true)
    (xt0 : PySem.W.typeIn K (.ref C0) = some (.type "type"))
    (sc_1_0 : PySem.W.subIn K (.ref C1) (.ref C0) = some false)
    (sn_1_0 : (Value.ref C1 == Value.ref C0) = false)
    (st_NoneType_0 : PySem.W.subIn K (.type "NoneType") (.ref C0) = some false)
    (st_bool_0 : PySem.W.subIn K (.type "bool") (.ref C0) = some false)
    (st_int_0 : PySem.W.subIn K (.type "int") (.ref C0) = some false)
    (st_str_0 : PySem.W.subIn K (.type "str") (.ref C0) = some false)
    (st_list_0 : PySem.W.subIn K (.type "list") (.ref C0) = some false)
    (st_tuple_0 : PySem.W.subIn K (.type "tuple") (.ref C0) = some false)
    (st_dict_0 : PySem.W.subIn K (.type "dict") (.ref C0) = some false)
    (so_0_bool : PySem.W.subIn K (.ref C0) (.type "bool") = some false)
    (so_1_bool : PySem.W.subIn K (.ref C1) (.type "bool") = some false)
    (so_0_int : PySem.W.subIn K (.ref C0) (.type "int") = some false)
    (so_1_int : PySem.W.subIn K (.ref C1) (.type "int") = some false)
    (so_0_list : PySem.W.subIn K (.ref C0) (.type "list") = some false)
    (so_0_tuple : PySem.W.subIn K (.ref C0) (.type "tuple") = some false)
    (so_1_list : PySem.W.subIn K (.ref C1) (.type "list") = some false)
    (so_1_tuple : PySem.W.subIn K (.ref C1) (.type "tuple") = some false)
    (so_0_str : PySem.W.subIn K (.ref C0) (.type "str") = some false)
    (so_1_str : PySem.W.subIn K (.ref C1) (.type "str") = some false)
    (ei13 : PySem.W.excIn K C13 [.type "ValueError", .type "Exception", .type "BaseException", .type "object"] "ValueError.__new__" = true)
    (ek13 : PySem.W.keepIn K (.ref C13) = true)
    (er13 : PySem.W.subIn K (.ref C13) (.type "BaseException") = some true)
    (et13 : PySem.W.typeIn K (.ref C13) = some (.type "type"))
    (xb26 : PySem.W.subIn K (.ref C26) (.type "BaseException") = some true)
    (xh26 : PySem.W.hasDictIn K C26 = true)
    (xt26 : PySem.W.typeIn K (.ref C26) = some (.type "type"))
    (xi26 : PySem.W.isClsIn K C26 = true)
    (xs26 : PySem.W.subIn K (.ref C26) (.ref C26) = some true)
    (cx13_26 : PySem.W.subIn K (.ref C13) (.ref C26) = some false)
    (cx39_26 : PySem.W.subIn K (.ref C39) (.ref C26) = some false)
    (cx27_26 : PySem.W.subIn K (.ref C27) (.ref C26) = some false)
    (xb27 : PySem.W.subIn K (.ref C27) (.type "BaseException") = some true)
    (xh27 : PySem.W.hasDictIn K C27 = true)
    (xt27 : PySem.W.typeIn K (.ref C27) = some (.type "type"))
    (xi27 : PySem.W.isClsIn K C27 = true)
    (xs27 : PySem.W.subIn K (.ref C27) (.ref C27) = some true)
    (cx26_27 : PySem.W.subIn K (.ref C26) (.ref C27) = some false)
    (cx13_27 : PySem.W.subIn K (.ref C13) (.ref C27) = some false)
    (cx39_27 : PySem.W.subIn K (.ref C39) (.ref C27) = some false)
    (xb39 : PySem.W.subIn K (.ref C39) (.type "BaseException") = some true)
    (xh39 : PySem.W.hasDictIn K C39 = true)
    (xt39 : PySem.W.typeIn K (.ref C39) = some (.type "type"))
    (xi39 : PySem.W.isClsIn K C39 = true)
    (xs39 : PySem.W.subIn K (.ref C39) (.ref C39) = some true)
    (cx26_39 : PySem.W.subIn K (.ref C26) (.ref C39) = some false)
    (cx13_39 : PySem.W.subIn K (.ref C13) (.ref C39) = some false)
    (cx27_39 : PySem.W.subIn K (.ref C27) (.ref C39) = some false)
    (xb12 : PySem.W.subIn K (.ref C12) (.type "BaseException") = some true)
    (xh12 : PySem.W.hasDictIn K C12 = true)
    (xt12 : PySem.W.typeIn K (.ref C12) = some (.type "type"))
    (cx26_12 : PySem.W.subIn K (.ref C26) (.ref C12) = some true)
    (cx27_12 : PySem.W.subIn K (.ref C27) (.ref C12) = some true)
    (cx39_12 : PySem.W.subIn K (.ref C39) (.ref C12) = some true)
    (cx13_12 : PySem.W.subIn K (.ref C13) (.ref C12) = some true)
    (xi12 : PySem.W.isClsIn K C12 = true)
    (xs12 : PySem.W.subIn K (.ref C12) (.ref C12) = some true)
    (le1 : PySem.W.specialIn K (.ref C12) "__getattribute__" = some (some (.builtin "type.__getattribute__")))
    (le2 : PySem.W.readsIn K C12 (.type "type") = true)
    (le3 : PySem.W.findCls K (.ref C12) (.type "type") "__init__" = some (.val (.builtin "ValueError.__init__")))
    (iC_x39 : PySem.W.findIn K (.ref C39) "__init__" = some (some (.ref fn_x39)))
    (tI_x39 : PySem.W.typeIn K (.ref fn_x39) = some (.type "function"))
    (l_x39 : K.lookup fn_x39 = some ⟨oc_x39, od_x39, .func (PySem.W.fnOf "__init__" "InvalidText.__init__" (defArgs s_InvalidText_init) (defBody s_InvalidText_init) (defScope s_InvalidText_init) .none kV_x39 dc_x39 pm_x39 an_x39 cd_x39 ct_x39), sl_x39⟩)
    (c_x39 : PySem.W.codeIn K cd_x39 "InvalidText.__init__" = true)
    (k_x39 : PySem.W.keepIn K (.ref fn_x39) = true)
    (lo_x39 : K.lookup C39 = some (excClassObj nm_x39 q_x39 C39 N_x39 bs_x39 bm_x39 true sn_x39 sub_x39 ab_x39 col_x39 dd_x39 k0_x39 k1_x39 k2_x39 k3_x39 k5_x39 "ValueError.__new__"))
    (rv_x39 : PySem.HandSPX.refsVE bm_x39 = true)
    (sa39 : PySem.W.findIn K (.ref C39) "__setattr__" = some (some (.builtin "object.__setattr__")))
    (ek39 : PySem.W.keepIn K (.ref C39) = true)
    (xn39_given : PySem.W.findIn K (.ref C39) "given" = some none)
    (iC_x27 : PySem.W.findIn K (.ref C27) "__init__" = some (some (.ref fn_x27)))
    (tI_x27 : PySem.W.typeIn K (.ref fn_x27) = some (.type "function"))
    (l_x27 : K.lookup fn_x27 = some ⟨oc_x27, od_x27, .func (PySem.W.fnOf "__init__" "InvalidSeat.__init__" (defArgs s_InvalidSeat_init) (defBody s_InvalidSeat_init) (defScope s_InvalidSeat_init) .none kV_x27 dc_x27 pm_x27 an_x27 cd_x27 ct_x27), sl_x27⟩)
    (c_x27 : PySem.W.codeIn K cd_x27 "InvalidSeat.__init__" = true)
    (k_x27 : PySem.W.keepIn K (.ref fn_x27) = true)
    (lo_x27 : K.lookup C27 = some (excClassObj nm_x27 q_x27 C27 N_x27 bs_x27 bm_x27 true sn_x27 sub_x27 ab_x27 col_x27 dd_x27 k0_x27 k1_x27 k2_x27 k3_x27 k5_x27 "ValueError.__new__"))
    (rv_x27 : PySem.HandSPX.refsVE bm_x27 = true)
    (sa27 : PySem.W.findIn K (.ref C27) "__setattr__" = some (some (.builtin "object.__setattr__")))
    (ek27 : PySem.W.keepIn K (.ref C27) = true)
    (xn27_given : PySem.W.findIn K (.ref C27) "given" = some none)
    (iC_x26 : PySem.W.findIn K (.ref C26) "__init__" = some (some (.ref fn_x26)))
    (tI_x26 : PySem.W.typeIn K (.ref fn_x26) = some (.type "function"))
    (l_x26 : K.lookup fn_x26 = some ⟨oc_x26, od_x26, .func (PySem.W.fnOf "__init__" "InvalidLot.__init__" (defArgs s_InvalidLot_init) (defBody s_InvalidLot_init) (defScope s_InvalidLot_init) .none kV_x26 dc_x26 pm_x26 an_x26 cd_x26 ct_x26), sl_x26⟩)
    (c_x26 : PySem.W.codeIn K cd_x26 "InvalidLot.__init__" = true)
    (k_x26 : PySem.W.keepIn K (.ref fn_x26) = true)
    (lo_x26 : K.lookup C26 = some (excClassObj nm_x26 q_x26 C26 N_x26 bs_x26 bm_x26 true sn_x26 sub_x26 ab_x26 col_x26 dd_x26 k0_x26 k1_x26 k2_x26 k3_x26 k5_x26 "ValueError.__new__"))
    (rv_x26 : PySem.HandSPX.refsVE bm_x26 = true)
    (sa26 : PySem.W.findIn K (.ref C26) "__setattr__" = some (some (.builtin "object.__setattr__")))
    (ek26 : PySem.W.keepIn K (.ref C26) = true)
    (xn26_given : PySem.W.findIn K (.ref C26) "given" = some none)
    (ga26 : PySem.W.findIn K (.ref C26) "__getattribute__" = some (some (.builtin "BaseException.__getattribute__")))
    (gg26 : PySem.W.findIn K (.ref C26) "__getattr__" = some none)
    (ga27 : PySem.W.findIn K (.ref C27) "__getattribute__" = some (some (.builtin "BaseException.__getattribute__")))
    (gg27 : PySem.W.findIn K (.ref C27) "__getattr__" = some none)
    (ga39 : PySem.W.findIn K (.ref C39) "__getattribute__" = some (some (.builtin "BaseException.__getattribute__")))
    (gg39 : PySem.W.findIn K (.ref C39) "__getattr__" = some none)
    (gcd : PySem.W.nsIn K mainGlobals "gcd" = some (some (.builtin "math.gcd")))
    (p1_p1_bottom : PySem.W.findIn K (.ref C1) "bottom" = some (some (.ref pp_p1_bottom)))
    (p2_p1_bottom : PySem.W.specialIn K (.ref pp_p1_bottom) "__get__" = some (some (.builtin "property.__get__")))
    (p3_p1_bottom : PySem.W.takesIn K (.ref pp_p1_bottom) = some true)
    (p4_p1_bottom : PySem.W.recIn K pp_p1_bottom "property" = some (.ref ga_p1_bottom :: rs_p1_bottom))
    (l_p1_bottom : K.lookup ga_p1_bottom = some ⟨oc_p1_bottom, od_p1_bottom, .func (PySem.W.fnOf "bottom" "Ratio.bottom" (defArgs s_Ratio_bottom) (defBody s_Ratio_bottom) (defScope s_Ratio_bottom) .none kV_p1_bottom dc_p1_bottom pm_p1_bottom an_p1_bottom cd_p1_bottom ct_p1_bottom), sl_p1_bottom⟩)
    (c_p1_bottom : PySem.W.codeIn K cd_p1_bottom "Ratio.bottom" = true)
    (k_p1_bottom : PySem.W.keepIn K (.ref ga_p1_bottom) = true)
    (p1_p1_top : PySem.W.findIn K (.ref C1) "top" = some (some (.ref pp_p1_top)))
    (p2_p1_top : PySem.W.specialIn K (.ref pp_p1_top) "__get__" = some (some (.builtin "property.__get__")))
    (p3_p1_top : PySem.W.takesIn K (.ref pp_p1_top) = some true)
    (p4_p1_top : PySem.W.recIn K pp_p1_top "property" = some (.ref ga_p1_top :: rs_p1_top))
    (l_p1_top : K.lookup ga_p1_top = some ⟨oc_p1_top, od_p1_top, .func (PySem.W.fnOf "top" "Ratio.top" (defArgs s_Ratio_top) (defBody s_Ratio_top) (defScope s_Ratio_top) .none kV_p1_top dc_p1_top pm_p1_top an_p1_top cd_p1_top ct_p1_top), sl_p1_top⟩)
    (c_p1_top : PySem.W.codeIn K cd_p1_top "Ratio.top" = true)
    (k_p1_top : PySem.W.keepIn K (.ref ga_p1_top) = true)
    (a_Ratio_init : PySem.W.findIn K (.ref C1) "__init__" = some (some (.ref f_Ratio_init)))
    (i_Ratio_init : PySem.W.isFn K (.ref f_Ratio_init) = true)
    (l_Ratio_init : K.lookup f_Ratio_init = some ⟨oc_Ratio_init, od_Ratio_init, .func (PySem.W.fnOf "__init__" "Ratio.__init__" (defArgs s_Ratio_init) (defBody s_Ratio_init) (defScope s_Ratio_init) (.ref TT_Ratio_init) kV_Ratio_init dc_Ratio_init pm_Ratio_init an_Ratio_init cd_Ratio_init ct_Ratio_init), sl_Ratio_init⟩)
    (c_Ratio_init : PySem.W.codeIn K cd_Ratio_init "Ratio.__init__" = true)
    (k_Ratio_init : PySem.W.keepIn K (.ref f_Ratio_init) = true)
    (lt_Ratio_init : K.lookup TT_Ratio_init = some ot_Ratio_init)
    (ho_Ratio_init : ot_Ratio_init.data = .seq #[.int 1 tt_Ratio_init] nn_Ratio_init)
    (mk1 : PySem.W.makesIn K C1 = true)
    (kc1 : PySem.W.keepIn K (.ref C1) = true)
    (a_is_number : PySem.W.nsIn K mainGlobals "is_number" = some (some (.ref f_is_number)))
    (l_is_number : K.lookup f_is_number = some ⟨oc_is_number, od_is_number, .func (PySem.W.fnOf "is_number" "is_number" (defArgs s_is_number) (defBody s_is_number) (defScope s_is_number) .none kV_is_number dc_is_number pm_is_number an_is_number cd_is_number ct_is_number), sl_is_number⟩)
    (c_is_number : PySem.W.codeIn K cd_is_number "is_number" = true)
    (k_is_number : PySem.W.keepIn K (.ref f_is_number) = true)
    (a_parts_of : PySem.W.nsIn K mainGlobals "parts_of" = some (some (.ref f_parts_of)))
    (l_parts_of : K.lookup f_parts_of = some ⟨oc_parts_of, od_parts_of, .func (PySem.W.fnOf "parts_of" "parts_of" (defArgs s_parts_of) (defBody s_parts_of) (defScope s_parts_of) .none kV_parts_of dc_parts_of pm_parts_of an_parts_of cd_parts_of ct_parts_of), sl_parts_of⟩)
    (c_parts_of : PySem.W.codeIn K cd_parts_of "parts_of" = true)
    (k_parts_of : PySem.W.keepIn K (.ref f_parts_of) = true)
    (a_Ratio_eq : PySem.W.findIn K (.ref C1) "__eq__" = some (some (.ref f_Ratio_eq)))
    (i_Ratio_eq : PySem.W.isFn K (.ref f_Ratio_eq) = true)
    (l_Ratio_eq : K.lookup f_Ratio_eq = some ⟨oc_Ratio_eq, od_Ratio_eq, .func (PySem.W.fnOf "__eq__" "Ratio.__eq__" (defArgs s_Ratio_eq) (defBody s_Ratio_eq) (defScope s_Ratio_eq) .none kV_Ratio_eq dc_Ratio_eq pm_Ratio_eq an_Ratio_eq cd_Ratio_eq ct_Ratio_eq), sl_Ratio_eq⟩)
    (c_Ratio_eq : PySem.W.codeIn K cd_Ratio_eq "Ratio.__eq__" = true)
    (k_Ratio_eq : PySem.W.keepIn K (.ref f_Ratio_eq) = true)
    (a_Web_eq : PySem.W.findIn K (.ref C0) "__eq__" = some (some (.ref f_Web_eq)))
    (i_Web_eq : PySem.W.isFn K (.ref f_Web_eq) = true)
    (l_Web_eq : K.lookup f_Web_eq = some ⟨oc_Web_eq, od_Web_eq, .func (PySem.W.fnOf "__eq__" "Web.__eq__" (defArgs s_Web_eq) (defBody s_Web_eq) (defScope s_Web_eq) .none kV_Web_eq dc_Web_eq pm_Web_eq an_Web_eq cd_Web_eq ct_Web_eq), sl_Web_eq⟩)
    (c_Web_eq : PySem.W.codeIn K cd_Web_eq "Web.__eq__" = true)
    (k_Web_eq : PySem.W.keepIn K (.ref f_Web_eq) = true)
    (a_law_bad_lots : PySem.W.nsIn K mainGlobals "_law_bad_lots" = some (some (.ref f_law_bad_lots)))
    (l_law_bad_lots : K.lookup f_law_bad_lots = some ⟨oc_law_bad_lots, od_law_bad_lots, .func (PySem.W.fnOf "_law_bad_lots" "_law_bad_lots" (defArgs s_law_bad_lots) (defBody s_law_bad_lots) (defScope s_law_bad_lots) .none kV_law_bad_lots dc_law_bad_lots pm_law_bad_lots an_law_bad_lots cd_law_bad_lots ct_law_bad_lots), sl_law_bad_lots⟩)
    (c_law_bad_lots : PySem.W.codeIn K cd_law_bad_lots "_law_bad_lots" = true)
    (k_law_bad_lots : PySem.W.keepIn K (.ref f_law_bad_lots) = true)
    (a_law_bad_seats : PySem.W.nsIn K mainGlobals "_law_bad_seats" = some (some (.ref f_law_bad_seats)))
    (l_law_bad_seats : K.lookup f_law_bad_seats = some ⟨oc_law_bad_seats, od_law_bad_seats, .func (PySem.W.fnOf "_law_bad_seats" "_law_bad_seats" (defArgs s_law_bad_seats) (defBody s_law_bad_seats) (defScope s_law_bad_seats) .none kV_law_bad_seats dc_law_bad_seats pm_law_bad_seats an_law_bad_seats cd_law_bad_seats ct_law_bad_seats), sl_law_bad_seats⟩)
    (c_law_bad_seats : PySem.W.codeIn K cd_law_bad_seats "_law_bad_seats" = true)
    (k_law_bad_seats : PySem.W.keepIn K (.ref f_law_bad_seats) = true)
    (a_Web_len : PySem.W.findIn K (.ref C0) "__len__" = some (some (.ref f_Web_len)))
    (i_Web_len : PySem.W.isFn K (.ref f_Web_len) = true)
    (l_Web_len : K.lookup f_Web_len = some ⟨oc_Web_len, od_Web_len, .func (PySem.W.fnOf "__len__" "Web.__len__" (defArgs s_Web_len) (defBody s_Web_len) (defScope s_Web_len) .none kV_Web_len dc_Web_len pm_Web_len an_Web_len cd_Web_len ct_Web_len), sl_Web_len⟩)
    (c_Web_len : PySem.W.codeIn K cd_Web_len "Web.__len__" = true)
    (k_Web_len : PySem.W.keepIn K (.ref f_Web_len) = true)
    (a_law_box : PySem.W.nsIn K mainGlobals "_law_box" = some (some (.ref f_law_box)))
    (l_law_box : K.lookup f_law_box = some ⟨oc_law_box, od_law_box, .func (PySem.W.fnOf "_law_box" "_law_box" (defArgs s_law_box) (defBody s_law_box) (defScope s_law_box) .none kV_law_box dc_law_box pm_law_box an_law_box cd_law_box ct_law_box), sl_law_box⟩)
    (c_law_box : PySem.W.codeIn K cd_law_box "_law_box" = true)
    (k_law_box : PySem.W.keepIn K (.ref f_law_box) = true)
    (a_is_integer : PySem.W.nsIn K mainGlobals "is_integer" = some (some (.ref f_is_integer)))
    (l_is_integer : K.lookup f_is_integer = some ⟨oc_is_integer, od_is_integer, .func (PySem.W.fnOf "is_integer" "is_integer" (defArgs s_is_integer) (defBody s_is_integer) (defScope s_is_integer) .none kV_is_integer dc_is_integer pm_is_integer an_is_integer cd_is_integer ct_is_integer), sl_is_integer⟩)
    (c_is_integer : PySem.W.codeIn K cd_is_integer "is_integer" = true)
    (k_is_integer : PySem.W.keepIn K (.ref f_is_integer) = true)
    (a_is_place : PySem.W.nsIn K mainGlobals "is_place" = some (some (.ref f_is_place)))
    (l_is_place : K.lookup f_is_place = some ⟨oc_is_place, od_is_place, .func (PySem.W.fnOf "is_place" "is_place" (defArgs s_is_place) (defBody s_is_place) (defScope s_is_place) .none kV_is_place dc_is_place pm_is_place an_is_place cd_is_place ct_is_place), sl_is_place⟩)
    (c_is_place : PySem.W.codeIn K cd_is_place "is_place" = true)
    (k_is_place : PySem.W.keepIn K (.ref f_is_place) = true)
    (a_is_lot : PySem.W.nsIn K mainGlobals "is_lot" = some (some (.ref f_is_lot)))
    (l_is_lot : K.lookup f_is_lot = some ⟨oc_is_lot, od_is_lot, .func (PySem.W.fnOf "is_lot" "is_lot" (defArgs s_is_lot) (defBody s_is_lot) (defScope s_is_lot) .none kV_is_lot dc_is_lot pm_is_lot an_is_lot cd_is_lot ct_is_lot), sl_is_lot⟩)
    (c_is_lot : PySem.W.codeIn K cd_is_lot "is_lot" = true)
    (k_is_lot : PySem.W.keepIn K (.ref f_is_lot) = true)
    (a_are_lots : PySem.W.nsIn K mainGlobals "are_lots" = some (some (.ref f_are_lots)))
    (l_are_lots : K.lookup f_are_lots = some ⟨oc_are_lots, od_are_lots, .func (PySem.W.fnOf "are_lots" "are_lots" (defArgs s_are_lots) (defBody s_are_lots) (defScope s_are_lots) .none kV_are_lots dc_are_lots pm_are_lots an_are_lots cd_are_lots ct_are_lots), sl_are_lots⟩)
    (c_are_lots : PySem.W.codeIn K cd_are_lots "are_lots" = true)
    (k_are_lots : PySem.W.keepIn K (.ref f_are_lots) = true)
    (a_is_many : PySem.W.nsIn K mainGlobals "is_many" = some (some (.ref f_is_many)))
    (l_is_many : K.lookup f_is_many = some ⟨oc_is_many, od_is_many, .func (PySem.W.fnOf "is_many" "is_many" (defArgs s_is_many) (defBody s_is_many) (defScope s_is_many) .none kV_is_many dc_is_many pm_is_many an_is_many cd_is_many ct_is_many), sl_is_many⟩)
    (c_is_many : PySem.W.codeIn K cd_is_many "is_many" = true)
    (k_is_many : PySem.W.keepIn K (.ref f_is_many) = true)
    (a_Web_init : PySem.W.findIn K (.ref C0) "__init__" = some (some (.ref f_Web_init)))
    (i_Web_init : PySem.W.isFn K (.ref f_Web_init) = true)
    (l_Web_init : K.lookup f_Web_init = some ⟨oc_Web_init, od_Web_init, .func (PySem.W.fnOf "__init__" "Web.__init__" (defArgs s_Web_init) (defBody s_Web_init) (defScope s_Web_init) .none kV_Web_init dc_Web_init pm_Web_init an_Web_init cd_Web_init ct_Web_init), sl_Web_init⟩)
    (c_Web_init : PySem.W.codeIn K cd_Web_init "Web.__init__" = true)
    (k_Web_init : PySem.W.keepIn K (.ref f_Web_init) = true)
    (mk0 : PySem.W.makesIn K C0 = true)
    (kc0 : PySem.W.keepIn K (.ref C0) = true)
    (a_read_web : PySem.W.nsIn K mainGlobals "read_web" = some (some (.ref f_read_web)))
    (l_read_web : K.lookup f_read_web = some ⟨oc_read_web, od_read_web, .func (PySem.W.fnOf "read_web" "read_web" (defArgs s_read_web) (defBody s_read_web) (defScope s_read_web) .none kV_read_web dc_read_web pm_read_web an_read_web cd_read_web ct_read_web), sl_read_web⟩)
    (c_read_web : PySem.W.codeIn K cd_read_web "read_web" = true)
    (k_read_web : PySem.W.keepIn K (.ref f_read_web) = true)
    (a_law_caught : PySem.W.nsIn K mainGlobals "_law_caught" = some (some (.ref f_law_caught)))
    (l_law_caught : K.lookup f_law_caught = some ⟨oc_law_caught, od_law_caught, .func (PySem.W.fnOf "_law_caught" "_law_caught" (defArgs s_law_caught) (defBody s_law_caught) (defScope s_law_caught) .none kV_law_caught dc_law_caught pm_law_caught an_law_caught cd_law_caught ct_law_caught), sl_law_caught⟩)
    (c_law_caught : PySem.W.codeIn K cd_law_caught "_law_caught" = true)
    (k_law_caught : PySem.W.keepIn K (.ref f_law_caught) = true)
    (a_law_take : PySem.W.nsIn K mainGlobals "_law_take" = some (some (.ref f_law_take)))
    (l_law_take : K.lookup f_law_take = some ⟨oc_law_take, od_law_take, .func (PySem.W.fnOf "_law_take" "_law_take" (defArgs s_law_take) (defBody s_law_take) (defScope s_law_take) .none kV_law_take dc_law_take pm_law_take an_law_take cd_law_take ct_law_take), sl_law_take⟩)
    (c_law_take : PySem.W.codeIn K cd_law_take "_law_take" = true)
    (k_law_take : PySem.W.keepIn K (.ref f_law_take) = true)
    (a_law_lots : PySem.W.nsIn K mainGlobals "_law_lots" = some (some (.ref f_law_lots)))
    (l_law_lots : K.lookup f_law_lots = some ⟨oc_law_lots, od_law_lots, .func (PySem.W.fnOf "_law_lots" "_law_lots" (defArgs s_law_lots) (defBody s_law_lots) (defScope s_law_lots) .none kV_law_lots dc_law_lots pm_law_lots an_law_lots cd_law_lots ct_law_lots), sl_law_lots⟩)
    (c_law_lots : PySem.W.codeIn K cd_law_lots "_law_lots" = true)
    (k_law_lots : PySem.W.keepIn K (.ref f_law_lots) = true)
    (a_law_read : PySem.W.nsIn K mainGlobals "_law_read" = some (some (.ref f_law_read)))
    (l_law_read : K.lookup f_law_read = some ⟨oc_law_read, od_law_read, .func (PySem.W.fnOf "_law_read" "_law_read" (defArgs s_law_read) (defBody s_law_read) (defScope s_law_read) .none kV_law_read dc_law_read pm_law_read an_law_read cd_law_read ct_law_read), sl_law_read⟩)
    (c_law_read : PySem.W.codeIn K cd_law_read "_law_read" = true)
    (k_law_read : PySem.W.keepIn K (.ref f_law_read) = true)
    (a_Web_text : PySem.W.findIn K (.ref C0) "text" = some (some (.ref f_Web_text)))
    (i_Web_text : PySem.W.isFn K (.ref f_Web_text) = true)
    (l_Web_text : K.lookup f_Web_text = some ⟨oc_Web_text, od_Web_text, .func (PySem.W.fnOf "text" "Web.text" (defArgs s_Web_text) (defBody s_Web_text) (defScope s_Web_text) .none kV_Web_text dc_Web_text pm_Web_text an_Web_text cd_Web_text ct_Web_text), sl_Web_text⟩)
    (c_Web_text : PySem.W.codeIn K cd_Web_text "Web.text" = true)
    (k_Web_text : PySem.W.keepIn K (.ref f_Web_text) = true)
    (a_law_reading_right : PySem.W.nsIn K mainGlobals "_law_reading_right" = some (some (.ref f_law_reading_right)))
    (l_law_reading_right : K.lookup f_law_reading_right = some ⟨oc_law_reading_right, od_law_reading_right, .func (PySem.W.fnOf "_law_reading_right" "_law_reading_right" (defArgs s_law_reading_right) (defBody s_law_reading_right) (defScope s_law_reading_right) .none kV_law_reading_right dc_law_reading_right pm_law_reading_right an_law_reading_right cd_law_reading_right ct_law_reading_right), sl_law_reading_right⟩)
    (c_law_reading_right : PySem.W.codeIn K cd_law_reading_right "_law_reading_right" = true)
    (k_law_reading_right : PySem.W.keepIn K (.ref f_law_reading_right) = true)
    (a_law_spoilt : PySem.W.nsIn K mainGlobals "_law_spoilt" = some (some (.ref f_law_spoilt)))
    (l_law_spoilt : K.lookup f_law_spoilt = some ⟨oc_law_spoilt, od_law_spoilt, .func (PySem.W.fnOf "_law_spoilt" "_law_spoilt" (defArgs s_law_spoilt) (defBody s_law_spoilt) (defScope s_law_spoilt) .none kV_law_spoilt dc_law_spoilt pm_law_spoilt an_law_spoilt cd_law_spoilt ct_law_spoilt), sl_law_spoilt⟩)
    (c_law_spoilt : PySem.W.codeIn K cd_law_spoilt "_law_spoilt" = true)
    (k_law_spoilt : PySem.W.keepIn K (.ref f_law_spoilt) = true)
    (a_law_text : PySem.W.nsIn K mainGlobals "_law_text" = some (some (.ref f_law_text)))
    (l_law_text : K.lookup f_law_text = some ⟨oc_law_text, od_law_text, .func (PySem.W.fnOf "_law_text" "_law_text" (defArgs s_law_text) (defBody s_law_text) (defScope s_law_text) .none kV_law_text dc_law_text pm_law_text an_law_text cd_law_text ct_law_text), sl_law_text⟩)
    (c_law_text : PySem.W.codeIn K cd_law_text "_law_text" = true)
    (k_law_text : PySem.W.keepIn K (.ref f_law_text) = true)
    (a_all_lots : PySem.W.nsIn K mainGlobals "all_lots" = some (some (.ref f_all_lots)))
    (l_all_lots : K.lookup f_all_lots = some ⟨oc_all_lots, od_all_lots, .func (PySem.W.fnOf "all_lots" "all_lots" (defArgs s_all_lots) (defBody s_all_lots) (defScope s_all_lots) .none kV_all_lots dc_all_lots pm_all_lots an_all_lots cd_all_lots ct_all_lots), sl_all_lots⟩)
    (c_all_lots : PySem.W.codeIn K cd_all_lots "all_lots" = true)
    (k_all_lots : PySem.W.keepIn K (.ref f_all_lots) = true)
    (a_all_webs : PySem.W.nsIn K mainGlobals "all_webs" = some (some (.ref f_all_webs)))
    (l_all_webs : K.lookup f_all_webs = some ⟨oc_all_webs, od_all_webs, .func (PySem.W.fnOf "all_webs" "all_webs" (defArgs s_all_webs) (defBody s_all_webs) (defScope s_all_webs) .none kV_all_webs dc_all_webs pm_all_webs an_all_webs cd_all_webs ct_all_webs), sl_all_webs⟩)
    (c_all_webs : PySem.W.codeIn K cd_all_webs "all_webs" = true)
    (k_all_webs : PySem.W.keepIn K (.ref f_all_webs) = true)
    (a_full_web : PySem.W.nsIn K mainGlobals "full_web" = some (some (.ref f_full_web)))
    (l_full_web : K.lookup f_full_web = some ⟨oc_full_web, od_full_web, .func (PySem.W.fnOf "full_web" "full_web" (defArgs s_full_web) (defBody s_full_web) (defScope s_full_web) .none kV_full_web dc_full_web pm_full_web an_full_web cd_full_web ct_full_web), sl_full_web⟩)
    (c_full_web : PySem.W.codeIn K cd_full_web "full_web" = true)
    (k_full_web : PySem.W.keepIn K (.ref f_full_web) = true)
    (a_own_web : PySem.W.nsIn K mainGlobals "own_web" = some (some (.ref f_own_web)))
    (l_own_web : K.lookup f_own_web = some ⟨oc_own_web, od_own_web, .func (PySem.W.fnOf "own_web" "own_web" (defArgs s_own_web) (defBody s_own_web) (defScope s_own_web) .none kV_own_web dc_own_web pm_own_web an_own_web cd_own_web ct_own_web), sl_own_web⟩)
    (c_own_web : PySem.W.codeIn K cd_own_web "own_web" = true)
    (k_own_web : PySem.W.keepIn K (.ref f_own_web) = true)
    (a_time_web : PySem.W.nsIn K mainGlobals "time_web" = some (some (.ref f_time_web)))
    (l_time_web : K.lookup f_time_web = some ⟨oc_time_web, od_time_web, .func (PySem.W.fnOf "time_web" "time_web" (defArgs s_time_web) (defBody s_time_web) (defScope s_time_web) .none kV_time_web dc_time_web pm_time_web an_time_web cd_time_web ct_time_web), sl_time_web⟩)
    (c_time_web : PySem.W.codeIn K cd_time_web "time_web" = true)
    (k_time_web : PySem.W.keepIn K (.ref f_time_web) = true)
    (a_law_word : PySem.W.nsIn K mainGlobals "_law_word" = some (some (.ref f_law_word)))
    (l_law_word : K.lookup f_law_word = some ⟨oc_law_word, od_law_word, .func (PySem.W.fnOf "_law_word" "_law_word" (defArgs s_law_word) (defBody s_law_word) (defScope s_law_word) .none kV_law_word dc_law_word pm_law_word an_law_word cd_law_word ct_law_word), sl_law_word⟩)
    (c_law_word : PySem.W.codeIn K cd_law_word "_law_word" = true)
    (k_law_word : PySem.W.keepIn K (.ref f_law_word) = true)
    (a_law : PySem.W.nsIn K mainGlobals "law" = some (some (.ref f_law)))
    (l_law : K.lookup f_law = some ⟨oc_law, od_law, .func (PySem.W.fnOf "law" "law" (defArgs s_law) (defBody s_law) (defScope s_law) .none kV_law dc_law pm_law an_law cd_law ct_law), sl_law⟩)
    (c_law : PySem.W.codeIn K cd_law "law" = true)
    (k_law : PySem.W.keepIn K (.ref f_law) = true)
    : ∃ fd : FuncData, (∀ (s : Shared) (v : Value), BindsTo s fd ⟨[v], []⟩ [("_law_script", v)]) ∧ ∀ base : Heap, K.In base → base.Ns mainGlobals mg → FnOk l.prog w K mg base (L2.CX l.prog w) 12 fa fd ["_law_script"] (spLawD K) := by
  have e := hfa.symm.trans (PySem.W.mg_of X_ G a_law)
  cases e
  have TX : Txt K mg (tbOf K [C0, C1, 0, 0, 0, 0, 0, 0, 0, 0, 0, 0, C12, C13, 0, 0, 0, 0, 0, 0, 0, 0, 0, 0, 0, 0, C26, C27, 0, 0, 0, 0, 0, 0, 0, 0, 0, 0, 0, C39] [(["seats", "heard_lots"] : List Str), (["_top", "_bottom"] : List Str), ([] : List Str), ([] : List Str), ([] : List Str), ([] : List Str), ([] : List Str), ([] : List Str), ([] : List Str), ([] : List Str), ([] : List Str), ([] : List Str), ([] : List Str), ([] : List Str), ([] : List Str), ([] : List Str), ([] : List Str), ([] : List Str), ([] : List Str), ([] : List Str), ([] : List Str), ([] : List Str), ([] : List Str), ([] : List Str), ([] : List Str), ([] : List Str), (["given"] : List Str), (["given"] : List Str), ([] : List Str), ([] : List Str), ([] : List Str), ([] : List Str), ([] : List Str), ([] : List Str), ([] : List Str), ([] : List Str), ([] : List Str), ([] : List Str), ([] : List Str), (["given"] : List Str)]) := {
    hT := rfl
    hx := rfl
    g_TellError := PySem.W.mg_of X_ G a12
    g_ByZero := PySem.W.mg_of X_ G a13
    g_InvalidText := PySem.W.mg_of X_ G a39
    g_InvalidSeat := PySem.W.mg_of X_ G a27
    g_InvalidLot := PySem.W.mg_of X_ G a26
    g_Ratio := PySem.W.mg_of X_ G a1
    g_Web := PySem.W.mg_of X_ G a0
    g_FIGURES := ⟨_, PySem.W.mg_of X_ G gi_FIGURES⟩
    g_MOST_SEATS := ⟨_, PySem.W.mg_of X_ G gi_MOST_SEATS⟩
    n_abs := PySem.W.mg_none_of X_ G n_abs
    n_all := PySem.W.mg_none_of X_ G n_all
    n_bool := PySem.W.mg_none_of X_ G n_bool
    n_int := PySem.W.mg_none_of X_ G n_int
    n_isinstance := PySem.W.mg_none_of X_ G n_isinstance
    n_len := PySem.W.mg_none_of X_ G n_len
    n_list := PySem.W.mg_none_of X_ G n_list
    n_max := PySem.W.mg_none_of X_ G n_max
    n_min := PySem.W.mg_none_of X_ G n_min
    n_range := PySem.W.mg_none_of X_ G n_range
    n_set := PySem.W.mg_none_of X_ G n_set
    n_sorted := PySem.W.mg_none_of X_ G n_sorted
    n_str := PySem.W.mg_none_of X_ G n_str
    n_sum := PySem.W.mg_none_of X_ G n_sum
    n_tuple := PySem.W.mg_none_of X_ G n_tuple
    y_Ratio := ⟨pg1, hd1, po1, sa1⟩
    l_Ratio := rfl
    y_Web := ⟨pg0, hd0, po0, sa0⟩
    l_Web := rfl
    f__bottom := (.cons ⟨⟨pg1, hd1, po1, sa1⟩, no1__bottom, rfl, (show (["_top", "_bottom"] : List Str).Nodup from by decide +kernel), by show 2 < 900; decide⟩ .nil)
    f__top := (.cons ⟨⟨pg1, hd1, po1, sa1⟩, no1__top, rfl, (show (["_top", "_bottom"] : List Str).Nodup from by decide +kernel), by show 2 < 900; decide⟩ .nil)
    f_heard_lots := (.cons ⟨⟨pg0, hd0, po0, sa0⟩, no0_heard_lots, rfl, (show (["seats", "heard_lots"] : List Str).Nodup from by decide +kernel), by show 2 < 900; decide⟩ .nil)
    f_seats := (.cons ⟨⟨pg0, hd0, po0, sa0⟩, no0_seats, rfl, (show (["seats", "heard_lots"] : List Str).Nodup from by decide +kernel), by show 2 < 900; decide⟩ .nil)
    k_Ratio := kAll_ok (kit_own rfl xi1 xt1 st_NoneType_1) (kit_own rfl xi1 xt1 st_bool_1) (kit_own rfl xi1 xt1 st_int_1) (kit_own rfl xi1 xt1 st_str_1) (kit_own rfl xi1 xt1 st_list_1) (kit_own rfl xi1 xt1 st_tuple_1) (kit_own rfl xi1 xt1 st_dict_1) (more_obj ⟨⟨⟨pg1, hd1, po1, sa1⟩, ha1, hn1, ht1, hm1⟩, kit_self⟩ (more_obj ⟨⟨⟨pg0, hd0, po0, sa0⟩, ha0, hn0, ht0, hm0⟩, (kit_own sn_0_1 xi1 xt1 sc_0_1)⟩ no_obj))
    k_Web := kAll_ok (kit_own rfl xi0 xt0 st_NoneType_0) (kit_own rfl xi0 xt0 st_bool_0) (kit_own rfl xi0 xt0 st_int_0) (kit_own rfl xi0 xt0 st_str_0) (kit_own rfl xi0 xt0 st_list_0) (kit_own rfl xi0 xt0 st_tuple_0) (kit_own rfl xi0 xt0 st_dict_0) (more_obj ⟨⟨⟨pg1, hd1, po1, sa1⟩, ha1, hn1, ht1, hm1⟩, (kit_own sn_1_0 xi0 xt0 sc_1_0)⟩ (more_obj ⟨⟨⟨pg0, hd0, po0, sa0⟩, ha0, hn0, ht0, hm0⟩, kit_self⟩ no_obj))
    k_bool := kAll_ok rfl rfl rfl rfl rfl rfl rfl (more_obj ⟨⟨⟨pg1, hd1, po1, sa1⟩, ha1, hn1, ht1, hm1⟩, (kit_typ (by decide +kernel) so_1_bool)⟩ (more_obj ⟨⟨⟨pg0, hd0, po0, sa0⟩, ha0, hn0, ht0, hm0⟩, (kit_typ (by decide +kernel) so_0_bool)⟩ no_obj))
    k_int := kAll_ok rfl rfl rfl rfl rfl rfl rfl (more_obj ⟨⟨⟨pg1, hd1, po1, sa1⟩, ha1, hn1, ht1, hm1⟩, (kit_typ (by decide +kernel) so_1_int)⟩ (more_obj ⟨⟨⟨pg0, hd0, po0, sa0⟩, ha0, hn0, ht0, hm0⟩, (kit_typ (by decide +kernel) so_0_int)⟩ no_obj))
    k_int_Ratio := kAll_ok (kitAny2 (x := false) (y := false) rfl (kit_own rfl xi1 xt1 st_NoneType_1)) (kitAny2 (x := true) (y := false) rfl (kit_own rfl xi1 xt1 st_bool_1)) (kitAny2 (x := true) (y := false) rfl (kit_own rfl xi1 xt1 st_int_1)) (kitAny2 (x := false) (y := false) rfl (kit_own rfl xi1 xt1 st_str_1)) (kitAny2 (x := false) (y := false) rfl (kit_own rfl xi1 xt1 st_list_1)) (kitAny2 (x := false) (y := false) rfl (kit_own rfl xi1 xt1 st_tuple_1)) (kitAny2 (x := false) (y := false) rfl (kit_own rfl xi1 xt1 st_dict_1)) (more_obj ⟨⟨⟨pg1, hd1, po1, sa1⟩, ha1, hn1, ht1, hm1⟩, (kitAny2 (x := false) (y := true) (kit_typ (by decide +kernel) so_1_int) kit_self)⟩ (more_obj ⟨⟨⟨pg0, hd0, po0, sa0⟩, ha0, hn0, ht0, hm0⟩, (kitAny2 (x := false) (y := false) (kit_typ (by decide +kernel) so_0_int) (kit_own sn_0_1 xi1 xt1 sc_0_1))⟩ no_obj))
    k_list_tuple := kAll_ok (kitAny2 (x := false) (y := false) rfl rfl) (kitAny2 (x := false) (y := false) rfl rfl) (kitAny2 (x := false) (y := false) rfl rfl) (kitAny2 (x := false) (y := false) rfl rfl) (kitAny2 (x := true) (y := false) rfl rfl) (kitAny2 (x := false) (y := true) rfl rfl) (kitAny2 (x := false) (y := false) rfl rfl) (more_obj ⟨⟨⟨pg1, hd1, po1, sa1⟩, ha1, hn1, ht1, hm1⟩, (kitAny2 (x := false) (y := false) (kit_typ (by decide +kernel) so_1_list) (kit_typ (by decide +kernel) so_1_tuple))⟩ (more_obj ⟨⟨⟨pg0, hd0, po0, sa0⟩, ha0, hn0, ht0, hm0⟩, (kitAny2 (x := false) (y := false) (kit_typ (by decide +kernel) so_0_list) (kit_typ (by decide +kernel) so_0_tuple))⟩ no_obj))
    k_str := kAll_ok rfl rfl rfl rfl rfl rfl rfl (more_obj ⟨⟨⟨pg1, hd1, po1, sa1⟩, ha1, hn1, ht1, hm1⟩, (kit_typ (by decide +kernel) so_1_str)⟩ (more_obj ⟨⟨⟨pg0, hd0, po0, sa0⟩, ha0, hn0, ht0, hm0⟩, (kit_typ (by decide +kernel) so_0_str)⟩ no_obj))
    e_ByZero := fun X hK hm => ⟨by rw [hK]; exact ei13, by rw [hm]; exact PySem.W.mg_of X_ G a13, by rw [hK]; exact ek13, raises_own (by rw [hK]; exact er13) (by rw [hK]; exact et13)⟩
    c_InvalidLot := ⟨exm_self xb26 xi26 xt26 xs26, trivial⟩
    n_InvalidLot := ⟨PySem.W.exm_ref xb26 xh26 xt26 cx27_26, ⟨PySem.W.exm_ref xb26 xh26 xt26 cx39_26, ⟨PySem.W.exm_ref xb26 xh26 xt26 cx13_26, trivial⟩⟩⟩
    c_InvalidSeat := ⟨exm_self xb27 xi27 xt27 xs27, trivial⟩
    n_InvalidSeat := ⟨PySem.W.exm_ref xb27 xh27 xt27 cx39_27, ⟨PySem.W.exm_ref xb27 xh27 xt27 cx13_27, ⟨PySem.W.exm_ref xb27 xh27 xt27 cx26_27, trivial⟩⟩⟩
    c_InvalidText := ⟨exm_self xb39 xi39 xt39 xs39, trivial⟩
    n_InvalidText := ⟨PySem.W.exm_ref xb39 xh39 xt39 cx27_39, ⟨PySem.W.exm_ref xb39 xh39 xt39 cx13_39, ⟨PySem.W.exm_ref xb39 xh39 xt39 cx26_39, trivial⟩⟩⟩
    c_TellError := ⟨exm_self xb12 xi12 xt12 xs12, ⟨PySem.W.exm_ref xb12 xh12 xt12 cx13_12, ⟨PySem.W.exm_ref xb12 xh12 xt12 cx39_12, ⟨PySem.W.exm_ref xb12 xh12 xt12 cx27_12, ⟨PySem.W.exm_ref xb12 xh12 xt12 cx26_12, trivial⟩⟩⟩⟩⟩
    n_TellError := trivial
    le := ⟨le1, le2, le3⟩
    xi_InvalidText := ⟨_, _, fun_mk (st := s_InvalidText_init) l_x39 c_x39 k_x39, iC_x39, tI_x39, (Fun.binds (fun_mk (st := s_InvalidText_init) l_x39 c_x39 k_x39) (ps := ["self", "given"]) fun _ _ _ _ _ _ us hl => match us, hl with | [_, _], _ => rfl)⟩
    xo_InvalidText := ⟨⟨_, _, _, _, _, _, _, _, _, _, _, _, _, _, _, lo_x39, rv_x39⟩, sa39, xb39, xt39, ek39⟩
    xn_InvalidText := xn39_given
    xl_InvalidText := rfl
    xi_InvalidSeat := ⟨_, _, fun_mk (st := s_InvalidSeat_init) l_x27 c_x27 k_x27, iC_x27, tI_x27, (Fun.binds (fun_mk (st := s_InvalidSeat_init) l_x27 c_x27 k_x27) (ps := ["self", "given"]) fun _ _ _ _ _ _ us hl => match us, hl with | [_, _], _ => rfl)⟩
    xo_InvalidSeat := ⟨⟨_, _, _, _, _, _, _, _, _, _, _, _, _, _, _, lo_x27, rv_x27⟩, sa27, xb27, xt27, ek27⟩
    xn_InvalidSeat := xn27_given
    xl_InvalidSeat := rfl
    xi_InvalidLot := ⟨_, _, fun_mk (st := s_InvalidLot_init) l_x26 c_x26 k_x26, iC_x26, tI_x26, (Fun.binds (fun_mk (st := s_InvalidLot_init) l_x26 c_x26 k_x26) (ps := ["self", "given"]) fun _ _ _ _ _ _ us hl => match us, hl with | [_, _], _ => rfl)⟩
    xo_InvalidLot := ⟨⟨_, _, _, _, _, _, _, _, _, _, _, _, _, _, _, lo_x26, rv_x26⟩, sa26, xb26, xt26, ek26⟩
    xn_InvalidLot := xn26_given
    xl_InvalidLot := rfl
    xf_given := (.cons ⟨⟨ga39, gg39, xb39, xh39⟩, xn39_given, rfl, (show (["given"] : List Str).Nodup from by decide +kernel)⟩ (.cons ⟨⟨ga27, gg27, xb27, xh27⟩, xn27_given, rfl, (show (["given"] : List Str).Nodup from by decide +kernel)⟩ (.cons ⟨⟨ga26, gg26, xb26, xh26⟩, xn26_given, rfl, (show (["given"] : List Str).Nodup from by decide +kernel)⟩ .nil)))
    gcd := PySem.W.mg_of X_ G gcd
    p_Ratio_bottom := fun X hK hm => by subst hK; subst hm; exact ⟨⟨pg1, hd1, po1, sa1⟩, no1__bottom, rfl, (show (["_top", "_bottom"] : List Str).Nodup from by decide +kernel), _, _, _, ⟨p1_p1_bottom, p2_p1_bottom, p3_p1_bottom, _, p4_p1_bottom⟩, fn_getter (N := ["self"]) l_p1_bottom c_p1_bottom ⟨rfl, rfl, rfl, by decide +kernel, rfl, by decide +kernel, by decide +kernel⟩ rfl rfl ⟨pg1, hd1, po1, sa1⟩ no1__bottom, (Fun.binds (fun_mk (st := s_Ratio_bottom) l_p1_bottom c_p1_bottom k_p1_bottom) (ps := ["self"]) fun _ _ _ _ _ _ us hl => match us, hl with | [_], _ => rfl)⟩
    p_Ratio_top := fun X hK hm => by subst hK; subst hm; exact ⟨⟨pg1, hd1, po1, sa1⟩, no1__top, rfl, (show (["_top", "_bottom"] : List Str).Nodup from by decide +kernel), _, _, _, ⟨p1_p1_top, p2_p1_top, p3_p1_top, _, p4_p1_top⟩, fn_getter (N := ["self"]) l_p1_top c_p1_top ⟨rfl, rfl, rfl, by decide +kernel, rfl, by decide +kernel, by decide +kernel⟩ rfl rfl ⟨pg1, hd1, po1, sa1⟩ no1__top, (Fun.binds (fun_mk (st := s_Ratio_top) l_p1_top c_p1_top k_p1_top) (ps := ["self"]) fun _ _ _ _ _ _ us hl => match us, hl with | [_], _ => rfl)⟩
    d_Ratio_init := idefD_mk (st := s_Ratio_init) l_Ratio_init c_Ratio_init k_Ratio_init lt_Ratio_init ho_Ratio_init ⟨mk1, a_Ratio_init, i_Ratio_init, kc1⟩ (fun _ _ _ _ _ _ _ us its hu hi => match us, its, hu, hi with | [_, _, _], [_], _, _ => ⟨_, rfl, rfl⟩) (fun _ _ _ _ _ _ _ us its hu hi => match us, its, hu, hi with | [_, _], [_], _, _ => ⟨_, rfl, rfl⟩) (by decide)
    d_is_number := ⟨_, _, fun_mk (st := s_is_number) l_is_number c_is_number k_is_number, PySem.W.mg_of X_ G a_is_number, k_is_number, (Fun.binds (fun_mk (st := s_is_number) l_is_number c_is_number k_is_number) (ps := ["value"]) fun _ _ _ _ _ _ us hl => match us, hl with | [_], _ => rfl)⟩
    d_parts_of := ⟨_, _, fun_mk (st := s_parts_of) l_parts_of c_parts_of k_parts_of, PySem.W.mg_of X_ G a_parts_of, k_parts_of, (Fun.binds (fun_mk (st := s_parts_of) l_parts_of c_parts_of k_parts_of) (ps := ["number"]) fun _ _ _ _ _ _ us hl => match us, hl with | [_], _ => rfl)⟩
    d_Ratio_eq := ⟨_, _, fun_mk (st := s_Ratio_eq) l_Ratio_eq c_Ratio_eq k_Ratio_eq, ⟨a_Ratio_eq, i_Ratio_eq, k_Ratio_eq⟩, (Fun.binds (fun_mk (st := s_Ratio_eq) l_Ratio_eq c_Ratio_eq k_Ratio_eq) (ps := ["self", "other"]) fun _ _ _ _ _ _ us hl => match us, hl with | [_, _], _ => rfl)⟩
    m_Ratio_eq := (show ("__eq__" : Str) ∉ (["_top", "_bottom"] : List Str) from by decide +kernel)
    d_Web_eq := ⟨_, _, fun_mk (st := s_Web_eq) l_Web_eq c_Web_eq k_Web_eq, ⟨a_Web_eq, i_Web_eq, k_Web_eq⟩, (Fun.binds (fun_mk (st := s_Web_eq) l_Web_eq c_Web_eq k_Web_eq) (ps := ["self", "other"]) fun _ _ _ _ _ _ us hl => match us, hl with | [_, _], _ => rfl)⟩
    m_Web_eq := (show ("__eq__" : Str) ∉ (["seats", "heard_lots"] : List Str) from by decide +kernel)
    d_law_bad_lots := ⟨_, _, fun_mk (st := s_law_bad_lots) l_law_bad_lots c_law_bad_lots k_law_bad_lots, PySem.W.mg_of X_ G a_law_bad_lots, k_law_bad_lots, (Fun.binds (fun_mk (st := s_law_bad_lots) l_law_bad_lots c_law_bad_lots k_law_bad_lots) (ps := ["_law_seats1", "_law_lots1"]) fun _ _ _ _ _ _ us hl => match us, hl with | [_, _], _ => rfl)⟩
    d_law_bad_seats := ⟨_, _, fun_mk (st := s_law_bad_seats) l_law_bad_seats c_law_bad_seats k_law_bad_seats, PySem.W.mg_of X_ G a_law_bad_seats, k_law_bad_seats, (Fun.binds (fun_mk (st := s_law_bad_seats) l_law_bad_seats c_law_bad_seats k_law_bad_seats) (ps := []) fun _ _ _ _ _ _ us hl => match us, hl with | [], _ => rfl)⟩
    d_Web_len := ⟨_, _, fun_mk (st := s_Web_len) l_Web_len c_Web_len k_Web_len, ⟨a_Web_len, i_Web_len, k_Web_len⟩, (Fun.binds (fun_mk (st := s_Web_len) l_Web_len c_Web_len k_Web_len) (ps := ["self"]) fun _ _ _ _ _ _ us hl => match us, hl with | [_], _ => rfl)⟩
    m_Web_len := (show ("__len__" : Str) ∉ (["seats", "heard_lots"] : List Str) from by decide +kernel)
    d_law_box := ⟨_, _, fun_mk (st := s_law_box) l_law_box c_law_box k_law_box, PySem.W.mg_of X_ G a_law_box, k_law_box, (Fun.binds (fun_mk (st := s_law_box) l_law_box c_law_box k_law_box) (ps := ["_law_script", "_law_k"]) fun _ _ _ _ _ _ us hl => match us, hl with | [_, _], _ => rfl)⟩
    d_is_integer := ⟨_, _, fun_mk (st := s_is_integer) l_is_integer c_is_integer k_is_integer, PySem.W.mg_of X_ G a_is_integer, k_is_integer, (Fun.binds (fun_mk (st := s_is_integer) l_is_integer c_is_integer k_is_integer) (ps := ["value"]) fun _ _ _ _ _ _ us hl => match us, hl with | [_], _ => rfl)⟩
    d_is_place := ⟨_, _, fun_mk (st := s_is_place) l_is_place c_is_place k_is_place, PySem.W.mg_of X_ G a_is_place, k_is_place, (Fun.binds (fun_mk (st := s_is_place) l_is_place c_is_place k_is_place) (ps := ["value", "many"]) fun _ _ _ _ _ _ us hl => match us, hl with | [_, _], _ => rfl)⟩
    d_is_lot := ⟨_, _, fun_mk (st := s_is_lot) l_is_lot c_is_lot k_is_lot, PySem.W.mg_of X_ G a_is_lot, k_is_lot, (Fun.binds (fun_mk (st := s_is_lot) l_is_lot c_is_lot k_is_lot) (ps := ["value", "seats"]) fun _ _ _ _ _ _ us hl => match us, hl with | [_, _], _ => rfl)⟩
    d_are_lots := ⟨_, _, fun_mk (st := s_are_lots) l_are_lots c_are_lots k_are_lots, PySem.W.mg_of X_ G a_are_lots, k_are_lots, (Fun.binds (fun_mk (st := s_are_lots) l_are_lots c_are_lots k_are_lots) (ps := ["value", "seats"]) fun _ _ _ _ _ _ us hl => match us, hl with | [_, _], _ => rfl)⟩
    d_is_many := ⟨_, _, fun_mk (st := s_is_many) l_is_many c_is_many k_is_many, PySem.W.mg_of X_ G a_is_many, k_is_many, (Fun.binds (fun_mk (st := s_is_many) l_is_many c_is_many k_is_many) (ps := ["value"]) fun _ _ _ _ _ _ us hl => match us, hl with | [_], _ => rfl)⟩
    d_Web_init := ⟨_, _, fun_mk (st := s_Web_init) l_Web_init c_Web_init k_Web_init, ⟨mk0, a_Web_init, i_Web_init, kc0⟩, (Fun.binds (fun_mk (st := s_Web_init) l_Web_init c_Web_init k_Web_init) (ps := ["self", "seats", "lots"]) fun _ _ _ _ _ _ us hl => match us, hl with | [_, _, _], _ => rfl)⟩
    d_read_web := ⟨_, _, fun_mk (st := s_read_web) l_read_web c_read_web k_read_web, PySem.W.mg_of X_ G a_read_web, k_read_web, (Fun.binds (fun_mk (st := s_read_web) l_read_web c_read_web k_read_web) (ps := ["text"]) fun _ _ _ _ _ _ us hl => match us, hl with | [_], _ => rfl)⟩
    d_law_caught := ⟨_, _, fun_mk (st := s_law_caught) l_law_caught c_law_caught k_law_caught, PySem.W.mg_of X_ G a_law_caught, k_law_caught, (Fun.binds (fun_mk (st := s_law_caught) l_law_caught c_law_caught k_law_caught) (ps := ["_law_text_here"]) fun _ _ _ _ _ _ us hl => match us, hl with | [_], _ => rfl)⟩
    d_law_take := ⟨_, _, fun_mk (st := s_law_take) l_law_take c_law_take k_law_take, PySem.W.mg_of X_ G a_law_take, k_law_take, (Fun.binds (fun_mk (st := s_law_take) l_law_take c_law_take k_law_take) (ps := ["_law_box_here", "_law_many"]) fun _ _ _ _ _ _ us hl => match us, hl with | [_, _], _ => rfl)⟩
    d_law_lots := ⟨_, _, fun_mk (st := s_law_lots) l_law_lots c_law_lots k_law_lots, PySem.W.mg_of X_ G a_law_lots, k_law_lots, (Fun.binds (fun_mk (st := s_law_lots) l_law_lots c_law_lots k_law_lots) (ps := ["_law_box_here", "_law_seats1", "_law_hearers1"]) fun _ _ _ _ _ _ us hl => match us, hl with | [_, _, _], _ => rfl)⟩
    d_law_read := ⟨_, _, fun_mk (st := s_law_read) l_law_read c_law_read k_law_read, PySem.W.mg_of X_ G a_law_read, k_law_read, (Fun.binds (fun_mk (st := s_law_read) l_law_read c_law_read k_law_read) (ps := ["_law_text_here"]) fun _ _ _ _ _ _ us hl => match us, hl with | [_], _ => rfl)⟩
    d_Web_text := ⟨_, _, fun_mk (st := s_Web_text) l_Web_text c_Web_text k_Web_text, ⟨a_Web_text, i_Web_text, k_Web_text⟩, (Fun.binds (fun_mk (st := s_Web_text) l_Web_text c_Web_text k_Web_text) (ps := ["self"]) fun _ _ _ _ _ _ us hl => match us, hl with | [_], _ => rfl)⟩
    m_Web_text := (show ("text" : Str) ∉ (["seats", "heard_lots"] : List Str) from by decide +kernel)
    d_law_reading_right := ⟨_, _, fun_mk (st := s_law_reading_right) l_law_reading_right c_law_reading_right k_law_reading_right, PySem.W.mg_of X_ G a_law_reading_right, k_law_reading_right, (Fun.binds (fun_mk (st := s_law_reading_right) l_law_reading_right c_law_reading_right k_law_reading_right) (ps := ["_law_text_here"]) fun _ _ _ _ _ _ us hl => match us, hl with | [_], _ => rfl)⟩
    d_law_spoilt := ⟨_, _, fun_mk (st := s_law_spoilt) l_law_spoilt c_law_spoilt k_law_spoilt, PySem.W.mg_of X_ G a_law_spoilt, k_law_spoilt, (Fun.binds (fun_mk (st := s_law_spoilt) l_law_spoilt c_law_spoilt k_law_spoilt) (ps := ["_law_box_here", "_law_text_here"]) fun _ _ _ _ _ _ us hl => match us, hl with | [_, _], _ => rfl)⟩
    d_law_text := ⟨_, _, fun_mk (st := s_law_text) l_law_text c_law_text k_law_text, PySem.W.mg_of X_ G a_law_text, k_law_text, (Fun.binds (fun_mk (st := s_law_text) l_law_text c_law_text k_law_text) (ps := ["_law_seats1", "_law_lots1"]) fun _ _ _ _ _ _ us hl => match us, hl with | [_, _], _ => rfl)⟩
    d_all_lots := ⟨_, _, fun_mk (st := s_all_lots) l_all_lots c_all_lots k_all_lots, PySem.W.mg_of X_ G a_all_lots, k_all_lots, (Fun.binds (fun_mk (st := s_all_lots) l_all_lots c_all_lots k_all_lots) (ps := ["seats"]) fun _ _ _ _ _ _ us hl => match us, hl with | [_], _ => rfl)⟩
    d_all_webs := ⟨_, _, fun_mk (st := s_all_webs) l_all_webs c_all_webs k_all_webs, PySem.W.mg_of X_ G a_all_webs, k_all_webs, (Fun.binds (fun_mk (st := s_all_webs) l_all_webs c_all_webs k_all_webs) (ps := ["seats", "hearers"]) fun _ _ _ _ _ _ us hl => match us, hl with | [_, _], _ => rfl)⟩
    d_full_web := ⟨_, _, fun_mk (st := s_full_web) l_full_web c_full_web k_full_web, PySem.W.mg_of X_ G a_full_web, k_full_web, (Fun.binds (fun_mk (st := s_full_web) l_full_web c_full_web k_full_web) (ps := ["seats", "hearers"]) fun _ _ _ _ _ _ us hl => match us, hl with | [_, _], _ => rfl)⟩
    d_own_web := ⟨_, _, fun_mk (st := s_own_web) l_own_web c_own_web k_own_web, PySem.W.mg_of X_ G a_own_web, k_own_web, (Fun.binds (fun_mk (st := s_own_web) l_own_web c_own_web k_own_web) (ps := ["seats"]) fun _ _ _ _ _ _ us hl => match us, hl with | [_], _ => rfl)⟩
    d_time_web := ⟨_, _, fun_mk (st := s_time_web) l_time_web c_time_web k_time_web, PySem.W.mg_of X_ G a_time_web, k_time_web, (Fun.binds (fun_mk (st := s_time_web) l_time_web c_time_web k_time_web) (ps := ["seats"]) fun _ _ _ _ _ _ us hl => match us, hl with | [_], _ => rfl)⟩
    d_law_word := ⟨_, _, fun_mk (st := s_law_word) l_law_word c_law_word k_law_word, PySem.W.mg_of X_ G a_law_word, k_law_word, (Fun.binds (fun_mk (st := s_law_word) l_law_word c_law_word k_law_word) (ps := ["_law_way", "_law_one", "_law_other"]) fun _ _ _ _ _ _ us hl => match us, hl with | [_, _, _], _ => rfl)⟩
  }
  exact ⟨PySem.W.fnOf "law" "law" (defArgs s_law) (defBody s_law) (defScope s_law) .none kV_law dc_law pm_law an_law cd_law ct_law, fun s v => .of_eq rfl, fun base _ _ => law_end law_true rfl (ok_law TX (fun_mk (st := s_law) l_law c_law k_law))⟩
end Dn
open PySem PySem.W PyProof.Rows
set_option maxRecDepth 100000 in
set_option maxHeartbeats 0 in
theorem PySem.Challenge.cw_tellsmore_k18_webs_refused_and_read_holds : PySem.Challenge.rw_tellsmore_k18_webs_refused_and_read.Holds := by
  w_on; o_law; k_head; (case hw => w_witness2)
  k_fill
  refine Dn.walkD (k := 12) (x := "_law_script") (l := PySem.Challenge.rw_tellsmore_k18_webs_refused_and_read) (by decide) rfl rfl (fun w h Y => PySem.W.kIn_of Y) ?F
  case F =>
    intro w mg fa h KX G hmg
    refine' Dn.all_mk KX G hmg ?a12 ?a13 ?a39 ?a27 ?a26 ?a1 ?a0 ?gi_FIGURES ?gi_MOST_SEATS ?n_abs ?n_all ?n_bool ?n_int ?n_isinstance ?n_len ?n_list ?n_max ?n_min ?n_range ?n_set ?n_sorted ?n_str ?n_sum ?n_tuple ?pg1 ?hd1 ?po1 ?sa1 ?pg0 ?hd0 ?po0 ?sa0 ?no1__bottom ?no1__top ?no0_heard_lots ?no0_seats ?ha0 ?hn0 ?ht0 ?hm0 ?xi1 ?xt1 ?sc_0_1 ?sn_0_1 ?ha1 ?hn1 ?ht1 ?hm1 ?st_NoneType_1 ?st_bool_1 ?st_int_1 ?st_str_1 ?st_list_1 ?st_tuple_1 ?st_dict_1 ?xi0 ?xt0 ?sc_1_0 ?sn_1_0 ?st_NoneType_0 ?st_bool_0 ?st_int_0 ?st_str_0 ?st_list_0 ?st_tuple_0 ?st_dict_0 ?so_0_bool ?so_1_bool ?so_0_int ?so_1_int ?so_0_list ?so_0_tuple ?so_1_list ?so_1_tuple ?so_0_str ?so_1_str ?ei13 ?ek13 ?er13 ?et13 ?xb26 ?xh26 ?xt26 ?xi26 ?xs26 ?cx13_26 ?cx39_26 ?cx27_26 ?xb27 ?xh27 ?xt27 ?xi27 ?xs27 ?cx26_27 ?cx13_27 ?cx39_27 ?xb39 ?xh39 ?xt39 ?xi39 ?xs39 ?cx26_39 ?cx13_39 ?cx27_39 ?xb12 ?xh12 ?xt12 ?cx26_12 ?cx27_12 ?cx39_12 ?cx13_12 ?xi12 ?xs12 ?le1 ?le2 ?le3 ?iC_x39 ?tI_x39 ?l_x39 ?c_x39 ?k_x39 ?lo_x39 ?rv_x39 ?sa39 ?ek39 ?xn39_given ?iC_x27 ?tI_x27 ?l_x27 ?c_x27 ?k_x27 ?lo_x27 ?rv_x27 ?sa27 ?ek27 ?xn27_given ?iC_x26 ?tI_x26 ?l_x26 ?c_x26 ?k_x26 ?lo_x26 ?rv_x26 ?sa26 ?ek26 ?xn26_given ?ga26 ?gg26 ?ga27 ?gg27 ?ga39 ?gg39 ?gcd ?p1_p1_bottom ?p2_p1_bottom ?p3_p1_bottom ?p4_p1_bottom ?l_p1_bottom ?c_p1_bottom ?k_p1_bottom ?p1_p1_top ?p2_p1_top ?p3_p1_top ?p4_p1_top ?l_p1_top ?c_p1_top ?k_p1_top ?a_Ratio_init ?i_Ratio_init ?l_Ratio_init ?c_Ratio_init ?k_Ratio_init ?lt_Ratio_init ?ho_Ratio_init ?mk1 ?kc1 ?a_is_number ?l_is_number ?c_is_number ?k_is_number ?a_parts_of ?l_parts_of ?c_parts_of ?k_parts_of ?a_Ratio_eq ?i_Ratio_eq ?l_Ratio_eq ?c_Ratio_eq ?k_Ratio_eq ?a_Web_eq ?i_Web_eq ?l_Web_eq ?c_Web_eq ?k_Web_eq ?a_law_bad_lots ?l_law_bad_lots ?c_law_bad_lots ?k_law_bad_lots ?a_law_bad_seats ?l_law_bad_seats ?c_law_bad_seats ?k_law_bad_seats ?a_Web_len ?i_Web_len ?l_Web_len ?c_Web_len ?k_Web_len ?a_law_box ?l_law_box ?c_law_box ?k_law_box ?a_is_integer ?l_is_integer ?c_is_integer ?k_is_integer ?a_is_place ?l_is_place ?c_is_place ?k_is_place ?a_is_lot ?l_is_lot ?c_is_lot ?k_is_lot ?a_are_lots ?l_are_lots ?c_are_lots ?k_are_lots ?a_is_many ?l_is_many ?c_is_many ?k_is_many ?a_Web_init ?i_Web_init ?l_Web_init ?c_Web_init ?k_Web_init ?mk0 ?kc0 ?a_read_web ?l_read_web ?c_read_web ?k_read_web ?a_law_caught ?l_law_caught ?c_law_caught ?k_law_caught ?a_law_take ?l_law_take ?c_law_take ?k_law_take ?a_law_lots ?l_law_lots ?c_law_lots ?k_law_lots ?a_law_read ?l_law_read ?c_law_read ?k_law_read ?a_Web_text ?i_Web_text ?l_Web_text ?c_Web_text ?k_Web_text ?a_law_reading_right ?l_law_reading_right ?c_law_reading_right ?k_law_reading_right ?a_law_spoilt ?l_law_spoilt ?c_law_spoilt ?k_law_spoilt ?a_law_text ?l_law_text ?c_law_text ?k_law_text ?a_all_lots ?l_all_lots ?c_all_lots ?k_all_lots ?a_all_webs ?l_all_webs ?c_all_webs ?k_all_webs ?a_full_web ?l_full_web ?c_full_web ?k_full_web ?a_own_web ?l_own_web ?c_own_web ?k_own_web ?a_time_web ?l_time_web ?c_time_web ?k_time_web ?a_law_word ?l_law_word ?c_law_word ?k_law_word ?a_law ?l_law ?c_law ?k_law
    (case a12 => k_is)
    (case a13 => k_is)
    (case a39 => k_is)
    (case a27 => k_is)
    (case a26 => k_is)
    (case a1 => k_is)
    (case a0 => k_is)
    (case gi_FIGURES => k_is)
    (case gi_MOST_SEATS => k_is)
    (case n_abs => k_is)
    (case n_all => k_is)
    (case n_bool => k_is)
    (case n_int => k_is)
    (case n_isinstance => k_is)
    (case n_len => k_is)
    (case n_list => k_is)
    (case n_max => k_is)
    (case n_min => k_is)
    (case n_range => k_is)
    (case n_set => k_is)
    (case n_sorted => k_is)
    (case n_str => k_is)
    (case n_sum => k_is)
    (case n_tuple => k_is)
    (case pg1 => k_is)
    (case hd1 => k_is)
    (case po1 => k_is)
    (case sa1 => k_is)
    (case pg0 => k_is)
    (case hd0 => k_is)
    (case po0 => k_is)
    (case sa0 => k_is)
    (case no1__bottom => k_is)
    (case no1__top => k_is)
    (case no0_heard_lots => k_is)
    (case no0_seats => k_is)
    (case ha0 => k_is)
    (case hn0 => k_is)
    (case ht0 => k_is)
    (case hm0 => k_is)
    (case xi1 => k_is)
    (case xt1 => k_is)
    (case sc_0_1 => k_is)
    (case sn_0_1 => rfl)
    (case ha1 => k_is)
    (case hn1 => k_is)
    (case ht1 => k_is)
    (case hm1 => k_is)
    (case st_NoneType_1 => k_is)
    (case st_bool_1 => k_is)
    (case st_int_1 => k_is)
    (case st_str_1 => k_is)
    (case st_list_1 => k_is)
    (case st_tuple_1 => k_is)
    (case st_dict_1 => k_is)
    (case xi0 => k_is)
    (case xt0 => k_is)
    (case sc_1_0 => k_is)
    (case sn_1_0 => rfl)
    (case st_NoneType_0 => k_is)
    (case st_bool_0 => k_is)
    (case st_int_0 => k_is)
    (case st_str_0 => k_is)
    (case st_list_0 => k_is)
    (case st_tuple_0 => k_is)
    (case st_dict_0 => k_is)
    (case so_0_bool => k_is)
    (case so_1_bool => k_is)
    (case so_0_int => k_is)
    (case so_1_int => k_is)
    (case so_0_list => k_is)
    (case so_0_tuple => k_is)
    (case so_1_list => k_is)
    (case so_1_tuple => k_is)
    (case so_0_str => k_is)
    (case so_1_str => k_is)
    (case ei13 => k_exc)
    (case ek13 => k_is)
    (case er13 => k_is)
    (case et13 => k_is)
    (case xb26 => k_is)
    (case xh26 => k_is)
    (case xt26 => k_is)
    (case xi26 => k_is)
    (case xs26 => first | rfl | k_is)
    (case cx13_26 => k_is)
    (case cx39_26 => k_is)
    (case cx27_26 => k_is)
    (case xb27 => k_is)
    (case xh27 => k_is)
    (case xt27 => k_is)
    (case xi27 => k_is)
    (case xs27 => first | rfl | k_is)
    (case cx26_27 => k_is)
    (case cx13_27 => k_is)
    (case cx39_27 => k_is)
    (case xb39 => k_is)
    (case xh39 => k_is)
    (case xt39 => k_is)
    (case xi39 => k_is)
    (case xs39 => first | rfl | k_is)
    (case cx26_39 => k_is)
    (case cx13_39 => k_is)
    (case cx27_39 => k_is)
    (case xb12 => k_is)
    (case xh12 => k_is)
    (case xt12 => k_is)
    (case cx26_12 => k_is)
    (case cx27_12 => k_is)
    (case cx39_12 => k_is)
    (case cx13_12 => k_is)
    (case xi12 => k_is)
    (case xs12 => first | rfl | k_is)
    (case le1 => k_is)
    (case le2 => k_is)
    (case le3 => k_is)
    (case iC_x39 => k_is)
    (case tI_x39 => k_is)
    (case l_x39 => k_is)
    (case c_x39 => k_is)
    (case k_x39 => k_is)
    (case lo_x39 => k_is)
    (case rv_x39 => rfl)
    (case sa39 => k_is)
    (case ek39 => k_is)
    (case xn39_given => k_is)
    (case iC_x27 => k_is)
    (case tI_x27 => k_is)
    (case l_x27 => k_is)
    (case c_x27 => k_is)
    (case k_x27 => k_is)
    (case lo_x27 => k_is)
    (case rv_x27 => rfl)
    (case sa27 => k_is)
    (case ek27 => k_is)
    (case xn27_given => k_is)
    (case iC_x26 => k_is)
    (case tI_x26 => k_is)
    (case l_x26 => k_is)
    (case c_x26 => k_is)
    (case k_x26 => k_is)
    (case lo_x26 => k_is)
    (case rv_x26 => rfl)
    (case sa26 => k_is)
    (case ek26 => k_is)
    (case xn26_given => k_is)
    (case ga26 => k_is)
    (case gg26 => k_is)
    (case ga27 => k_is)
    (case gg27 => k_is)
    (case ga39 => k_is)
    (case gg39 => k_is)
    (case gcd => k_is)
    (case p1_p1_bottom => k_is)
    (case p2_p1_bottom => k_is)
    (case p3_p1_bottom => k_is)
    (case p4_p1_bottom => k_is)
    (case l_p1_bottom => k_is)
    (case c_p1_bottom => k_is)
    (case k_p1_bottom => k_is)
    (case p1_p1_top => k_is)
    (case p2_p1_top => k_is)
    (case p3_p1_top => k_is)
    (case p4_p1_top => k_is)
    (case l_p1_top => k_is)
    (case c_p1_top => k_is)
    (case k_p1_top => k_is)
    (case a_Ratio_init => k_is)
    (case i_Ratio_init => k_is)
    (case l_Ratio_init => k_is)
    (case c_Ratio_init => k_is)
    (case k_Ratio_init => k_is)
    (case lt_Ratio_init => k_is)
    (case ho_Ratio_init => rfl)
    (case mk1 => k_is)
    (case kc1 => k_is)
    (case a_is_number => k_is)
    (case l_is_number => k_is)
    (case c_is_number => k_is)
    (case k_is_number => k_is)
    (case a_parts_of => k_is)
    (case l_parts_of => k_is)
    (case c_parts_of => k_is)
    (case k_parts_of => k_is)
    (case a_Ratio_eq => k_is)
    (case i_Ratio_eq => k_is)
    (case l_Ratio_eq => k_is)
    (case c_Ratio_eq => k_is)
    (case k_Ratio_eq => k_is)
    (case a_Web_eq => k_is)
    (case i_Web_eq => k_is)
    (case l_Web_eq => k_is)
    (case c_Web_eq => k_is)
    (case k_Web_eq => k_is)
    (case a_law_bad_lots => k_is)
    (case l_law_bad_lots => k_is)
    (case c_law_bad_lots => k_is)
    (case k_law_bad_lots => k_is)
    (case a_law_bad_seats => k_is)
    (case l_law_bad_seats => k_is)
    (case c_law_bad_seats => k_is)
    (case k_law_bad_seats => k_is)
    (case a_Web_len => k_is)
    (case i_Web_len => k_is)
    (case l_Web_len => k_is)
    (case c_Web_len => k_is)
    (case k_Web_len => k_is)
    (case a_law_box => k_is)
    (case l_law_box => k_is)
    (case c_law_box => k_is)
    (case k_law_box => k_is)
    (case a_is_integer => k_is)
    (case l_is_integer => k_is)
    (case c_is_integer => k_is)
    (case k_is_integer => k_is)
    (case a_is_place => k_is)
    (case l_is_place => k_is)
    (case c_is_place => k_is)
    (case k_is_place => k_is)
    (case a_is_lot => k_is)
    (case l_is_lot => k_is)
    (case c_is_lot => k_is)
    (case k_is_lot => k_is)
    (case a_are_lots => k_is)
    (case l_are_lots => k_is)
    (case c_are_lots => k_is)
    (case k_are_lots => k_is)
    (case a_is_many => k_is)
    (case l_is_many => k_is)
    (case c_is_many => k_is)
    (case k_is_many => k_is)
    (case a_Web_init => k_is)
    (case i_Web_init => k_is)
    (case l_Web_init => k_is)
    (case c_Web_init => k_is)
    (case k_Web_init => k_is)
    (case mk0 => k_is)
    (case kc0 => k_is)
    (case a_read_web => k_is)
    (case l_read_web => k_is)
    (case c_read_web => k_is)
    (case k_read_web => k_is)
    (case a_law_caught => k_is)
    (case l_law_caught => k_is)
    (case c_law_caught => k_is)
    (case k_law_caught => k_is)
    (case a_law_take => k_is)
    (case l_law_take => k_is)
    (case c_law_take => k_is)
    (case k_law_take => k_is)
    (case a_law_lots => k_is)
    (case l_law_lots => k_is)
    (case c_law_lots => k_is)
    (case k_law_lots => k_is)
    (case a_law_read => k_is)
    (case l_law_read => k_is)
    (case c_law_read => k_is)
    (case k_law_read => k_is)
    (case a_Web_text => k_is)
    (case i_Web_text => k_is)
    (case l_Web_text => k_is)
    (case c_Web_text => k_is)
    (case k_Web_text => k_is)
    (case a_law_reading_right => k_is)
    (case l_law_reading_right => k_is)
    (case c_law_reading_right => k_is)
    (case k_law_reading_right => k_is)
    (case a_law_spoilt => k_is)
    (case l_law_spoilt => k_is)
    (case c_law_spoilt => k_is)
    (case k_law_spoilt => k_is)
    (case a_law_text => k_is)
    (case l_law_text => k_is)
    (case c_law_text => k_is)
    (case k_law_text => k_is)
    (case a_all_lots => k_is)
    (case l_all_lots => k_is)
    (case c_all_lots => k_is)
    (case k_all_lots => k_is)
    (case a_all_webs => k_is)
    (case l_all_webs => k_is)
    (case c_all_webs => k_is)
    (case k_all_webs => k_is)
    (case a_full_web => k_is)
    (case l_full_web => k_is)
    (case c_full_web => k_is)
    (case k_full_web => k_is)
    (case a_own_web => k_is)
    (case l_own_web => k_is)
    (case c_own_web => k_is)
    (case k_own_web => k_is)
    (case a_time_web => k_is)
    (case l_time_web => k_is)
    (case c_time_web => k_is)
    (case k_time_web => k_is)
    (case a_law_word => k_is)
    (case l_law_word => k_is)
    (case c_law_word => k_is)
    (case k_law_word => k_is)
    (case a_law => k_is)
    (case l_law => k_is)
    (case c_law => k_is)
    (case k_law => k_is)

