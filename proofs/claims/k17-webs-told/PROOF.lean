import PyProof.Rows.All
import Wide.All
import OpenK.AllK
import Wide.FinOn
import HandS.ForMost
import HandS.ForExc
import HandS.CallSlots
import HandS.Zip
import HandS.Wide
import HandS.Deep
import HandS.SortInts
import HandS.SortRule
import HandS.Conv
import HandS.IsInst
import KE.SortData
import HandS.OwnEq
import HandS.Small
import HandS.TryOnly
import KE.GoesEnum
import HandS.Words
import HandS.EndBits
import HandS.SetFor
import HandS.Strs
import KE.KDictZip
import KE.GoesZip
import HandS.ExcInit
import HandS.ExcField
import HandS.TryMany
import HandS.ExcIs
import HandS.DictComp
import KE.DataMinMax
import HandS.TupAny
import HandS.Text
import HandS.Defaults
import HandS.Property
import HandS.Gcd
import HandS.Star
import HandS.Style
import HandS.Iter
import HandS.Steps
import HandS.RaiseMore
import HandS.AnyAll
import HandS.GenOver
import PyProof.GenRules
import HandS.EndTab
import KE.KOpsOwn
import HandS.EndOwn
import PyProof.InstNe
import PyProof.ExcBaseAll.ValueError
import PySem.Challenge.RW_tellsmore_k17_webs_told
set_option Elab.async false
set_option linter.all false
set_option maxRecDepth 100000
section
/-! Dn1: data trees, their reading in the heap, results, readings as functions. -/
namespace Dn
open PySem L2

/-- pure data -/
inductive D where
  | non | bl (b : Bool) | int (i : Int) | str (x : Str)
  | lst (xs : List D) | tup (xs : List D) | obj (c : Nat) (xs : List D) | scr (ns : List Int) | dct (ks : List Key) (xs : List D)
/-- what a slot holds: data, or the name of a cell (a thing that is changed) -/
inductive S where
  | d (x : D) | c (n : Nat) | x (k : Nat) (xs : List D)
inductive CC where
  | lst (xs : List D) | dct (kvs : List (Key × D)) | obj (c : Nat) (xs : List D) | lS (xs : List S) | tS (xs : List S) | tb (j : Nat)
abbrev Cs := List CC
abbrev Sl := List (Option S)
inductive R (α : Type) where
  | ok (a : α) (c : Cs) | ex (k : Nat) (xs : List D) (c : Cs) | bad
inductive RS where
  | nx (δ : Sl) (c : Cs) | rt (s : S) (c : Cs) | bk (δ : Sl) (c : Cs) | ct (δ : Sl) (c : Cs) | ex (k : Nat) (xs : List D) (δ : Sl) (c : Cs) | bad
abbrev M := Sl → Cs → R S
abbrev MT := Sl → Cs → R Bool
abbrev MA := Sl → Cs → R (List S)
abbrev MS := Sl → Cs → RS

structure Tb where
  K : PySem.W.Frag
  cl : Nat → Addr
  fl : Nat → List Str
  /-- the exception that an except suite has in hand: where, its dict, its class -/
  x : Option (Addr × Option Addr × Nat) := none
  /-- the tables of code objects of the defs that make generators -/
  tb : Nat → Addr := fun _ => 0

def Ex (H H' : Hp) : Prop := ∀ a o, H a = some o → H' a = some o
theorem Ex.refl (H : Hp) : Ex H H := fun _ _ h => h
theorem Ex.trans {H H1 H2 : Hp} (a : Ex H H1) (b : Ex H1 H2) : Ex H H2 := fun x o h => b x o (a x o h)
theorem Ex.new {H : Hp} {p : Addr} {o : HO} (h : H p = none) : Ex H (upd H p o) := fun a u e => by
  rw [upd_ne (ne_of_none e h)]
  exact e
theorem ex_rd {H H' : Hp} {a : Addr} {u : HO} (e : Ex H H') (h : Rd H a u) : Rd H' a u := by
  rcases h with h | ⟨o, h⟩
  · exact Or.inl (e a _ h)
  · exact Or.inr ⟨o, e a _ h⟩
theorem ex_l {K : PySem.W.Frag} {H H' : Hp} {a : Addr} {xs : List V} (e : Ex H H') (h : SqL K H a xs) : SqL K H' a xs := by
  rcases h with h | h
  · exact Or.inl (ex_rd e h)
  · exact Or.inr h
theorem ex_t {K : PySem.W.Frag} {H H' : Hp} {a : Addr} {xs : List V} (e : Ex H H') (h : SqT K H a xs) : SqT K H' a xs := by
  rcases h with h | h
  · exact Or.inl (ex_rd e h)
  · exact Or.inr h
theorem Ex.back {H H' : Hp} {p : Addr} (e : Ex H H') (h : H' p = none) : H p = none := by
  cases h1 : H p with
  | none => rfl
  | some o =>
    rw [e p o h1] at h
    cases h

/-! ### what stands for what -/
mutual
def Rep (T : Tb) (G : Hp) : D → V → Prop
  | .non, v => v = .non
  | .bl b, v => v = .bl b
  | .int i, v => v = .int i
  | .str x, v => v = .str x
  | .scr ns, v => ∃ p, v = .ref p ∧ SqL T.K G p (ns.map V.int) ∧ ns.length ≤ sizeLine
  | .lst xs, v => ∃ p vs, v = .ref p ∧ G p = some (.lst vs) ∧ xs.length ≤ sizeLine ∧ Reps T G xs vs
  | .tup xs, v => ∃ p vs, v = .ref p ∧ G p = some (.tup vs) ∧ xs.length ≤ sizeLine ∧ Reps T G xs vs
  | .obj c xs, v => ∃ p dx fv, v = .ref p ∧ G p = some (.ins (T.cl c) dx fv) ∧ fv.map (·.1) = T.fl c ∧ Reps T G xs (fv.map (·.2))
  | .dct ks xs, v => ∃ p kv, v = .ref p ∧ G p = some (.dK kv) ∧ kv.map (·.1) = ks ∧ Reps T G xs (kv.map (·.2))
def Reps (T : Tb) (G : Hp) : List D → List V → Prop
  | [], vs => vs = []
  | d :: ds, vs => ∃ v r, vs = v :: r ∧ Rep T G d v ∧ Reps T G ds r
end
mutual
theorem Rep.mono {T : Tb} {G G' : Hp} (h : Ex G G') : ∀ (d : D) (v : V), Rep T G d v → Rep T G' d v
  | .non, v, e => by unfold Rep at *; exact e
  | .bl _, v, e => by unfold Rep at *; exact e
  | .int _, v, e => by unfold Rep at *; exact e
  | .str _, v, e => by unfold Rep at *; exact e
  | .scr ns, v, e => by unfold Rep at *; obtain ⟨p, a, b, l⟩ := e; exact ⟨p, a, ex_l h b, l⟩
  | .lst xs, v, e => by unfold Rep at *; obtain ⟨p, vs, a, b, l, c⟩ := e; exact ⟨p, vs, a, h _ _ b, l, Reps.mono h xs vs c⟩
  | .tup xs, v, e => by unfold Rep at *; obtain ⟨p, vs, a, b, l, c⟩ := e; exact ⟨p, vs, a, h _ _ b, l, Reps.mono h xs vs c⟩
  | .obj _ xs, v, e => by unfold Rep at *; obtain ⟨p, dx, fv, a, b, l, c⟩ := e; exact ⟨p, dx, fv, a, h _ _ b, l, Reps.mono h xs _ c⟩
  | .dct _ xs, v, e => by unfold Rep at *; obtain ⟨p, kv, a, b, l, c⟩ := e; exact ⟨p, kv, a, h _ _ b, l, Reps.mono h xs _ c⟩
theorem Reps.mono {T : Tb} {G G' : Hp} (h : Ex G G') : ∀ (d : List D) (v : List V), Reps T G d v → Reps T G' d v
  | [], v, e => by unfold Reps at *; exact e
  | d :: ds, v, e => by unfold Reps at *; obtain ⟨x, r, a, b, c⟩ := e; exact ⟨x, r, a, Rep.mono h d x b, Reps.mono h ds r c⟩
end
section
variable {T : Tb} {G G' H H' : Hp} {v u : V} {vs : List V} {xs : List D}
theorem Reps.length : ∀ {xs : List D} {vs : List V}, Reps T G xs vs → vs.length = xs.length
  | [], vs, h => by unfold Reps at h; subst h; rfl
  | d :: ds, vs, h => by unfold Reps at h; obtain ⟨x, r, rfl, _, c⟩ := h; simp [Reps.length c]
theorem Reps.nil : Reps T G [] [] := by unfold Reps; rfl
theorem Reps.cons {d : D} {ds : List D} {v : V} {vs : List V} (h : Rep T G d v) (t : Reps T G ds vs) : Reps T G (d :: ds) (v :: vs) := by unfold Reps; exact ⟨v, vs, rfl, h, t⟩
theorem Reps.nil_inv {vs : List V} (h : Reps T G [] vs) : vs = [] := by unfold Reps at h; exact h
theorem Reps.cons_inv {d : D} {ds : List D} {vs : List V} (h : Reps T G (d :: ds) vs) : ∃ v r, vs = v :: r ∧ Rep T G d v ∧ Reps T G ds r := by unfold Reps at h; exact h
theorem Reps.get : ∀ {xs : List D} {vs : List V} {i : Nat} {d : D}, Reps T G xs vs → xs[i]? = some d → ∃ v, vs[i]? = some v ∧ Rep T G d v
  | [], _, _, _, _, e => by simp at e
  | d :: ds, _, 0, d', h, e => by
    obtain ⟨v, r, rfl, a, b⟩ := h.cons_inv
    simp at e; subst e
    exact ⟨v, rfl, a⟩
  | d :: ds, _, i + 1, d', h, e => by
    obtain ⟨v, r, rfl, a, b⟩ := h.cons_inv
    obtain ⟨z, h1, h2⟩ := Reps.get (i := i) b (by simpa using e)
    exact ⟨z, by simpa using h1, h2⟩
theorem Reps.get' : ∀ {xs : List D} {vs : List V} {i : Nat} {v : V}, Reps T G xs vs → vs[i]? = some v → ∃ d, xs[i]? = some d ∧ Rep T G d v := fun {xs vs i v} h e => by
  have hl := h.length
  have hi : i < xs.length := by
    have := (List.getElem?_eq_some_iff.mp e).1
    omega
  obtain ⟨z, h1, h2⟩ := h.get (i := i) (List.getElem?_eq_getElem hi)
  rw [e] at h1; cases h1
  exact ⟨_, List.getElem?_eq_getElem hi, h2⟩
theorem Reps.append : ∀ {xs ys : List D} {vs us : List V}, Reps T G xs vs → Reps T G ys us → Reps T G (xs ++ ys) (vs ++ us)
  | [], _, _, _, h, k => by cases h.nil_inv; exact k
  | d :: ds, _, _, _, h, k => by
    obtain ⟨v, r, rfl, a, b⟩ := h.cons_inv
    exact Reps.cons a (Reps.append b k)
theorem Reps.set : ∀ {xs : List D} {vs : List V} {d : D} {v : V} (i : Nat), Reps T G xs vs → Rep T G d v → Reps T G (xs.set i d) (vs.set i v)
  | [], _, _, _, _, h, _ => by cases h.nil_inv; exact Reps.nil
  | d :: ds, _, _, _, 0, h, k => by
    obtain ⟨v, r, rfl, a, b⟩ := h.cons_inv
    exact Reps.cons k b
  | d :: ds, _, _, _, i + 1, h, k => by
    obtain ⟨v, r, rfl, a, b⟩ := h.cons_inv
    exact Reps.cons a (Reps.set i b k)
theorem Reps.of_get : ∀ {xs : List D} {vs : List V}, vs.length = xs.length → (∀ (i : Nat) (d : D) (v : V), xs[i]? = some d → vs[i]? = some v → Rep T G d v) → Reps T G xs vs
  | [], [], _, _ => Reps.nil
  | [], _ :: _, e, _ => by simp at e
  | _ :: _, [], e, _ => by simp at e
  | d :: ds, v :: vs, e, h => Reps.cons (h 0 d v rfl rfl) (Reps.of_get (by simpa using e) fun i d v a b => h (i + 1) d v (by simpa using a) (by simpa using b))
theorem Reps.map_int : ∀ (ns : List Int), Reps T G (ns.map D.int) (ns.map V.int)
  | [] => Reps.nil
  | n :: ns => Reps.cons (by unfold Rep; rfl) (Reps.map_int ns)
theorem Rep.int_inv {i : Int} (h : Rep T G (.int i) v) : v = .int i := by unfold Rep at h; exact h
theorem Rep.bl_inv {b : Bool} (h : Rep T G (.bl b) v) : v = .bl b := by unfold Rep at h; exact h
theorem Rep.str_inv {x : Str} (h : Rep T G (.str x) v) : v = .str x := by unfold Rep at h; exact h
theorem Rep.non_inv (h : Rep T G .non v) : v = .non := by unfold Rep at h; exact h
theorem Rep.int {i : Int} : Rep T G (.int i) (.int i) := by unfold Rep; rfl
theorem Rep.bl {b : Bool} : Rep T G (.bl b) (.bl b) := by unfold Rep; rfl
theorem Rep.str {x : Str} : Rep T G (.str x) (.str x) := by unfold Rep; rfl
theorem Rep.non : Rep T G .non .non := by unfold Rep; rfl
theorem Rep.lst {p : Addr} (h : G p = some (.lst vs)) (l : xs.length ≤ sizeLine) (r : Reps T G xs vs) : Rep T G (.lst xs) (.ref p) := by unfold Rep; exact ⟨p, vs, rfl, h, l, r⟩
theorem Rep.tup {p : Addr} (h : G p = some (.tup vs)) (l : xs.length ≤ sizeLine) (r : Reps T G xs vs) : Rep T G (.tup xs) (.ref p) := by unfold Rep; exact ⟨p, vs, rfl, h, l, r⟩
theorem Rep.obj {c : Nat} {p dx : Addr} {fv : List (Str × V)} (h : G p = some (.ins (T.cl c) dx fv)) (l : fv.map (·.1) = T.fl c) (r : Reps T G xs (fv.map (·.2))) : Rep T G (.obj c xs) (.ref p) := by unfold Rep; exact ⟨p, dx, fv, rfl, h, l, r⟩
theorem Rep.dct {ks : List Key} {p : Addr} {kv : List (Key × V)} (h : G p = some (.dK kv)) (l : kv.map (·.1) = ks) (r : Reps T G xs (kv.map (·.2))) : Rep T G (.dct ks xs) (.ref p) := by unfold Rep; exact ⟨p, kv, rfl, h, l, r⟩
theorem Rep.dct_inv {ks : List Key} (h : Rep T G (.dct ks xs) v) : ∃ p kv, v = .ref p ∧ G p = some (.dK kv) ∧ kv.map (·.1) = ks ∧ Reps T G xs (kv.map (·.2)) := by unfold Rep at h; exact h
theorem Rep.scr {p : Addr} {ns : List Int} (h : SqL T.K G p (ns.map V.int)) (l : ns.length ≤ sizeLine) : Rep T G (.scr ns) (.ref p) := by unfold Rep; exact ⟨p, rfl, h, l⟩
theorem Rep.scr_inv {ns : List Int} (h : Rep T G (.scr ns) v) : ∃ p, v = .ref p ∧ SqL T.K G p (ns.map V.int) ∧ ns.length ≤ sizeLine := by unfold Rep at h; exact h
theorem Rep.lst_inv (h : Rep T G (.lst xs) v) : ∃ p vs, v = .ref p ∧ G p = some (.lst vs) ∧ xs.length ≤ sizeLine ∧ Reps T G xs vs := by unfold Rep at h; exact h
theorem Rep.tup_inv (h : Rep T G (.tup xs) v) : ∃ p vs, v = .ref p ∧ G p = some (.tup vs) ∧ xs.length ≤ sizeLine ∧ Reps T G xs vs := by unfold Rep at h; exact h
theorem Rep.obj_inv {c : Nat} (h : Rep T G (.obj c xs) v) : ∃ p dx fv, v = .ref p ∧ G p = some (.ins (T.cl c) dx fv) ∧ fv.map (·.1) = T.fl c ∧ Reps T G xs (fv.map (·.2)) := by unfold Rep at h; exact h
end

/-- a thing that is read: at its top in H, below in G -/
def View (T : Tb) (G H : Hp) : D → V → Prop
  | .scr ns, v => ∃ p, v = .ref p ∧ SqL T.K H p (ns.map V.int) ∧ ns.length ≤ sizeLine
  | .lst xs, v => ∃ p vs, v = .ref p ∧ H p = some (.lst vs) ∧ xs.length ≤ sizeLine ∧ Reps T G xs vs
  | .obj c xs, v => ∃ p dx fv, v = .ref p ∧ H p = some (.ins (T.cl c) dx fv) ∧ fv.map (·.1) = (T.fl c).take xs.length ∧ Reps T G xs (fv.map (·.2))
  | d, v => Rep T G d v
theorem Reps.len_fl {T : Tb} {G : Hp} {c : Nat} {xs : List D} {fv : List (Str × V)} (l : fv.map (·.1) = T.fl c) (r : Reps T G xs (fv.map (·.2))) : fv.map (·.1) = (T.fl c).take xs.length := by
  have := r.length
  rw [List.length_map] at this
  rw [← l, ← this, List.take_of_length_le (by simp)]
theorem Rep.view {T : Tb} {G H : Hp} (e : Ex G H) : ∀ {d : D} {v : V}, Rep T G d v → View T G H d v
  | .non, _, h => h
  | .bl _, _, h => h
  | .int _, _, h => h
  | .str _, _, h => h
  | .scr ns, v, h => by obtain ⟨p, a, b, c⟩ := h.scr_inv; exact ⟨p, a, ex_l e b, c⟩
  | .lst xs, v, h => by obtain ⟨p, vs, a, b, c, r⟩ := h.lst_inv; exact ⟨p, vs, a, e _ _ b, c, r⟩
  | .tup xs, v, h => h
  | .dct _ _, v, h => h
  | .obj c xs, v, h => by obtain ⟨p, dx, fv, a, b, c, r⟩ := h.obj_inv; exact ⟨p, dx, fv, a, e _ _ b, Reps.len_fl c r, r⟩
inductive Views (T : Tb) (G H : Hp) : List D → List V → Prop
  | nil : Views T G H [] []
  | cons {d : D} {ds : List D} {v : V} {vs : List V} : View T G H d v → Views T G H ds vs → Views T G H (d :: ds) (v :: vs)

/-! ### cells -/
/-- what stands in a cell: data or another cell -/
def CRep (T : Tb) (G : Hp) (ρ : List Addr) : S → V → Prop
  | .d x, v => Rep T G x v
  | .c n, v => ∃ p, ρ[n]? = some p ∧ v = .ref p
  | .x _ _, _ => False
inductive CReps (T : Tb) (G : Hp) (ρ : List Addr) : List S → List V → Prop
  | nil : CReps T G ρ [] []
  | cons {s : S} {ss : List S} {v : V} {vs : List V} : CRep T G ρ s v → CReps T G ρ ss vs → CReps T G ρ (s :: ss) (v :: vs)
/-- ρ: the older cells -/
def CellOk (T : Tb) (G H : Hp) (ρ : List Addr) (p : Addr) : CC → Prop
  | .lst xs => ∃ vs, H p = some (.lst vs) ∧ xs.length ≤ sizeLine ∧ Reps T G xs vs
  | .dct kvs => ∃ kv, H p = some (.dK kv) ∧ kvs.length ≤ 1000 ∧ kv.map (·.1) = kvs.map (·.1) ∧ Reps T G (kvs.map (·.2)) (kv.map (·.2))
  | .obj c xs => ∃ dx fv, H p = some (.ins (T.cl c) dx fv) ∧ fv.map (·.1) = (T.fl c).take xs.length ∧ Reps T G xs (fv.map (·.2))
  | .lS xs => ∃ vs, H p = some (.lst vs) ∧ xs.length ≤ sizeLine ∧ CReps T G ρ xs vs
  | .tS xs => ∃ vs, H p = some (.tup vs) ∧ xs.length ≤ sizeLine ∧ CReps T G ρ xs vs
  | .tb j => p = T.tb j ∧ ∃ ps : Array Value, H p = some (.tbl ps) ∧ TriplesOk ps.toList
structure RelH (T : Tb) (H : Hp) (c : Cs) (G : Hp) (ρ : List Addr) : Prop where
  ex : Ex G H
  len : ρ.length = c.length
  nd : ρ.Nodup
  at_ : ∀ (i : Nat) (p : Addr) (x : CC), ρ[i]? = some p → c[i]? = some x → G p = none ∧ CellOk T G H (ρ.take i) p x
def XRep (T : Tb) (G : Hp) (k : Nat) (xs : List D) (d : Option Addr) : Prop :=
  (xs = [] ∧ d = none) ∨ ∃ dx fv, d = some dx ∧ G dx = some (.xd fv) ∧ fv.map (·.1) = T.fl k ∧ Reps T G xs (fv.map (·.2))
theorem XRep.mono {T : Tb} {G G' : Hp} {k : Nat} {xs : List D} {d : Option Addr} (h : Ex G G') (r : XRep T G k xs d) : XRep T G' k xs d := by
  rcases r with r | ⟨dx, fv, a, b, c, r⟩
  · exact .inl r
  · exact .inr ⟨dx, fv, a, h _ _ b, c, Reps.mono h _ _ r⟩
def SRep (T : Tb) (G : Hp) (ρ : List Addr) : S → V → Prop
  | .d x, v => Rep T G x v
  | .c n, v => ∃ p, ρ[n]? = some p ∧ v = .ref p
  | .x k xs, v => ∀ a d k', T.x = some (a, d, k') → v = .ref a ∧ k' = k ∧ XRep T G k xs d
inductive SReps (T : Tb) (G : Hp) (ρ : List Addr) : List S → List V → Prop
  | nil : SReps T G ρ [] []
  | cons {s : S} {ss : List S} {v : V} {vs : List V} : SRep T G ρ s v → SReps T G ρ ss vs → SReps T G ρ (s :: ss) (v :: vs)
structure RelS (T : Tb) (G : Hp) (ρ : List Addr) (σ : St) (δ : Sl) : Prop where
  len : σ.length = δ.length
  at_ : ∀ (i : Nat) (s : S), δ[i]? = some (some s) → ∃ v, σ[i]? = some (some v) ∧ SRep T G ρ s v

theorem pre_get {ρ ρ' : List Addr} (h : ρ <+: ρ') {n : Nat} {p : Addr} (e : ρ[n]? = some p) : ρ'[n]? = some p := by
  obtain ⟨t, rfl⟩ := h
  rw [List.getElem?_append_left (List.getElem?_eq_some_iff.mp e).1]
  exact e
section
variable {T : Tb} {G G' H H' : Hp} {ρ ρ' : List Addr} {c : Cs} {σ : St} {δ : Sl}
theorem SRep.mono (h : Ex G G') (k : ρ <+: ρ') : ∀ {s : S} {v : V}, SRep T G ρ s v → SRep T G' ρ' s v
  | .d _, _, e => Rep.mono h _ _ e
  | .c _, _, ⟨p, a, b⟩ => ⟨p, pre_get k a, b⟩
  | .x _ _, _, e => fun a d k' z => let ⟨q1, q2, q3⟩ := e a d k' z; ⟨q1, q2, q3.mono h⟩
theorem CRep.mono (h : Ex G G') (k : ρ <+: ρ') : ∀ {s : S} {v : V}, CRep T G ρ s v → CRep T G' ρ' s v
  | .d _, _, e => Rep.mono h _ _ e
  | .c _, _, ⟨p, a, b⟩ => ⟨p, pre_get k a, b⟩
theorem CReps.mono (h : Ex G G') (k : ρ <+: ρ') {ss : List S} {vs : List V} (r : CReps T G ρ ss vs) : CReps T G' ρ' ss vs := by
  induction r with
  | nil => exact .nil
  | cons a _ ih => exact .cons (a.mono h k) ih
theorem CReps.length {ss : List S} {vs : List V} (r : CReps T G ρ ss vs) : vs.length = ss.length := by
  induction r with
  | nil => rfl
  | cons _ _ ih => simp [ih]
theorem CRep.srep : ∀ {s : S} {v : V}, CRep T G ρ s v → SRep T G ρ s v
  | .d _, _, e => e
  | .c _, _, e => e
theorem SReps.mono (h : Ex G G') (k : ρ <+: ρ') {ss : List S} {vs : List V} (r : SReps T G ρ ss vs) : SReps T G' ρ' ss vs := by
  induction r with
  | nil => exact .nil
  | cons a _ ih => exact .cons (a.mono h k) ih
theorem SReps.length {ss : List S} {vs : List V} (r : SReps T G ρ ss vs) : vs.length = ss.length := by
  induction r with
  | nil => rfl
  | cons _ _ ih => simp [ih]
theorem SReps.append {ss ts : List S} {vs us : List V} (r : SReps T G ρ ss vs) (q : SReps T G ρ ts us) : SReps T G ρ (ss ++ ts) (vs ++ us) := by
  induction r with
  | nil => exact q
  | cons a _ ih => exact .cons a ih
theorem RelS.mono (h : Ex G G') (k : ρ <+: ρ') (r : RelS T G ρ σ δ) : RelS T G' ρ' σ δ :=
  ⟨r.len, fun i s e => let ⟨v, a, b⟩ := r.at_ i s e; ⟨v, a, b.mono h k⟩⟩
theorem RelS.set (r : RelS T G ρ σ δ) (i : Nat) {s : S} {v : V} (h : SRep T G ρ s v) : RelS T G ρ (σ.set i (some v)) (δ.set i (some s)) := by
  refine ⟨by simp [r.len], fun j t e => ?_⟩
  by_cases hj : i = j
  · subst hj
    have hi : i < δ.length := by
      rcases Nat.lt_or_ge i δ.length with z | z
      · exact z
      · rw [List.getElem?_eq_none (by simpa using z)] at e; cases e
    rw [List.getElem?_set_self hi] at e
    cases e
    exact ⟨v, by rw [List.getElem?_set_self (by rw [r.len]; exact hi)], h⟩
  · rw [List.getElem?_set_ne hj] at e
    obtain ⟨u, a, b⟩ := r.at_ j t e
    exact ⟨u, by rw [List.getElem?_set_ne hj]; exact a, b⟩
theorem RelS.unset (r : RelS T G ρ σ δ) (i : Nat) (o : Option V) : RelS T G ρ (σ.set i o) (δ.set i none) := by
  refine ⟨by simp [r.len], fun j t e => ?_⟩
  by_cases hj : i = j
  · subst hj
    by_cases hi : i < δ.length
    · rw [List.getElem?_set_self hi] at e; cases e
    · rw [List.getElem?_eq_none (by simpa using hi)] at e; cases e
  · rw [List.getElem?_set_ne hj] at e
    obtain ⟨u, a, b⟩ := r.at_ j t e
    exact ⟨u, by rw [List.getElem?_set_ne hj]; exact a, b⟩
end
section
variable {T : Tb} {G : Hp} {ρ : List Addr} {v : V}
theorem SRep.int {i : Int} : SRep T G ρ (.d (.int i)) (.int i) := Rep.int (T := T) (G := G)
theorem SRep.bl {b : Bool} : SRep T G ρ (.d (.bl b)) (.bl b) := Rep.bl (T := T) (G := G)
theorem SRep.str {x : Str} : SRep T G ρ (.d (.str x)) (.str x) := Rep.str (T := T) (G := G)
theorem SRep.non : SRep T G ρ (.d .non) .non := Rep.non (T := T) (G := G)
theorem SRep.int_inv {i : Int} (h : SRep T G ρ (.d (.int i)) v) : v = .int i := Rep.int_inv (T := T) (G := G) h
theorem SRep.bl_inv {b : Bool} (h : SRep T G ρ (.d (.bl b)) v) : v = .bl b := Rep.bl_inv (T := T) (G := G) h
theorem SRep.str_inv {x : Str} (h : SRep T G ρ (.d (.str x)) v) : v = .str x := Rep.str_inv (T := T) (G := G) h
theorem SRep.non_inv (h : SRep T G ρ (.d .non) v) : v = .non := Rep.non_inv (T := T) (G := G) h
theorem View.int_inv {H : Hp} {i : Int} (h : View T G H (.int i) v) : v = .int i := Rep.int_inv (T := T) (G := G) h
theorem View.bl_inv {H : Hp} {b : Bool} (h : View T G H (.bl b) v) : v = .bl b := Rep.bl_inv (T := T) (G := G) h
theorem View.str_inv {H : Hp} {x : Str} (h : View T G H (.str x) v) : v = .str x := Rep.str_inv (T := T) (G := G) h
theorem View.tup_inv {H : Hp} {xs : List D} (h : View T G H (.tup xs) v) : ∃ p vs, v = .ref p ∧ G p = some (.tup vs) ∧ xs.length ≤ sizeLine ∧ Reps T G xs vs := Rep.tup_inv (T := T) (G := G) h
theorem View.non_inv {H : Hp} (h : View T G H .non v) : v = .non := Rep.non_inv (T := T) (G := G) h
end
/-- the heap grows by data alone -/
structure Step (G H G' H' : Hp) : Prop where
  g : Ex G G'
  h : Ex H H'
  gh : Ex G' H'
  cells : ∀ p o, H p = some o → G p = none → G' p = none
section
variable {T : Tb} {G G' H H' : Hp} {ρ ρ' : List Addr} {c : Cs}
theorem Step.refl (h : Ex G H) : Step G H G H := ⟨.refl _, .refl _, h, fun _ _ _ q => q⟩
theorem Step.new {p : Addr} {o : HO} (e : Ex G H) (h : H p = none) : Step G H (upd G p o) (upd H p o) := by
  refine ⟨.new (e.back h), .new h, fun a u q => ?_, fun q u a b => ?_⟩
  · by_cases z : a = p
    · subst z; rw [upd_same] at q ⊢; exact q
    · rw [upd_ne z] at q ⊢; exact e _ _ q
  · rw [upd_ne (ne_of_none a h)]; exact b
theorem Step.trans {G1 H1 G2 H2 : Hp} (a : Step G H G1 H1) (b : Step G1 H1 G2 H2) : Step G H G2 H2 :=
  ⟨a.g.trans b.g, a.h.trans b.h, b.gh, fun p o x y => b.cells p o (a.h _ _ x) (a.cells p o x y)⟩
theorem CellOk.step (s : Step G H G' H') {p : Addr} : ∀ {x : CC}, CellOk T G H ρ p x → CellOk T G' H' ρ p x
  | .lS xs, ⟨vs, a, b, r⟩ => ⟨vs, s.h _ _ a, b, r.mono s.g (List.prefix_refl _)⟩
  | .tS xs, ⟨vs, a, b, r⟩ => ⟨vs, s.h _ _ a, b, r.mono s.g (List.prefix_refl _)⟩
  | .lst xs, ⟨vs, a, b, r⟩ => ⟨vs, s.h _ _ a, b, Reps.mono s.g _ _ r⟩
  | .dct kvs, ⟨kv, a, b, k, r⟩ => ⟨kv, s.h _ _ a, b, k, Reps.mono s.g _ _ r⟩
  | .obj c xs, ⟨dx, fv, a, b, r⟩ => ⟨dx, fv, s.h _ _ a, b, Reps.mono s.g _ _ r⟩
  | .tb j, ⟨z, ps, a, b⟩ => ⟨z, ps, s.h _ _ a, b⟩
/-- what the cell holds stays; its data may stand in a larger part -/
theorem CellOk.keep (e : Ex G G') {p : Addr} (h : H' p = H p) (k : ρ <+: ρ') : ∀ {x : CC}, CellOk T G H ρ p x → CellOk T G' H' ρ' p x
  | .lst xs, ⟨vs, a, b, r⟩ => ⟨vs, h.trans a, b, Reps.mono e _ _ r⟩
  | .dct kvs, ⟨kv, a, b, k, r⟩ => ⟨kv, h.trans a, b, k, Reps.mono e _ _ r⟩
  | .obj c xs, ⟨dx, fv, a, b, r⟩ => ⟨dx, fv, h.trans a, b, Reps.mono e _ _ r⟩
  | .lS xs, ⟨vs, a, b, r⟩ => ⟨vs, h.trans a, b, r.mono e k⟩
  | .tS xs, ⟨vs, a, b, r⟩ => ⟨vs, h.trans a, b, r.mono e k⟩
  | .tb j, ⟨z, ps, a, b⟩ => ⟨z, ps, h.trans a, b⟩
theorem take_pre {ρ ρ' : List Addr} (h : ρ <+: ρ') {i : Nat} (hi : i ≤ ρ.length) : ρ'.take i = ρ.take i := by
  obtain ⟨t, rfl⟩ := h
  rw [List.take_append_of_le_length hi]
theorem CellOk.some {p : Addr} : ∀ {x : CC}, CellOk T G H ρ p x → ∃ o, H p = some o
  | .lS xs, ⟨vs, a, b, r⟩ => ⟨_, a⟩
  | .tS xs, ⟨vs, a, b, r⟩ => ⟨_, a⟩
  | .lst xs, ⟨vs, a, b, r⟩ => ⟨_, a⟩
  | .dct kvs, ⟨kv, a, b, k, r⟩ => ⟨_, a⟩
  | .obj c xs, ⟨dx, fv, a, b, r⟩ => ⟨_, a⟩
  | .tb j, ⟨z, ps, a, b⟩ => ⟨_, a⟩
theorem RelH.step (r : RelH T H c G ρ) (s : Step G H G' H') : RelH T H' c G' ρ :=
  ⟨s.gh, r.len, r.nd, fun i p x a b => let ⟨g, k⟩ := r.at_ i p x a b; let ⟨o, ho⟩ := k.some; ⟨s.cells p o ho g, k.step s⟩⟩
end
/-- what is read of a slot's value -/
def deref : S → Cs → Option D
  | .d x, _ => some x
  | .c n, c => match c[n]? with
    | some (.lst xs) => some (.lst xs)
    | some (.obj k xs) => some (.obj k xs)
    | _ => none
  | .x _ _, _ => none
def derefs : List S → Cs → Option (List D)
  | [], _ => some []
  | s :: ss, c => match deref s c with
    | some d => match derefs ss c with
      | some ds => some (d :: ds)
      | none => none
    | none => none
section
variable {T : Tb} {G G' H H' : Hp} {ρ ρ' : List Addr} {c : Cs}
theorem deref_view (r : RelH T H c G ρ) : ∀ {s : S} {v : V} {d : D}, SRep T G ρ s v → deref s c = some d → View T G H d v
  | .d x, v, d, h, e => by
    cases e
    exact Rep.view r.ex h
  | .c n, v, d, ⟨p, hp, hv⟩, e => by
    subst hv
    unfold deref at e
    cases hc : c[n]? with
    | none => simp only [hc] at e; cases e
    | some x =>
      simp only [hc] at e
      obtain ⟨g, k⟩ := r.at_ n p x hp hc
      cases x with
      | lst xs =>
        cases e
        obtain ⟨vs, a, b, q⟩ := k
        exact ⟨p, vs, rfl, a, b, q⟩
      | dct _ => cases e
      | tb _ => cases e
      | lS _ => cases e
      | tS _ => cases e
      | obj k2 xs =>
        cases e
        obtain ⟨dx, fv, a, b, q⟩ := k
        exact ⟨p, dx, fv, rfl, a, b, q⟩
theorem derefs_views (r : RelH T H c G ρ) : ∀ {ss : List S} {vs : List V} {ds : List D}, SReps T G ρ ss vs → derefs ss c = some ds → Views T G H ds vs
  | [], _, _, h, e => by cases h; cases e; exact .nil
  | s :: ss, _, ds, h, e => by
    cases h with
    | cons a b =>
      unfold derefs at e
      cases h1 : deref s c with
      | none => rw [h1] at e; cases e
      | some d =>
        rw [h1] at e
        cases h2 : derefs ss c with
        | none => rw [h2] at e; cases e
        | some d2 =>
          rw [h2] at e
          cases e
          exact .cons (deref_view r a h1) (derefs_views r b h2)
end

/-! ### results -/
def R.bind {α β : Type} : R α → (α → Cs → R β) → R β
  | .ok a c, f => f a c
  | .ex k xs c, _ => .ex k xs c
  | .bad, _ => .bad
def Post {α β : Type} (rel : Hp → List Addr → α → β → Prop) (T : Tb) (W : WX) (σ : St) (G : Hp) (ρ : List Addr) (r : R α) (Q : β → Hp → Prop) : Prop :=
  match r with
  | .ok a c => ∀ v H' G' ρ', Ex G G' → ρ <+: ρ' → RelH T H' c G' ρ' → rel G' ρ' a v → Q v H'
  | .ex k xs c => ∀ d H' G' ρ', Ex G G' → ρ <+: ρ' → RelH T H' c G' ρ' → XRep T G' k xs d → W (.ref (T.cl k)) d σ H'
  | .bad => False
abbrev PostV (T : Tb) := Post (SRep T) T
abbrev relB : Hp → List Addr → Bool → Bool → Prop := fun _ _ a b => b = a
section
variable {α β γ ε : Type} {rel : Hp → List Addr → α → β → Prop} {rel2 : Hp → List Addr → γ → ε → Prop} {T : Tb} {W : WX} {σ : St} {G G' : Hp} {ρ ρ' : List Addr} {r : R α} {Q Q' : β → Hp → Prop}
theorem Post.imp (h : Post rel T W σ G ρ r Q) (k : ∀ v H, Q v H → Q' v H) : Post rel T W σ G ρ r Q' := by
  cases r with
  | ok a c => exact fun v H' G' ρ' e p q z => k _ _ (h v H' G' ρ' e p q z)
  | ex k xs c => exact h
  | bad => exact h
theorem Post.mono (h : Post rel T W σ G ρ r Q) (e : Ex G G') (p : ρ <+: ρ') : Post rel T W σ G' ρ' r Q := by
  cases r with
  | ok a c => exact fun v H' G'' ρ'' e' p' q z => h v H' G'' ρ'' (e.trans e') (p.trans p') q z
  | ex k xs c => exact fun v H' G'' ρ'' e' p' q z => h v H' G'' ρ'' (e.trans e') (p.trans p') q z
  | bad => exact h
theorem Post.bind {f : α → Cs → R γ} {Q2 : ε → Hp → Prop} (h : Post rel2 T W σ G ρ (r.bind f) Q2) :
    Post rel T W σ G ρ r (fun v H1 => ∃ a c G1 ρ1, Ex G G1 ∧ ρ <+: ρ1 ∧ RelH T H1 c G1 ρ1 ∧ rel G1 ρ1 a v ∧ Post rel2 T W σ G1 ρ1 (f a c) Q2) := by
  cases r with
  | ok a c => exact fun v H' G' ρ' e p q z => ⟨a, c, G', ρ', e, p, q, z, Post.mono (r := f a c) h e p⟩
  | ex k xs c => exact h
  | bad => exact h
end
def tD (T : Tb) (W : WX) (m : M) : TE := fun σ H Q => ∃ δ c G ρ, RelS T G ρ σ δ ∧ RelH T H c G ρ ∧ Post (SRep T) T W σ G ρ (m δ c) Q
def tDT (T : Tb) (W : WX) (m : MT) : TT := fun σ H Q => ∃ δ c G ρ, RelS T G ρ σ δ ∧ RelH T H c G ρ ∧ Post relB T W σ G ρ (m δ c) Q
def tDA (T : Tb) (W : WX) (m : MA) : TA := fun σ H Q => ∃ δ c G ρ, RelS T G ρ σ δ ∧ RelH T H c G ρ ∧ Post (SReps T) T W σ G ρ (m δ c) Q

/-! ### readings weaker than others -/
theorem PE.imp {X : Cx} {e : Expr} {t t' : TE} (h : PE X e t) (k : ∀ σ H Q, t' σ H Q → t σ H Q) : PE X e t' := ⟨fun pins s σ H Q I q => h.run pins s σ H Q I (k σ H Q q)⟩
theorem PT.imp {X : Cx} {e : Expr} {t t' : TT} (h : PT X e t) (k : ∀ σ H Q, t' σ H Q → t σ H Q) : PT X e t' := ⟨fun pins s σ H Q I q => h.run pins s σ H Q I (k σ H Q q)⟩
theorem PW.imp {X : Cx} {e : Expr} {t t' : TT} (h : PW X e t) (k : ∀ σ H Q, t' σ H Q → t σ H Q) : PW X e t' := ⟨fun wh pins s σ H Q I q => h.run wh pins s σ H Q I (k σ H Q q)⟩
theorem PA.imp {X : Cx} {e : List Expr} {t t' : TA} (h : PA X e t) (k : ∀ σ H Q, t' σ H Q → t σ H Q) : PA X e t' := ⟨fun pos pins s σ H Q I q => h.run pos pins s σ H Q I (k σ H Q q)⟩
theorem PS.imp {X : Cx} {e : Stmt} {t t' : TS} (h : PS X e t) (k : ∀ D σ H, t' D σ H → t D σ H) : PS X e t' := ⟨fun pins s σ H D I q => h.run pins s σ H D I (k D σ H q)⟩
theorem PSs.imp {X : Cx} {e : List Stmt} {t t' : TS} (h : PSs X e t) (k : ∀ D σ H, t' D σ H → t D σ H) : PSs X e t' := ⟨fun pins s σ H D I q => h.run pins s σ H D I (k D σ H q)⟩

/-! ### expressions -/
section
variable {X : Cx} {T : Tb} {W : WX} {a b : Expr} {A B : M} {pos : Pos}
def mVar (i : Nat) : M := fun δ c => match δ[i]? with
  | some (some s) => .ok s c
  | _ => .bad
def mC (x : D) : M := fun _ c => .ok (.d x) c
theorem dn_var {i : Nat} {x : Str} (hN : X.N[i]? = some x) (hv : Vis X.env.scope x) (hd : (x == ("__debug__" : Str)) = false := by decide) (hcd : (x == ("__classdict__" : Str)) = false := by decide) : PE X (.Name x pos) (tD T W (mVar i)) := by
  refine PE.imp (pe_var hN hv hd hcd) fun σ H Q ⟨δ, c, G, ρ, hs, hh, p⟩ => ?_
  unfold mVar at p
  cases e : δ[i]? with
  | none => simp only [e] at p; exact p.elim
  | some o =>
    cases o with
    | none => simp only [e] at p; exact p.elim
    | some s =>
      simp only [e] at p
      obtain ⟨v, hv, r⟩ := hs.at_ i s e
      exact ⟨v, hv, p v H G ρ (.refl _) (List.prefix_refl _) hh r⟩
theorem tD_c {d : D} {v : V} (hr : ∀ G, Rep T G d v) {σ : St} {H : Hp} {Q : VK} (h : tD T W (mC d) σ H Q) : tC v σ H Q := by
  obtain ⟨δ, c, G, ρ, hs, hh, p⟩ := h
  exact p v H G ρ (.refl _) (List.prefix_refl _) hh (hr G)
theorem dn_int {i j} : PE X (.Constant (.int i) j pos) (tD T W (mC (.int i))) := PE.imp pe_int fun _ _ _ h => tD_c (fun _ => Rep.int) h
theorem dn_str {x j} : PE X (.Constant (.str x) j pos) (tD T W (mC (.str x))) := PE.imp pe_str fun _ _ _ h => tD_c (fun _ => Rep.str) h
theorem dn_bl {x j} : PE X (.Constant (.bool x) j pos) (tD T W (mC (.bl x))) := PE.imp pe_bl fun _ _ _ h => tD_c (fun _ => Rep.bl) h
theorem dn_non {j} : PE X (.Constant .none j pos) (tD T W (mC .non)) := PE.imp pe_non fun _ _ _ h => tD_c (fun _ => Rep.non) h
theorem dn_glob {x : Str} {d : D} {v : V} {u : Value} (hg : Gl X x) (hm : X.mg x = some u) (r : RelV v u) (hr : ∀ G, Rep T G d v) (hd : (x == ("__debug__" : Str)) = false := by decide) : PE X (.Name x pos) (tD T W (mC d)) :=
  PE.imp (pe_glob hg hm r hd) fun _ _ _ h => tD_c hr h

/-- two operands, then f -/
def mBin (f : S → S → Cs → R S) (A B : M) : M := fun δ c => (A δ c).bind fun x c => (B δ c).bind fun y c => f x y c
def mUn (f : S → Cs → R S) (A : M) : M := fun δ c => (A δ c).bind fun x c => f x c
def Prim2 (T : Tb) (f : S → S → Cs → R S) (r : R2) : Prop := ∀ (W : WX) (σ : St) (G : Hp) (ρ : List Addr) (H : Hp) (c : Cs) (x y : S) (v u : V) (Q : VK), RelH T H c G ρ → SRep T G ρ x v → SRep T G ρ y u → Post (SRep T) T W σ G ρ (f x y c) Q → r v u H Q
def Prim1 (T : Tb) (f : S → Cs → R S) (r : V → Hp → VK → Prop) : Prop := ∀ (W : WX) (σ : St) (G : Hp) (ρ : List Addr) (H : Hp) (c : Cs) (x : S) (v : V) (Q : VK), RelH T H c G ρ → SRep T G ρ x v → Post (SRep T) T W σ G ρ (f x c) Q → r v H Q
theorem tD_bin {f : S → S → Cs → R S} {r : R2} (hp : Prim2 T f r) {σ : St} {H : Hp} {Q : VK} (h : tD T W (mBin f A B) σ H Q) : tOp r (tD T W A) (tD T W B) σ H Q := by
  obtain ⟨δ, c, G, ρ, hs, hh, p⟩ := h
  refine ⟨δ, c, G, ρ, hs, hh, (Post.bind (rel := SRep T) p).imp ?_⟩
  rintro v H1 ⟨x, c1, G1, ρ1, e1, p1, h1, r1, q1⟩
  refine ⟨δ, c1, G1, ρ1, hs.mono e1 p1, h1, (Post.bind (rel := SRep T) q1).imp ?_⟩
  rintro u H2 ⟨y, c2, G2, ρ2, e2, p2, h2, r2, q2⟩
  exact hp W σ G2 ρ2 H2 c2 x y v u Q h2 (r1.mono e2 p2) r2 q2
theorem tD_un {f : S → Cs → R S} {r : V → Hp → VK → Prop} (hp : Prim1 T f r) {σ : St} {H : Hp} {Q : VK} (h : tD T W (mUn f A) σ H Q) : tUn r (tD T W A) σ H Q := by
  obtain ⟨δ, c, G, ρ, hs, hh, p⟩ := h
  refine ⟨δ, c, G, ρ, hs, hh, (Post.bind (rel := SRep T) p).imp ?_⟩
  rintro v H1 ⟨x, c1, G1, ρ1, e1, p1, h1, r1, q1⟩
  exact hp W σ G1 ρ1 H1 c1 x v Q h1 r1 q1
theorem dn_op {op : Operator} {r : R2} {f : S → S → Cs → R S} (ho : OpR X (binaryOp op) r) (hp : Prim2 T f r) (ha : PE X a (tD T W A)) (hb : PE X b (tD T W B)) : PE X (.BinOp a op b pos) (tD T W (mBin f A B)) :=
  PE.imp (pe_op ho ha hb) fun _ _ _ h => tD_bin hp h
theorem dn_cmp {op : CmpOp} {r : R2} {f : S → S → Cs → R S} (ho : OpR X (compareOp op) r) (hp : Prim2 T f r) (ha : PE X a (tD T W A)) (hb : PE X b (tD T W B)) (hm : behindInMarks op b = false) : PE X (.Compare a [op] [b] pos) (tD T W (mBin f A B)) :=
  PE.imp (pe_cmpR ho ha hb hm) fun _ _ _ h => tD_bin hp h
theorem dn_un {op : UnaryOp} {r : V → Hp → VK → Prop} {f : S → Cs → R S} (ho : UnR X (unaryOp op) r) (hp : Prim1 T f r) (ha : PE X a (tD T W A)) : PE X (.UnaryOp op a pos) (tD T W (mUn f A)) :=
  PE.imp (pe_un ho ha) fun _ _ _ h => tD_un hp h

/-- pure functions on data -/
def lift2 (g : D → D → Option D) : S → S → Cs → R S := fun x y c => match deref x c, deref y c with
  | some dx, some dy => match g dx dy with
    | some d => .ok (.d d) c
    | none => .bad
  | _, _ => .bad
def lift1 (g : D → Option D) : S → Cs → R S := fun x c => match deref x c with
  | some dx => match g dx with
    | some d => .ok (.d d) c
    | none => .bad
  | none => .bad
def liftN (g : List D → Option D) : List S → Cs → R S := fun x c => match derefs x c with
  | some dx => match g dx with
    | some d => .ok (.d d) c
    | none => .bad
  | none => .bad
def Fresh2 (T : Tb) (g : D → D → Option D) (r : R2) : Prop := ∀ (G H : Hp) (x y d : D) (v u : V) (Q : VK), Ex G H → View T G H x v → View T G H y u → g x y = some d → (∀ v' H' G', Step G H G' H' → Rep T G' d v' → Q v' H') → r v u H Q
def Fresh1 (T : Tb) (g : D → Option D) (r : V → Hp → VK → Prop) : Prop := ∀ (G H : Hp) (x d : D) (v : V) (Q : VK), Ex G H → View T G H x v → g x = some d → (∀ v' H' G', Step G H G' H' → Rep T G' d v' → Q v' H') → r v H Q
def FreshN (T : Tb) (g : List D → Option D) (r : List V → Hp → VK → Prop) : Prop := ∀ (G H : Hp) (x : List D) (d : D) (v : List V) (Q : VK), Ex G H → Views T G H x v → g x = some d → (∀ v' H' G', Step G H G' H' → Rep T G' d v' → Q v' H') → r v H Q
theorem prim2 {g : D → D → Option D} {r : R2} (h : Fresh2 T g r) : Prim2 T (lift2 g) r := by
  intro W σ G ρ H c x y v u Q hh rx ry p
  unfold lift2 at p
  cases e1 : deref x c with
  | none => simp only [e1] at p; exact p.elim
  | some dx =>
    cases e2 : deref y c with
    | none => simp only [e1, e2] at p; exact p.elim
    | some dy =>
      simp only [e1, e2] at p
      cases e3 : g dx dy with
      | none => simp only [e3] at p; exact p.elim
      | some d =>
        simp only [e3] at p
        exact h G H dx dy d v u Q hh.ex (deref_view hh rx e1) (deref_view hh ry e2) e3 fun v' H' G' st r' => p v' H' G' ρ st.g (List.prefix_refl _) (hh.step st) r'
theorem prim1 {g : D → Option D} {r : V → Hp → VK → Prop} (h : Fresh1 T g r) : Prim1 T (lift1 g) r := by
  intro W σ G ρ H c x v Q hh rx p
  unfold lift1 at p
  cases e1 : deref x c with
  | none => simp only [e1] at p; exact p.elim
  | some dx =>
    simp only [e1] at p
    cases e3 : g dx with
    | none => simp only [e3] at p; exact p.elim
    | some d =>
      simp only [e3] at p
      exact h G H dx d v Q hh.ex (deref_view hh rx e1) e3 fun v' H' G' st r' => p v' H' G' ρ st.g (List.prefix_refl _) (hh.step st) r'

/-! ### arguments -/
def mNil : MA := fun _ c => .ok [] c
def mCons (A : M) (B : MA) : MA := fun δ c => (A δ c).bind fun x c => (B δ c).bind fun xs c => .ok (x :: xs) c
theorem da_nil : PA X [] (tDA T W mNil) := PA.imp pa_nil fun σ H Q ⟨δ, c, G, ρ, hs, hh, p⟩ => p [] H G ρ (.refl _) (List.prefix_refl _) hh .nil
theorem da_cons {e : Expr} {es : List Expr} {A : M} {B : MA} (ha : PE X e (tD T W A)) (hb : PA X es (tDA T W B)) (hs : starEach (e :: es) X.env = (false, eval e X.env) :: starEach es X.env := by rfl) : PA X (e :: es) (tDA T W (mCons A B)) := by
  refine PA.imp (pa_cons ha hb hs) fun σ H Q ⟨δ, c, G, ρ, hs, hh, p⟩ => ?_
  refine ⟨δ, c, G, ρ, hs, hh, (Post.bind (rel := SRep T) p).imp ?_⟩
  rintro v H1 ⟨x, c1, G1, ρ1, e1, p1, h1, r1, q1⟩
  refine ⟨δ, c1, G1, ρ1, hs.mono e1 p1, h1, (Post.bind (rel := SReps T) q1).imp ?_⟩
  rintro u H2 ⟨y, c2, G2, ρ2, e2, p2, h2, r2, q2⟩
  exact q2 (v :: u) H2 G2 ρ2 (.refl _) (List.prefix_refl _) h2 (.cons (r1.mono e2 p2) r2)
/-- a call of a built-in -/
def mBlt (f : List S → Cs → R S) (A : MA) : M := fun δ c => (A δ c).bind fun xs c => f xs c
def PrimN (T : Tb) (f : List S → Cs → R S) (r : List V → Hp → VK → Prop) : Prop := ∀ (W : WX) (σ : St) (G : Hp) (ρ : List Addr) (H : Hp) (c : Cs) (x : List S) (v : List V) (Q : VK), RelH T H c G ρ → SReps T G ρ x v → Post (SRep T) T W σ G ρ (f x c) Q → r v H Q
theorem primN {g : List D → Option D} {r : List V → Hp → VK → Prop} (h : FreshN T g r) : PrimN T (liftN g) r := by
  intro W σ G ρ H c x v Q hh rx p
  unfold liftN at p
  cases e1 : derefs x c with
  | none => simp only [e1] at p; exact p.elim
  | some dx =>
    simp only [e1] at p
    cases e3 : g dx with
    | none => simp only [e3] at p; exact p.elim
    | some d =>
      simp only [e3] at p
      exact h G H dx d v Q hh.ex (derefs_views hh rx e1) e3 fun v' H' G' st r' => p v' H' G' ρ st.g (List.prefix_refl _) (hh.step st) r'
theorem tD_blt {f : List S → Cs → R S} {r : List V → Hp → VK → Prop} {B : MA} (hp : PrimN T f r) {σ : St} {H : Hp} {Q : VK} (h : tD T W (mBlt f B) σ H Q) : tCB r (tDA T W B) σ H Q := by
  obtain ⟨δ, c, G, ρ, hs, hh, p⟩ := h
  refine ⟨δ, c, G, ρ, hs, hh, (Post.bind (rel := SReps T) p).imp ?_⟩
  rintro v H1 ⟨x, c1, G1, ρ1, e1, p1, h1, r1, q1⟩
  exact hp W σ G1 ρ1 H1 c1 x v Q h1 r1 q1
theorem dn_callB {id : String} {x : Str} {p : Pos} {e : Expr} {es : List Expr} {f : List S → Cs → R S} {r : List V → Hp → VK → Prop} {B : MA} (hc : CallR X (.builtin id) r) (hp : PrimN T f r) (hg : Gl X x) (hm : X.mg x = none) (hv : bootBuiltins x = some (.builtin id)) (ha : PA X (e :: es) (tDA T W B)) (hn : x ≠ "__name__" := by decide) (hdb : (x == ("__debug__" : Str)) = false := by decide)
    (he : starEach (e :: es) X.env = (false, eval e X.env) :: starEach es X.env := by rfl) (hpl : (backTo pos (starEach es X.env)).any (·.1) = false := by rfl) : PE X (.Call (.Name x p) (e :: es) [] pos) (tD T W (mBlt f B)) :=
  PE.imp (pe_callB hc hg hm hv ha hn hdb he hpl) fun _ _ _ h => tD_blt hp h
theorem dn_callTy {id : String} {x : Str} {p : Pos} {e : Expr} {es : List Expr} {f : List S → Cs → R S} {r : List V → Hp → VK → Prop} {B : MA} (hc : CallR X (.type id) r) (hp : PrimN T f r) (hg : Gl X x) (hm : X.mg x = none) (hv : bootBuiltins x = some (.type id)) (ha : PA X (e :: es) (tDA T W B)) (hn : x ≠ "__name__" := by decide) (hdb : (x == ("__debug__" : Str)) = false := by decide)
    (he : starEach (e :: es) X.env = (false, eval e X.env) :: starEach es X.env := by rfl) (hpl : (backTo pos (starEach es X.env)).any (·.1) = false := by rfl) : PE X (.Call (.Name x p) (e :: es) [] pos) (tD T W (mBlt f B)) :=
  PE.imp (pe_callTy hc hg hm hv ha hn hdb he hpl) fun _ _ _ h => tD_blt hp h
end
end Dn

end
section
/-! Dn2: tests, statements, loops. -/
namespace Dn
open PySem L2

section
variable {X : Cx} {T : Tb} {W : WX} {a b : Expr} {A B : M} {pos : Pos}
/-! ### tests -/
def asB : S → Cs → R Bool
  | .d (.bl b), c => .ok b c
  | _, _ => .bad
def mTB (A : M) : MT := fun δ c => (A δ c).bind asB
theorem asB_inv {W : WX} {σ : St} {G H : Hp} {ρ : List Addr} {c : Cs} {Q : Bool → Hp → Prop} {s : S} {v : V} (hh : RelH T H c G ρ) (r : SRep T G ρ s v) (p : Post relB T W σ G ρ (asB s c) Q) : ∃ k, v = .bl k ∧ Q k H := by
  cases s with
  | c n => exact p.elim
  | x _ _ => exact p.elim
  | d x =>
    cases x with
    | bl k => exact ⟨k, SRep.bl_inv r, p k H G ρ (.refl _) (List.prefix_refl _) hh rfl⟩
    | _ => exact p.elim
theorem tDT_B {σ : St} {H : Hp} {Q : Bool → Hp → Prop} (h : tDT T W (mTB A) σ H Q) : tB (tD T W A) σ H Q := by
  obtain ⟨δ, c, G, ρ, hs, hh, p⟩ := h
  refine ⟨δ, c, G, ρ, hs, hh, (Post.bind (rel := SRep T) p).imp ?_⟩
  rintro v H1 ⟨s, c1, G1, ρ1, e1, p1, h1, r1, q1⟩
  exact asB_inv h1 r1 q1
theorem dt_val {e : Expr} (h : PE X e (tD T W A)) (he : ∀ whole, isTrue e X.env whole = (do let v ← whole; standAt e.pos; holding [v] (truthy v)) := by intro _; rfl) : PT X e (tDT T W (mTB A)) :=
  PT.imp (pt_val h he) fun _ _ _ h => tDT_B h
theorem dt_cmp {op : CmpOp} {r : R2} {f : S → S → Cs → R S} (ho : OpR X (compareOp op) r) (hp : Prim2 T f r) (ha : PE X a (tD T W A)) (hb : PE X b (tD T W B)) (hm : behindInMarks op b = false) : PT X (.Compare a [op] [b] pos) (tDT T W (mTB (mBin f A B))) := by
  refine PT.imp (pt_cmpR ho ha hb hm) fun σ H Q h => ?_
  have h2 := tDT_B h
  exact tD_bin hp h2
/-- the chain a op b op' c -/
def mChain (f g : S → S → Cs → R S) (A B C : M) : M := fun δ c => (A δ c).bind fun x c => (B δ c).bind fun y c => (f x y c).bind fun z c => (asB z c).bind fun k c => if k = true then (C δ c).bind fun w c => g y w c else .ok (.d (.bl false)) c
variable {C : M} {c : Expr}
def mAnd (A B : M) : M := fun δ c => (A δ c).bind fun x c => (asB x c).bind fun k c => if k = true then B δ c else .ok (.d (.bl false)) c
def mOr (A B : M) : M := fun δ c => (A δ c).bind fun x c => (asB x c).bind fun k c => if k = true then .ok (.d (.bl true)) c else B δ c
def mNot (A : M) : M := fun δ c => (A δ c).bind fun x c => (asB x c).bind fun k c => .ok (.d (.bl (!k))) c
def mtAnd (A B : MT) : MT := fun δ c => (A δ c).bind fun k c => if k = true then B δ c else .ok false c
def mtOr (A B : MT) : MT := fun δ c => (A δ c).bind fun k c => if k = true then .ok true c else B δ c
def mtNot (A : MT) : MT := fun δ c => (A δ c).bind fun k c => .ok (!k) c
def mIf (C : MT) (A B : M) : M := fun δ c => (C δ c).bind fun k c => if k = true then A δ c else B δ c
theorem bl_of {W : WX} {σ : St} {G H : Hp} {ρ : List Addr} {c : Cs} {γ ε : Type} {rel2 : Hp → List Addr → γ → ε → Prop} {f : Bool → Cs → R γ} {Q : ε → Hp → Prop} {s : S} {v : V} (hh : RelH T H c G ρ) (r : SRep T G ρ s v) (p : Post rel2 T W σ G ρ ((asB s c).bind f) Q) :
    ∃ k, v = .bl k ∧ Post rel2 T W σ G ρ (f k c) Q := by
  cases s with
  | c n => exact p.elim
  | x _ _ => exact p.elim
  | d x =>
    cases x with
    | bl k => exact ⟨k, SRep.bl_inv r, p⟩
    | _ => exact p.elim
theorem dn_one {op} (h : PE X a (tD T W A)) : PE X (.BoolOp op [a] pos) (tD T W A) := pe_one h
theorem dn_and {rest : List Expr} (ha : PE X a (tD T W A)) (hb : PE X (.BoolOp .And (b :: rest) pos) (tD T W B)) : PE X (.BoolOp .And (a :: b :: rest) pos) (tD T W (mAnd A B)) := by
  refine PE.imp (pe_and ha hb) fun σ H Q ⟨δ, c, G, ρ, hs, hh, p⟩ => ?_
  refine ⟨δ, c, G, ρ, hs, hh, (Post.bind (rel := SRep T) p).imp ?_⟩
  rintro v H1 ⟨s, c1, G1, ρ1, e1, p1, h1, r1, q1⟩
  obtain ⟨k, rfl, q⟩ := bl_of h1 r1 q1
  refine ⟨k, rfl, ?_⟩
  cases k with
  | true => exact ⟨δ, c1, G1, ρ1, hs.mono e1 p1, h1, q⟩
  | false => exact q _ H1 G1 ρ1 (.refl _) (List.prefix_refl _) h1 SRep.bl
theorem dn_or {rest : List Expr} (ha : PE X a (tD T W A)) (hb : PE X (.BoolOp .Or (b :: rest) pos) (tD T W B)) : PE X (.BoolOp .Or (a :: b :: rest) pos) (tD T W (mOr A B)) := by
  refine PE.imp (pe_or ha hb) fun σ H Q ⟨δ, c, G, ρ, hs, hh, p⟩ => ?_
  refine ⟨δ, c, G, ρ, hs, hh, (Post.bind (rel := SRep T) p).imp ?_⟩
  rintro v H1 ⟨s, c1, G1, ρ1, e1, p1, h1, r1, q1⟩
  obtain ⟨k, rfl, q⟩ := bl_of h1 r1 q1
  refine ⟨k, rfl, ?_⟩
  cases k with
  | false => exact ⟨δ, c1, G1, ρ1, hs.mono e1 p1, h1, q⟩
  | true => exact q _ H1 G1 ρ1 (.refl _) (List.prefix_refl _) h1 SRep.bl
theorem dn_not (ha : PE X a (tD T W A)) : PE X (.UnaryOp .Not a pos) (tD T W (mNot A)) := by
  refine PE.imp (pe_not ha) fun σ H Q ⟨δ, c, G, ρ, hs, hh, p⟩ => ?_
  refine ⟨δ, c, G, ρ, hs, hh, (Post.bind (rel := SRep T) p).imp ?_⟩
  rintro v H1 ⟨s, c1, G1, ρ1, e1, p1, h1, r1, q1⟩
  obtain ⟨k, rfl, q⟩ := bl_of h1 r1 q1
  exact ⟨k, rfl, q _ H1 G1 ρ1 (.refl _) (List.prefix_refl _) h1 SRep.bl⟩
section
variable {tA tBB : MT}
theorem dw_and1 (ha : PT X a (tDT T W tA)) : PW X (.BoolOp .And [a] pos) (tDT T W tA) := pw_and1 ha
theorem dw_or1 (ha : PT X a (tDT T W tA)) : PW X (.BoolOp .Or [a] pos) (tDT T W tA) := pw_or1 ha
theorem dw_and {rest : List Expr} (ha : PT X a (tDT T W tA)) (hb : PW X (.BoolOp .And (b :: rest) pos) (tDT T W tBB)) : PW X (.BoolOp .And (a :: b :: rest) pos) (tDT T W (mtAnd tA tBB)) := by
  refine PW.imp (pw_and ha hb) fun σ H Q ⟨δ, c, G, ρ, hs, hh, p⟩ => ?_
  refine ⟨δ, c, G, ρ, hs, hh, (Post.bind (rel := relB) p).imp ?_⟩
  rintro v H1 ⟨k, c1, G1, ρ1, e1, p1, h1, r1, q1⟩
  have r1 : v = k := r1
  subst r1
  cases v with
  | true => exact ⟨δ, c1, G1, ρ1, hs.mono e1 p1, h1, q1⟩
  | false => exact q1 _ H1 G1 ρ1 (.refl _) (List.prefix_refl _) h1 rfl
theorem dw_or {rest : List Expr} (ha : PT X a (tDT T W tA)) (hb : PW X (.BoolOp .Or (b :: rest) pos) (tDT T W tBB)) : PW X (.BoolOp .Or (a :: b :: rest) pos) (tDT T W (mtOr tA tBB)) := by
  refine PW.imp (pw_or ha hb) fun σ H Q ⟨δ, c, G, ρ, hs, hh, p⟩ => ?_
  refine ⟨δ, c, G, ρ, hs, hh, (Post.bind (rel := relB) p).imp ?_⟩
  rintro v H1 ⟨k, c1, G1, ρ1, e1, p1, h1, r1, q1⟩
  have r1 : v = k := r1
  subst r1
  cases v with
  | false => exact ⟨δ, c1, G1, ρ1, hs.mono e1 p1, h1, q1⟩
  | true => exact q1 _ H1 G1 ρ1 (.refl _) (List.prefix_refl _) h1 rfl
theorem dt_not (ha : PT X a (tDT T W tA)) : PT X (.UnaryOp .Not a pos) (tDT T W (mtNot tA)) := by
  refine PT.imp (pt_not ha) fun σ H Q ⟨δ, c, G, ρ, hs, hh, p⟩ => ?_
  refine ⟨δ, c, G, ρ, hs, hh, (Post.bind (rel := relB) p).imp ?_⟩
  rintro v H1 ⟨k, c1, G1, ρ1, e1, p1, h1, r1, q1⟩
  have r1 : v = k := r1
  subst r1
  exact q1 _ H1 G1 ρ1 (.refl _) (List.prefix_refl _) h1 rfl
theorem dn_if {c : Expr} (hc : PT X c (tDT T W tA)) (ha : PE X a (tD T W A)) (hb : PE X b (tD T W B)) : PE X (.IfExp c a b pos) (tD T W (mIf tA A B)) := by
  refine PE.imp (pe_ifExp hc ha hb) fun σ H Q ⟨δ, c, G, ρ, hs, hh, p⟩ => ?_
  refine ⟨δ, c, G, ρ, hs, hh, (Post.bind (rel := relB) p).imp ?_⟩
  rintro v H1 ⟨k, c1, G1, ρ1, e1, p1, h1, r1, q1⟩
  have r1 : v = k := r1
  subst r1
  cases v with
  | true => exact ⟨δ, c1, G1, ρ1, hs.mono e1 p1, h1, q1⟩
  | false => exact ⟨δ, c1, G1, ρ1, hs.mono e1 p1, h1, q1⟩
end
theorem tD_chain {f g : S → S → Cs → R S} {r r' : R2} (hp : Prim2 T f r) (hp' : Prim2 T g r') {σ : St} {H : Hp} {Q : VK} (h : tD T W (mChain f g A B C) σ H Q) : tChain r r' (tD T W A) (tD T W B) (tD T W C) σ H Q := by
  obtain ⟨δ, c, G, ρ, hs, hh, p⟩ := h
  refine ⟨δ, c, G, ρ, hs, hh, (Post.bind (rel := SRep T) p).imp ?_⟩
  rintro v H1 ⟨x, c1, G1, ρ1, e1, p1, h1, r1, q1⟩
  refine ⟨δ, c1, G1, ρ1, hs.mono e1 p1, h1, (Post.bind (rel := SRep T) q1).imp ?_⟩
  rintro u H2 ⟨y, c2, G2, ρ2, e2, p2, h2, r2, q2⟩
  refine hp W σ G2 ρ2 H2 c2 x y v u _ h2 (r1.mono e2 p2) r2 ((Post.bind (rel := SRep T) q2).imp ?_)
  rintro z H3 ⟨w, c3, G3, ρ3, e3, p3, h3, r3, q3⟩
  obtain ⟨k, rfl, q⟩ := bl_of h3 r3 q3
  refine ⟨k, rfl, ?_⟩
  cases k with
  | false => exact q _ H3 G3 ρ3 (.refl _) (List.prefix_refl _) h3 SRep.bl
  | true =>
    refine ⟨δ, c3, G3, ρ3, ((hs.mono e1 p1).mono e2 p2).mono e3 p3, h3, (Post.bind (rel := SRep T) q).imp ?_⟩
    rintro t H4 ⟨w', c4, G4, ρ4, e4, p4, h4, r4, q4⟩
    exact hp' W σ G4 ρ4 H4 c4 y w' u t _ h4 ((r2.mono e3 p3).mono e4 p4) r4 q4
theorem dn_chain {op op' : CmpOp} {r r' : R2} {f g : S → S → Cs → R S} (ho : OpR X (compareOp op) r) (ho' : OpR X (compareOp op') r') (hp : Prim2 T f r) (hp' : Prim2 T g r') (ha : PE X a (tD T W A)) (hb : PE X b (tD T W B)) (hc : PE X c (tD T W C))
    (h : ∀ {ta tb tc : TE}, PE X a ta → PE X b tb → PE X c tc → PE X (.Compare a [op, op'] [b, c] pos) (tChain r r' ta tb tc)) : PE X (.Compare a [op, op'] [b, c] pos) (tD T W (mChain f g A B C)) :=
  PE.imp (h ha hb hc) fun _ _ _ h => tD_chain hp hp' h
end

/-! ### statements -/
def PostS (T : Tb) (W : WX) (G : Hp) (ρ : List Addr) (r : RS) (E : Ends) : Prop :=
  match r with
  | .nx δ c => ∀ σ' H' G' ρ', Ex G G' → ρ <+: ρ' → RelS T G' ρ' σ' δ → RelH T H' c G' ρ' → E.nx σ' H'
  | .bk δ c => ∀ σ' H' G' ρ', Ex G G' → ρ <+: ρ' → RelS T G' ρ' σ' δ → RelH T H' c G' ρ' → E.bk σ' H'
  | .ct δ c => ∀ σ' H' G' ρ', Ex G G' → ρ <+: ρ' → RelS T G' ρ' σ' δ → RelH T H' c G' ρ' → E.ct σ' H'
  | .rt s c => ∀ v H' G' ρ', Ex G G' → ρ <+: ρ' → SRep T G' ρ' s v → RelH T H' c G' ρ' → E.rt v H'
  | .ex k xs δ c => ∀ d σ' H' G' ρ', Ex G G' → ρ <+: ρ' → RelS T G' ρ' σ' δ → RelH T H' c G' ρ' → XRep T G' k xs d → W (.ref (T.cl k)) d σ' H'
  | .bad => False
theorem PostS.mono {T : Tb} {W : WX} {G G' : Hp} {ρ ρ' : List Addr} {r : RS} {E : Ends} (h : PostS T W G ρ r E) (e : Ex G G') (p : ρ <+: ρ') : PostS T W G' ρ' r E := by
  cases r with
  | nx δ c => exact fun σ' H' G'' ρ'' e' p' => h σ' H' G'' ρ'' (e.trans e') (p.trans p')
  | bk δ c => exact fun σ' H' G'' ρ'' e' p' => h σ' H' G'' ρ'' (e.trans e') (p.trans p')
  | ct δ c => exact fun σ' H' G'' ρ'' e' p' => h σ' H' G'' ρ'' (e.trans e') (p.trans p')
  | rt s c => exact fun σ' H' G'' ρ'' e' p' => h σ' H' G'' ρ'' (e.trans e') (p.trans p')
  | ex k xs δ c => exact fun d σ' H' G'' ρ'' e' p' => h d σ' H' G'' ρ'' (e.trans e') (p.trans p')
  | bad => exact h
/-- an expression's result, then f; an error keeps the slots -/
def R.andS {α : Type} (δ : Sl) : R α → (α → Cs → RS) → RS
  | .ok a c, f => f a c
  | .ex k xs c, _ => .ex k xs δ c
  | .bad, _ => .bad
def tS (T : Tb) (W : WX) (m : MS) : TS := fun E σ H => ∃ δ c G ρ, RelS T G ρ σ δ ∧ RelH T H c G ρ ∧ PostS T W G ρ (m δ c) E
section
variable {X : Cx} {T : Tb} {W : WX} {a b : Expr} {A B : M} {pos : Pos} {st : Stmt} {rest : List Stmt} {m m' : MS}
theorem PostS.andS {α β : Type} {rel : Hp → List Addr → α → β → Prop} {G : Hp} {ρ : List Addr} {r : R α} {f : α → Cs → RS} {σ : St} {δ : Sl} {E : Ends} (hs : RelS T G ρ σ δ) (h : PostS T W G ρ (r.andS δ f) E) :
    Post rel T W σ G ρ r (fun v H1 => ∃ a c G1 ρ1, Ex G G1 ∧ ρ <+: ρ1 ∧ RelH T H1 c G1 ρ1 ∧ rel G1 ρ1 a v ∧ PostS T W G1 ρ1 (f a c) E) := by
  cases r with
  | ok a c => exact fun v H' G' ρ' e p q z => ⟨a, c, G', ρ', e, p, q, z, PostS.mono (r := f a c) h e p⟩
  | ex k xs c => exact fun d H' G' ρ' e p q z => h d σ H' G' ρ' e p (hs.mono e p) q z
  | bad => exact h
def sNil : MS := fun δ c => .nx δ c
def sSeq (m m' : MS) : MS := fun δ c => match m δ c with
  | .nx δ c => m' δ c
  | r => r
theorem ss_nil : PSs X [] (tS T W sNil) := PSs.imp pss_nil fun E σ H ⟨δ, c, G, ρ, hs, hh, p⟩ => p σ H G ρ (.refl _) (List.prefix_refl _) hs hh
theorem ss_cons (h1 : PS X st (tS T W m)) (h2 : PSs X rest (tS T W m')) : PSs X (st :: rest) (tS T W (sSeq m m')) := by
  refine PSs.imp (pss_cons h1 h2) fun E σ H ⟨δ, c, G, ρ, hs, hh, p⟩ => ?_
  refine ⟨δ, c, G, ρ, hs, hh, ?_⟩
  unfold sSeq at p
  cases e : m δ c with
  | nx δ1 c1 =>
    simp only [e] at p
    exact fun σ' H' G' ρ' e1 p1 s1 h1 => ⟨δ1, c1, G', ρ', s1, h1, p.mono e1 p1⟩
  | bk δ1 c1 => simp only [e] at p; exact p
  | ct δ1 c1 => simp only [e] at p; exact p
  | rt s1 c1 => simp only [e] at p; exact p
  | ex k xs δ1 c1 => simp only [e] at p; exact p
  | bad => simp only [e] at p; exact p
theorem ss_one (h1 : PS X st (tS T W m)) : PSs X [st] (tS T W m) := pss_one h1
theorem ds_pass : PS X (.Pass pos) (tS T W sNil) := PS.imp ps_pass fun E σ H ⟨δ, c, G, ρ, hs, hh, p⟩ => p σ H G ρ (.refl _) (List.prefix_refl _) hs hh
def sBreak : MS := fun δ c => .bk δ c
def sCont : MS := fun δ c => .ct δ c
theorem ds_break : PS X (.Break pos) (tS T W sBreak) := PS.imp ps_break fun E σ H ⟨δ, c, G, ρ, hs, hh, p⟩ => p σ H G ρ (.refl _) (List.prefix_refl _) hs hh
theorem ds_cont : PS X (.Continue pos) (tS T W sCont) := PS.imp ps_continue fun E σ H ⟨δ, c, G, ρ, hs, hh, p⟩ => p σ H G ρ (.refl _) (List.prefix_refl _) hs hh
def sExpr (A : M) : MS := fun δ c => (A δ c).andS δ fun _ c => .nx δ c
theorem ds_expr (he : PE X a (tD T W A)) (hs : swapsWith a none pos.line X.env = pure false := by rfl) : PS X (.Expr a pos) (tS T W (sExpr A)) := by
  refine PS.imp (ps_expr he hs) fun E σ H ⟨δ, c, G, ρ, hs, hh, p⟩ => ?_
  refine ⟨δ, c, G, ρ, hs, hh, (PostS.andS (rel := SRep T) hs p).imp ?_⟩
  rintro v H1 ⟨s, c1, G1, ρ1, e1, p1, h1, r1, q1⟩
  exact q1 σ H1 G1 ρ1 (.refl _) (List.prefix_refl _) (hs.mono e1 p1) h1
def sRet (A : M) : MS := fun δ c => (A δ c).andS δ fun s c => .rt s c
theorem ds_ret (he : PE X a (tD T W A)) : PS X (.Return (some a) pos) (tS T W (sRet A)) := by
  refine PS.imp (ps_ret he) fun E σ H ⟨δ, c, G, ρ, hs, hh, p⟩ => ?_
  refine ⟨δ, c, G, ρ, hs, hh, (PostS.andS (rel := SRep T) hs p).imp ?_⟩
  rintro v H1 ⟨s, c1, G1, ρ1, e1, p1, h1, r1, q1⟩
  exact q1 v H1 G1 ρ1 (.refl _) (List.prefix_refl _) r1 h1
def sRetN : MS := fun δ c => .rt (.d .non) c
theorem ds_retN : PS X (.Return none pos) (tS T W sRetN) := PS.imp ps_retN fun E σ H ⟨δ, c, G, ρ, hs, hh, p⟩ => p _ H G ρ (.refl _) (List.prefix_refl _) SRep.non hh
def sIf (C : MT) (m m' : MS) : MS := fun δ c => (C δ c).andS δ fun k c => if k = true then m δ c else m' δ c
theorem ds_if {c : Expr} {x y : List Stmt} {C : MT} (hc : PT X c (tDT T W C)) (ha : PSs X x (tS T W m)) (hb : PSs X y (tS T W m')) : PS X (.If c x y pos) (tS T W (sIf C m m')) := by
  refine PS.imp (ps_if hc ha hb) fun E σ H ⟨δ, c, G, ρ, hs, hh, p⟩ => ?_
  refine ⟨δ, c, G, ρ, hs, hh, (PostS.andS (rel := relB) hs p).imp ?_⟩
  rintro v H1 ⟨k, c1, G1, ρ1, e1, p1, h1, r1, q1⟩
  have r1 : v = k := r1
  subst r1
  cases v with
  | true => exact ⟨δ, c1, G1, ρ1, hs.mono e1 p1, h1, q1⟩
  | false => exact ⟨δ, c1, G1, ρ1, hs.mono e1 p1, h1, q1⟩
def sSet (i : Nat) (A : M) : MS := fun δ c => (A δ c).andS δ fun s c => .nx (δ.set i (some s)) c
theorem tS_set {i : Nat} {E : Ends} {σ : St} {H : Hp} (h : tS T W (sSet i A) E σ H) : tAsg (tD T W A) (gName i) E σ H := by
  obtain ⟨δ, c, G, ρ, hs, hh, p⟩ := h
  refine ⟨δ, c, G, ρ, hs, hh, (PostS.andS (rel := SRep T) hs p).imp ?_⟩
  rintro v H1 ⟨s, c1, G1, ρ1, e1, p1, h1, r1, q1⟩
  exact q1 _ H1 G1 ρ1 (.refl _) (List.prefix_refl _) ((hs.mono e1 p1).set i r1) h1
theorem ds_set {i : Nat} {x : Str} {pos' : Pos} (hN : X.N.Nodup) (hi : X.N[i]? = some x) (hx : Loc X.env.scope x) (he : PE X a (tD T W A)) (hs : swapsWith a (some (.Name x pos')) pos.line X.env = pure false := by rfl) (hf : X.fn x = true ∨ X.env.scope.names.lookup x = some .local := by first | exact .inl rfl | exact .inr rfl | assumption) :
    PS X (.Assign [.Name x pos'] a pos) (tS T W (sSet i A)) := PS.imp (ps_set hN hi hx he hs hf) fun _ _ _ h => tS_set h
/-- targets -/
abbrev GT := S → Cs → Sl → Option Sl
def tG (T : Tb) (g : GT) : TG := fun v σ H Q => ∃ s δ c G ρ δ', RelH T H c G ρ ∧ SRep T G ρ s v ∧ RelS T G ρ σ δ ∧ g s c δ = some δ' ∧ ∀ σ', RelS T G ρ σ' δ' → Q σ' H
theorem PG.imp {e : Expr} {t t' : TG} (h : PG X e t) (k : ∀ v σ H Q, t' v σ H Q → t v σ H Q) : PG X e t' := ⟨fun pins s σ H v u Q I r q => h.run pins s σ H v u Q I r (k v σ H Q q)⟩
def gtName (i : Nat) : GT := fun s _ δ => some (δ.set i (some s))
theorem tG_name {i : Nat} {v : V} {σ : St} {H : Hp} {Q : St → Hp → Prop} (h : tG T (gtName i) v σ H Q) : gName i v σ H Q := by
  obtain ⟨s, δ, c, G, ρ, δ', e, r, hs, hd, q⟩ := h
  cases hd
  exact q _ (hs.set i r)
theorem dg_name {i : Nat} {x : Str} (hN : X.N.Nodup) (hi : X.N[i]? = some x) (hx : Loc X.env.scope x) (hf : X.fn x = true ∨ X.env.scope.names.lookup x = some .local := by first | exact .inl rfl | exact .inr rfl | assumption) : PG X (.Name x pos) (tG T (gtName i)) :=
  PG.imp (pg_name hN hi hx hf) fun _ _ _ _ h => tG_name h
/-- several -/
abbrev GTs := List S → Cs → Sl → Option Sl
def tGs (T : Tb) (g : GTs) : TGs := fun vs σ H Q => ∃ ss δ c G ρ δ', RelH T H c G ρ ∧ SReps T G ρ ss vs ∧ RelS T G ρ σ δ ∧ g ss c δ = some δ' ∧ ∀ σ', RelS T G ρ σ' δ' → Q σ' H
theorem PGs.imp {e : List Expr} {t t' : TGs} (h : PGs X e t) (k : ∀ v σ H Q, t' v σ H Q → t v σ H Q) : PGs X e t' := ⟨fun pins s σ H v u Q I r q => h.run pins s σ H v u Q I r (k v σ H Q q)⟩
def gtNil : GTs
  | [], _, δ => some δ
  | _ :: _, _, _ => none
def gtCons (g : GT) (gs : GTs) : GTs
  | [], _, _ => none
  | s :: ss, c, δ => match g s c δ with
    | some δ => gs ss c δ
    | none => none
theorem SReps.nil_inv {G : Hp} {ρ : List Addr} {vs : List V} (h : SReps T G ρ [] vs) : vs = [] := by cases h; rfl
theorem SReps.cons_inv {G : Hp} {ρ : List Addr} {s : S} {ss : List S} {vs : List V} (h : SReps T G ρ (s :: ss) vs) : ∃ v r, vs = v :: r ∧ SRep T G ρ s v ∧ SReps T G ρ ss r := by
  cases h with
  | cons a b => exact ⟨_, _, rfl, a, b⟩
theorem SReps.ofD {G : Hp} {ρ : List Addr} : ∀ {ds : List D} {vs : List V}, Reps T G ds vs → SReps T G ρ (ds.map S.d) vs
  | [], vs, h => by cases h.nil_inv; exact .nil
  | d :: ds, vs, h => by
    obtain ⟨v, r, rfl, a, b⟩ := h.cons_inv
    exact .cons a (SReps.ofD b)
theorem SReps.ofC {G : Hp} {ρ : List Addr} {ss : List S} {vs : List V} (r : CReps T G ρ ss vs) : SReps T G ρ ss vs := by
  induction r with
  | nil => exact .nil
  | cons a _ ih => exact .cons a.srep ih
theorem SReps.get {G : Hp} {ρ : List Addr} : ∀ {xs : List S} {vs : List V} {i : Nat} {s : S}, SReps T G ρ xs vs → xs[i]? = some s → ∃ v, vs[i]? = some v ∧ SRep T G ρ s v
  | [], _, _, _, _, e => by simp at e
  | d :: ds, _, 0, d', h, e => by
    obtain ⟨v, r, rfl, a, b⟩ := h.cons_inv
    simp at e; subst e
    exact ⟨v, rfl, a⟩
  | d :: ds, _, i + 1, d', h, e => by
    obtain ⟨v, r, rfl, a, b⟩ := h.cons_inv
    obtain ⟨z, h1, h2⟩ := SReps.get (i := i) b (by simpa using e)
    exact ⟨z, by simpa using h1, h2⟩
theorem dgs_nil : PGs X [] (tGs T gtNil) := PGs.imp pgs_nil fun v σ H Q ⟨ss, δ, c, G, ρ, δ', e, r, hs, hd, q⟩ => by
  cases ss with
  | nil => cases hd; exact ⟨r.nil_inv, q _ hs⟩
  | cons _ _ => cases hd
theorem dgs_cons {e : Expr} {es : List Expr} {g : GT} {gs : GTs} (h1 : PG X e (tG T g)) (h2 : PGs X es (tGs T gs))
    (hs : (assignEach (e :: es) X.env).map (·.2) = assign e X.env :: (assignEach es X.env).map (·.2) := by rfl) : PGs X (e :: es) (tGs T (gtCons g gs)) := by
  refine PGs.imp (pgs_cons h1 h2 hs) fun v σ H Q ⟨ss, δ, c, G, ρ, δ', e, r, hs, hd, q⟩ => ?_
  cases ss with
  | nil => cases hd
  | cons d ds =>
    obtain ⟨v0, vr, rfl, r0, rr⟩ := r.cons_inv
    unfold gtCons at hd
    cases h : g d c δ with
    | none => simp only [h] at hd; cases hd
    | some δ1 =>
      simp only [h] at hd
      exact ⟨v0, vr, rfl, d, δ, c, G, ρ, δ1, e, r0, hs, h, fun σ' s' => ⟨ds, δ1, c, G, ρ, δ', e, rr, s', hd, q⟩⟩
/-- a tuple's items -/
def tupOf (s : S) (c : Cs) : Option (List S) := match s with
  | .d (.tup ds) => some (ds.map S.d)
  | .c n => match c[n]? with
    | some (.tS ss) => some ss
    | _ => none
  | _ => none
theorem tupOf_rep {H : Hp} {c : Cs} {G : Hp} {ρ : List Addr} {s : S} {ss : List S} {v : V} (hh : RelH T H c G ρ) (r : SRep T G ρ s v) (h : tupOf s c = some ss) : ∃ p vs, v = .ref p ∧ H p = some (.tup vs) ∧ SReps T G ρ ss vs := by
  unfold tupOf at h
  cases s with
  | x _ _ => cases h
  | d d =>
    cases d with
    | tup ds =>
      cases h
      obtain ⟨p, vs, rfl, sq, l, rr⟩ := Rep.tup_inv (show Rep T G (.tup ds) v from r)
      exact ⟨p, vs, rfl, hh.ex _ _ sq, .ofD rr⟩
    | _ => cases h
  | c n =>
    obtain ⟨p, hp, rfl⟩ := r
    cases hc : c[n]? with
    | none => simp only [hc] at h; cases h
    | some cc =>
      cases cc with
      | tS xs =>
        simp only [hc] at h
        cases h
        obtain ⟨_, vs, a, b, cr⟩ := hh.at_ n p _ hp hc
        exact ⟨p, vs, rfl, a, (SReps.ofC cr).mono (.refl _) (List.take_prefix _ _)⟩
      | _ => simp only [hc] at h; cases h
def gtTup (gs : GTs) : GT := fun s c δ => match tupOf s c with
  | some ss => gs ss c δ
  | none => none
theorem gtlen : ∀ {gs : GTs} {n : Nat}, True := trivial
theorem dg_tup {es : List Expr} {k : Nat} {gs : GTs} {n : Nat} (hc : X.calm = true) (hT : X.K = T.K) (h : PGs X es (tGs T gs)) (hl : ∀ ds c δ δ', gs ds c δ = some δ' → ds.length = n)
    (hn : (assignEach es X.env).length = n := by rfl) (hst : (assignEach es X.env).findIdx? (·.1) = none := by rfl) : PG X (.Tuple es k pos) (tG T (gtTup gs)) := by
  refine PG.imp (pg_tup hc h hn hst) fun v σ H Q ⟨s, δ, c, G, ρ, δ', e, r, hs, hd, q⟩ => ?_
  unfold gtTup at hd
  cases ht : tupOf s c with
  | none => simp only [ht] at hd; cases hd
  | some ss =>
    simp only [ht] at hd
    obtain ⟨p, vs, rfl, hp, rr⟩ := tupOf_rep e r ht
    exact ⟨p, vs, rfl, SqT.of hp, by rw [rr.length]; exact hl ss c δ δ' hd, ss, δ, c, G, ρ, δ', e, rr, hs, hd, q⟩
theorem gtNil_len : ∀ ds c δ δ', gtNil ds c δ = some δ' → ds.length = 0 := fun ds c δ δ' h => by
  cases ds with
  | nil => rfl
  | cons _ _ => cases h
theorem gtCons_len {g : GT} {gs : GTs} {n : Nat} (k : ∀ ds c δ δ', gs ds c δ = some δ' → ds.length = n) : ∀ ds c δ δ', gtCons g gs ds c δ = some δ' → ds.length = n + 1 := fun ds c δ δ' h => by
  cases ds with
  | nil => cases h
  | cons d ds =>
    unfold gtCons at h
    cases e : g d c δ with
    | none => simp only [e] at h; cases h
    | some δ1 => simp only [e] at h; simp [k ds c δ1 δ' h]
/-- target = e -/
def sAsg (g : GT) (A : M) : MS := fun δ c => (A δ c).andS δ fun s c => match g s c δ with
  | some δ => .nx δ c
  | none => .bad
theorem ds_asg {tg : Expr} {g : GT} (he : PE X a (tD T W A)) (hg : PG X tg (tG T g)) (hs : swapsWithSole [tg] a pos.line X.env = pure false := by rfl) (hw : swappedStores [tg] a X.env = pure none := by rfl)
    (h1 : (assignEach [tg] X.env).map (·.2) = [assign tg X.env] := by rfl) : PS X (.Assign [tg] a pos) (tS T W (sAsg g A)) := by
  refine PS.imp (ps_asg he hg hs hw h1) fun E σ H ⟨δ, c, G, ρ, hs, hh, p⟩ => ?_
  refine ⟨δ, c, G, ρ, hs, hh, (PostS.andS (rel := SRep T) hs p).imp ?_⟩
  rintro v H1 ⟨s, c1, G1, ρ1, e1, p1, h1, r1, q1⟩
  cases h : g s c1 δ with
  | none => simp only [h] at q1; exact q1.elim
  | some δ1 =>
    simp only [h] at q1
    exact ⟨s, δ, c1, G1, ρ1, δ1, h1, r1, hs.mono e1 p1, h, fun σ' s' => q1 σ' H1 G1 ρ1 (.refl _) (List.prefix_refl _) s' h1⟩
/-- a, b = x, y -/
def sPar (i j : Nat) (B : MA) : MS := fun δ c => (B δ c).andS δ fun ss c => match ss with
  | [x, y] => .nx ((δ.set i (some x)).set j (some y)) c
  | _ => .bad
theorem ds_par {i j : Nat} {x y : Str} {B : MA} {px py pt : Pos} {kt k2 pt2} (hc : X.calm = true) (hN : X.N.Nodup) (hi : X.N[i]? = some x) (hj : X.N[j]? = some y) (hij : i ≠ j)
    (hx : X.env.scope.names.lookup x = some .local) (hy : X.env.scope.names.lookup y = some .local) (ha : PA X [a, b] (tDA T W B))
    (hw : swappedStores [.Tuple [.Name x px, .Name y py] kt pt] (.Tuple [a, b] k2 pt2) X.env = pure (some [x, y]))
    (hs : swapsWithSole [.Tuple [.Name x px, .Name y py] kt pt] (.Tuple [a, b] k2 pt2) pos.line X.env = pure false := by rfl) :
    PS X (.Assign [.Tuple [.Name x px, .Name y py] kt pt] (.Tuple [a, b] k2 pt2) pos) (tS T W (sPar i j B)) := by
  refine PS.imp (ps_par hc hN hi hj hij hx hy ha hw hs) fun E σ H ⟨δ, c, G, ρ, hs, hh, p⟩ => ?_
  refine ⟨δ, c, G, ρ, hs, hh, (PostS.andS (rel := SReps T) hs p).imp ?_⟩
  rintro v H1 ⟨ss, c1, G1, ρ1, e1, p1, h1, r1, q1⟩
  cases r1 with
  | nil => exact q1.elim
  | cons r1 r2 =>
    cases r2 with
    | nil => exact q1.elim
    | cons r2 r3 =>
      cases r3 with
      | cons _ _ => exact q1.elim
      | nil => exact ⟨_, _, rfl, q1 _ H1 G1 ρ1 (.refl _) (List.prefix_refl _) (((hs.mono e1 p1).set i r1).set j r2) h1⟩

/-! ### what is walked -/
structure Walk (T : Tb) (G : Hp) (ρ : List Addr) (xs : List S) (J : It) : Prop where
  go : ∀ i H, Ex G H → i < xs.length → J.go i H
  stop : ∀ i H, Ex G H → xs.length ≤ i → J.stop i H
  yld : ∀ i H G1 ρ1 x H', Ex G G1 → ρ <+: ρ1 → Ex G1 H → J.yld i H x H' → ∀ s, xs[i]? = some s → ∃ G2, Step G1 H G2 H' ∧ SRep T G2 ρ1 s x
/-- a walk: over these, or over a list that may still change -/
inductive Src where
  | xs (l : List S) | cell (n : Nat)
abbrev MI := Sl → Cs → R Src
abbrev relI (T : Tb) : Hp → List Addr → Src → It → Prop := fun G ρ s J => match s with
  | .xs l => Walk T G ρ l J ∧ l.length ≤ sizeLine
  | .cell n => ∃ q, ρ[n]? = some q ∧ J = Itl T.K q
def tI (T : Tb) (W : WX) (m : MI) : TI := fun σ H Q => ∃ δ c G ρ, RelS T G ρ σ δ ∧ RelH T H c G ρ ∧ Post (relI T) T W σ G ρ (m δ c) Q
theorem PI.imp {tg e : Expr} {t t' : TI} (h : PI X tg e t) (k : ∀ σ H Q, t' σ H Q → t σ H Q) : PI X tg e t' := ⟨fun pins s σ H Q I q => h.run pins s σ H Q I (k σ H Q q)⟩
def loop (g : GT) (B : MS) : List S → MS
  | [], δ, c => .nx δ c
  | d :: ds, δ, c => match g d c δ with
    | none => .bad
    | some δ => match B δ c with
      | .nx δ c => loop g B ds δ c
      | .ct δ c => loop g B ds δ c
      | .bk δ c => .nx δ c
      | r => r
/-- the items of a list that is a cell, as they are now -/
def cellL (n : Nat) (c : Cs) : Option (List S) := match c[n]? with
  | some (.lst xs) => some (xs.map S.d)
  | some (.lS xs) => some xs
  | _ => none
theorem cellL_rep {H : Hp} {c : Cs} {G : Hp} {ρ : List Addr} {n : Nat} {q : Addr} {ss : List S} (hh : RelH T H c G ρ) (hq : ρ[n]? = some q) (h : cellL n c = some ss) : ∃ vs, H q = some (.lst vs) ∧ ss.length ≤ sizeLine ∧ SReps T G ρ ss vs := by
  unfold cellL at h
  cases hc : c[n]? with
  | none => simp only [hc] at h; cases h
  | some cc =>
    cases cc with
    | lst xs =>
      simp only [hc] at h
      cases h
      obtain ⟨_, vs, a, b, cr⟩ := hh.at_ n q _ hq hc
      exact ⟨vs, a, by simpa using b, .ofD cr⟩
    | lS xs =>
      simp only [hc] at h
      cases h
      obtain ⟨_, vs, a, b, cr⟩ := hh.at_ n q _ hq hc
      exact ⟨vs, a, b, (SReps.ofC cr).mono (.refl _) (List.take_prefix _ _)⟩
    | _ => simp only [hc] at h; cases h
def loopC (n : Nat) (g : GT) (Bd : MS) : Nat → Nat → MS
  | 0, _, _, _ => .bad
  | f + 1, i, δ, c => match cellL n c with
    | some xs => match xs[i]? with
      | none => .nx δ c
      | some d => match g d c δ with
        | none => .bad
        | some δ => match Bd δ c with
          | .nx δ c => loopC n g Bd f (i + 1) δ c
          | .ct δ c => loopC n g Bd f (i + 1) δ c
          | .bk δ c => .nx δ c
          | r => r
    | none => .bad
def loopI (g : GT) (B : MS) (s : Src) : MS := fun δ c => match s with
  | .xs l => loop g B l δ c
  | .cell n => match cellL n c with
    | some xs => loopC n g B (xs.length + 1) 0 δ c
    | none => .bad
def sFor (I : MI) (g : GT) (B : MS) : MS := fun δ c => (I δ c).andS δ fun s c => loopI g B s δ c
theorem ds_for {tg iter : Expr} {body : List Stmt} {I : MI} {g : GT} (hp : PassesOwn (model X.prog X.w) X.A X.env X.xe) (hc : X.calm = true) (hi : PI X tg iter (tI T W I)) (hg : PG X tg (tG T g)) (hb : PSs X body (tS T W m))
    (hs : ∀ x, foldedSetIterable iter X.env x = pure x := by intro _; rfl) : PS X (.For tg iter body [] pos) (tS T W (sFor I g m)) := by
  refine PS.imp (ps_for hp hc hi hg hb hs) fun E σ H ⟨δ, c, G, ρ, hs, hh, p⟩ => ?_
  refine ⟨δ, c, G, ρ, hs, hh, (PostS.andS (rel := relI T) hs p).imp ?_⟩
  rintro J H1 ⟨src, c1, G1, ρ1, e1, p1, h1, rl, q1⟩
  cases src with
  | xs xs =>
    obtain ⟨wk, hlen⟩ := rl
    have q1 : PostS T W G1 ρ1 (loop g m xs δ c1) E := q1
    refine ⟨fun i n σ H => n = xs.length - i ∧ i ≤ xs.length ∧ ∃ δ c G2 ρ2, Ex G1 G2 ∧ ρ1 <+: ρ2 ∧ RelS T G2 ρ2 σ δ ∧ RelH T H c G2 ρ2 ∧ PostS T W G2 ρ2 (loop g m (xs.drop i) δ c) E,
      ⟨xs.length, by simp, Nat.zero_le _, δ, c1, G1, ρ1, .refl _, List.prefix_refl _, hs.mono e1 p1, h1, by simpa using q1⟩, ?_⟩
    rintro i n σ H ⟨rfl, hi, δ, c, G2, ρ2, e2, pr2, s2, h2, q2⟩
    by_cases hlt : i < xs.length
    · refine .inr ⟨wk.go i H (e2.trans h2.ex) hlt, fun σ' H' => i + 1 ≤ xs.length ∧ ∃ δ c G2 ρ2, Ex G1 G2 ∧ ρ1 <+: ρ2 ∧ RelS T G2 ρ2 σ' δ ∧ RelH T H' c G2 ρ2 ∧ PostS T W G2 ρ2 (loop g m (xs.drop (i + 1)) δ c) E,
        fun σ' H' ⟨z1, z2⟩ => ⟨xs.length - (i + 1), by omega, rfl, z1, z2⟩, fun x H' y => ?_⟩
      obtain ⟨G3, st, rx⟩ := wk.yld i H G2 ρ2 x H' e2 pr2 h2.ex y xs[i] (List.getElem?_eq_getElem hlt)
      rw [List.drop_eq_getElem_cons hlt] at q2
      unfold loop at q2
      cases hg : g xs[i] c δ with
      | none => simp only [hg] at q2; exact q2.elim
      | some δ1 =>
        simp only [hg] at q2
        refine ⟨xs[i], δ, c, G3, ρ2, δ1, h2.step st, rx, s2.mono st.g (List.prefix_refl _), hg, fun σ' s' => ?_⟩
        refine ⟨δ1, c, G3, ρ2, s', h2.step st, ?_⟩
        cases hm : m δ1 c with
        | nx δ3 c3 =>
          simp only [hm] at q2
          exact fun σ4 H4 G4 ρ4 e4 p4 s4 h4 => ⟨hlt, δ3, c3, G4, ρ4, (e2.trans st.g).trans e4, pr2.trans p4, s4, h4, q2.mono (st.g.trans e4) p4⟩
        | ct δ3 c3 =>
          simp only [hm] at q2
          exact fun σ4 H4 G4 ρ4 e4 p4 s4 h4 => ⟨hlt, δ3, c3, G4, ρ4, (e2.trans st.g).trans e4, pr2.trans p4, s4, h4, q2.mono (st.g.trans e4) p4⟩
        | bk δ3 c3 =>
          simp only [hm] at q2
          exact fun σ4 H4 G4 ρ4 e4 p4 s4 h4 => q2 σ4 H4 G4 ρ4 (st.g.trans e4) p4 s4 h4
        | rt s3 c3 => simp only [hm] at q2; exact q2.mono (E := E) st.g (List.prefix_refl _)
        | ex k ys δ3 c3 => simp only [hm] at q2; exact q2.mono (E := E) st.g (List.prefix_refl _)
        | bad => simp only [hm] at q2; exact q2
    · have e : i = xs.length := by omega
      subst e
      rw [List.drop_length] at q2
      exact .inl ⟨wk.stop _ H (e2.trans h2.ex) (Nat.le_refl _), q2 σ H G2 ρ2 (.refl _) (List.prefix_refl _) s2 h2⟩
  | cell n =>
    obtain ⟨q, hq, rfl⟩ := rl
    unfold loopI at q1
    cases hcc : cellL n c1 with
    | none => simp only [hcc] at q1; exact q1.elim
    | some xs0 =>
      simp only [hcc] at q1
      refine ⟨fun i m' σ H => ∃ δ c G2 ρ2, Ex G1 G2 ∧ ρ1 <+: ρ2 ∧ RelS T G2 ρ2 σ δ ∧ RelH T H c G2 ρ2 ∧ PostS T W G2 ρ2 (loopC n g m m' i δ c) E, ⟨xs0.length + 1, δ, c1, G1, ρ1, .refl _, List.prefix_refl _, hs.mono e1 p1, h1, q1⟩, ?_⟩
      rintro i m' σ H ⟨δ, c, G2, ρ2, e2, pr2, s2, h2, q2⟩
      cases m' with
      | zero => exact q2.elim
      | succ m' =>
        unfold loopC at q2
        cases hc2 : cellL n c with
        | none => simp only [hc2] at q2; exact q2.elim
        | some xs =>
          simp only [hc2] at q2
          obtain ⟨us, ho, hl, rr⟩ := cellL_rep h2 (pre_get pr2 hq) hc2
          cases hx : xs[i]? with
          | none =>
            simp only [hx] at q2
            exact .inl ⟨⟨us, SqL.of ho, by rw [rr.length]; exact List.getElem?_eq_none_iff.mp hx⟩, q2 σ H G2 ρ2 (.refl _) (List.prefix_refl _) s2 h2⟩
          | some d =>
            simp only [hx] at q2
            obtain ⟨u, hu, ru⟩ := rr.get hx
            refine .inr ⟨⟨us, u, SqL.of ho, hu⟩, fun σ' H' => ∃ δ c G2 ρ2, Ex G1 G2 ∧ ρ1 <+: ρ2 ∧ RelS T G2 ρ2 σ' δ ∧ RelH T H' c G2 ρ2 ∧ PostS T W G2 ρ2 (loopC n g m m' (i + 1) δ c) E, fun σ' H' z => ⟨m', Nat.lt_succ_self m', z⟩, fun x H' y => ?_⟩
            obtain ⟨rfl, y⟩ := y
            have ex := y us (SqL.of ho)
            rw [hu] at ex
            cases ex
            cases hg : g d c δ with
            | none => simp only [hg] at q2; exact q2.elim
            | some δ1 =>
              simp only [hg] at q2
              refine ⟨d, δ, c, G2, ρ2, δ1, h2, ru, s2, hg, fun σ' s' => ?_⟩
              refine ⟨δ1, c, G2, ρ2, s', h2, ?_⟩
              cases hm : m δ1 c with
              | nx δ3 c3 =>
                simp only [hm] at q2
                exact fun σ4 H4 G4 ρ4 e4 p4 s4 h4 => ⟨δ3, c3, G4, ρ4, e2.trans e4, pr2.trans p4, s4, h4, q2.mono e4 p4⟩
              | ct δ3 c3 =>
                simp only [hm] at q2
                exact fun σ4 H4 G4 ρ4 e4 p4 s4 h4 => ⟨δ3, c3, G4, ρ4, e2.trans e4, pr2.trans p4, s4, h4, q2.mono e4 p4⟩
              | bk δ3 c3 => simp only [hm] at q2; exact q2
              | rt s3 c3 => simp only [hm] at q2; exact q2
              | ex k ys δ3 c3 => simp only [hm] at q2; exact q2
              | bad => simp only [hm] at q2; exact q2
def wloop (C : MT) (B : MS) : Nat → MS
  | 0, _, _ => .bad
  | n + 1, δ, c => (C δ c).andS δ fun k c => if k = true then (match B δ c with
      | .nx δ c => wloop C B n δ c
      | .ct δ c => wloop C B n δ c
      | .bk δ c => .nx δ c
      | r => r) else .nx δ c
theorem ds_while {c : Expr} {body : List Stmt} {C : MT} (n : Nat) (hp : PassesOwn (model X.prog X.w) X.A X.env X.xe) (hc : PT X c (tDT T W C)) (hb : PSs X body (tS T W m)) : PS X (.While c body [] pos) (tS T W (wloop C m n)) := by
  refine PS.imp (ps_while hp hc hb) fun E σ H ⟨δ, c, G, ρ, hs, hh, p⟩ => ?_
  refine ⟨fun n σ H => ∃ δ c G ρ, RelS T G ρ σ δ ∧ RelH T H c G ρ ∧ PostS T W G ρ (wloop C m n δ c) E, ⟨n, δ, c, G, ρ, hs, hh, p⟩, ?_⟩
  rintro n σ H ⟨δ, c, G, ρ, hs, hh, p⟩
  cases n with
  | zero => exact p.elim
  | succ n =>
    refine ⟨δ, c, G, ρ, hs, hh, (PostS.andS (rel := relB) hs p).imp ?_⟩
    rintro v H1 ⟨k, c1, G1, ρ1, e1, p1, h1, r1, q1⟩
    have r1 : v = k := r1
    subst r1
    cases v with
    | false => exact q1 σ H1 G1 ρ1 (.refl _) (List.prefix_refl _) (hs.mono e1 p1) h1
    | true =>
      refine ⟨fun σ H => ∃ δ c G ρ, RelS T G ρ σ δ ∧ RelH T H c G ρ ∧ PostS T W G ρ (wloop C m n δ c) E, fun σ' H' z => ⟨n, Nat.lt_succ_self n, z⟩, ?_⟩
      have q1 : PostS T W G1 ρ1 (match m δ c1 with
        | .nx δ c => wloop C m n δ c
        | .ct δ c => wloop C m n δ c
        | .bk δ c => .nx δ c
        | r => r) E := q1
      refine ⟨δ, c1, G1, ρ1, hs.mono e1 p1, h1, ?_⟩
      cases hm : m δ c1 with
      | nx δ3 c3 => simp only [hm] at q1; exact fun σ4 H4 G4 ρ4 e4 p4 s4 h4 => ⟨δ3, c3, G4, ρ4, s4, h4, q1.mono e4 p4⟩
      | ct δ3 c3 => simp only [hm] at q1; exact fun σ4 H4 G4 ρ4 e4 p4 s4 h4 => ⟨δ3, c3, G4, ρ4, s4, h4, q1.mono e4 p4⟩
      | bk δ3 c3 => simp only [hm] at q1; exact q1
      | rt s3 c3 => simp only [hm] at q1; exact q1
      | ex k ys δ3 c3 => simp only [hm] at q1; exact q1
      | bad => simp only [hm] at q1; exact q1
end
end Dn

end
section
/-! Dn3: defs and their calls, methods, fields, new objects. -/
namespace Dn
open PySem PySem.Spec PyProof.Rows L2

/-! ### leaving a def: its own cells become data -/
/-- kp: an own list that is handed back stays a cell, the caller's newest one -/
def exitR (kp : Bool) (n0 : Nat) : RS → R S
  | .nx _ c => .ok (.d .non) (c.take n0)
  | .rt (.c k) c => if k < n0 then .ok (.c k) (c.take n0) else match c[k]? with
    | some (.lst xs) => if kp = true then .ok (.c n0) (c.take n0 ++ [.lst xs]) else .ok (.d (.lst xs)) (c.take n0)
    | _ => .bad
  | .rt (.d x) c => .ok (.d x) (c.take n0)
  | .ex k xs _ c => .ex k xs (c.take n0)
  | _ => .bad
def fnG (kp : Bool) (np n : Nat) (body : MS) : List S → Cs → R S := fun ss c => if ss.length = np then exitR kp c.length (body (ss.map some ++ List.replicate (n - np) none) c) else .bad
abbrev fnD (np n : Nat) (body : MS) : List S → Cs → R S := fnG false np n body
abbrev fnK (np n : Nat) (body : MS) : List S → Cs → R S := fnG true np n body
def PostF (T : Tb) (G : Hp) (ρ : List Addr) (r : R S) (Q : VK) (E : XK) : Prop :=
  match r with
  | .ok s c => ∀ v H' G' ρ', Ex G G' → ρ <+: ρ' → RelH T H' c G' ρ' → SRep T G' ρ' s v → Q v H'
  | .ex k xs c => ∀ d H' G', Ex G G' → RelH T H' c G' ρ → XRep T G' k xs d → E (.ref (T.cl k)) d H'
  | .bad => False
def spD (T : Tb) (fn : List S → Cs → R S) : Sp := fun vs H Q E => ∃ ss c G ρ, SReps T G ρ ss vs ∧ RelH T H c G ρ ∧ PostF T G ρ (fn ss c) Q E
section
variable {T : Tb} {G G' H H' : Hp} {ρ ρ' : List Addr} {c c' : Cs} {σ : L2.St} {δ : Sl} {Q : VK} {E : XK}
theorem RelH.take (r : RelH T H c G ρ') (p : ρ <+: ρ') : RelH T H (c.take ρ.length) G ρ := by
  obtain ⟨t, rfl⟩ := p
  have hl := r.len
  rw [List.length_append] at hl
  refine ⟨r.ex, by rw [List.length_take]; omega, r.nd.sublist (List.sublist_append_left _ _), fun i q x a b => ?_⟩
  have hi : i < ρ.length := (List.getElem?_eq_some_iff.mp a).1
  rw [List.getElem?_take_of_lt hi] at b
  obtain ⟨g, k⟩ := r.at_ i q x (by rw [List.getElem?_append_left hi]; exact a) b
  rw [List.take_append_of_le_length (by omega)] at k
  exact ⟨g, k⟩
theorem RelH.frozen {p : Addr} {o : HO} {k : Nat} (r : RelH T H c G ρ') (pr : ρ <+: ρ') (hk : ρ.length ≤ k) (hp : ρ'[k]? = some p) (ho : H p = some o) (hg : G p = none) : Ex G (upd G p o) ∧ RelH T H (c.take ρ.length) (upd G p o) ρ := by
  have e : Ex G (upd G p o) := Ex.new hg
  have r1 := r.take pr
  refine ⟨e, ⟨fun a u q => ?_, r1.len, r1.nd, fun i q x a b => ?_⟩⟩
  · by_cases z : a = p
    · subst z; rw [upd_same] at q; cases q; exact ho
    · rw [upd_ne z] at q; exact r.ex a u q
  · obtain ⟨g, k1⟩ := r1.at_ i q x a b
    have hi : i < ρ.length := (List.getElem?_eq_some_iff.mp a).1
    have ne : q ≠ p := by
      intro z
      subst z
      have a' : ρ'[i]? = some q := pre_get pr a
      obtain ⟨h1, e1⟩ := List.getElem?_eq_some_iff.mp a'
      obtain ⟨h2, e2⟩ := List.getElem?_eq_some_iff.mp hp
      have := (List.getElem_inj r.nd).mp (e1.trans e2.symm)
      omega
    refine ⟨by rw [upd_ne ne]; exact g, ?_⟩
    exact k1.keep e rfl (List.prefix_refl _)
/-- an own cell at the end of the def stays one of the caller's -/
theorem RelH.kept {p : Addr} {xs : List D} {k : Nat} (r : RelH T H c G ρ') (pr : ρ <+: ρ') (hk : ρ.length ≤ k) (hp : ρ'[k]? = some p) (hx : c[k]? = some (.lst xs)) : RelH T H (c.take ρ.length ++ [.lst xs]) G (ρ ++ [p]) := by
  have r1 := r.take pr
  have hl : (c.take ρ.length).length = ρ.length := r1.len.symm
  refine ⟨r1.ex, by simp [hl], ?_, fun i q y a b => ?_⟩
  · rw [List.nodup_append]
    refine ⟨r1.nd, by simp, fun a ha b hb => ?_⟩
    rw [List.mem_singleton] at hb
    subst hb
    intro e
    subst e
    obtain ⟨i, hi⟩ := List.getElem?_of_mem ha
    have hil : i < ρ.length := (List.getElem?_eq_some_iff.mp hi).1
    obtain ⟨h1, e1⟩ := List.getElem?_eq_some_iff.mp (pre_get pr hi)
    obtain ⟨h2, e2⟩ := List.getElem?_eq_some_iff.mp hp
    have := (List.getElem_inj r.nd).mp (e1.trans e2.symm)
    omega
  · by_cases hi : i < ρ.length
    · rw [List.getElem?_append_left hi] at a
      rw [List.getElem?_append_left (by omega)] at b
      rw [List.take_append_of_le_length (by omega)]
      exact r1.at_ i q y a b
    · rw [List.getElem?_append_right (by omega)] at a
      rw [List.getElem?_append_right (by omega), hl] at b
      cases hz : i - ρ.length with
      | succ n => rw [hz] at a; simp at a
      | zero =>
        rw [hz] at a b
        simp at a b
        subst a; subst b
        obtain ⟨g, z⟩ := r.at_ k _ _ hp hx
        exact ⟨g, z⟩
theorem exit_ok {kp : Bool} {r : RS} (h : PostF T G ρ (exitR kp ρ.length r) Q E) : PostS T (fun cls d _ H => E cls d H) G ρ r { nx := fun _ H' => Q .non H', rt := Q } := by
  cases r with
  | nx δ c => exact fun σ' H' G' ρ' e p rs rh => h .non H' G' ρ e (List.prefix_refl _) (rh.take p) SRep.non
  | bk δ c => exact False.elim h
  | ct δ c => exact False.elim h
  | bad => exact h
  | ex k xs δ c => exact fun d σ' H' G' ρ' e p rs rh x => h d H' G' e (rh.take p) x
  | rt s c =>
    cases s with
    | x _ _ => exact h.elim
    | d x => exact fun v H' G' ρ' e p rs rh => h v H' G' ρ e (List.prefix_refl _) (rh.take p) rs
    | c k =>
      unfold exitR at h
      by_cases hk : k < ρ.length
      · simp only [hk, if_true] at h
        rintro v H' G' ρ' e p ⟨q, hq, rfl⟩ rh
        refine h _ H' G' ρ e (List.prefix_refl _) (rh.take p) ⟨q, ?_, rfl⟩
        obtain ⟨t, rfl⟩ := p
        rw [List.getElem?_append_left hk] at hq
        exact hq
      · simp only [hk, if_false] at h
        cases hc : c[k]? with
        | none => simp only [hc] at h; exact h.elim
        | some x =>
          cases x with
          | lst xs =>
            simp only [hc] at h
            rintro v H' G' ρ' e p ⟨q, hq, rfl⟩ rh
            by_cases hkp : kp = true
            · rw [if_pos hkp] at h
              exact h _ H' G' (ρ ++ [q]) e (List.prefix_append _ _) (rh.kept p (by omega) hq hc) ⟨q, by simp, rfl⟩
            · rw [if_neg hkp] at h
              obtain ⟨g, vs, ho, hl, rr⟩ := rh.at_ k q _ hq hc
              obtain ⟨e2, r2⟩ := rh.frozen p (by omega) hq ho g
              exact h _ H' _ ρ (e.trans e2) (List.prefix_refl _) r2 (Rep.lst upd_same hl (Reps.mono e2 _ _ rr))
          | dct _ => simp only [hc] at h; exact h.elim
          | lS _ => simp only [hc] at h; exact h.elim
          | tS _ => simp only [hc] at h; exact h.elim
          | tb _ => simp only [hc] at h; exact h.elim
          | obj _ _ => simp only [hc] at h; exact h.elim
theorem SReps.start {ss : List S} {vs : List V} {N : List Str} {np : Nat} (r : SReps T G ρ ss vs) (h : ss.length = np) : RelS T G ρ (L2.start N vs) (ss.map some ++ List.replicate (N.length - np) none) := by
  have hl := r.length
  refine ⟨by simp [L2.start, hl, h], fun i s e => ?_⟩
  unfold L2.start
  by_cases hi : i < ss.length
  · rw [List.getElem?_append_left (by simpa using hi), List.getElem?_map] at e
    have aux : ∀ {ss : List S} {vs : List V}, SReps T G ρ ss vs → ∀ (i : Nat) (s : S), ss[i]? = some s → ∃ v, vs[i]? = some v ∧ SRep T G ρ s v := by
      intro ss vs r
      induction r with
      | nil => intro i s e; simp at e
      | cons a _ ih =>
        intro i s e
        cases i with
        | zero => simp at e; subst e; exact ⟨_, rfl, a⟩
        | succ i => simpa using ih i s (by simpa using e)
    cases e2 : ss[i]? with
    | none => rw [e2] at e; cases e
    | some s2 =>
      rw [e2] at e
      cases e
      obtain ⟨v, hv, rv⟩ := aux r i _ e2
      exact ⟨v, by rw [List.getElem?_append_left (by simp [hl]; exact hi), List.getElem?_map, hv]; rfl, rv⟩
  · rw [List.getElem?_append_right (by simpa using hi)] at e
    rw [List.getElem?_replicate] at e
    split at e <;> cases e
end

section
variable {P : Program} {w : World} {K : PySem.W.Frag} {mg : Str → Option Value} {base : Heap} {T : Tb}
/-- a def keeps to its function -/
theorem fn_ok {kp : Bool} {x qual : Str} {st : Stmt} {f : Addr} {fd : FuncData} {N ps : List Str} {k : Nat} {body : MS} (F : Fun K x qual st f fd) (S : FnScope N ps (defScope st))
    (hbody : ∀ (cdv : Value) (A : Around) (outer : List Env) (s : Shared) (H : Hp) (E : XK), Room k (A.deeper (envOfC qual (defScope st) s.heap.objs.size f cdv)) →
      PSs (cxOf (L2.CX P w) P w K mg base N qual (defScope st) f cdv A outer s H E) (defBody st) (tS T (fun cls d _ H => E cls d H) body)) : FnOk P w K mg base (L2.CX P w) (k + 1) f fd ps (spD T (fnG kp ps.length N.length body)) := by
  refine F.okX S ?_ ?_
  · rintro vs H Q E ⟨ss, c, G, ρ, rs, rh, p⟩
    rw [rs.length]
    unfold fnG at p
    by_cases h : ss.length = ps.length
    · exact h
    · rw [if_neg h] at p; exact p.elim
  · rintro cdv A outer s H vs Q E hr ⟨ss, c, G, ρ, rs, rh, p⟩
    refine ⟨_, hbody cdv A outer s H E hr, ?_⟩
    unfold fnG at p
    by_cases h : ss.length = ps.length
    · rw [if_pos h] at p
      refine ⟨_, c, G, ρ, rs.start h, rh, ?_⟩
      rw [← rh.len] at p
      exact exit_ok p
    · rw [if_neg h] at p; exact p.elim
/-- the def x of the module keeps to fn, by level k -/
def FnAt (P : Program) (w : World) (K : PySem.W.Frag) (mg : Str → Option Value) (base : Heap) (T : Tb) (x : Str) (k : Nat) (fn : List S → Cs → R S) : Prop :=
  ∃ f fd ps, FnOk P w K mg base (L2.CX P w) k f fd ps (spD T fn) ∧ mg x = some (.ref f) ∧ PySem.W.keepIn K (.ref f) = true ∧ Binds K fd ps []
/-- the method m of class c keeps to fn -/
def MethAt (P : Program) (w : World) (K : PySem.W.Frag) (mg : Str → Option Value) (base : Heap) (T : Tb) (m : Str) (c : Nat) (k : Nat) (fn : List S → Cs → R S) : Prop :=
  ∃ f fd ps, FnOk P w K mg base (L2.CX P w) k f fd ps (spD T fn) ∧ Meth K (T.cl c) m f ∧ Cls K (T.cl c) ∧ m ∉ T.fl c ∧ Binds K fd ps []
/-- the class x, number c, is made by fn, its __init__ (its defaults ds) -/
def MakeAt (P : Program) (w : World) (K : PySem.W.Frag) (mg : Str → Option Value) (base : Heap) (T : Tb) (x : Str) (c : Nat) (nf : Nat) (k : Nat) (fn : List S → Cs → R S) : Prop :=
  ∃ f fd ps, FnOk P w K mg base (L2.CX P w) k f fd ps (spD T fn) ∧ Mk K (T.cl c) f ∧ mg x = some (.ref (T.cl c)) ∧ (T.fl c).length = nf ∧ Binds K fd ps []
end

section
variable {X : Cx} {T : Tb} {W : WX} {a b o e : Expr} {es : List Expr} {A B : M} {pos p apos : Pos} {fn : List S → Cs → R S} {k : Nat}
theorem PostF.of {G : Hp} {ρ : List Addr} {σ : L2.St} {r : R S} {Q : VK} (h : Post (SRep T) T W σ G ρ r Q) : PostF T G ρ r Q (WE W σ) := by
  cases r with
  | ok s c => exact fun v H' G' ρ' e p rh rs => h v H' G' ρ' e p rh rs
  | ex k xs c => exact fun d H' G' e rh x => h d H' G' ρ e (List.prefix_refl _) rh x
  | bad => exact h
theorem dn_call {x : Str} {B : MA} (hf : FnAt X.prog X.w X.K X.mg X.base T x k fn) (hr : Room k X.A) (tk : Takes X W) (hg : Gl X x) (ha : PA X (e :: es) (tDA T W B)) (hdb : (x == ("__debug__" : Str)) = false := by decide)
    (he : starEach (e :: es) X.env = (false, eval e X.env) :: starEach es X.env := by rfl) (hpl : (backTo pos (starEach es X.env)).any (·.1) = false := by rfl) : PE X (.Call (.Name x p) (e :: es) [] pos) (tD T W (mBlt fn B)) := by
  obtain ⟨f, fd, ps, F, hm, hk, hb⟩ := hf
  refine PE.imp (pe_callS (E := WE W) F hr hg hm hk hb (fun σ => passAt tk σ) ha hdb he hpl) fun σ H Q ⟨δ, c, G, ρ, hs, hh, p⟩ => ?_
  refine ⟨δ, c, G, ρ, hs, hh, (Post.bind (rel := SReps T) p).imp ?_⟩
  rintro v H1 ⟨ss, c1, G1, ρ1, e1, p1, h1, r1, q1⟩
  exact ⟨ss, c1, G1, ρ1, r1, h1, PostF.of q1⟩
/-- f() -/
theorem dn_call0 {x : Str} (hf : FnAt X.prog X.w X.K X.mg X.base T x k fn) (hr : Room k X.A) (tk : Takes X W) (hg : Gl X x) (hdb : (x == ("__debug__" : Str)) = false := by decide) : PE X (.Call (.Name x p) [] [] pos) (tD T W (mBlt fn mNil)) := by
  obtain ⟨f, fd, ps, F, hm, hk, hb⟩ := hf
  refine ⟨fun pins s σ H Q I ⟨δ, c, G, ρ, hs, hh, p⟩ => ?_⟩
  refine wpAny_Call_Name_kw (ld_glob I hg hm ?_ hdb)
  exact PySem.W.callWith_K0 I.kIn hk (run_fnS (E := WE W) (us := []) (vs := []) F hr hb (passAt tk σ) I .nil ⟨[], c, G, ρ, .nil, hh, PostF.of p⟩)

/-! ### methods -/
def look {α : Type} : List (Nat × α) → Nat → Option α
  | [], _ => none
  | (k, a) :: r, n => if k = n then some a else look r n
theorem look_mem {α : Type} {l : List (Nat × α)} {n : Nat} {a : α} (h : look l n = some a) : (n, a) ∈ l := by
  induction l with
  | nil => cases h
  | cons q r ih =>
    obtain ⟨k, b⟩ := q
    unfold look at h
    by_cases z : k = n
    · rw [if_pos z] at h; cases h; subst z; exact List.mem_cons_self
    · rw [if_neg z] at h; exact List.mem_cons_of_mem _ (ih h)
def mMeth (tbl : List (Nat × (List S → Cs → R S))) (A : M) (B : MA) : M := fun δ c => (A δ c).bind fun o c => match deref o c with
  | some (.obj k _) => match look tbl k with
    | some fn => (B δ c).bind fun ss c => fn (o :: ss) c
    | none => .bad
  | _ => .bad
inductive MethsAt (P : Program) (w : World) (K : PySem.W.Frag) (mg : Str → Option Value) (base : Heap) (T : Tb) (m : Str) (k : Nat) : List (Nat × (List S → Cs → R S)) → Prop
  | nil : MethsAt P w K mg base T m k []
  | cons {c j : Nat} {fn : List S → Cs → R S} {l : List (Nat × (List S → Cs → R S))} : MethAt P w K mg base T m c j fn → j ≤ k → MethsAt P w K mg base T m k l → MethsAt P w K mg base T m k ((c, fn) :: l)
theorem MethsAt.get {P : Program} {w : World} {K : PySem.W.Frag} {mg : Str → Option Value} {base : Heap} {T : Tb} {m : Str} {k : Nat} {l : List (Nat × (List S → Cs → R S))} (h : MethsAt P w K mg base T m k l) {c : Nat} {fn : List S → Cs → R S} (hm : (c, fn) ∈ l) :
    ∃ j, j ≤ k ∧ MethAt P w K mg base T m c j fn := by
  induction h with
  | nil => cases hm
  | cons a b _ ih =>
    cases hm with
    | head => exact ⟨_, b, a⟩
    | tail _ hm => exact ih hm
theorem lookup_none {fv : List (Str × V)} {m : Str} (h : m ∉ fv.map (·.1)) : fv.lookup m = none := by
  induction fv with
  | nil => rfl
  | cons q r ih =>
    obtain ⟨g, v⟩ := q
    simp only [List.map_cons, List.mem_cons, not_or] at h
    have hb : (m == g) = false := beq_eq_false_iff_ne.mpr h.1
    simp only [List.lookup, hb]
    exact ih h.2
theorem dn_meth {m : Str} {pl : Sem Bool} {B : MA} {tbl : List (Nat × (List S → Cs → R S))} (he : PE X o (tD T W A)) (hf : MethsAt X.prog X.w X.K X.mg X.base T m k tbl) (hr : Room k X.A) (tk : Takes X W) (ha : PA X (e :: es) (tDA T W B))
    (hst : starEach (e :: es) X.env = (false, eval e X.env) :: starEach es X.env := by rfl) (hpl : (backTo pos (starEach es X.env)).any (·.1) = false := by rfl)
    (ht : eval (.Call (.Attribute o m apos) (e :: es) [] pos) X.env = (do
      let ov ← eval o X.env
      standAt apos.atName
      let (f, first) ← holding [ov] (getMethod ov m pl)
      callWith pos f first (backTo pos (starEach (e :: es) X.env)) (backToKw pos (keywordEach [] X.env))) := by rfl) :
    PE X (.Call (.Attribute o m apos) (e :: es) [] pos) (tD T W (mMeth tbl A B)) := by
  refine ⟨fun pins s σ H Q I ⟨δ, c, G, ρ, hs, hh, p⟩ => ?_⟩
  refine PySem.W.methodCall_KW (pl := pl) (thn (he.run pins s σ H _ I ⟨δ, c, G, ρ, hs, hh, Post.bind (rel := SRep T) p⟩) ?_) ht
  rintro u s1 ⟨x, H1, I1, rx, sv, c1, G1, ρ1, e1, p1, h1, r1, q1⟩
  cases hd : deref sv c1 with
  | none => simp only [hd] at q1; exact q1.elim
  | some d =>
    cases d with
    | obj k2 xs =>
      simp only [hd] at q1
      cases hl : look tbl k2 with
      | none => simp only [hl] at q1; exact q1.elim
      | some fn =>
        simp only [hl] at q1
        obtain ⟨j, hj, f, fd, ps, F, hm, hc, nf, hb⟩ := hf.get (look_mem hl)
        obtain ⟨a, dx, fv, rfl, ea, hfl, rr⟩ := deref_view h1 r1 hd
        obtain rfl : u = Value.ref a := rx
        refine getmeth_ok I1 ea hc hm (lookup_none (by rw [hfl]; exact fun z => nf (List.mem_of_mem_take z))) ?_
        refine PySem.W.callWith_K (first := [.ref a]) (h₀ := X.base) I.ok.mod.kin hm.kp (thn (ha.run pos pins s1 σ H1 _ I1 ⟨δ, c1, G1, ρ1, hs.mono e1 p1, h1, Post.bind (rel := SReps T) q1⟩) ?_) hst hpl
        rintro us s2 ⟨vs, H2, I2, r, ss, c2, G2, ρ2, e2, p2, h2, r2, q2⟩
        exact ⟨I2.kIn, run_fnS (E := WE W) (us := .ref a :: us) (vs := .ref a :: vs) F (hr.mono hj) hb (passAt tk σ) I2 (.cons rfl r) ⟨sv :: ss, c2, G2, ρ2, .cons (r1.mono e2 p2) r2, h2, PostF.of q2⟩⟩
    | _ => simp only [hd] at q1; exact q1.elim
theorem dn_meth0 {m : Str} {pl : Sem Bool} {tbl : List (Nat × (List S → Cs → R S))} (he : PE X o (tD T W A)) (hf : MethsAt X.prog X.w X.K X.mg X.base T m k tbl) (hr : Room k X.A) (tk : Takes X W)
    (ht : eval (.Call (.Attribute o m apos) [] [] pos) X.env = (do
      let ov ← eval o X.env
      standAt apos.atName
      let (f, first) ← holding [ov] (getMethod ov m pl)
      callWith pos f first (backTo pos (starEach [] X.env)) (backToKw pos (keywordEach [] X.env))) := by rfl) :
    PE X (.Call (.Attribute o m apos) [] [] pos) (tD T W (mMeth tbl A mNil)) := by
  refine ⟨fun pins s σ H Q I ⟨δ, c, G, ρ, hs, hh, p⟩ => ?_⟩
  refine PySem.W.methodCall_KW (pl := pl) (thn (he.run pins s σ H _ I ⟨δ, c, G, ρ, hs, hh, Post.bind (rel := SRep T) p⟩) ?_) ht
  rintro u s1 ⟨x, H1, I1, rx, sv, c1, G1, ρ1, e1, p1, h1, r1, q1⟩
  cases hd : deref sv c1 with
  | none => simp only [hd] at q1; exact q1.elim
  | some d =>
    cases d with
    | obj k2 xs =>
      simp only [hd] at q1
      cases hl : look tbl k2 with
      | none => simp only [hl] at q1; exact q1.elim
      | some fn =>
        simp only [hl] at q1
        obtain ⟨j, hj, f, fd, ps, F, hm, hc, nf, hb⟩ := hf.get (look_mem hl)
        obtain ⟨a, dx, fv, rfl, ea, hfl, rr⟩ := deref_view h1 r1 hd
        obtain rfl : u = Value.ref a := rx
        refine getmeth_ok I1 ea hc hm (lookup_none (by rw [hfl]; exact fun z => nf (List.mem_of_mem_take z))) ?_
        exact PySem.W.callWith_K0 (first := [.ref a]) I1.kIn hm.kp (run_fnS (E := WE W) (us := [.ref a]) (vs := [.ref a]) F (hr.mono hj) hb (passAt tk σ) I1 (.cons rfl .nil) ⟨[sv], c1, G1, ρ1, .cons r1 .nil, h1, PostF.of q1⟩)
    | _ => simp only [hd] at q1; exact q1.elim

/-! ### fields -/
def FldAt (K : PySem.W.Frag) (T : Tb) (f : Str) (c i : Nat) : Prop := Cls K (T.cl c) ∧ NoAttr K (T.cl c) f ∧ (T.fl c)[i]? = some f ∧ (T.fl c).Nodup ∧ (T.fl c).length < 900
inductive FldsAt (K : PySem.W.Frag) (T : Tb) (f : Str) : List (Nat × Nat) → Prop
  | nil : FldsAt K T f []
  | cons {c i : Nat} {l : List (Nat × Nat)} : FldAt K T f c i → FldsAt K T f l → FldsAt K T f ((c, i) :: l)
theorem FldsAt.get {K : PySem.W.Frag} {T : Tb} {f : Str} {l : List (Nat × Nat)} (h : FldsAt K T f l) {c i : Nat} (hm : (c, i) ∈ l) : FldAt K T f c i := by
  induction h with
  | nil => cases hm
  | cons a _ ih =>
    cases hm with
    | head => exact a
    | tail _ hm => exact ih hm
theorem lookup_at : ∀ {fv : List (Str × V)} {i : Nat} {f : Str} {v : V}, (fv.map (·.1)).Nodup → (fv.map (·.1))[i]? = some f → (fv.map (·.2))[i]? = some v → fv.lookup f = some v
  | [], i, _, _, _, h, _ => by simp at h
  | (g, x) :: r, 0, f, v, nd, h, k => by
    simp at h k; subst h; subst k
    have hb : (g == g) = true := beq_iff_eq.mpr rfl
    simp only [List.lookup, hb]
  | (g, x) :: r, i + 1, f, v, nd, h, k => by
    simp only [List.map_cons, List.nodup_cons] at nd
    have h' : (r.map (·.1))[i]? = some f := by simpa using h
    have ne : ¬ f = g := fun z => nd.1 (z ▸ List.mem_of_getElem? h')
    have hb : (f == g) = false := beq_eq_false_iff_ne.mpr ne
    simp only [List.lookup, hb]
    exact lookup_at nd.2 h' (by simpa using k)
def mAttr (tbl : List (Nat × Nat)) (A : M) : M := fun δ c => (A δ c).bind fun o c => match deref o c with
  | some (.obj k xs) => match look tbl k with
    | some i => match xs[i]? with
      | some x => .ok (.d x) c
      | none => .bad
    | none => .bad
  | _ => .bad
theorem nd_take {l : List Str} (h : l.Nodup) (n : Nat) : (l.take n).Nodup := h.sublist (List.take_sublist n l)
theorem dn_attr {f : Str} {tbl : List (Nat × Nat)} (hT : X.K = T.K) (he : PE X o (tD T W A)) (hf : FldsAt X.K T f tbl) (hb : attributeBase o f X.env (eval o X.env) = eval o X.env) : PE X (.Attribute o f pos) (tD T W (mAttr tbl A)) := by
  refine PE.imp (pe_fld he hb) fun σ H Q ⟨δ, c, G, ρ, hs, hh, p⟩ => ?_
  refine ⟨δ, c, G, ρ, hs, hh, (Post.bind (rel := SRep T) p).imp ?_⟩
  rintro v H1 ⟨sv, c1, G1, ρ1, e1, p1, h1, r1, q1⟩
  cases hd : deref sv c1 with
  | none => simp only [hd] at q1; exact q1.elim
  | some d =>
    cases d with
    | obj k2 xs =>
      simp only [hd] at q1
      cases hl : look tbl k2 with
      | none => simp only [hl] at q1; exact q1.elim
      | some i =>
        simp only [hl] at q1
        cases hx : xs[i]? with
        | none => simp only [hx] at q1; exact q1.elim
        | some x =>
          simp only [hx] at q1
          obtain ⟨hc, hn, hi, nd, hlen⟩ := hf.get (look_mem hl)
          obtain ⟨a, dx, fv, rfl, ea, hfl, rr⟩ := deref_view h1 r1 hd
          obtain ⟨w, hw, rw'⟩ := rr.get hx
          have hil : i < xs.length := (List.getElem?_eq_some_iff.mp hx).1
          refine ⟨a, T.cl k2, dx, fv, w, rfl, ea, hc, hn, lookup_at (i := i) (by rw [hfl]; exact nd_take nd _) ?_ hw, q1 w H1 G1 ρ1 (.refl _) (List.prefix_refl _) h1 rw'⟩
          rw [hfl, List.getElem?_take_of_lt hil]
          exact hi
    | _ => simp only [hd] at q1; exact q1.elim
/-- o.f = e, o an object that is being made (a cell) -/
def setF (i : Nat) (x : D) (xs : List D) : Option (List D) := if i < xs.length then some (xs.set i x) else if i = xs.length then some (xs ++ [x]) else none
def sFldSet (tbl : List (Nat × Nat)) (A V : M) : MS := fun δ c => (V δ c).andS δ fun s c => (A δ c).andS δ fun o c => match s, o with
  | .d x, .c n => match c[n]? with
    | some (.obj k xs) => match look tbl k with
      | some i => match setF i x xs with
        | some ys => .nx δ (c.set n (.obj k ys))
        | none => .bad
      | none => .bad
    | _ => .bad
  | _, _ => .bad
theorem putF_new {f : Str} {v : V} : ∀ {fv : List (Str × V)}, f ∉ fv.map (·.1) → putF f v fv = fv ++ [(f, v)]
  | [], _ => rfl
  | (g, x) :: r, h => by
    simp only [List.map_cons, List.mem_cons, not_or] at h
    show (if g = f then (g, v) :: r else (g, x) :: putF f v r) = _
    rw [if_neg (Ne.symm h.1), putF_new h.2]
    rfl
theorem putF_old {f : Str} {v : V} : ∀ {fv : List (Str × V)} {i : Nat}, (fv.map (·.1)).Nodup → (fv.map (·.1))[i]? = some f → (putF f v fv).map (·.1) = fv.map (·.1) ∧ (putF f v fv).map (·.2) = (fv.map (·.2)).set i v
  | [], i, _, h => by simp at h
  | (g, x) :: r, 0, nd, h => by
    simp at h; subst h
    show List.map _ (if g = g then (g, v) :: r else (g, x) :: putF g v r) = _ ∧ _
    rw [if_pos rfl]
    refine ⟨rfl, ?_⟩
    show List.map _ (if g = g then (g, v) :: r else (g, x) :: putF g v r) = _
    rw [if_pos rfl]; rfl
  | (g, x) :: r, i + 1, nd, h => by
    simp only [List.map_cons, List.nodup_cons] at nd
    have h' : (r.map (·.1))[i]? = some f := by simpa using h
    have ne : ¬ g = f := fun z => nd.1 (z ▸ List.mem_of_getElem? h')
    obtain ⟨i1, i2⟩ := putF_old (v := v) nd.2 h'
    have e : putF f v ((g, x) :: r) = (g, x) :: putF f v r := by
      show (if g = f then (g, v) :: r else (g, x) :: putF f v r) = _
      rw [if_neg ne]
    rw [e]
    exact ⟨by simp [i1], by simp [i2]⟩
theorem RelH.cell {H : Hp} {c : Cs} {G : Hp} {ρ : List Addr} (r : RelH T H c G ρ) {n : Nat} {p : Addr} {ob : HO} {x : CC} (hp : ρ[n]? = some p) (hx : ∀ H', H' p = some ob → Ex G H' → CellOk T G H' (ρ.take n) p x) : RelH T (upd H p ob) (c.set n x) G ρ := by
  have hn : n < ρ.length := (List.getElem?_eq_some_iff.mp hp).1
  have hc : n < c.length := by rw [← r.len]; exact hn
  obtain ⟨y, hy⟩ : ∃ y, c[n]? = some y := ⟨c[n], List.getElem?_eq_getElem hc⟩
  obtain ⟨g, _⟩ := r.at_ n p y hp hy
  have ex' : Ex G (upd H p ob) := fun a u q => by
    rw [upd_ne (ne_of_none q g)]
    exact r.ex a u q
  refine ⟨ex', by simp [r.len], r.nd, fun i q z a b => ?_⟩
  by_cases hi : n = i
  · subst hi
    rw [List.getElem?_set_self hc] at b
    cases b
    rw [hp] at a; cases a
    exact ⟨g, hx _ upd_same ex'⟩
  · rw [List.getElem?_set_ne hi] at b
    obtain ⟨g2, k⟩ := r.at_ i q z a b
    have ne : q ≠ p := by
      intro e
      subst e
      obtain ⟨h1, e1⟩ := List.getElem?_eq_some_iff.mp a
      obtain ⟨h2, e2⟩ := List.getElem?_eq_some_iff.mp hp
      exact hi ((List.getElem_inj r.nd).mp (e1.trans e2.symm)).symm
    exact ⟨g2, k.keep (.refl _) (upd_ne ne) (List.prefix_refl _)⟩
theorem ds_fld {f : Str} {tbl : List (Nat × Nat)} {VV : M} {value : Expr} {pos' : Pos} (ha : PE X o (tD T W A)) (hv : PE X value (tD T W VV)) (hf : FldsAt X.K T f tbl) (hs : swapsWith value (some (.Attribute o f pos')) pos.line X.env = pure false := by rfl) :
    PS X (.Assign [.Attribute o f pos'] value pos) (tS T W (sFldSet tbl A VV)) := by
  refine PS.imp (ps_fld ha hv hs) fun E σ H ⟨δ, c, G, ρ, hs, hh, p⟩ => ?_
  refine ⟨δ, c, G, ρ, hs, hh, (PostS.andS (rel := SRep T) hs p).imp ?_⟩
  rintro y H1 ⟨s1, c1, G1, ρ1, e1, p1, h1, r1, q1⟩
  refine ⟨δ, c1, G1, ρ1, hs.mono e1 p1, h1, (PostS.andS (rel := SRep T) (hs.mono e1 p1) q1).imp ?_⟩
  rintro v H2 ⟨s2, c2, G2, ρ2, e2, p2, h2, r2, q2⟩
  cases s1 with
  | c _ => exact q2.elim
  | x _ _ => exact q2.elim
  | d x =>
    cases s2 with
    | d _ => exact q2.elim
    | x _ _ => exact q2.elim
    | c n =>
      obtain ⟨pa, hpa, rfl⟩ := r2
      cases hc : c2[n]? with
      | none => simp only [hc] at q2; exact q2.elim
      | some cc =>
        cases cc with
        | lst _ => simp only [hc] at q2; exact q2.elim
        | lS _ => simp only [hc] at q2; exact q2.elim
        | tS _ => simp only [hc] at q2; exact q2.elim
        | tb _ => simp only [hc] at q2; exact q2.elim
        | dct _ => simp only [hc] at q2; exact q2.elim
        | obj k2 xs =>
          simp only [hc] at q2
          cases hl : look tbl k2 with
          | none => simp only [hl] at q2; exact q2.elim
          | some i =>
            simp only [hl] at q2
            cases hz : setF i x xs with
            | none => simp only [hz] at q2; exact q2.elim
            | some ys =>
              simp only [hz] at q2
              obtain ⟨hcl, hn, hi, nd, hlen⟩ := hf.get (look_mem hl)
              obtain ⟨g, dx, fv, ho, hfl, rr⟩ := h2.at_ n pa _ hpa hc
              have hfvl : fv.length ≤ (T.fl k2).length := by
                have := congrArg List.length hfl
                simp at this; omega
              refine ⟨pa, T.cl k2, dx, fv, rfl, ho, hcl, hn, by omega, ?_⟩
              refine q2 σ _ G2 ρ2 (.refl _) (List.prefix_refl _) ((hs.mono e1 p1).mono e2 p2) (h2.cell hpa fun H' hH' ex' => ?_)
              have hfx : fv.length = xs.length := by have := rr.length; simpa using this
              refine ⟨dx, _, hH', ?_⟩
              have rx := Rep.mono e2 x y r1
              unfold setF at hz
              by_cases hlt : i < xs.length
              · rw [if_pos hlt] at hz; cases hz
                obtain ⟨z1, z2⟩ := putF_old (v := y) (i := i) (f := f) (fv := fv) (by rw [hfl]; exact nd_take nd _) (by rw [hfl, List.getElem?_take_of_lt hlt]; exact hi)
                exact ⟨by rw [z1, hfl, List.length_set], by rw [z2]; exact Reps.set i rr rx⟩
              · rw [if_neg hlt] at hz
                by_cases heq : i = xs.length
                · rw [if_pos heq] at hz; cases hz
                  subst heq
                  have hil := (List.getElem?_eq_some_iff.mp hi).1
                  have hgi := (List.getElem?_eq_some_iff.mp hi).2
                  have hnf : f ∉ fv.map (·.1) := by
                    rw [hfl]
                    intro hm
                    obtain ⟨j, hj, ej⟩ := List.getElem_of_mem hm
                    rw [List.getElem_take] at ej
                    rw [List.length_take] at hj
                    have := (List.getElem_inj nd).mp (ej.trans hgi.symm)
                    omega
                  rw [putF_new hnf]
                  refine ⟨?_, by rw [List.map_append]; exact Reps.append rr (Reps.cons rx Reps.nil)⟩
                  rw [List.map_append, hfl, List.length_append]
                  show _ ++ [f] = List.take (xs.length + 1) _
                  rw [List.take_succ_eq_append_getElem hil, hgi]
                · rw [if_neg heq] at hz; cases hz

/-! ### new objects -/
def fin (k nf n : Nat) : R S → R S
  | .ok (.d .non) c => match c[n]? with
    | some (.obj k2 xs) => if k2 = k ∧ xs.length = nf ∧ c.length = n + 1 then .ok (.d (.obj k xs)) (c.take n) else .bad
    | _ => .bad
  | .ex e xs c => .ex e xs (c.take n)
  | _ => .bad
def mMake (k nf : Nat) (fn : List S → Cs → R S) (B : MA) : M := fun δ c => (B δ c).bind fun ss c => fin k nf c.length (fn (.c c.length :: ss) (c ++ [.obj k []]))
theorem make_core {k nf : Nat} {σ : L2.St} {H : Hp} {Q : VK} {ss : List S} {vs : List V} {c : Cs} {G : Hp} {ρ : List Addr} (hfl : (T.fl k).length = nf) (hh : RelH T H c G ρ) (rs : SReps T G ρ ss vs) (q : Post (SRep T) T W σ G ρ (fin k nf c.length (fn (.c c.length :: ss) (c ++ [.obj k []]))) Q) :
    ∀ x dx, H x = none → H dx = none → dx ≠ x → spD T fn (.ref x :: vs) (upd (upd H dx (.own x)) x (.ins (T.cl k) dx [])) (fun v H2 => v = .non ∧ Q (.ref x) H2) (WE W σ) := by
  intro x dx hx hdx ne
  have s1 : Step G H (upd G dx (.own x)) (upd H dx (.own x)) := Step.new hh.ex hdx
  have h1 := hh.step s1
  have hx1 : upd H dx (.own x) x = none := by rw [upd_ne (Ne.symm ne)]; exact hx
  have gx : upd G dx (.own x) x = none := h1.ex.back hx1
  have exx : Ex (upd G dx (.own x)) (upd (upd H dx (.own x)) x (.ins (T.cl k) dx [])) := h1.ex.trans (Ex.new hx1)
  have h2 : RelH T (upd (upd H dx (.own x)) x (.ins (T.cl k) dx [])) (c ++ [.obj k []]) (upd G dx (.own x)) (ρ ++ [x]) := by
    refine ⟨exx, by simp [h1.len], ?_, fun i p y a b => ?_⟩
    · refine List.nodup_append.mpr ⟨h1.nd, by simp, fun a ha b hb => ?_⟩
      have e : b = x := by simpa using hb
      subst e
      intro z
      subst z
      obtain ⟨i, hi, e⟩ := List.getElem_of_mem ha
      have hic : i < c.length := by rw [← h1.len]; exact hi
      obtain ⟨_, k1⟩ := h1.at_ i a c[i] (by rw [List.getElem?_eq_getElem hi, e]) (List.getElem?_eq_getElem hic)
      obtain ⟨o, ho⟩ := k1.some
      rw [hx1] at ho; cases ho
    · by_cases hi : i < ρ.length
      · rw [List.getElem?_append_left hi] at a
        rw [List.getElem?_append_left (by rw [← h1.len]; exact hi)] at b
        obtain ⟨g1, k1⟩ := h1.at_ i p y a b
        obtain ⟨o, ho⟩ := k1.some
        have np : p ≠ x := ne_of_none ho hx1
        exact ⟨g1, k1.keep (.refl _) (upd_ne np) (by rw [List.take_append_of_le_length (Nat.le_of_lt hi)]; exact List.prefix_refl _)⟩
      · have hc2 : i < (c ++ [CC.obj k []]).length := (List.getElem?_eq_some_iff.mp b).1
        have hi2 : i = ρ.length := by rw [List.length_append, ← h1.len] at hc2; simp at hc2; omega
        subst hi2
        rw [List.getElem?_append_right (Nat.le_refl _), Nat.sub_self] at a
        rw [List.getElem?_append_right (by rw [h1.len]; exact Nat.le_refl _), h1.len, Nat.sub_self] at b
        cases a; cases b
        exact ⟨gx, dx, [], upd_same, rfl, Reps.nil⟩
  refine ⟨.c c.length :: ss, c ++ [.obj k []], _, ρ ++ [x], .cons ⟨x, by rw [← hh.len]; simp, rfl⟩ (rs.mono s1.g (List.prefix_append _ _)), h2, ?_⟩
  cases hr : fn (.c c.length :: ss) (c ++ [.obj k []]) with
  | bad => rw [hr] at q; exact q
  | ex e xs c' =>
    rw [hr] at q
    intro d H' G' eg rh xr
    refine q d H' G' ρ (s1.g.trans eg) (List.prefix_refl _) ?_ xr
    have := rh.take (ρ := ρ) (List.prefix_append _ _)
    rw [hh.len] at this
    exact this
  | ok s c' =>
    rw [hr] at q
    cases s with
    | c n => exact q.elim
    | x _ _ => exact q.elim
    | d y =>
      cases y with
      | non =>
        unfold fin at q
        cases hc : c'[c.length]? with
        | none => simp only [hc] at q; exact q.elim
        | some cc =>
          cases cc with
          | lst _ => simp only [hc] at q; exact q.elim
          | lS _ => simp only [hc] at q; exact q.elim
          | tS _ => simp only [hc] at q; exact q.elim
          | tb _ => simp only [hc] at q; exact q.elim
          | dct _ => simp only [hc] at q; exact q.elim
          | obj k2 xs =>
            simp only [hc] at q
            by_cases hz : k2 = k ∧ xs.length = nf ∧ c'.length = c.length + 1
            · rw [if_pos hz] at q
              obtain ⟨rfl, hxl, hcl⟩ := hz
              intro v H' G' ρ' eg pr rh rv
              obtain rfl : ρ ++ [x] = ρ' := pr.eq_of_length (by rw [rh.len, hcl, List.length_append, hh.len]; rfl)
              have ev : v = .non := SRep.non_inv rv
              subst ev
              refine ⟨rfl, ?_⟩
              have hpx : (ρ ++ [x])[c.length]? = some x := by rw [← hh.len]; simp
              obtain ⟨g3, dx3, fv, ho, hfl3, rr⟩ := rh.at_ c.length x _ hpx hc
              obtain ⟨e3, r3⟩ := rh.frozen (ρ := ρ) (k := c.length) (List.prefix_append _ _) (by rw [hh.len]; exact Nat.le_refl _) hpx ho g3
              rw [hh.len] at r3
              refine q _ H' _ ρ ((s1.g.trans eg).trans e3) (List.prefix_refl _) r3 (Rep.obj upd_same ?_ (Reps.mono e3 _ _ rr))
              rw [hfl3, hxl, ← hfl, List.take_length]
            · rw [if_neg hz] at q; exact q.elim
      | _ => exact q.elim
theorem run_makeS {CX : CXT} {f C : Addr} {fd : FuncData} {ps : List Str} {sp : Sp} {E : L2.St → XK} {pins : List (Addr × Obj)} {σ : L2.St} {H : Hp} {s : Shared} {Q : VK} {us : List Value} {vs : List V} (M : Mk X.K C f) (F : FnOk X.prog X.w X.K X.mg X.base CX k f fd ps sp) (hr : Room (k + 1) X.A) (hb : Binds X.K fd ps [])
    (hx : PassesAt CX X σ (E σ)) (I : Inv X pins σ H s) (r : Vals vs us)
    (h : ∀ x dx, H x = none → H dx = none → dx ≠ x → sp (.ref x :: vs) (upd (upd H dx (.own x)) x (.ins C dx [])) (fun v H2 => v = .non ∧ Q (.ref x) H2) (E σ)) :
    wpAny (model X.prog X.w) X.A (call (.ref C) us) (EP X pins σ Q) X.xe s := by
  have hq := h (s.heap.objs.size + 1) s.heap.objs.size (I.hok.fresh (Nat.le_succ _)) (I.hok.fresh (Nat.le_refl _)) (Nat.ne_of_lt (Nat.lt_succ_self _))
  have I2 := Inv.made (C := C) I
  have r2 : Vals (V.ref (s.heap.objs.size + 1) :: vs) (Value.ref (s.heap.objs.size + 1) :: us) := .cons rfl r
  have hl : (Value.ref (s.heap.objs.size + 1) :: us).length = ps.length := by
    have e := r2.length
    rw [F.len _ _ _ _ hq] at e
    exact e.symm
  have b := hb _ (Value.ref (s.heap.objs.size + 1) :: us) I2.kIn (by rw [List.append_nil]; exact hl)
  rw [List.append_nil] at b
  refine wpAny_call (make_map (f := f) I.kIn M.makes M.init (beq_iff_eq.mp M.fn) (codeAny_mono (F.run _ X.stack _ _ ⟨Value.ref (s.heap.objs.size + 1) :: us, []⟩ (Value.ref (s.heap.objs.size + 1) :: us) _ _ (E σ) (hr.make C us [])
    (I2.env0.make C us []) b r2 hq) fun r s' hq' => ?_))
  cases r with
  | error e => exact hx pins _ _ e s' I2 hq'
  | ok fl =>
    cases fl with
    | ret u =>
      obtain ⟨v, H', I3, rv, ev, q3⟩ := I2.after hq'
      subst ev
      exact ⟨rv, ⟨V.ref (s.heap.objs.size + 1), H', I3, rfl, q3⟩⟩
    | next => exact False.elim hq'
    | brk => exact False.elim hq'
    | cont => exact False.elim hq'
theorem dn_make {x : Str} {n nf : Nat} {B : MA} (hf : MakeAt X.prog X.w X.K X.mg X.base T x n nf k fn) (hr : Room (k + 1) X.A) (tk : Takes X W) (hg : Gl X x) (ha : PA X (e :: es) (tDA T W B)) (hdb : (x == ("__debug__" : Str)) = false := by decide)
    (he : starEach (e :: es) X.env = (false, eval e X.env) :: starEach es X.env := by rfl) (hpl : (backTo pos (starEach es X.env)).any (·.1) = false := by rfl) : PE X (.Call (.Name x p) (e :: es) [] pos) (tD T W (mMake n nf fn B)) := by
  obtain ⟨f, fd, ps, F, hM, hm, hn, hb⟩ := hf
  refine ⟨fun pins s σ H Q I ⟨δ, c, G, ρ, hs, hh, p⟩ => ?_⟩
  refine wpAny_Call_Name_kw (ld_glob I hg hm ?_ hdb)
  refine PySem.W.callWith_K (h₀ := X.base) I.ok.mod.kin hM.kp (thn (ha.run pos pins s σ H _ I ⟨δ, c, G, ρ, hs, hh, Post.bind (rel := SReps T) p⟩) ?_) he hpl
  rintro us s1 ⟨vs, H1, I1, r, ss, c1, G1, ρ1, e1, p1, h1, r1, q1⟩
  exact ⟨I1.kIn, run_makeS (E := WE W) hM F hr hb (passAt tk σ) I1 r (make_core hn h1 r1 q1)⟩
end
end Dn

end
section
/-! Dn4: displays, what is walked, comprehensions, cells. -/
namespace Dn
open PySem PySem.Spec PyProof.Rows L2

section
variable {X : Cx} {T : Tb} {W : WX} {a b o e : Expr} {es : List Expr} {A B : M} {pos p apos : Pos}
/-! ### displays -/
def datas : List S → Option (List D)
  | [] => some []
  | .d x :: r => match datas r with
    | some xs => some (x :: xs)
    | none => none
  | _ :: _ => none
theorem datas_reps {G : Hp} {ρ : List Addr} : ∀ {ss : List S} {vs : List V} {ds : List D}, SReps T G ρ ss vs → datas ss = some ds → Reps T G ds vs
  | [], _, _, h, e => by cases h; cases e; exact Reps.nil
  | .c _ :: _, _, _, _, e => by cases e
  | .x _ _ :: _, _, _, _, e => by cases e
  | .d x :: r, _, ds, h, e => by
    cases h with
    | cons h1 h2 =>
      unfold datas at e
      cases e2 : datas r with
      | none => rw [e2] at e; cases e
      | some xs =>
        rw [e2] at e
        cases e
        exact Reps.cons h1 (datas_reps h2 e2)
def mkLst (ss : List S) (c : Cs) : R S := match datas ss with
  | some xs => if xs.length ≤ sizeLine then .ok (.d (.lst xs)) c else .bad
  | none => .bad
def mkTup (ss : List S) (c : Cs) : R S := match datas ss with
  | some xs => if xs.length ≤ sizeLine then .ok (.d (.tup xs)) c else .bad
  | none => .bad
def mkCell (ss : List S) (c : Cs) : R S := match datas ss with
  | some xs => if xs.length ≤ sizeLine then .ok (.c c.length) (c ++ [.lst xs]) else .bad
  | none => .bad
def mLst (B : MA) : M := fun δ c => (B δ c).bind mkLst
def mTup (B : MA) : M := fun δ c => (B δ c).bind mkTup
/-- a list that will be changed -/
def mCell (B : MA) : M := fun δ c => (B δ c).bind mkCell
theorem dn_lst {B : MA} (h : PA X es (tDA T W B)) : PE X (.List es pos) (tD T W (mLst B)) := by
  refine PE.imp (pe_lst h) fun σ H Q ⟨δ, c, G, ρ, hs, hh, p⟩ => ?_
  refine ⟨δ, c, G, ρ, hs, hh, (Post.bind (rel := SReps T) p).imp ?_⟩
  rintro vs H1 ⟨ss, c1, G1, ρ1, e1, p1, h1, r1, q1⟩
  unfold mkLst at q1
  cases hd : datas ss with
  | none => simp only [hd] at q1; exact q1.elim
  | some xs =>
    simp only [hd] at q1
    have rr := datas_reps r1 hd
    by_cases hl : xs.length ≤ sizeLine
    · rw [if_pos hl] at q1
      refine ⟨by rw [rr.length]; exact hl, fun p hp => ?_⟩
      have st : Step G1 H1 (upd G1 p (.lst vs)) (upd H1 p (.lst vs)) := Step.new h1.ex hp
      exact q1 _ _ _ ρ1 st.g (List.prefix_refl _) (h1.step st) (Rep.lst upd_same hl (Reps.mono st.g _ _ rr))
    · rw [if_neg hl] at q1; exact q1.elim
theorem dn_tup {B : MA} {x1} (h : PA X es (tDA T W B)) : PE X (.Tuple es x1 pos) (tD T W (mTup B)) := by
  refine PE.imp (pe_tup h) fun σ H Q ⟨δ, c, G, ρ, hs, hh, p⟩ => ?_
  refine ⟨δ, c, G, ρ, hs, hh, (Post.bind (rel := SReps T) p).imp ?_⟩
  rintro vs H1 ⟨ss, c1, G1, ρ1, e1, p1, h1, r1, q1⟩
  unfold mkTup at q1
  cases hd : datas ss with
  | none => simp only [hd] at q1; exact q1.elim
  | some xs =>
    simp only [hd] at q1
    have rr := datas_reps r1 hd
    by_cases hl : xs.length ≤ sizeLine
    · rw [if_pos hl] at q1
      refine ⟨by rw [rr.length]; exact hl, fun p hp => ?_⟩
      have st : Step G1 H1 (upd G1 p (.tup vs)) (upd H1 p (.tup vs)) := Step.new h1.ex hp
      exact q1 _ _ _ ρ1 st.g (List.prefix_refl _) (h1.step st) (Rep.tup upd_same hl (Reps.mono st.g _ _ rr))
    · rw [if_neg hl] at q1; exact q1.elim
/-- a new cell -/
theorem RelH.newCell {H : Hp} {c : Cs} {G : Hp} {ρ : List Addr} {p : Addr} {ob : HO} {x : CC} (r : RelH T H c G ρ) (hp : H p = none) (hx : ∀ H', H' p = some ob → CellOk T G H' ρ p x) : RelH T (upd H p ob) (c ++ [x]) G (ρ ++ [p]) := by
  have gp : G p = none := r.ex.back hp
  have ex' : Ex G (upd H p ob) := r.ex.trans (Ex.new hp)
  refine ⟨ex', by simp [r.len], ?_, fun i q z a b => ?_⟩
  · refine List.nodup_append.mpr ⟨r.nd, by simp, fun a ha b hb => ?_⟩
    have e : b = p := by simpa using hb
    subst e
    intro z
    subst z
    obtain ⟨i, hi, e⟩ := List.getElem_of_mem ha
    have hic : i < c.length := by rw [← r.len]; exact hi
    obtain ⟨_, k1⟩ := r.at_ i a c[i] (by rw [List.getElem?_eq_getElem hi, e]) (List.getElem?_eq_getElem hic)
    obtain ⟨o, ho⟩ := k1.some
    rw [hp] at ho; cases ho
  · by_cases hi : i < ρ.length
    · rw [List.getElem?_append_left hi] at a
      rw [List.getElem?_append_left (by rw [← r.len]; exact hi)] at b
      obtain ⟨g1, k1⟩ := r.at_ i q z a b
      obtain ⟨o, ho⟩ := k1.some
      have np : q ≠ p := ne_of_none ho hp
      exact ⟨g1, k1.keep (.refl _) (upd_ne np) (by rw [List.take_append_of_le_length (Nat.le_of_lt hi)]; exact List.prefix_refl _)⟩
    · have hc2 : i < (c ++ [x]).length := (List.getElem?_eq_some_iff.mp b).1
      have hi2 : i = ρ.length := by rw [List.length_append, ← r.len] at hc2; simp at hc2; omega
      subst hi2
      rw [List.getElem?_append_right (Nat.le_refl _), Nat.sub_self] at a
      rw [List.getElem?_append_right (by rw [r.len]; exact Nat.le_refl _), r.len, Nat.sub_self] at b
      cases a; cases b
      rw [List.take_append_of_le_length (Nat.le_refl _), List.take_length]
      exact ⟨gp, hx _ upd_same⟩
theorem dn_cell {B : MA} (h : PA X es (tDA T W B)) : PE X (.List es pos) (tD T W (mCell B)) := by
  refine PE.imp (pe_lst h) fun σ H Q ⟨δ, c, G, ρ, hs, hh, p⟩ => ?_
  refine ⟨δ, c, G, ρ, hs, hh, (Post.bind (rel := SReps T) p).imp ?_⟩
  rintro vs H1 ⟨ss, c1, G1, ρ1, e1, p1, h1, r1, q1⟩
  unfold mkCell at q1
  cases hd : datas ss with
  | none => simp only [hd] at q1; exact q1.elim
  | some xs =>
    simp only [hd] at q1
    have rr := datas_reps r1 hd
    by_cases hl : xs.length ≤ sizeLine
    · rw [if_pos hl] at q1
      refine ⟨by rw [rr.length]; exact hl, fun p hp => ?_⟩
      exact q1 _ _ G1 (ρ1 ++ [p]) (.refl _) (List.prefix_append _ _) (h1.newCell hp fun H' hH' => ⟨vs, hH', hl, rr⟩) ⟨p, by rw [← h1.len]; simp, rfl⟩
    · rw [if_neg hl] at q1; exact q1.elim

/-! ### what is walked -/
theorem walk_tup {G : Hp} {ρ : List Addr} {q : Addr} {xs : List S} {vs : List V} (h : SqT T.K G q vs) (r : SReps T G ρ xs vs) : Walk T G ρ xs (Itt T.K q) := by
  refine ⟨fun i H e hi => ⟨vs, vs[i]'(by rw [r.length]; exact hi), ex_t e h, List.getElem?_eq_getElem _⟩, fun i H e hi => ⟨vs, ex_t e h, by rw [r.length]; exact hi⟩, fun i H G1 ρ1 x H' e1 pr e2 y d hd => ?_⟩
  obtain ⟨rfl, y⟩ := y
  obtain ⟨v, hv, rv⟩ := r.get hd
  have := y vs (ex_t (e1.trans e2) h)
  rw [hv] at this; cases this
  exact ⟨G1, Step.refl e2, rv.mono e1 pr⟩
theorem PI.or {tg l : Expr} {t u : TI} (h : PI X tg l t) (k : PI X tg l u) : PI X tg l (fun σ H Q => t σ H Q ∨ u σ H Q) := ⟨fun pins s σ H Q I q => q.elim (h.run pins s σ H Q I) (k.run pins s σ H Q I)⟩
/-- the items of a list or a tuple -/
def items : S → Cs → R Src
  | .d (.scr ns), c => .ok (.xs (ns.map fun n => S.d (D.int n))) c
  | .d (.lst xs), c => .ok (.xs (xs.map S.d)) c
  | .d (.tup xs), c => .ok (.xs (xs.map S.d)) c
  | .c n, c => match cellL n c with
    | some _ => .ok (.cell n) c
    | none => .bad
  | _, _ => .bad
def iSeq (A : M) : MI := fun δ c => (A δ c).bind items
theorem walk_list' {G : Hp} {ρ : List Addr} {q : Addr} {xs : List S} {vs : List V} (h : SqL T.K G q vs) (r : SReps T G ρ xs vs) : Walk T G ρ xs (Itl T.K q) := by
  refine ⟨fun i H e hi => ⟨vs, vs[i]'(by rw [r.length]; exact hi), ex_l e h, List.getElem?_eq_getElem _⟩, fun i H e hi => ⟨vs, ex_l e h, by rw [r.length]; exact hi⟩, fun i H G1 ρ1 x H' e1 pr e2 y d hd => ?_⟩
  obtain ⟨rfl, y⟩ := y
  obtain ⟨v, hv, rv⟩ := r.get hd
  have := y vs (ex_l (e1.trans e2) h)
  rw [hv] at this; cases this
  exact ⟨G1, Step.refl e2, rv.mono e1 pr⟩
theorem di_seq {tg l : Expr} (hT : X.K = T.K) (hl : PE X l (tD T W A)) : PI X tg l (tI T W (iSeq A)) := by
  refine PI.imp (PI.or (pi_list hl) (pi_tup hl)) fun σ H Q ⟨δ, c, G, ρ, hs, hh, p⟩ => ?_
  rw [hT]
  unfold iSeq at p
  cases hA : A δ c with
  | bad => rw [hA] at p; exact p.elim
  | ex k xs c' =>
    rw [hA] at p
    exact .inl ⟨δ, c, G, ρ, hs, hh, by rw [hA]; exact p⟩
  | ok s c' =>
    rw [hA] at p
    cases s with
    | c n =>
      have p : Post (relI T) T W σ G ρ (items (.c n) c') Q := p
      unfold items at p
      cases hc : cellL n c' with
      | none => simp only [hc] at p; exact p.elim
      | some xs =>
        simp only [hc] at p
        refine .inl ⟨δ, c, G, ρ, hs, hh, ?_⟩
        rw [hA]
        intro v H1 G1 ρ1 e1 p1 h1 r1
        obtain ⟨q, hq, rfl⟩ := r1
        obtain ⟨us, ho, hl, rr⟩ := cellL_rep h1 hq hc
        exact ⟨q, rfl, ⟨us, SqL.of ho⟩, p _ H1 G1 ρ1 e1 p1 h1 ⟨q, hq, rfl⟩⟩
    | x _ _ => exact p.elim
    | d x =>
      cases x with
      | lst xs =>
        refine .inl ⟨δ, c, G, ρ, hs, hh, ?_⟩
        rw [hA]
        intro v H1 G1 ρ1 e1 p1 h1 r1
        obtain ⟨q, vs, rfl, sq, hl, rr⟩ := Rep.lst_inv (show Rep T G1 (.lst xs) v from r1)
        exact ⟨q, rfl, ⟨vs, SqL.of (h1.ex _ _ sq)⟩, p _ H1 G1 ρ1 e1 p1 h1 ⟨walk_list' (SqL.of sq) (.ofD rr), by simpa using hl⟩⟩
      | scr ns =>
        refine .inl ⟨δ, c, G, ρ, hs, hh, ?_⟩
        rw [hA]
        intro v H1 G1 ρ1 e1 p1 h1 r1
        obtain ⟨q, rfl, sq, hl⟩ := Rep.scr_inv (show Rep T G1 (.scr ns) v from r1)
        refine ⟨q, rfl, ⟨_, ex_l h1.ex sq⟩, p _ H1 G1 ρ1 e1 p1 h1 ⟨walk_list' sq ?_, by simpa using hl⟩⟩
        have := SReps.ofD (T := T) (ρ := ρ1) (Reps.map_int (T := T) (G := G1) ns)
        rw [List.map_map] at this
        exact this
      | tup xs =>
        refine .inr ⟨δ, c, G, ρ, hs, hh, ?_⟩
        rw [hA]
        intro v H1 G1 ρ1 e1 p1 h1 r1
        obtain ⟨q, vs, rfl, sq, hl, rr⟩ := Rep.tup_inv (show Rep T G1 (.tup xs) v from r1)
        exact ⟨q, rfl, ⟨vs, SqT.of (h1.ex _ _ sq)⟩, p _ H1 G1 ρ1 e1 p1 h1 ⟨walk_tup (SqT.of sq) (.ofD rr), by simpa using hl⟩⟩
      | _ => exact p.elim
def rngL (lo : Int) (n : Nat) : List D := (List.range n).map fun (i : Nat) => D.int (lo + (i : Int))
theorem rngL_len {lo : Int} {n : Nat} : (rngL lo n).length = n := by simp [rngL]
theorem walk_range {G : Hp} {ρ : List Addr} {lo : Int} {n : Nat} : Walk T G ρ ((rngL lo n).map S.d) (Itr lo n) := by
  refine ⟨fun i H e hi => by rw [List.length_map, rngL_len] at hi; exact hi, fun i H e hi => by rw [List.length_map, rngL_len] at hi; exact hi, fun i H G1 ρ1 x H' e1 pr e2 y d hd => ?_⟩
  obtain ⟨rfl, rfl⟩ := y
  refine ⟨G1, Step.refl e2, ?_⟩
  unfold rngL at hd
  rw [List.getElem?_map, List.getElem?_map] at hd
  cases h : (List.range n)[i]? with
  | none => rw [h] at hd; cases hd
  | some j =>
    rw [h] at hd
    have := (List.getElem?_eq_some_iff.mp h).2
    simp at this
    subst this
    cases hd
    exact SRep.int
def rng1 : List S → Cs → R Src
  | [.d (.int j)], c => if j ≤ 16777216 ∧ -(2 ^ 62) ≤ j then .ok (.xs ((rngL 0 j.toNat).map S.d)) c else .bad
  | _, _ => .bad
def rng2 : List S → Cs → R Src
  | [.d (.int i), .d (.int j)], c => if j ≤ 16777216 ∧ -(2 ^ 62) ≤ j ∧ 0 ≤ i ∧ i ≤ 16777216 then .ok (.xs ((rngL i (j - i).toNat).map S.d)) c else .bad
  | _, _ => .bad
def iRng (B : MA) : MI := fun δ c => (B δ c).bind rng1
def iRng2' (B : MA) : MI := fun δ c => (B δ c).bind rng2
theorem SReps.one {G : Hp} {ρ : List Addr} {s : S} {vs : List V} (h : SReps T G ρ [s] vs) : ∃ v, vs = [v] ∧ SRep T G ρ s v := by
  cases h with
  | cons a b => cases b; exact ⟨_, rfl, a⟩
theorem SReps.two {G : Hp} {ρ : List Addr} {s t : S} {vs : List V} (h : SReps T G ρ [s, t] vs) : ∃ v u, vs = [v, u] ∧ SRep T G ρ s v ∧ SRep T G ρ t u := by
  cases h with
  | cons a b =>
    obtain ⟨u, rfl, r⟩ := b.one
    exact ⟨_, _, rfl, a, r⟩
theorem di_range {tg : Expr} {B : MA} (hg : Gl X "range") (hm : X.mg "range" = none) (ha : PA X [a] (tDA T W B)) (hs : starEach [a] X.env = [(false, eval a X.env)] := by rfl) : PI X tg (.Call (.Name "range" p) [a] [] pos) (tI T W (iRng B)) := by
  refine PI.imp (pi_range1 hg hm ha hs) fun σ H Q ⟨δ, c, G, ρ, hs, hh, p⟩ => ?_
  refine ⟨δ, c, G, ρ, hs, hh, (Post.bind (rel := SReps T) p).imp ?_⟩
  rintro vs H1 ⟨ss, c1, G1, ρ1, e1, p1, h1, r1, q1⟩
  unfold rng1 at q1
  split at q1
  · rename_i c j
    split at q1
    · rename_i hj
      obtain ⟨v, rfl, r⟩ := r1.one
      have := SRep.int_inv r
      subst this
      refine ⟨j, rfl, by omega, by omega, q1 _ H1 G1 ρ1 (.refl _) (List.prefix_refl _) h1 ⟨walk_range, ?_⟩⟩
      rw [List.length_map, rngL_len, sizeLine_eq]; omega
    · exact q1.elim
  · exact q1.elim
theorem di_range2 {tg : Expr} {B : MA} (hg : Gl X "range") (hm : X.mg "range" = none) (ha : PA X [a, b] (tDA T W B)) (hs : starEach [a, b] X.env = [(false, eval a X.env), (false, eval b X.env)] := by rfl) (hs2 : starEach [b] X.env = [(false, eval b X.env)] := by rfl) : PI X tg (.Call (.Name "range" p) [a, b] [] pos) (tI T W (iRng2' B)) := by
  refine PI.imp (pi_range2 hg hm ha hs hs2) fun σ H Q ⟨δ, c, G, ρ, hs, hh, p⟩ => ?_
  refine ⟨δ, c, G, ρ, hs, hh, (Post.bind (rel := SReps T) p).imp ?_⟩
  rintro vs H1 ⟨ss, c1, G1, ρ1, e1, p1, h1, r1, q1⟩
  unfold rng2 at q1
  split at q1
  · rename_i c i j
    split at q1
    · rename_i hj
      obtain ⟨v, u, rfl, r, r'⟩ := r1.two
      have := SRep.int_inv r
      subst this
      have := SRep.int_inv r'
      subst this
      refine ⟨i, j, rfl, ⟨by omega, by omega, by omega, by omega⟩, q1 _ H1 G1 ρ1 (.refl _) (List.prefix_refl _) h1 ⟨walk_range, ?_⟩⟩
      rw [List.length_map, rngL_len, sizeLine_eq]; omega
    · exact q1.elim
  · exact q1.elim
/-- zip of two lists, or of two tuples -/
def zipL : List D → List D → List D
  | x :: xs, y :: ys => .tup [x, y] :: zipL xs ys
  | _, _ => []
theorem zipL_get : ∀ {xs ys : List D} {i : Nat} {x y : D}, xs[i]? = some x → ys[i]? = some y → (zipL xs ys)[i]? = some (.tup [x, y])
  | [], _, _, _, _, h, _ => by simp at h
  | _ :: _, [], _, _, _, _, h => by simp at h
  | x :: xs, y :: ys, 0, _, _, h, k => by simp at h k; subst h; subst k; rfl
  | x :: xs, y :: ys, i + 1, _, _, h, k => by
    show (zipL xs ys)[i]? = _
    exact zipL_get (by simpa using h) (by simpa using k)
theorem zipL_len : ∀ (xs ys : List D), (zipL xs ys).length = min xs.length ys.length
  | [], ys => by simp [zipL]
  | _ :: _, [] => by simp [zipL]
  | x :: xs, y :: ys => by simp [zipL, zipL_len xs ys]
theorem zipL_inv {xs ys : List D} {i : Nat} {d : D} (h : (zipL xs ys)[i]? = some d) : ∃ x y, xs[i]? = some x ∧ ys[i]? = some y ∧ d = .tup [x, y] := by
  have hi := (List.getElem?_eq_some_iff.mp h).1
  rw [zipL_len] at hi
  have h1 : i < xs.length := by omega
  have h2 : i < ys.length := by omega
  have := zipL_get (List.getElem?_eq_getElem h1) (List.getElem?_eq_getElem h2)
  rw [h] at this
  exact ⟨_, _, List.getElem?_eq_getElem h1, List.getElem?_eq_getElem h2, Option.some.inj this⟩
theorem walk_zip {G : Hp} {ρ : List Addr} {p q : Addr} {xs ys : List D} {vs us : List V} (h : SqL T.K G p vs) (k : SqL T.K G q us) (r : Reps T G xs vs) (r' : Reps T G ys us) : Walk T G ρ ((zipL xs ys).map S.d) (Itz T.K p q) := by
  refine ⟨fun i H e hi => ?_, fun i H e hi => ⟨vs, us, ex_l e h, ex_l e k, ?_⟩, fun i H G1 ρ1 x H' e1 pr e2 y d hd => ?_⟩
  · rw [List.length_map, zipL_len] at hi
    exact ⟨vs, us, vs[i]'(by rw [r.length]; omega), us[i]'(by rw [r'.length]; omega), ex_l e h, ex_l e k, List.getElem?_eq_getElem _, List.getElem?_eq_getElem _⟩
  · rw [List.length_map, zipL_len] at hi
    rw [r.length, r'.length]; omega
  · obtain ⟨Tt, x1, y1, rfl, hT, rfl, y1h, y2h⟩ := y
    rw [List.getElem?_map] at hd
    obtain ⟨d0, hd0, rfl⟩ := Option.map_eq_some_iff.mp hd
    obtain ⟨d1, d2, hd1, hd2, rfl⟩ := zipL_inv hd0
    obtain ⟨v1, hv1, rv1⟩ := r.get hd1
    obtain ⟨v2, hv2, rv2⟩ := r'.get hd2
    have z1 := y1h vs (ex_l (e1.trans e2) h)
    have z2 := y2h us (ex_l (e1.trans e2) k)
    rw [hv1] at z1
    rw [hv2] at z2
    obtain rfl : v1 = x1 := Option.some.inj z1
    obtain rfl : v2 = y1 := Option.some.inj z2
    have st : Step G1 H (upd G1 Tt (.tup [v1, v2])) (upd H Tt (.tup [v1, v2])) := Step.new e2 hT
    exact ⟨_, st, Rep.tup upd_same (by show 2 ≤ sizeLine; decide) (Reps.cons (Rep.mono (e1.trans st.g) _ _ rv1) (Reps.cons (Rep.mono (e1.trans st.g) _ _ rv2) Reps.nil))⟩
theorem walk_zipT {G : Hp} {ρ : List Addr} {p q : Addr} {xs ys : List D} {vs us : List V} (h : SqT T.K G p vs) (k : SqT T.K G q us) (r : Reps T G xs vs) (r' : Reps T G ys us) : Walk T G ρ ((zipL xs ys).map S.d) (RZ.ItzT T.K p q) := by
  refine ⟨fun i H e hi => ?_, fun i H e hi => ⟨vs, us, ex_t e h, ex_t e k, ?_⟩, fun i H G1 ρ1 x H' e1 pr e2 y d hd => ?_⟩
  · rw [List.length_map, zipL_len] at hi
    exact ⟨vs, us, vs[i]'(by rw [r.length]; omega), us[i]'(by rw [r'.length]; omega), ex_t e h, ex_t e k, List.getElem?_eq_getElem _, List.getElem?_eq_getElem _⟩
  · rw [List.length_map, zipL_len] at hi
    rw [r.length, r'.length]; omega
  · obtain ⟨Tt, x1, y1, rfl, hT, rfl, y1h, y2h⟩ := y
    rw [List.getElem?_map] at hd
    obtain ⟨d0, hd0, rfl⟩ := Option.map_eq_some_iff.mp hd
    obtain ⟨d1, d2, hd1, hd2, rfl⟩ := zipL_inv hd0
    obtain ⟨v1, hv1, rv1⟩ := r.get hd1
    obtain ⟨v2, hv2, rv2⟩ := r'.get hd2
    have z1 := y1h vs (ex_t (e1.trans e2) h)
    have z2 := y2h us (ex_t (e1.trans e2) k)
    rw [hv1] at z1
    rw [hv2] at z2
    obtain rfl : v1 = x1 := Option.some.inj z1
    obtain rfl : v2 = y1 := Option.some.inj z2
    have st : Step G1 H (upd G1 Tt (.tup [v1, v2])) (upd H Tt (.tup [v1, v2])) := Step.new e2 hT
    exact ⟨_, st, Rep.tup upd_same (by show 2 ≤ sizeLine; decide) (Reps.cons (Rep.mono (e1.trans st.g) _ _ rv1) (Reps.cons (Rep.mono (e1.trans st.g) _ _ rv2) Reps.nil))⟩
def zip2 : List S → Cs → R Src
  | [.d (.lst xs), .d (.lst ys)], c => .ok (.xs ((zipL xs ys).map S.d)) c
  | [.d (.tup xs), .d (.tup ys)], c => .ok (.xs ((zipL xs ys).map S.d)) c
  | _, _ => .bad
def iZip' (B : MA) : MI := fun δ c => (B δ c).bind zip2
theorem di_zip {elts : List Expr} {kk : Nat} {tpos : Pos} {B : MA} (hT : X.K = T.K) (hg : Gl X "zip") (hm : X.mg "zip" = none) (ha : PA X [a, b] (tDA T W B)) (hs : starEach [a, b] X.env = (false, eval a X.env) :: starEach [b] X.env := by rfl) (hpl : (backTo pos (starEach [b] X.env)).any (·.1) = false := by rfl) :
    PI X (.Tuple elts kk tpos) (.Call (.Name "zip" p) [a, b] [] pos) (tI T W (iZip' B)) := by
  refine PI.imp (RZ.pi_zipA hg hm ha hs hpl) fun σ H Q ⟨δ, c, G, ρ, hs, hh, p⟩ => ?_
  refine ⟨δ, c, G, ρ, hs, hh, (Post.bind (rel := SReps T) p).imp ?_⟩
  rintro vs H1 ⟨ss, c1, G1, ρ1, e1, p1, h1, r1, q1⟩
  unfold zip2 at q1
  rw [hT]
  split at q1
  · rename_i c xs ys
    obtain ⟨v, u, rfl, r, r'⟩ := r1.two
    obtain ⟨q, vs, rfl, sq, hl, rr⟩ := Rep.lst_inv (show Rep T G1 (.lst xs) v from r)
    obtain ⟨q', vs', rfl, sq', hl', rr'⟩ := Rep.lst_inv (show Rep T G1 (.lst ys) u from r')
    refine ⟨q, q', vs, vs', rfl, .inl ⟨SqL.of (h1.ex _ _ sq), SqL.of (h1.ex _ _ sq'), q1 _ H1 G1 ρ1 (.refl _) (List.prefix_refl _) h1 ⟨walk_zip (SqL.of sq) (SqL.of sq') rr rr', ?_⟩⟩⟩
    rw [List.length_map, zipL_len]; omega
  · rename_i c xs ys
    obtain ⟨v, u, rfl, r, r'⟩ := r1.two
    obtain ⟨q, vs, rfl, sq, hl, rr⟩ := Rep.tup_inv (show Rep T G1 (.tup xs) v from r)
    obtain ⟨q', vs', rfl, sq', hl', rr'⟩ := Rep.tup_inv (show Rep T G1 (.tup ys) u from r')
    refine ⟨q, q', vs, vs', rfl, .inr ⟨SqT.of (h1.ex _ _ sq), SqT.of (h1.ex _ _ sq'), q1 _ H1 G1 ρ1 (.refl _) (List.prefix_refl _) h1 ⟨walk_zipT (SqT.of sq) (SqT.of sq') rr rr', ?_⟩⟩⟩
    rw [List.length_map, zipL_len]; omega
  · exact q1.elim

/-! ### comprehensions -/
def wipeD (δ : Sl) : List Nat → Sl
  | [] => δ
  | v :: vs => (wipeD δ vs).set v none
theorem wipeD_length (δ : Sl) : ∀ vs : List Nat, (wipeD δ vs).length = δ.length
  | [] => rfl
  | v :: vs => by unfold wipeD; rw [List.length_set, wipeD_length δ vs]
theorem RelS.wipe {G : Hp} {ρ : List Addr} {σ : L2.St} {δ : Sl} (r : RelS T G ρ σ δ) : ∀ vs : List Nat, RelS T G ρ (wipe σ vs) (wipeD δ vs)
  | [] => r
  | v :: vs => by unfold L2.wipe wipeD; exact (RelS.wipe r vs).unset v none
def mtYes : MT := fun _ c => .ok true c
theorem dts_nil : PTs X [] (tDT T W mtYes) := by
  refine ⟨fun pins s σ H Q I ⟨δ, c, G, ρ, hs, hh, p⟩ => ?_⟩
  exact pts_nil.run pins s σ H Q I (p true H G ρ (.refl _) (List.prefix_refl _) hh rfl)
theorem dts_one {c : Expr} {C : MT} (h : PT X c (tDT T W C)) : PTs X [c] (tDT T W C) := pts_one h
abbrev W0 : WX := fun _ _ _ _ => False
theorem wipe_get {σ : L2.St} {j : Nat} : ∀ {vs : List Nat}, (wipe σ vs)[j]? = if j ∈ vs then (if j < σ.length then some none else none) else σ[j]?
  | [] => by simp [L2.wipe]
  | v :: vs => by
    unfold L2.wipe
    by_cases h : v = j
    · subst h
      by_cases hl : v < σ.length
      · rw [List.getElem?_set_self (by rw [wipe_length]; exact hl)]; simp [hl]
      · rw [List.getElem?_eq_none (by rw [List.length_set, wipe_length]; omega)]; simp [hl]
    · rw [List.getElem?_set_ne h, wipe_get]
      have : ¬ j = v := fun z => h z.symm
      simp [this]
theorem wipe_set {σ : L2.St} {vs : List Nat} {i : Nat} {o : Option V} (h : i ∈ vs) : wipe (σ.set i o) vs = wipe σ vs := by
  apply List.ext_getElem?
  intro j
  rw [wipe_get, wipe_get]
  by_cases hj : j ∈ vs
  · simp [hj]
  · simp only [hj, if_false]
    rw [List.getElem?_set_ne]
    intro z
    subst z
    exact hj h
theorem wipe_wipe {σ : L2.St} {vs : List Nat} : wipe (wipe σ vs) vs = wipe σ vs := by
  apply List.ext_getElem?
  intro j
  rw [wipe_get, wipe_get, wipe_length]
  by_cases hj : j ∈ vs
  · simp [hj]
  · simp [hj]
/-- targets of a comprehension: the slots vs alone are changed -/
def tGv (T : Tb) (g : GT) (vs : List Nat) : TG := fun v σ H Q => ∃ s δ c G ρ δ', RelH T H c G ρ ∧ SRep T G ρ s v ∧ RelS T G ρ σ δ ∧ g s c δ = some δ' ∧ ∀ σ', RelS T G ρ σ' δ' → wipe σ' vs = wipe σ vs → Q σ' H
def tGvs (T : Tb) (g : GTs) (vs : List Nat) : TGs := fun v σ H Q => ∃ ss δ c G ρ δ', RelH T H c G ρ ∧ SReps T G ρ ss v ∧ RelS T G ρ σ δ ∧ g ss c δ = some δ' ∧ ∀ σ', RelS T G ρ σ' δ' → wipe σ' vs = wipe σ vs → Q σ' H
theorem dv_name {i : Nat} {x : Str} {vs : List Nat} (hN : X.N.Nodup) (hi : X.N[i]? = some x) (hx : Loc X.env.scope x) (hv : i ∈ vs) (hf : X.fn x = true ∨ X.env.scope.names.lookup x = some .local := by first | exact .inl rfl | exact .inr rfl | assumption) : PG X (.Name x pos) (tGv T (gtName i) vs) := by
  refine PG.imp (pg_name hN hi hx hf) ?_
  rintro v σ H Q ⟨s, δ, c, G, ρ, δ', e, r, hs, hd, q⟩
  cases hd
  exact q _ (hs.set i r) (wipe_set hv)
theorem dvs_nil {vs : List Nat} : PGs X [] (tGvs T gtNil vs) := PGs.imp pgs_nil fun v σ H Q ⟨ds, δ, c, G, ρ, δ', e, r, hs, hd, q⟩ => by
  cases ds with
  | nil => cases hd; exact ⟨r.nil_inv, q _ hs rfl⟩
  | cons _ _ => cases hd
theorem dvs_cons {e : Expr} {es : List Expr} {g : GT} {gs : GTs} {vs : List Nat} (h1 : PG X e (tGv T g vs)) (h2 : PGs X es (tGvs T gs vs))
    (hs : (assignEach (e :: es) X.env).map (·.2) = assign e X.env :: (assignEach es X.env).map (·.2) := by rfl) : PGs X (e :: es) (tGvs T (gtCons g gs) vs) := by
  refine PGs.imp (pgs_cons h1 h2 hs) fun v σ H Q ⟨ds, δ, c, G, ρ, δ', e, r, hs, hd, q⟩ => ?_
  cases ds with
  | nil => cases hd
  | cons d ds =>
    obtain ⟨v0, vr, rfl, r0, rr⟩ := r.cons_inv
    unfold gtCons at hd
    cases h : g d c δ with
    | none => simp only [h] at hd; cases hd
    | some δ1 =>
      simp only [h] at hd
      exact ⟨v0, vr, rfl, d, δ, c, G, ρ, δ1, e, r0, hs, h, fun σ' s' w1 => ⟨ds, δ1, c, G, ρ, δ', e, rr, s', hd, fun σ2 s2 w2 => q σ2 s2 (w2.trans w1)⟩⟩
theorem dv_tup {es : List Expr} {k : Nat} {gs : GTs} {n : Nat} {vs : List Nat} (hc : X.calm = true) (hT : X.K = T.K) (h : PGs X es (tGvs T gs vs)) (hl : ∀ ds c δ δ', gs ds c δ = some δ' → ds.length = n)
    (hn : (assignEach es X.env).length = n := by rfl) (hst : (assignEach es X.env).findIdx? (·.1) = none := by rfl) : PG X (.Tuple es k pos) (tGv T (gtTup gs) vs) := by
  refine PG.imp (pg_tup hc h hn hst) fun v σ H Q ⟨s, δ, c, G, ρ, δ', e, r, hs, hd, q⟩ => ?_
  unfold gtTup at hd
  cases ht : tupOf s c with
  | none => simp only [ht] at hd; cases hd
  | some ss =>
    simp only [ht] at hd
    obtain ⟨p, vs, rfl, hp, rr⟩ := tupOf_rep e r ht
    exact ⟨p, vs, rfl, SqT.of hp, by rw [rr.length]; exact hl ss c δ δ' hd, ss, δ, c, G, ρ, δ', e, rr, hs, hd, q⟩
/-- an error is not carried on -/
def R.bindN {α β : Type} : R α → (α → Cs → R β) → R β
  | .ok a c, f => f a c
  | _, _ => .bad
theorem Post.bindN {α β γ ε : Type} {rel : Hp → List Addr → α → β → Prop} {rel2 : Hp → List Addr → γ → ε → Prop} {r : R α} {f : α → Cs → R γ} {Q2 : ε → Hp → Prop} {σ σ' : L2.St} {Go G : Hp} {ρo ρ : List Addr} {Wx : WX} (h : Post rel2 T W σ Go ρo (r.bindN f) Q2) :
    Post rel T Wx σ' G ρ r (fun v H1 => ∃ a c G1 ρ1, Ex G G1 ∧ ρ <+: ρ1 ∧ RelH T H1 c G1 ρ1 ∧ rel G1 ρ1 a v ∧ Post rel2 T W σ Go ρo (f a c) Q2) := by
  cases r with
  | ok a c => exact fun v H' G' ρ' e p q z => ⟨a, c, G', ρ', e, p, q, z, h⟩
  | ex k xs c => exact False.elim h
  | bad => exact h
def cloop (g : GT) (C : MT) (body : Sl → Cs → R Unit) (δ : Sl) : List S → Cs → R Unit
  | [], c => .ok () c
  | d :: ds, c => match g d c δ with
    | none => .bad
    | some δ1 => (C δ1 c).bindN fun k c => if k = true then (body δ1 c).bindN fun _ c => cloop g C body δ ds c else cloop g C body δ ds c
theorem bindN_assoc {α β γ : Type} {r : R α} {f : α → Cs → R β} {k : β → Cs → R γ} : (r.bindN f).bindN k = r.bindN fun a c => (f a c).bindN k := by
  cases r <;> rfl
theorem lc_loop {G1 Gw : Hp} {ρm ρw : List Addr} {xs : List S} {J : It} {g : GT} {C : MT} {body : Sl → Cs → R Unit} {δ : Sl} {σw : L2.St} {vs : List Nat} {H0 : Hp} {c0 : Cs} {Go : Hp} {ρo : List Addr} {σ : L2.St} {Q : VK} {kf : Unit → Cs → R S} {BODY : L2.St → Hp → (Hp → Prop) → Prop} {Qend : Hp → Prop}
    (hw : Walk T Gw ρw xs J) (hwg : Ex Gw G1) (hwr : ρw <+: ρm) (hs : RelS T G1 ρm σw δ) (hww : wipe σw vs = σw) (h0 : RelH T H0 c0 G1 ρm) (p0 : Post (SRep T) T W σ Go ρo ((cloop g C body δ xs c0).bindN kf) Q)
    (hend : ∀ H c G ρ', Ex G1 G → ρm <+: ρ' → RelH T H c G ρ' → Post (SRep T) T W σ Go ρo (kf () c) Q → Qend H)
    (hbody : ∀ (δ1 : Sl) (σ2 : L2.St) (H3 : Hp) (c : Cs) (G : Hp) (ρ' : List Addr) (N : Hp → Prop) (f : Unit → Cs → R S), Ex G1 G → ρm <+: ρ' → RelS T G ρ' σ2 δ1 → RelH T H3 c G ρ' → Post (SRep T) T W σ Go ρo ((body δ1 c).bindN f) Q →
      (∀ H' c' G' ρ'', Ex G G' → ρ' <+: ρ'' → RelH T H' c' G' ρ'' → Post (SRep T) T W σ Go ρo (f () c') Q → N H') → BODY σ2 H3 N) :
    ∃ Wv : Nat → Nat → Hp → Prop, (∃ m, Wv 0 m H0) ∧ ∀ i m H, Wv i m H → (J.stop i H ∧ Qend H) ∨ (J.go i H ∧ ∃ Nx : Hp → Prop, (∀ H', Nx H' → ∃ m', m' < m ∧ Wv (i + 1) m' H') ∧ ∀ x H', J.yld i H x H' →
      tGv T g vs x σw H' fun σ2 H2 => wipe σ2 vs = σw ∧ tDT T W0 C σ2 H2 fun b H3 => if b = true then BODY σ2 H3 Nx else Nx H3) := by
  refine ⟨fun i m H => m = xs.length - i ∧ i ≤ xs.length ∧ ∃ c G ρ', Ex G1 G ∧ ρm <+: ρ' ∧ RelH T H c G ρ' ∧ Post (SRep T) T W σ Go ρo ((cloop g C body δ (xs.drop i) c).bindN kf) Q,
    ⟨xs.length, by simp, Nat.zero_le _, c0, G1, ρm, .refl _, List.prefix_refl _, h0, by simpa using p0⟩, ?_⟩
  rintro i m H ⟨rfl, hi, c, G, ρ', e1, q1, hh, p⟩
  by_cases hlt : i < xs.length
  · refine .inr ⟨hw.go i H ((hwg.trans e1).trans hh.ex) hlt, fun H' => i + 1 ≤ xs.length ∧ ∃ c G ρ', Ex G1 G ∧ ρm <+: ρ' ∧ RelH T H' c G ρ' ∧ Post (SRep T) T W σ Go ρo ((cloop g C body δ (xs.drop (i + 1)) c).bindN kf) Q,
      fun H' ⟨z1, z2⟩ => ⟨xs.length - (i + 1), by omega, rfl, z1, z2⟩, fun x H' y => ?_⟩
    obtain ⟨G3, st, rx⟩ := hw.yld i H G ρ' x H' (hwg.trans e1) (hwr.trans q1) hh.ex y xs[i] (List.getElem?_eq_getElem hlt)
    rw [List.drop_eq_getElem_cons hlt] at p
    unfold cloop at p
    cases hg : g xs[i] c δ with
    | none => simp only [hg] at p; exact p.elim
    | some δ1 =>
      simp only [hg] at p
      rw [bindN_assoc] at p
      refine ⟨xs[i], δ, c, G3, ρ', δ1, hh.step st, rx, (hs.mono e1 q1).mono st.g (List.prefix_refl _), hg, fun σ2 s2 w2 => ⟨w2.trans hww, ?_⟩⟩
      refine ⟨δ1, c, G3, ρ', s2, hh.step st, (Post.bindN (rel := relB) p).imp ?_⟩
      rintro v H3 ⟨k, c3, G4, ρ4, e4, p4, h4, r4, q4⟩
      have r4 : v = k := r4
      subst r4
      cases v with
      | false => exact ⟨hlt, c3, G4, ρ4, (e1.trans st.g).trans e4, q1.trans p4, h4, q4⟩
      | true =>
        have q4 : Post (SRep T) T W σ Go ρo (((body δ1 c3).bindN fun _ c => cloop g C body δ (List.drop (i + 1) xs) c).bindN kf) Q := q4
        rw [bindN_assoc] at q4
        refine hbody δ1 σ2 H3 c3 G4 ρ4 _ (fun _ c => (cloop g C body δ (List.drop (i + 1) xs) c).bindN kf) ((e1.trans st.g).trans e4) (q1.trans p4) (s2.mono e4 p4) h4 q4 ?_
        exact fun H' c' G' ρ'' e' p' h' q' => ⟨hlt, c', G', ρ'', ((e1.trans st.g).trans e4).trans e', (q1.trans p4).trans p', h', q'⟩
  · have e : i = xs.length := by omega
    subst e
    rw [List.drop_length] at p
    exact .inl ⟨hw.stop _ H ((hwg.trans e1).trans hh.ex) (Nat.le_refl _), hend H c G ρ' e1 q1 hh p⟩
def cloopC (n : Nat) (g : GT) (C : MT) (body : Sl → Cs → R Unit) (δ : Sl) : Nat → Nat → Cs → R Unit
  | 0, _, _ => .bad
  | f + 1, i, c => match cellL n c with
    | some xs => match xs[i]? with
      | none => .ok () c
      | some d => match g d c δ with
        | none => .bad
        | some δ1 => (C δ1 c).bindN fun k c => if k = true then (body δ1 c).bindN fun _ c => cloopC n g C body δ f (i + 1) c else cloopC n g C body δ f (i + 1) c
    | none => .bad
theorem lc_loopC {n : Nat} {q : Addr} {f0 : Nat} {G1 : Hp} {ρm : List Addr} {g : GT} {C : MT} {body : Sl → Cs → R Unit} {δ : Sl} {σw : L2.St} {vs : List Nat} {H0 : Hp} {c0 : Cs} {Go : Hp} {ρo : List Addr} {σ : L2.St} {Q : VK} {kf : Unit → Cs → R S} {BODY : L2.St → Hp → (Hp → Prop) → Prop} {Qend : Hp → Prop}
    (hn : ρm[n]? = some q) (hs : RelS T G1 ρm σw δ) (hww : wipe σw vs = σw) (h0 : RelH T H0 c0 G1 ρm) (p0 : Post (SRep T) T W σ Go ρo ((cloopC n g C body δ f0 0 c0).bindN kf) Q)
    (hend : ∀ H c G ρ', Ex G1 G → ρm <+: ρ' → RelH T H c G ρ' → Post (SRep T) T W σ Go ρo (kf () c) Q → Qend H)
    (hbody : ∀ (δ1 : Sl) (σ2 : L2.St) (H3 : Hp) (c : Cs) (G : Hp) (ρ' : List Addr) (N : Hp → Prop) (f : Unit → Cs → R S), Ex G1 G → ρm <+: ρ' → RelS T G ρ' σ2 δ1 → RelH T H3 c G ρ' → Post (SRep T) T W σ Go ρo ((body δ1 c).bindN f) Q →
      (∀ H' c' G' ρ'', Ex G G' → ρ' <+: ρ'' → RelH T H' c' G' ρ'' → Post (SRep T) T W σ Go ρo (f () c') Q → N H') → BODY σ2 H3 N) :
    ∃ Wv : Nat → Nat → Hp → Prop, (∃ m, Wv 0 m H0) ∧ ∀ i m H, Wv i m H → ((Itl T.K q).stop i H ∧ Qend H) ∨ ((Itl T.K q).go i H ∧ ∃ Nx : Hp → Prop, (∀ H', Nx H' → ∃ m', m' < m ∧ Wv (i + 1) m' H') ∧ ∀ x H', (Itl T.K q).yld i H x H' →
      tGv T g vs x σw H' fun σ2 H2 => wipe σ2 vs = σw ∧ tDT T W0 C σ2 H2 fun b H3 => if b = true then BODY σ2 H3 Nx else Nx H3) := by
  refine ⟨fun i m H => ∃ c G ρ', Ex G1 G ∧ ρm <+: ρ' ∧ RelH T H c G ρ' ∧ Post (SRep T) T W σ Go ρo ((cloopC n g C body δ m i c).bindN kf) Q, ⟨f0, c0, G1, ρm, .refl _, List.prefix_refl _, h0, p0⟩, ?_⟩
  rintro i m H ⟨c, G, ρ', e1, q1, hh, p⟩
  cases m with
  | zero => exact p.elim
  | succ m =>
    unfold cloopC at p
    cases hc : cellL n c with
    | none => simp only [hc] at p; exact p.elim
    | some xs =>
      simp only [hc] at p
      obtain ⟨us, ho, hl, rr⟩ := cellL_rep hh (pre_get q1 hn) hc
      cases hx : xs[i]? with
      | none =>
        simp only [hx] at p
        refine .inl ⟨⟨us, SqL.of ho, ?_⟩, hend H c G ρ' e1 q1 hh p⟩
        rw [rr.length]
        exact List.getElem?_eq_none_iff.mp hx
      | some d =>
        simp only [hx] at p
        obtain ⟨u, hu, ru⟩ := rr.get hx
        refine .inr ⟨⟨us, u, SqL.of ho, hu⟩, fun H' => ∃ c G ρ', Ex G1 G ∧ ρm <+: ρ' ∧ RelH T H' c G ρ' ∧ Post (SRep T) T W σ Go ρo ((cloopC n g C body δ m (i + 1) c).bindN kf) Q, fun H' z => ⟨m, Nat.lt_succ_self m, z⟩, fun x H' y => ?_⟩
        obtain ⟨rfl, y⟩ := y
        have ex := y us (SqL.of ho)
        rw [hu] at ex
        cases ex
        cases hg : g d c δ with
        | none => simp only [hg] at p; exact p.elim
        | some δ1 =>
          simp only [hg] at p
          rw [bindN_assoc] at p
          refine ⟨d, δ, c, G, ρ', δ1, hh, ru, hs.mono e1 q1, hg, fun σ2 s2 w2 => ⟨w2.trans hww, ?_⟩⟩
          refine ⟨δ1, c, G, ρ', s2, hh, (Post.bindN (rel := relB) p).imp ?_⟩
          rintro v H3 ⟨k, c3, G4, ρ4, e4, p4, h4, r4, q4⟩
          have r4 : v = k := r4
          subst r4
          cases v with
          | false => exact ⟨c3, G4, ρ4, e1.trans e4, q1.trans p4, h4, q4⟩
          | true =>
            have q4 : Post (SRep T) T W σ Go ρo (((body δ1 c3).bindN fun _ c => cloopC n g C body δ m (i + 1) c).bindN kf) Q := q4
            rw [bindN_assoc] at q4
            exact hbody δ1 σ2 H3 c3 G4 ρ4 _ (fun _ c => (cloopC n g C body δ m (i + 1) c).bindN kf) (e1.trans e4) (q1.trans p4) (s2.mono e4 p4) h4 q4 fun H' c' G' ρ'' e' p' h' q' => ⟨c', G', ρ'', (e1.trans e4).trans e', (q1.trans p4).trans p', h', q'⟩
def cloopI (g : GT) (C : MT) (body : Sl → Cs → R Unit) (δ : Sl) (s : Src) (c : Cs) : R Unit := match s with
  | .xs l => cloop g C body δ l c
  | .cell n => match cellL n c with
    | some xs => cloopC n g C body δ (xs.length + 1) 0 c
    | none => .bad
theorem lc_loopI {G1 Gw : Hp} {ρm ρw : List Addr} {src : Src} {J : It} {g : GT} {C : MT} {body : Sl → Cs → R Unit} {δ : Sl} {σw : L2.St} {vs : List Nat} {H0 : Hp} {c0 : Cs} {Go : Hp} {ρo : List Addr} {σ : L2.St} {Q : VK} {kf : Unit → Cs → R S} {BODY : L2.St → Hp → (Hp → Prop) → Prop} {Qend : Hp → Prop}
    (hw : relI T Gw ρw src J) (hwg : Ex Gw G1) (hwr : ρw <+: ρm) (hs : RelS T G1 ρm σw δ) (hww : wipe σw vs = σw) (h0 : RelH T H0 c0 G1 ρm) (p0 : Post (SRep T) T W σ Go ρo ((cloopI g C body δ src c0).bindN kf) Q)
    (hend : ∀ H c G ρ', Ex G1 G → ρm <+: ρ' → RelH T H c G ρ' → Post (SRep T) T W σ Go ρo (kf () c) Q → Qend H)
    (hbody : ∀ (δ1 : Sl) (σ2 : L2.St) (H3 : Hp) (c : Cs) (G : Hp) (ρ' : List Addr) (N : Hp → Prop) (f : Unit → Cs → R S), Ex G1 G → ρm <+: ρ' → RelS T G ρ' σ2 δ1 → RelH T H3 c G ρ' → Post (SRep T) T W σ Go ρo ((body δ1 c).bindN f) Q →
      (∀ H' c' G' ρ'', Ex G G' → ρ' <+: ρ'' → RelH T H' c' G' ρ'' → Post (SRep T) T W σ Go ρo (f () c') Q → N H') → BODY σ2 H3 N) :
    ∃ Wv : Nat → Nat → Hp → Prop, (∃ m, Wv 0 m H0) ∧ ∀ i m H, Wv i m H → (J.stop i H ∧ Qend H) ∨ (J.go i H ∧ ∃ Nx : Hp → Prop, (∀ H', Nx H' → ∃ m', m' < m ∧ Wv (i + 1) m' H') ∧ ∀ x H', J.yld i H x H' →
      tGv T g vs x σw H' fun σ2 H2 => wipe σ2 vs = σw ∧ tDT T W0 C σ2 H2 fun b H3 => if b = true then BODY σ2 H3 Nx else Nx H3) := by
  cases src with
  | xs l => exact lc_loop hw.1 hwg hwr hs hww h0 p0 hend hbody
  | cell n =>
    obtain ⟨q, hq, rfl⟩ := hw
    unfold cloopI at p0
    cases hc : cellL n c0 with
    | none => simp only [hc] at p0; exact p0.elim
    | some xs =>
      simp only [hc] at p0
      exact lc_loopC (pre_get hwr hq) hs hww h0 p0 hend hbody
/-- a new item at the end of cell n -/
def push (n : Nat) : S → Cs → R Unit
  | .d x, c => match c[n]? with
    | some (.lst acc) => if acc.length < sizeLine then .ok () (c.set n (.lst (acc ++ [x]))) else .bad
    | _ => .bad
  | _, _ => .bad
/-- the cell n becomes data; the cells from n on are left -/
def finC (n : Nat) (c : Cs) : R S := match c[n]? with
  | some (.lst acc) => .ok (.d (.lst acc)) (c.take n)
  | _ => .bad
/-- .. it stays a cell -/
def finK (n : Nat) (c : Cs) : R S := if c.length = n + 1 then .ok (.c n) c else .bad
def mComp (I : MI) (g : GT) (C : MT) (A : M) (vs : List Nat) : M := fun δ c => (I δ c).bind fun xs c => (cloopI g C (fun δ1 c1 => (A δ1 c1).bindN (push c.length)) (wipeD δ vs) xs (c ++ [.lst []])).bindN fun _ c2 => finC c.length c2
def mCompK (I : MI) (g : GT) (C : MT) (A : M) (vs : List Nat) : M := fun δ c => (I δ c).bind fun xs c => (cloopI g C (fun δ1 c1 => (A δ1 c1).bindN (push c.length)) (wipeD δ vs) xs (c ++ [.lst []])).bindN fun _ c2 => finK c.length c2
def mComp2 (I : MI) (g : GT) (C : MT) (I1 : MI) (g1 : GT) (C1 : MT) (A : M) (vs vs1 : List Nat) : M := fun δ c => (I δ c).bind fun xs c =>
  (cloopI g C (fun δ1 c1 => (I1 δ1 c1).bindN fun ys c1 => cloopI g1 C1 (fun δ2 c2 => (A δ2 c2).bindN (push c.length)) (wipeD δ1 vs1) ys c1) (wipeD δ vs) xs (c ++ [.lst []])).bindN fun _ c2 => finC c.length c2
theorem push_ok {D0 : Addr} {n : Nat} {s : S} {y : V} {c : Cs} {G H : Hp} {ρ : List Addr} {Go : Hp} {ρo : List Addr} {σ : L2.St} {Q : VK} {f : Unit → Cs → R S} {N : Hp → Prop} (hh : RelH T H c G ρ) (hD : ρ[n]? = some D0) (rs : SRep T G ρ s y) (p : Post (SRep T) T W σ Go ρo ((push n s c).bindN f) Q)
    (k : ∀ H' c' G' ρ'', Ex G G' → ρ <+: ρ'' → RelH T H' c' G' ρ'' → Post (SRep T) T W σ Go ρo (f () c') Q → N H') : ∃ acc, H D0 = some (.lst acc) ∧ acc.length < sizeLine ∧ N (upd H D0 (.lst (acc ++ [y]))) := by
  cases s with
  | c _ => exact p.elim
  | x _ _ => exact p.elim
  | d x =>
    unfold push at p
    cases hc : c[n]? with
    | none => simp only [hc] at p; exact p.elim
    | some cc =>
      cases cc with
      | lst acc =>
        simp only [hc] at p
        by_cases hl : acc.length < sizeLine
        · rw [if_pos hl] at p
          obtain ⟨g, vs, ho, hl2, rr⟩ := hh.at_ n D0 _ hD hc
          refine ⟨vs, ho, by rw [rr.length]; exact hl, k _ (c.set n (.lst (acc ++ [x]))) G ρ (.refl _) (List.prefix_refl _) (hh.cell (x := .lst (acc ++ [x])) hD fun H' hH' _ => ⟨_, hH', by rw [List.length_append]; simp; omega, Reps.append rr (Reps.cons rs Reps.nil)⟩) p⟩
        · rw [if_neg hl] at p; exact p.elim
      | dct _ => simp only [hc] at p; exact p.elim
      | lS _ => simp only [hc] at p; exact p.elim
      | tS _ => simp only [hc] at p; exact p.elim
      | tb _ => simp only [hc] at p; exact p.elim
      | obj _ _ => simp only [hc] at p; exact p.elim
theorem finC_ok {D0 : Addr} {c : Cs} {G H : Hp} {ρ : List Addr} {Go : Hp} {ρo : List Addr} {σ : L2.St} {Q : VK} (eg : Ex Go G) (hp : ρo ++ [D0] <+: ρ) (hh : RelH T H c G ρ) (p : Post (SRep T) T W σ Go ρo (finC ρo.length c) Q) : Q (.ref D0) H := by
  have hD : ρ[ρo.length]? = some D0 := pre_get hp (by simp)
  unfold finC at p
  cases hc : c[ρo.length]? with
  | none => simp only [hc] at p; exact p.elim
  | some cc =>
    cases cc with
    | lst acc =>
      simp only [hc] at p
      obtain ⟨g, vs, ho, hl2, rr⟩ := hh.at_ _ D0 _ hD hc
      obtain ⟨e3, r3⟩ := hh.frozen (ρ := ρo) ((List.prefix_append _ _).trans hp) (Nat.le_refl _) hD ho g
      exact p _ H _ ρo (eg.trans e3) (List.prefix_refl _) r3 (Rep.lst upd_same hl2 (Reps.mono e3 _ _ rr))
    | dct _ => simp only [hc] at p; exact p.elim
    | lS _ => simp only [hc] at p; exact p.elim
    | tS _ => simp only [hc] at p; exact p.elim
    | tb _ => simp only [hc] at p; exact p.elim
    | obj _ _ => simp only [hc] at p; exact p.elim
theorem finK_ok {D0 : Addr} {c : Cs} {G H : Hp} {ρ : List Addr} {Go : Hp} {ρo : List Addr} {σ : L2.St} {Q : VK} (eg : Ex Go G) (hp : ρo ++ [D0] <+: ρ) (hh : RelH T H c G ρ) (p : Post (SRep T) T W σ Go ρo (finK ρo.length c) Q) : Q (.ref D0) H := by
  have hD : ρ[ρo.length]? = some D0 := pre_get hp (by simp)
  unfold finK at p
  by_cases hl : c.length = ρo.length + 1
  · rw [if_pos hl] at p
    exact p _ H _ ρ eg ((List.prefix_append _ _).trans hp) hh ⟨D0, hD, rfl⟩
  · rw [if_neg hl] at p; exact p.elim
section
variable {elt tg iter : Expr} {ifs : List Expr} {scope : Scope} {own : List (Str × Nat)} {I : MI} {g : GT} {C : MT}
theorem tD_comp {fin : Nat → Cs → R S} (hfin : ∀ {D0 : Addr} {c : Cs} {G H : Hp} {ρ : List Addr} {Go : Hp} {ρo : List Addr} {σ : L2.St} {Q : VK}, Ex Go G → ρo ++ [D0] <+: ρ → RelH T H c G ρ → Post (SRep T) T W σ Go ρo (fin ρo.length c) Q → Q (.ref D0) H)
    {vs : List Nat} {σ : L2.St} {H : Hp} {Q : VK} (h : tD T W (fun δ c => (I δ c).bind fun xs c => (cloopI g C (fun δ1 c1 => (A δ1 c1).bindN (push c.length)) (wipeD δ vs) xs (c ++ [.lst []])).bindN fun _ c2 => fin c.length c2) σ H Q) :
    tLc (tI T W I) (tGv T g vs) (tDT T W0 C) (tD T W0 A) vs σ H Q := by
  obtain ⟨δ, c, G, ρ, hs, hh, p⟩ := h
  refine ⟨δ, c, G, ρ, hs, hh, (Post.bind (rel := relI T) p).imp ?_⟩
  rintro J H1 ⟨xs, c1, G1, ρ1, e1, p1, h1, wk, q1⟩ D0 hD0
  have hn : RelH T (upd H1 D0 (.lst [])) (c1 ++ [.lst []]) G1 (ρ1 ++ [D0]) := h1.newCell hD0 fun H' hH' => ⟨[], hH', Nat.zero_le _, Reps.nil⟩
  refine lc_loopI (ρm := ρ1 ++ [D0]) (BODY := fun σ2 H3 N => tD T W0 A σ2 H3 fun y H4 => ∃ acc, H4 D0 = some (.lst acc) ∧ acc.length < sizeLine ∧ N (upd H4 D0 (.lst (acc ++ [y])))) wk (.refl _) (List.prefix_append _ _) (((hs.mono e1 p1).mono (.refl _) (List.prefix_append _ _)).wipe vs) wipe_wipe hn q1 ?_ ?_
  · intro H c G ρ' e q hh p
    rw [← h1.len] at p
    exact hfin e q hh p
  · intro δ1 σ2 H3 c3 G3 ρ3 N f e3 p3 s3 h3 q3 kk
    rw [bindN_assoc] at q3
    refine ⟨δ1, c3, G3, ρ3, s3, h3, (Post.bindN (rel := SRep T) q3).imp ?_⟩
    rintro y H4 ⟨s, c4, G4, ρ4, e4, p4, h4, r4, q4⟩
    exact push_ok h4 (pre_get (p3.trans p4) (by rw [← h1.len]; simp)) r4 q4 fun H' c' G' ρ'' e' p' h' q' => kk H' c' G' ρ'' (e4.trans e') (p4.trans p') h' q'
theorem dn_comp (hc : X.calm = true) (hN : X.N.Nodup) (hi : PI X tg iter (tI T W I)) (ok : BlkOk X.N X.env.scope scope own)
    (hg : ∀ (s : Shared) (H : Hp) (C : Addr) (cl : List (Str × Addr)) (fp : List Addr), PG (X.blk s H scope (compEnvC scope cl C X.env) fp) tg (tGv T g (own.map (·.2)))) (ht : ∀ (s : Shared) (H : Hp) (C0 : Addr) (cl : List (Str × Addr)) (fp : List Addr), PTs (X.blk s H scope (compEnvC scope cl C0 X.env) fp) ifs (tDT T W0 C))
    (he : ∀ (s : Shared) (H : Hp) (C : Addr) (cl : List (Str × Addr)) (fp : List Addr), PE (X.blk s H scope (compEnvC scope cl C X.env) fp) elt (tD T W0 A)) (hs : ∀ x, foldedSetIterable iter X.env x = pure x := by intro _; rfl) :
    PE X (.ListComp elt [⟨tg, iter, ifs, 0⟩] scope pos) (tD T W (mComp I g C A (own.map (·.2)))) :=
  PE.imp (pe_lc hc hN hi ok hg ht he hs) fun _ _ _ h => tD_comp (fin := finC) finC_ok h
theorem dn_compK (hc : X.calm = true) (hN : X.N.Nodup) (hi : PI X tg iter (tI T W I)) (ok : BlkOk X.N X.env.scope scope own)
    (hg : ∀ (s : Shared) (H : Hp) (C : Addr) (cl : List (Str × Addr)) (fp : List Addr), PG (X.blk s H scope (compEnvC scope cl C X.env) fp) tg (tGv T g (own.map (·.2)))) (ht : ∀ (s : Shared) (H : Hp) (C0 : Addr) (cl : List (Str × Addr)) (fp : List Addr), PTs (X.blk s H scope (compEnvC scope cl C0 X.env) fp) ifs (tDT T W0 C))
    (he : ∀ (s : Shared) (H : Hp) (C : Addr) (cl : List (Str × Addr)) (fp : List Addr), PE (X.blk s H scope (compEnvC scope cl C X.env) fp) elt (tD T W0 A)) (hs : ∀ x, foldedSetIterable iter X.env x = pure x := by intro _; rfl) :
    PE X (.ListComp elt [⟨tg, iter, ifs, 0⟩] scope pos) (tD T W (mCompK I g C A (own.map (·.2)))) :=
  PE.imp (pe_lc hc hN hi ok hg ht he hs) fun _ _ _ h => tD_comp (fin := finK) finK_ok h
theorem tS_setR {i : Nat} {E : Ends} {σ : L2.St} {H : Hp} {te : TE} (hte : ∀ σ H Q, tD T W A σ H Q → te σ H Q) (h : tS T W (sSet i A) E σ H) : tAsg te (gName i) E σ H := hte _ _ _ (tS_set h)
theorem ds_setComp {i : Nat} {y : Str} {py spos : Pos} (hc : X.calm = true) (hN : X.N.Nodup) (hy : X.N[i]? = some y) (hyl : X.env.scope.names.lookup y = some .local)
    (hsw : swapsWith (.ListComp elt [⟨tg, iter, ifs, 0⟩] scope pos) (some (.Name y py)) spos.line X.env = pure true) (hi : PI X tg iter (tI T W I)) (ok : BlkOk X.N X.env.scope scope own)
    (hg : ∀ (s : Shared) (H : Hp) (C : Addr) (cl : List (Str × Addr)) (fp : List Addr), PG (X.blk s H scope (compEnvC scope cl C X.env) fp) tg (tGv T g (own.map (·.2)))) (ht : ∀ (s : Shared) (H : Hp) (C0 : Addr) (cl : List (Str × Addr)) (fp : List Addr), PTs (X.blk s H scope (compEnvC scope cl C0 X.env) fp) ifs (tDT T W0 C))
    (he : ∀ (s : Shared) (H : Hp) (C : Addr) (cl : List (Str × Addr)) (fp : List Addr), PE (X.blk s H scope (compEnvC scope cl C X.env) fp) elt (tD T W0 A)) (hs : ∀ x, foldedSetIterable iter X.env x = pure x := by intro _; rfl) :
    PS X (.Assign [.Name y py] (.ListComp elt [⟨tg, iter, ifs, 0⟩] scope pos) spos) (tS T W (sSet i (mComp I g C A (own.map (·.2))))) :=
  PS.imp (ps_setLc hc hN hy hyl hsw hi ok hg ht he hs) fun _ _ _ h => tS_setR (fun _ _ _ h => tD_comp (fin := finC) finC_ok h) h
theorem ds_setCompK {i : Nat} {y : Str} {py spos : Pos} (hc : X.calm = true) (hN : X.N.Nodup) (hy : X.N[i]? = some y) (hyl : X.env.scope.names.lookup y = some .local)
    (hsw : swapsWith (.ListComp elt [⟨tg, iter, ifs, 0⟩] scope pos) (some (.Name y py)) spos.line X.env = pure true) (hi : PI X tg iter (tI T W I)) (ok : BlkOk X.N X.env.scope scope own)
    (hg : ∀ (s : Shared) (H : Hp) (C : Addr) (cl : List (Str × Addr)) (fp : List Addr), PG (X.blk s H scope (compEnvC scope cl C X.env) fp) tg (tGv T g (own.map (·.2)))) (ht : ∀ (s : Shared) (H : Hp) (C0 : Addr) (cl : List (Str × Addr)) (fp : List Addr), PTs (X.blk s H scope (compEnvC scope cl C0 X.env) fp) ifs (tDT T W0 C))
    (he : ∀ (s : Shared) (H : Hp) (C : Addr) (cl : List (Str × Addr)) (fp : List Addr), PE (X.blk s H scope (compEnvC scope cl C X.env) fp) elt (tD T W0 A)) (hs : ∀ x, foldedSetIterable iter X.env x = pure x := by intro _; rfl) :
    PS X (.Assign [.Name y py] (.ListComp elt [⟨tg, iter, ifs, 0⟩] scope pos) spos) (tS T W (sSet i (mCompK I g C A (own.map (·.2))))) :=
  PS.imp (ps_setLc hc hN hy hyl hsw hi ok hg ht he hs) fun _ _ _ h => tS_setR (fun _ _ _ h => tD_comp (fin := finK) finK_ok h) h
variable {tg1 iter1 : Expr} {ifs1 : List Expr} {I1 : MI} {g1 : GT} {C1 : MT}
theorem tD_comp2 {vs vs1 : List Nat} {σ : L2.St} {H : Hp} {Q : VK} (h : tD T W (mComp2 I g C I1 g1 C1 A vs vs1) σ H Q) :
    tLc2 (tI T W I) (tGv T g vs) (tDT T W0 C) (tI T W0 I1) (tGv T g1 vs1) (tDT T W0 C1) (tD T W0 A) vs vs1 σ H Q := by
  obtain ⟨δ, c, G, ρ, hs, hh, p⟩ := h
  refine ⟨δ, c, G, ρ, hs, hh, (Post.bind (rel := relI T) p).imp ?_⟩
  rintro J H1 ⟨xs, c1, G1, ρ1, e1, p1, h1, wk, q1⟩ D0 hD0
  have hn : RelH T (upd H1 D0 (.lst [])) (c1 ++ [.lst []]) G1 (ρ1 ++ [D0]) := h1.newCell hD0 fun H' hH' => ⟨[], hH', Nat.zero_le _, Reps.nil⟩
  refine lc_loopI (ρm := ρ1 ++ [D0]) (BODY := fun σ2 H3 N => tI T W0 I1 σ2 H3 fun J1 H4 => ∃ W1 : Nat → Nat → Hp → Prop, (∃ m, W1 0 m H4) ∧ ∀ j k H, W1 j k H →
      (J1.stop j H ∧ N H) ∨ (J1.go j H ∧ ∃ Nx1 : Hp → Prop, (∀ H', Nx1 H' → ∃ k', k' < k ∧ W1 (j + 1) k' H') ∧ ∀ x H', J1.yld j H x H' → tGv T g1 vs1 x (wipe σ2 vs1) H' fun σ3 H5 => wipe σ3 vs1 = wipe σ2 vs1 ∧ tDT T W0 C1 σ3 H5 fun b H6 =>
        if b = true then tD T W0 A σ3 H6 fun y H7 => ∃ acc, H7 D0 = some (.lst acc) ∧ acc.length < sizeLine ∧ Nx1 (upd H7 D0 (.lst (acc ++ [y]))) else Nx1 H6))
    wk (.refl _) (List.prefix_append _ _) (((hs.mono e1 p1).mono (.refl _) (List.prefix_append _ _)).wipe vs) wipe_wipe hn q1 ?_ ?_
  · intro H c G ρ' e q hh p
    rw [← h1.len] at p
    exact finC_ok e q hh p
  · intro δ1 σ2 H3 c3 G3 ρ3 N f e3 p3 s3 h3 q3 kk
    rw [bindN_assoc] at q3
    refine ⟨δ1, c3, G3, ρ3, s3, h3, (Post.bindN (rel := relI T) q3).imp ?_⟩
    rintro J1 H4 ⟨ys, c4, G4, ρ4, e4, p4, h4, wk4, q4⟩
    refine lc_loopI (ρm := ρ4) (BODY := fun σ2 H3 N => tD T W0 A σ2 H3 fun y H4 => ∃ acc, H4 D0 = some (.lst acc) ∧ acc.length < sizeLine ∧ N (upd H4 D0 (.lst (acc ++ [y])))) wk4 (.refl _) (List.prefix_refl _) ((s3.mono e4 p4).wipe vs1) wipe_wipe h4 q4 ?_ ?_
    · intro H c G ρ' e q hh p
      exact kk H c G ρ' (e4.trans e) (p4.trans q) hh p
    · intro δ5 σ5 H5 c5 G5 ρ5 N5 f5 e5 p5 s5 h5 q5 kk5
      rw [bindN_assoc] at q5
      refine ⟨δ5, c5, G5, ρ5, s5, h5, (Post.bindN (rel := SRep T) q5).imp ?_⟩
      rintro y H6 ⟨s, c6, G6, ρ6, e6, p6, h6, r6, q6⟩
      exact push_ok h6 (pre_get (((p3.trans p4).trans p5).trans p6) (by rw [← h1.len]; simp)) r6 q6 fun H' c' G' ρ'' e' p' h' q' => kk5 H' c' G' ρ'' (e6.trans e') (p6.trans p') h' q'
theorem dn_comp2 {vs1 : List Nat} (hc : X.calm = true) (hN : X.N.Nodup) (hi : PI X tg iter (tI T W I)) (ok : BlkOk X.N X.env.scope scope own) (hv : ∀ i ∈ vs1, i ∈ own.map (·.2))
    (hg : ∀ (s : Shared) (H : Hp) (C : Addr) (cl : List (Str × Addr)) (fp : List Addr), PG (X.blk s H scope (compEnvC scope cl C X.env) fp) tg (tGv T g (own.map (·.2)))) (ht : ∀ (s : Shared) (H : Hp) (C0 : Addr) (cl : List (Str × Addr)) (fp : List Addr), PTs (X.blk s H scope (compEnvC scope cl C0 X.env) fp) ifs (tDT T W0 C))
    (hi1 : ∀ (s : Shared) (H : Hp) (C : Addr) (cl : List (Str × Addr)) (fp : List Addr), PI (X.blk s H scope (compEnvC scope cl C X.env) fp) tg1 iter1 (tI T W0 I1))
    (hg1 : ∀ (s : Shared) (H : Hp) (C : Addr) (cl : List (Str × Addr)) (fp : List Addr), PG (X.blk s H scope (compEnvC scope cl C X.env) fp) tg1 (tGv T g1 vs1)) (ht1 : ∀ (s : Shared) (H : Hp) (C0 : Addr) (cl : List (Str × Addr)) (fp : List Addr), PTs (X.blk s H scope (compEnvC scope cl C0 X.env) fp) ifs1 (tDT T W0 C1))
    (he : ∀ (s : Shared) (H : Hp) (C : Addr) (cl : List (Str × Addr)) (fp : List Addr), PE (X.blk s H scope (compEnvC scope cl C X.env) fp) elt (tD T W0 A)) (hs : ∀ x, foldedSetIterable iter X.env x = pure x := by intro _; rfl) (hs1 : ∀ env x, foldedSetIterable iter1 env x = pure x := by intro _ _; rfl) :
    PE X (.ListComp elt [⟨tg, iter, ifs, 0⟩, ⟨tg1, iter1, ifs1, 0⟩] scope pos) (tD T W (mComp2 I g C I1 g1 C1 A (own.map (·.2)) vs1)) :=
  PE.imp (pe_lc2 hc hN hi ok hv hg ht hi1 hg1 ht1 he hs hs1) fun _ _ _ h => tD_comp2 h
theorem ds_setComp2 {vs1 : List Nat} {i : Nat} {y : Str} {py spos : Pos} (hc : X.calm = true) (hN : X.N.Nodup) (hy : X.N[i]? = some y) (hyl : X.env.scope.names.lookup y = some .local)
    (hsw : swapsWith (.ListComp elt [⟨tg, iter, ifs, 0⟩, ⟨tg1, iter1, ifs1, 0⟩] scope pos) (some (.Name y py)) spos.line X.env = pure true) (hi : PI X tg iter (tI T W I)) (ok : BlkOk X.N X.env.scope scope own) (hv : ∀ i ∈ vs1, i ∈ own.map (·.2))
    (hg : ∀ (s : Shared) (H : Hp) (C : Addr) (cl : List (Str × Addr)) (fp : List Addr), PG (X.blk s H scope (compEnvC scope cl C X.env) fp) tg (tGv T g (own.map (·.2)))) (ht : ∀ (s : Shared) (H : Hp) (C0 : Addr) (cl : List (Str × Addr)) (fp : List Addr), PTs (X.blk s H scope (compEnvC scope cl C0 X.env) fp) ifs (tDT T W0 C))
    (hi1 : ∀ (s : Shared) (H : Hp) (C : Addr) (cl : List (Str × Addr)) (fp : List Addr), PI (X.blk s H scope (compEnvC scope cl C X.env) fp) tg1 iter1 (tI T W0 I1))
    (hg1 : ∀ (s : Shared) (H : Hp) (C : Addr) (cl : List (Str × Addr)) (fp : List Addr), PG (X.blk s H scope (compEnvC scope cl C X.env) fp) tg1 (tGv T g1 vs1)) (ht1 : ∀ (s : Shared) (H : Hp) (C0 : Addr) (cl : List (Str × Addr)) (fp : List Addr), PTs (X.blk s H scope (compEnvC scope cl C0 X.env) fp) ifs1 (tDT T W0 C1))
    (he : ∀ (s : Shared) (H : Hp) (C : Addr) (cl : List (Str × Addr)) (fp : List Addr), PE (X.blk s H scope (compEnvC scope cl C X.env) fp) elt (tD T W0 A)) (hs : ∀ x, foldedSetIterable iter X.env x = pure x := by intro _; rfl) (hs1 : ∀ env x, foldedSetIterable iter1 env x = pure x := by intro _ _; rfl) :
    PS X (.Assign [.Name y py] (.ListComp elt [⟨tg, iter, ifs, 0⟩, ⟨tg1, iter1, ifs1, 0⟩] scope pos) spos) (tS T W (sSet i (mComp2 I g C I1 g1 C1 A (own.map (·.2)) vs1))) :=
  PS.imp (ps_setLc2 hc hN hy hyl hsw hi ok hv hg ht hi1 hg1 ht1 he hs hs1) fun _ _ _ h => tS_setR (fun _ _ _ h => tD_comp2 h) h
end
end
end Dn

end
section
/-! Dn5: the operations on data. -/
namespace Dn
open PySem PySem.Spec PyProof.Rows L2

section
variable {X : Cx} {T : Tb} {W : WX} {a b o e : Expr} {es : List Expr} {A B : M} {pos p apos : Pos}
/-! ### ints -/
def bitsOk (i j : Int) : Bool := decide (i.natAbs.log2 + j.natAbs.log2 < 1000000)
def repL (k : Int) (xs : List D) : List D := (List.replicate k.toNat xs).flatten
def addD : D → D → Option D
  | .int i, .int j => some (.int (i + j))
  | .str x, .str y => if x.length + y.length ≤ sizeLine then some (.str (x ++ y)) else none
  | .lst xs, .lst ys => if xs.length + ys.length ≤ sizeLine then some (.lst (xs ++ ys)) else none
  | .tup (x :: xs), .tup ys => if (x :: xs).length + ys.length ≤ sizeLine then some (.tup ((x :: xs) ++ ys)) else none
  | _, _ => none
def subD : D → D → Option D
  | .int i, .int j => some (.int (i - j))
  | _, _ => none
def mulD : D → D → Option D
  | .int i, .int j => if bitsOk i j = true then some (.int (i * j)) else none
  | .lst xs, .int k => if k < 1000000 ∧ -1000000 < k ∧ xs.length * k.toNat ≤ sizeLine then some (.lst (repL k xs)) else none
  | _, _ => none
def divOk (j : Int) : Bool := decide (j ≠ 0 ∧ j.natAbs.log2 < 9000)
def fdivD : D → D → Option D
  | .int i, .int j => if divOk j = true then some (.int (i.fdiv j)) else none
  | _, _ => none
def modD : D → D → Option D
  | .int i, .int j => if j ≠ 0 then some (.int (i.fmod j)) else none
  | _, _ => none
def powOk (i j : Int) : Bool := decide (0 ≤ j ∧ j ≤ 64 ∧ i.natAbs.log2 < 100000)
def powD : D → D → Option D
  | .int i, .int j => if powOk i j = true then some (.int (i ^ j.toNat)) else none
  | _, _ => none
def negD : D → Option D
  | .int i => some (.int (-i))
  | _ => none
def rAll (K : PySem.W.Frag) : R2 := fun x y H Q => rI0 (fun i j => .int (i + j)) x y H Q ∨ (∃ i j, x = .str i ∧ y = .str j ∧ i.length + j.length ≤ sizeLine ∧ Q (.str (i ++ j)) H) ∨ rCat x y H Q ∨ rCatT K x y H Q
theorem op_addA : OpR X (binaryOp .Add) (rAll X.K) := op_add.or (op_add_str.or (op_cat.or op_catT))
theorem fresh_add : Fresh2 T addD (rAll T.K) := by
  intro G H x y d v u Q e hx hy hd k
  unfold addD at hd
  split at hd
  · cases hd
    have := View.int_inv hx; subst this
    have := View.int_inv hy; subst this
    exact .inl ⟨_, _, rfl, rfl, k _ H G (Step.refl e) Rep.int⟩
  · split at hd
    · cases hd
      have := View.str_inv hx; subst this
      have := View.str_inv hy; subst this
      rename_i h
      exact .inr (.inl ⟨_, _, rfl, rfl, h, k _ H G (Step.refl e) Rep.str⟩)
    · cases hd
  · split at hd
    · rename_i h
      cases hd
      obtain ⟨p, vs, rfl, sq, l, r⟩ := hx
      obtain ⟨q, us, rfl, sq', l', r'⟩ := hy
      refine .inr (.inr (.inl ⟨p, q, vs, us, rfl, rfl, sq, sq', by rw [r.length, r'.length]; exact h, fun t ht => ?_⟩))
      have st : Step G H (upd G t (.lst (vs ++ us))) (upd H t (.lst (vs ++ us))) := Step.new e ht
      exact k _ _ _ st (Rep.lst upd_same (by rw [List.length_append]; exact h) (Reps.mono st.g _ _ (r.append r')))
    · cases hd
  · rename_i x0 xs ys
    split at hd
    · rename_i h
      cases hd
      obtain ⟨p, vs, rfl, sq, l, r⟩ := View.tup_inv hx
      obtain ⟨q, us, rfl, sq', l', r'⟩ := View.tup_inv hy
      refine .inr (.inr (.inr ⟨p, q, vs, us, rfl, rfl, SqT.of (e _ _ sq), SqT.of (e _ _ sq'), ?_, by rw [r.length, r'.length]; exact h, fun z => ?_, fun z t ht => ?_⟩))
      · intro z; subst z; have := r.length; simp at this
      · subst z
        have := r'.length
        have hys : ys = [] := List.length_eq_zero_iff.mp (by simpa using this.symm)
        subst hys
        rw [List.append_nil] at k
        exact k _ H G (Step.refl e) (Rep.tup sq l r)
      · have st : Step G H (upd G t (.tup (vs ++ us))) (upd H t (.tup (vs ++ us))) := Step.new e ht
        exact k _ _ _ st (Rep.tup upd_same (by rw [List.length_append]; exact h) (Reps.mono st.g _ _ (r.append r')))
    · cases hd
  · cases hd
theorem dn_add (hT : X.K = T.K) (ha : PE X a (tD T W A)) (hb : PE X b (tD T W B)) : PE X (.BinOp a .Add b pos) (tD T W (mBin (lift2 addD) A B)) := dn_op (r := rAll T.K) (by rw [← hT]; exact op_addA) (prim2 fresh_add) ha hb
theorem fresh_sub : Fresh2 T subD (rI0 fun i j => .int (i - j)) := by
  intro G H x y d v u Q e hx hy hd k
  unfold subD at hd
  split at hd
  · cases hd
    have := View.int_inv hx; subst this
    have := View.int_inv hy; subst this
    exact ⟨_, _, rfl, rfl, k _ H G (Step.refl e) Rep.int⟩
  · cases hd
theorem dn_sub (ha : PE X a (tD T W A)) (hb : PE X b (tD T W B)) : PE X (.BinOp a .Sub b pos) (tD T W (mBin (lift2 subD) A B)) := dn_op op_sub (prim2 fresh_sub) ha hb
theorem Reps.rep {G : Hp} {xs : List D} {vs : List V} (r : Reps T G xs vs) : ∀ n : Nat, Reps T G (List.replicate n xs).flatten (List.replicate n vs).flatten
  | 0 => Reps.nil
  | n + 1 => by
    rw [List.replicate_succ, List.replicate_succ, List.flatten_cons, List.flatten_cons]
    exact Reps.append r (Reps.rep r n)
theorem bitsOk_ok {i j : Int} (h : bitsOk i j = true) : CMulW i j := by unfold bitsOk at h; unfold CMulW; exact of_decide_eq_true h
theorem fresh_mul : Fresh2 T mulD (fun x y H Q => rI CMulW (fun i j => .int (i * j)) x y H Q ∨ rRep x y H Q) := by
  intro G H x y d v u Q e hx hy hd k
  unfold mulD at hd
  split at hd
  · split at hd
    · rename_i h
      cases hd
      have := View.int_inv hx; subst this
      have := View.int_inv hy; subst this
      exact .inl ⟨_, _, rfl, rfl, bitsOk_ok h, k _ H G (Step.refl e) Rep.int⟩
    · cases hd
  · split at hd
    · rename_i kk h
      cases hd
      obtain ⟨p, vs, rfl, sq, l, r⟩ := hx
      have := View.int_inv hy; subst this
      refine .inr ⟨p, kk, vs, rfl, rfl, sq, by omega, by omega, by rw [r.length]; exact h.2.2, fun t ht => ?_⟩
      have st : Step G H (upd G t (.lst (List.replicate kk.toNat vs).flatten)) (upd H t (.lst (List.replicate kk.toNat vs).flatten)) := Step.new e ht
      refine k _ _ _ st (Rep.lst upd_same ?_ (Reps.mono st.g _ _ (r.rep _)))
      unfold repL
      rw [List.length_flatten]
      simp only [List.map_replicate, List.sum_replicate_nat]
      rw [Nat.mul_comm]; exact h.2.2
    · cases hd
  · cases hd
theorem dn_mul (ha : PE X a (tD T W A)) (hb : PE X b (tD T W B)) : PE X (.BinOp a .Mult b pos) (tD T W (mBin (lift2 mulD) A B)) := dn_op (op_mulW.or op_rep) (prim2 fresh_mul) ha hb
def CDivD (_ j : Int) : Prop := j ≠ 0 ∧ j.natAbs.log2 < 9000
theorem op_fdivD : OpR X (binaryOp .FloorDiv) (rI CDivD fun i j => .int (i.fdiv j)) := opI fun _ _ _ _ _ _ _ hc q => floordiv_int hc.1 q (.inl (PyProof.noPylong_of_log2 hc.2))
theorem divOk_ok {i j : Int} (h : divOk j = true) : CDivD i j := by unfold divOk at h; unfold CDivD; exact of_decide_eq_true h
theorem fresh_fdiv : Fresh2 T fdivD (rI CDivD fun i j => .int (i.fdiv j)) := by
  intro G H x y d v u Q e hx hy hd k
  unfold fdivD at hd
  split at hd
  · split at hd
    · rename_i h
      cases hd
      have := View.int_inv hx; subst this
      have := View.int_inv hy; subst this
      exact ⟨_, _, rfl, rfl, divOk_ok h, k _ H G (Step.refl e) Rep.int⟩
    · cases hd
  · cases hd
theorem dn_fdiv (ha : PE X a (tD T W A)) (hb : PE X b (tD T W B)) : PE X (.BinOp a .FloorDiv b pos) (tD T W (mBin (lift2 fdivD) A B)) := dn_op op_fdivD (prim2 fresh_fdiv) ha hb
theorem fresh_mod : Fresh2 T modD (rI (fun _ j => j ≠ 0) fun i j => .int (i.fmod j)) := by
  intro G H x y d v u Q e hx hy hd k
  unfold modD at hd
  split at hd
  · split at hd
    · rename_i h
      cases hd
      have := View.int_inv hx; subst this
      have := View.int_inv hy; subst this
      exact ⟨_, _, rfl, rfl, h, k _ H G (Step.refl e) Rep.int⟩
    · cases hd
  · cases hd
theorem dn_mod (ha : PE X a (tD T W A)) (hb : PE X b (tD T W B)) : PE X (.BinOp a .Mod b pos) (tD T W (mBin (lift2 modD) A B)) := dn_op op_modN (prim2 fresh_mod) ha hb
def CPowD (i j : Int) : Prop := 0 ≤ j ∧ j ≤ 64 ∧ i.natAbs.log2 < 100000
theorem op_powD : OpR X (binaryOp .Pow) (rI CPowD fun i j => .int (i ^ j.toNat)) := opI fun i j _ _ _ _ _ hc q => by
  obtain ⟨h1, h2, h3⟩ := hc
  refine pow_int h1 ?_ q
  have hb : Builtin.Int.intBits i ≤ i.natAbs.log2 + 1 := by
    unfold Builtin.Int.intBits
    split <;> omega
  have hb2 : (Builtin.Int.intBits i : Int) ≤ 100000 := by omega
  have : (Builtin.Int.intBits i : Int) * j ≤ 100000 * 64 := Int.mul_le_mul hb2 h2 h1 (by decide)
  exact Int.le_trans this (by decide)
theorem powOk_ok {i j : Int} (h : powOk i j = true) : CPowD i j := by unfold powOk at h; unfold CPowD; exact of_decide_eq_true h
theorem fresh_pow : Fresh2 T powD (rI CPowD fun i j => .int (i ^ j.toNat)) := by
  intro G H x y d v u Q e hx hy hd k
  unfold powD at hd
  split at hd
  · split at hd
    · rename_i h
      cases hd
      have := View.int_inv hx; subst this
      have := View.int_inv hy; subst this
      exact ⟨_, _, rfl, rfl, powOk_ok h, k _ H G (Step.refl e) Rep.int⟩
    · cases hd
  · cases hd
theorem dn_pow (ha : PE X a (tD T W A)) (hb : PE X b (tD T W B)) : PE X (.BinOp a .Pow b pos) (tD T W (mBin (lift2 powD) A B)) := dn_op op_powD (prim2 fresh_pow) ha hb
theorem fresh_neg : Fresh1 T negD (rU fun i => .int (-i)) := by
  intro G H x d v Q e hx hd k
  unfold negD at hd
  split at hd
  · cases hd
    have := View.int_inv hx; subst this
    exact ⟨_, rfl, k _ H G (Step.refl e) Rep.int⟩
  · cases hd
theorem dn_neg (ha : PE X a (tD T W A)) : PE X (.UnaryOp .USub a pos) (tD T W (mUn (lift1 negD) A)) := dn_un un_neg (prim1 fresh_neg) ha

/-! ### comparisons of ints -/
def cmpD (f : Int → Int → Bool) : D → D → Option D
  | .int i, .int j => some (.bl (f i j))
  | _, _ => none
theorem fresh_cmp {f : Int → Int → Bool} : Fresh2 T (cmpD f) (rI0 fun i j => .bl (f i j)) := by
  intro G H x y d v u Q e hx hy hd k
  unfold cmpD at hd
  split at hd
  · cases hd
    have := View.int_inv hx; subst this
    have := View.int_inv hy; subst this
    exact ⟨_, _, rfl, rfl, k _ H G (Step.refl e) Rep.bl⟩
  · cases hd
abbrev ltD := cmpD fun i j => decide (i < j)
abbrev leD := cmpD fun i j => decide (i ≤ j)
abbrev gtD := cmpD fun i j => decide (j < i)
abbrev geD := cmpD fun i j => decide (j ≤ i)
theorem dn_lt (ha : PE X a (tD T W A)) (hb : PE X b (tD T W B)) : PE X (.Compare a [.Lt] [b] pos) (tD T W (mBin (lift2 ltD) A B)) := dn_cmp op_lt (prim2 fresh_cmp) ha hb (nomark _)
theorem dn_le (ha : PE X a (tD T W A)) (hb : PE X b (tD T W B)) : PE X (.Compare a [.LtE] [b] pos) (tD T W (mBin (lift2 leD) A B)) := dn_cmp op_le (prim2 fresh_cmp) ha hb (nomark _)
theorem dn_gt (ha : PE X a (tD T W A)) (hb : PE X b (tD T W B)) : PE X (.Compare a [.Gt] [b] pos) (tD T W (mBin (lift2 gtD) A B)) := dn_cmp op_gt (prim2 fresh_cmp) ha hb (nomark _)
theorem dn_ge (ha : PE X a (tD T W A)) (hb : PE X b (tD T W B)) : PE X (.Compare a [.GtE] [b] pos) (tD T W (mBin (lift2 geD) A B)) := dn_cmp op_ge (prim2 fresh_cmp) ha hb (nomark _)
theorem dt_lt (ha : PE X a (tD T W A)) (hb : PE X b (tD T W B)) : PT X (.Compare a [.Lt] [b] pos) (tDT T W (mTB (mBin (lift2 ltD) A B))) := dt_cmp op_lt (prim2 fresh_cmp) ha hb (nomark _)
theorem dt_le (ha : PE X a (tD T W A)) (hb : PE X b (tD T W B)) : PT X (.Compare a [.LtE] [b] pos) (tDT T W (mTB (mBin (lift2 leD) A B))) := dt_cmp op_le (prim2 fresh_cmp) ha hb (nomark _)
theorem dt_gt (ha : PE X a (tD T W A)) (hb : PE X b (tD T W B)) : PT X (.Compare a [.Gt] [b] pos) (tDT T W (mTB (mBin (lift2 gtD) A B))) := dt_cmp op_gt (prim2 fresh_cmp) ha hb (nomark _)
theorem dt_ge (ha : PE X a (tD T W A)) (hb : PE X b (tD T W B)) : PT X (.Compare a [.GtE] [b] pos) (tDT T W (mTB (mBin (lift2 geD) A B))) := dt_cmp op_ge (prim2 fresh_cmp) ha hb (nomark _)
section
variable {c : Expr} {C : M}
theorem dn_le_lt (ha : PE X a (tD T W A)) (hb : PE X b (tD T W B)) (hc : PE X c (tD T W C)) (hm : lastMarks [.LtE, .Lt] [b, c] = false := by with_unfolding_all rfl) : PE X (.Compare a [.LtE, .Lt] [b, c] pos) (tD T W (mChain (lift2 leD) (lift2 ltD) A B C)) := PE.imp (pe_chain op_le op_lt ha hb hc hm) fun _ _ _ h => tD_chain (prim2 fresh_cmp) (prim2 fresh_cmp) h
theorem dn_le_le (ha : PE X a (tD T W A)) (hb : PE X b (tD T W B)) (hc : PE X c (tD T W C)) (hm : lastMarks [.LtE, .LtE] [b, c] = false := by with_unfolding_all rfl) : PE X (.Compare a [.LtE, .LtE] [b, c] pos) (tD T W (mChain (lift2 leD) (lift2 leD) A B C)) := PE.imp (pe_chain op_le op_le ha hb hc hm) fun _ _ _ h => tD_chain (prim2 fresh_cmp) (prim2 fresh_cmp) h
theorem dt_chain {op op' : CmpOp} {r r' : R2} {f g : S → S → Cs → R S} (hp : Prim2 T f r) (hp' : Prim2 T g r') (h : PT X (.Compare a [op, op'] [b, c] pos) (tTest (tChain r r' (tD T W A) (tD T W B) (tD T W C)))) : PT X (.Compare a [op, op'] [b, c] pos) (tDT T W (mTB (mChain f g A B C))) :=
  PT.imp h fun σ H Q q => tD_chain hp hp' (tDT_B q)
theorem dt_le_lt (ha : PE X a (tD T W A)) (hb : PE X b (tD T W B)) (hc : PE X c (tD T W C)) (hm : lastMarks [.LtE, .Lt] [b, c] = false := by with_unfolding_all rfl) : PT X (.Compare a [.LtE, .Lt] [b, c] pos) (tDT T W (mTB (mChain (lift2 leD) (lift2 ltD) A B C))) := dt_chain (prim2 fresh_cmp) (prim2 fresh_cmp) (pt_chain op_le op_lt ha hb hc hm)
theorem dt_le_le (ha : PE X a (tD T W A)) (hb : PE X b (tD T W B)) (hc : PE X c (tD T W C)) (hm : lastMarks [.LtE, .LtE] [b, c] = false := by with_unfolding_all rfl) : PT X (.Compare a [.LtE, .LtE] [b, c] pos) (tDT T W (mTB (mChain (lift2 leD) (lift2 leD) A B C))) := dt_chain (prim2 fresh_cmp) (prim2 fresh_cmp) (pt_chain op_le op_le ha hb hc hm)
end
end
end Dn

end
section
/-! Dn6: equality, membership, places, built-ins. -/
namespace Dn
open PySem PySem.Spec PyProof.Rows L2

/-! ### data as PyData -/
mutual
def D.py : D → PyData
  | .non => .none
  | .bl b => .bool b
  | .int i => .int i
  | .str x => .str x
  | .lst xs => .list (pys xs)
  | .tup xs => .tuple (pys xs)
  | .obj _ _ => .none
  | .scr _ => .none
  | .dct _ _ => .none
def pys : List D → List PyData
  | [] => []
  | x :: xs => D.py x :: pys xs
end
theorem pys_map : ∀ xs : List D, pys xs = xs.map D.py
  | [] => by unfold pys; rfl
  | x :: xs => by unfold pys; rw [pys_map xs]; rfl
mutual
/-- plain data, at most n deep -/
def D.ok (n : Nat) : D → Bool
  | .non => true
  | .bl _ => true
  | .int _ => true
  | .str x => PyData.strOk x
  | .lst xs => decide (0 < n) && oks (n - 1) xs
  | .tup xs => decide (0 < n) && oks (n - 1) xs
  | .obj _ _ => false
  | .scr _ => false
  | .dct _ _ => false
def oks (n : Nat) : List D → Bool
  | [] => true
  | x :: xs => D.ok n x && oks n xs
end
mutual
def eqD : D → D → Bool
  | .non, .non => true
  | .bl a, .bl b => a == b
  | .bl a, .int j => (if a then 1 else 0) == j
  | .int i, .bl b => i == (if b then 1 else 0)
  | .int i, .int j => i == j
  | .str x, .str y => x == y
  | .lst xs, .lst ys => eqDs xs ys
  | .tup xs, .tup ys => eqDs xs ys
  | _, _ => false
def eqDs : List D → List D → Bool
  | [], [] => true
  | x :: xs, y :: ys => eqD x y && eqDs xs ys
  | [], _ :: _ => false
  | _ :: _, [] => false
end
theorem oks_all (n : Nat) : ∀ xs : List D, oks n xs = xs.all (D.ok n)
  | [] => by unfold oks; rfl
  | x :: xs => by unfold oks; rw [oks_all n xs]; rfl
mutual
theorem lay_py : ∀ (n : Nat) (d : D), d.ok n = true → d.py.canLay0 = true
  | n, .non, _ => by unfold D.py; simp [PyData.canLay0]
  | n, .bl b, _ => by unfold D.py; simp [PyData.canLay0]
  | n, .int i, _ => by unfold D.py; simp [PyData.canLay0]
  | n, .str x, h => by unfold D.ok at h; unfold D.py; simp [PyData.canLay0]; exact h
  | n, .lst xs, h => by
    unfold D.ok at h
    simp only [Bool.and_eq_true, decide_eq_true_eq] at h
    unfold D.py; simp [PyData.canLay0]; exact lay_pys (n - 1) xs h.2
  | n, .tup xs, h => by
    unfold D.ok at h
    simp only [Bool.and_eq_true, decide_eq_true_eq] at h
    unfold D.py; simp [PyData.canLay0]; exact lay_pys (n - 1) xs h.2
  | n, .obj _ _, _ => by unfold D.py; simp [PyData.canLay0]
  | n, .scr _, _ => by unfold D.py; simp [PyData.canLay0]
  | n, .dct _ _, _ => by unfold D.py; simp [PyData.canLay0]
theorem lay_pys : ∀ (n : Nat) (ds : List D), oks n ds = true → PyData.canLayAll0 (pys ds) = true
  | n, [], _ => by unfold pys; simp [PyData.canLayAll0]
  | n, x :: xs, h => by
    unfold oks at h
    simp only [Bool.and_eq_true] at h
    unfold pys; simp [PyData.canLayAll0]; exact ⟨lay_py n x h.1, lay_pys n xs h.2⟩
end
mutual
theorem depth_py : ∀ (n : Nat) (d : D), d.ok n = true → d.py.depth ≤ n
  | n, .non, _ => by unfold D.py; simp [PyData.depth]
  | n, .bl b, _ => by unfold D.py; simp [PyData.depth]
  | n, .int i, _ => by unfold D.py; simp [PyData.depth]
  | n, .str x, _ => by unfold D.py; simp [PyData.depth]
  | n, .lst xs, h => by
    unfold D.py; simp only [PyData.depth]
    unfold D.ok at h
    simp only [Bool.and_eq_true, decide_eq_true_eq] at h
    have := depth_pys (n - 1) xs h.2
    omega
  | n, .tup xs, h => by
    unfold D.py; simp only [PyData.depth]
    unfold D.ok at h
    simp only [Bool.and_eq_true, decide_eq_true_eq] at h
    have := depth_pys (n - 1) xs h.2
    omega
  | n, .obj _ _, _ => by unfold D.py; simp [PyData.depth]
  | n, .scr _, _ => by unfold D.py; simp [PyData.depth]
  | n, .dct _ _, _ => by unfold D.py; simp [PyData.depth]
theorem depth_pys : ∀ (n : Nat) (ds : List D), oks n ds = true → PyData.depthAll (pys ds) ≤ n
  | n, [], _ => by unfold pys; simp [PyData.depthAll]
  | n, x :: xs, h => by
    unfold pys; simp only [PyData.depthAll]
    unfold oks at h
    simp only [Bool.and_eq_true] at h
    have := depth_py n x h.1
    have := depth_pys n xs h.2
    omega
end
theorem shaped_py {d : D} (h : d.ok 60 = true) : SeqAt.shaped d.py = true := by
  unfold SeqAt.shaped
  rw [Bool.and_eq_true]
  exact ⟨lay_py 60 d h, decide_eq_true (Nat.le_trans (depth_py 60 d h) (by decide))⟩
mutual
theorem eqv_py : ∀ (n : Nat) (x y : D), x.ok n = true → y.ok n = true → PyData.eqv x.py y.py = eqD x y
  | n, x, y, hx, hy => by
    cases x <;> cases y <;> first
      | (unfold D.ok at hx; cases hx; done)
      | (unfold D.ok at hy; cases hy; done)
      | (unfold D.py eqD; simp [PyData.eqv]; done)
      | (rename_i xs ys
         unfold D.py eqD; simp only [PyData.eqv]
         unfold D.ok at hx hy
         simp only [Bool.and_eq_true, decide_eq_true_eq] at hx hy
         exact eqv_pys (n - 1) xs ys hx.2 hy.2)
theorem eqv_pys : ∀ (n : Nat) (xs ys : List D), oks n xs = true → oks n ys = true → PyData.eqvAll (pys xs) (pys ys) = eqDs xs ys
  | n, [], [], _, _ => by unfold pys eqDs; simp [PyData.eqvAll]
  | n, [], y :: ys, _, _ => by unfold pys eqDs; simp [PyData.eqvAll]
  | n, x :: xs, [], _, _ => by unfold pys eqDs; simp [PyData.eqvAll]
  | n, x :: xs, y :: ys, hx, hy => by
    unfold oks at hx hy
    simp only [Bool.and_eq_true] at hx hy
    unfold pys eqDs
    simp only [PyData.eqvAll]
    rw [eqv_py n x y hx.1 hy.1, eqv_pys n xs ys hx.2 hy.2]
end
section
variable {T : Tb} {G H : Hp}
mutual
theorem Rep.dp : ∀ (n : Nat) (d : D) (v : V), d.ok n = true → Rep T G d v → Dp T.K G v d.py
  | n, .non, v, _, h => by have := Rep.non_inv h; subst this; unfold D.py; exact .non
  | n, .bl b, v, _, h => by have := Rep.bl_inv h; subst this; unfold D.py; exact .bl b
  | n, .int i, v, _, h => by have := Rep.int_inv h; subst this; unfold D.py; exact .int i
  | n, .str x, v, _, h => by have := Rep.str_inv h; subst this; unfold D.py; exact .str x
  | n, .lst xs, v, k, h => by
    obtain ⟨p, vs, rfl, sq, l, r⟩ := h.lst_inv
    unfold D.ok at k
    simp only [Bool.and_eq_true, decide_eq_true_eq] at k
    unfold D.py; exact .lst (SqL.of sq) (Reps.dp (n - 1) xs vs k.2 r)
  | n, .tup xs, v, k, h => by
    obtain ⟨p, vs, rfl, sq, l, r⟩ := h.tup_inv
    unfold D.ok at k
    simp only [Bool.and_eq_true, decide_eq_true_eq] at k
    unfold D.py; exact .tup (SqT.of sq) (Reps.dp (n - 1) xs vs k.2 r)
  | n, .obj _ _, v, k, h => by unfold D.ok at k; cases k
  | n, .scr _, v, k, h => by unfold D.ok at k; cases k
  | n, .dct _ _, v, k, h => by unfold D.ok at k; cases k
theorem Reps.dp : ∀ (n : Nat) (ds : List D) (vs : List V), oks n ds = true → Reps T G ds vs → DpAll T.K G vs (pys ds)
  | n, [], vs, _, h => by cases h.nil_inv; unfold pys; exact .nil
  | n, x :: xs, vs, k, h => by
    obtain ⟨v, r, rfl, a, b⟩ := h.cons_inv
    unfold oks at k
    simp only [Bool.and_eq_true] at k
    unfold pys
    exact .cons (Rep.dp n x v k.1 a) (Reps.dp n xs r k.2 b)
end
mutual
theorem Dp.mono {K : PySem.W.Frag} {G H : Hp} (e : Ex G H) : ∀ (d : PyData) (v : V), Dp K G v d → Dp K H v d
  | .none, v, h => by cases h; exact .non
  | .bool _, v, h => by cases h; exact .bl _
  | .int _, v, h => by cases h; exact .int _
  | .str _, v, h => by cases h; exact .str _
  | .list ds, v, h => by cases h with | lst s a => exact .lst (ex_l e s) (DpAll.mono e ds _ a)
  | .tuple ds, v, h => by cases h with | tup s a => exact .tup (ex_t e s) (DpAll.mono e ds _ a)
  | .dict _, v, h => by cases h
theorem DpAll.mono {K : PySem.W.Frag} {G H : Hp} (e : Ex G H) : ∀ (ds : List PyData) (vs : List V), DpAll K G vs ds → DpAll K H vs ds
  | [], vs, h => by cases h; exact .nil
  | d :: ds, vs, h => by cases h with | cons a b => exact .cons (Dp.mono e d _ a) (DpAll.mono e ds _ b)
end
theorem View.dp (e : Ex G H) {d : D} {v : V} (k : d.ok 60 = true) (h : View T G H d v) : Dp T.K H v d.py := by
  cases d with
  | lst xs =>
    obtain ⟨p, vs, rfl, sq, l, r⟩ := h
    unfold D.ok at k
    simp only [Bool.and_eq_true, decide_eq_true_eq] at k
    unfold D.py; exact .lst (SqL.of sq) (DpAll.mono e _ _ (Reps.dp _ xs vs k.2 r))
  | obj _ _ => unfold D.ok at k; cases k
  | scr _ => unfold D.ok at k; cases k
  | _ => exact Dp.mono e _ _ (Rep.dp 60 _ _ k h)
end

section
variable {X : Cx} {T : Tb} {W : WX} {a b o e : Expr} {es : List Expr} {A B : M} {pos p apos : Pos}
/-! ### == , != , in -/
def eqP (neg : Bool) (x y : D) : Option D := if (x.ok 60 && y.ok 60) = true then some (.bl (if neg then !eqD x y else eqD x y)) else none
theorem fresh_eq : Fresh2 T (eqP false) (rEqD T.K) := by
  intro G H x y d v u Q e hx hy hd k
  unfold eqP at hd
  split at hd
  · rename_i h
    simp only [Bool.and_eq_true] at h
    cases hd
    refine ⟨x.py, y.py, View.dp e h.1 hx, View.dp e h.2 hy, shaped_py h.1, shaped_py h.2, ?_⟩
    rw [eqv_py 60 x y h.1 h.2]
    exact k _ H G (Step.refl e) Rep.bl
  · cases hd
theorem fresh_ne : Fresh2 T (eqP true) (rNeD T.K) := by
  intro G H x y d v u Q e hx hy hd k
  unfold eqP at hd
  split at hd
  · rename_i h
    simp only [Bool.and_eq_true] at h
    cases hd
    refine ⟨x.py, y.py, View.dp e h.1 hx, View.dp e h.2 hy, shaped_py h.1, shaped_py h.2, ?_⟩
    rw [eqv_py 60 x y h.1 h.2]
    exact k _ H G (Step.refl e) Rep.bl
  · cases hd
theorem dn_eq {k : Nat} (hT : X.K = T.K) (hr : Room k X.A) (ha : PE X a (tD T W A)) (hb : PE X b (tD T W B)) : PE X (.Compare a [.Eq] [b] pos) (tD T W (mBin (lift2 (eqP false)) A B)) := dn_cmp (r := rEqD T.K) (by rw [← hT]; exact op_eqD hr.units) (prim2 fresh_eq) ha hb (nomark _)
theorem dn_ne {k : Nat} (hT : X.K = T.K) (hr : Room k X.A) (ha : PE X a (tD T W A)) (hb : PE X b (tD T W B)) : PE X (.Compare a [.NotEq] [b] pos) (tD T W (mBin (lift2 (eqP true)) A B)) := dn_cmp (r := rNeD T.K) (by rw [← hT]; exact op_neD hr.units) (prim2 fresh_ne) ha hb (nomark _)
theorem dt_eq {k : Nat} (hT : X.K = T.K) (hr : Room k X.A) (ha : PE X a (tD T W A)) (hb : PE X b (tD T W B)) : PT X (.Compare a [.Eq] [b] pos) (tDT T W (mTB (mBin (lift2 (eqP false)) A B))) := dt_cmp (r := rEqD T.K) (by rw [← hT]; exact op_eqD hr.units) (prim2 fresh_eq) ha hb (nomark _)
theorem dt_ne {k : Nat} (hT : X.K = T.K) (hr : Room k X.A) (ha : PE X a (tD T W A)) (hb : PE X b (tD T W B)) : PT X (.Compare a [.NotEq] [b] pos) (tDT T W (mTB (mBin (lift2 (eqP true)) A B))) := dt_cmp (r := rNeD T.K) (by rw [← hT]; exact op_neD hr.units) (prim2 fresh_ne) ha hb (nomark _)
def flatD : D → Bool
  | .non => true
  | .bl _ => true
  | .int _ => true
  | .str _ => true
  | _ => false
def inP (neg : Bool) : D → D → Option D
  | x, .lst ys => if (x.ok 60 && oks 59 ys) = true then some (.bl (if neg then !ys.any (fun z => eqD z x) else ys.any fun z => eqD z x)) else none
  | x, .tup ys => if (flatD x && ys.all flatD) = true then some (.bl (if neg then !ys.any (fun z => eqD z x) else ys.any fun z => eqD z x)) else none
  | _, _ => none
theorem flat_of {G : Hp} {x : D} {v : V} (h : flatD x = true) (r : Rep T G x v) : flatV v = true := by
  cases x <;> first
    | (cases h; done)
    | (have := Rep.non_inv r; subst this; rfl)
    | (have := Rep.bl_inv r; subst this; rfl)
    | (have := Rep.int_inv r; subst this; rfl)
    | (have := Rep.str_inv r; subst this; rfl)
theorem eqV_of {G : Hp} {x y : D} {v u : V} (hx : flatD x = true) (hy : flatD y = true) (r : Rep T G x v) (q : Rep T G y u) : eqV v u = eqD x y := by
  cases x <;> first
    | (cases hx; done)
    | (have := Rep.non_inv r; subst this
       cases y <;> first
        | (cases hy; done)
        | (have := Rep.non_inv q; subst this; unfold eqD; rfl)
        | (have := Rep.bl_inv q; subst this; unfold eqD; rfl)
        | (have := Rep.int_inv q; subst this; unfold eqD; rfl)
        | (have := Rep.str_inv q; subst this; unfold eqD; rfl))
    | (have := Rep.bl_inv r; subst this
       cases y <;> first
        | (cases hy; done)
        | (have := Rep.non_inv q; subst this; unfold eqD; rfl)
        | (have := Rep.bl_inv q; subst this; unfold eqD; rfl)
        | (have := Rep.int_inv q; subst this; unfold eqD; rfl)
        | (have := Rep.str_inv q; subst this; unfold eqD; rfl))
    | (have := Rep.int_inv r; subst this
       cases y <;> first
        | (cases hy; done)
        | (have := Rep.non_inv q; subst this; unfold eqD; rfl)
        | (have := Rep.bl_inv q; subst this; unfold eqD; rfl)
        | (have := Rep.int_inv q; subst this; unfold eqD; rfl)
        | (have := Rep.str_inv q; subst this; unfold eqD; rfl))
    | (have := Rep.str_inv r; subst this
       cases y <;> first
        | (cases hy; done)
        | (have := Rep.non_inv q; subst this; unfold eqD; rfl)
        | (have := Rep.bl_inv q; subst this; unfold eqD; rfl)
        | (have := Rep.int_inv q; subst this; unfold eqD; rfl)
        | (have := Rep.str_inv q; subst this; unfold eqD; rfl))
theorem any_of {G : Hp} {x : D} {v : V} (hx : flatD x = true) (r : Rep T G x v) : ∀ {ys : List D} {us : List V}, ys.all flatD = true → Reps T G ys us → us.all flatV = true ∧ inV v us = ys.any fun z => eqD z x
  | [], us, _, q => by cases q.nil_inv; exact ⟨rfl, rfl⟩
  | y :: ys, us, h, q => by
    obtain ⟨u, us, rfl, a, b⟩ := q.cons_inv
    simp only [List.all_cons, Bool.and_eq_true] at h
    obtain ⟨i1, i2⟩ := any_of hx r h.2 b
    refine ⟨by simp [flat_of h.1 a, i1], ?_⟩
    unfold inV at i2 ⊢
    rw [List.any_cons, List.any_cons, i2, eqV_of h.1 hx a r]
theorem eqv_any {x : D} (hx : x.ok 60 = true) : ∀ {ys : List D}, oks 59 ys = true → ((pys ys).any fun z => PyData.eqv z x.py) = ys.any fun z => eqD z x
  | [], _ => by unfold pys; rfl
  | y :: ys, h => by
    unfold oks at h
    simp only [Bool.and_eq_true] at h
    unfold pys
    have hy : y.ok 60 = true := ok_mono h.1
    rw [List.any_cons, List.any_cons, eqv_any hx h.2, eqv_py 60 y x hy hx]
where
  ok_mono : ∀ {d : D}, d.ok 59 = true → d.ok 60 = true := fun {d} h => okm 59 60 (by decide) d h
  okm : ∀ (n m : Nat), n ≤ m → ∀ d : D, d.ok n = true → d.ok m = true
    | n, m, l, .non, _ => by unfold D.ok; rfl
    | n, m, l, .bl _, _ => by unfold D.ok; rfl
    | n, m, l, .int _, _ => by unfold D.ok; rfl
    | n, m, l, .str _, h => by unfold D.ok at h ⊢; exact h
    | n, m, l, .lst xs, h => by
      unfold D.ok at h ⊢
      simp only [Bool.and_eq_true, decide_eq_true_eq] at h ⊢
      exact ⟨by omega, oksm (n - 1) (m - 1) (by omega) xs h.2⟩
    | n, m, l, .tup xs, h => by
      unfold D.ok at h ⊢
      simp only [Bool.and_eq_true, decide_eq_true_eq] at h ⊢
      exact ⟨by omega, oksm (n - 1) (m - 1) (by omega) xs h.2⟩
    | n, m, l, .obj _ _, h => by unfold D.ok at h; cases h
    | n, m, l, .scr _, h => by unfold D.ok at h; cases h
  oksm : ∀ (n m : Nat), n ≤ m → ∀ ds : List D, oks n ds = true → oks m ds = true
    | n, m, l, [], _ => by unfold oks; rfl
    | n, m, l, x :: xs, h => by
      unfold oks at h ⊢
      simp only [Bool.and_eq_true] at h ⊢
      exact ⟨okm n m l x h.1, oksm n m l xs h.2⟩
theorem ok_lst {ys : List D} (h : oks 59 ys = true) : (D.lst ys).ok 60 = true := by unfold D.ok; simp [h]
theorem fresh_in : Fresh2 T (inP false) (fun x y H Q => rInD T.K x y H Q ∨ rIn T.K false x y H Q) := by
  intro G H x y d v u Q e hx hy hd k
  unfold inP at hd
  split at hd
  · rename_i ys
    split at hd
    · rename_i h
      simp only [Bool.and_eq_true] at h
      cases hd
      have hy2 := View.dp e (ok_lst h.2) hy
      have hs := shaped_py (ok_lst h.2)
      unfold D.py at hy2 hs
      refine .inl ⟨x.py, pys ys, View.dp e h.1 hx, hy2, shaped_py h.1, hs, ?_⟩
      rw [eqv_any h.1 h.2]
      exact k _ H G (Step.refl e) Rep.bl
    · cases hd
  · rename_i ys
    split at hd
    · rename_i h
      simp only [Bool.and_eq_true] at h
      cases hd
      obtain ⟨q, us, rfl, sq, l, r⟩ := View.tup_inv hy
      have hx' : Rep T G x v := by cases x <;> first | (cases h.1; done) | exact hx
      obtain ⟨f1, f2⟩ := any_of h.1 hx' h.2 r
      refine .inr ⟨q, us, rfl, .inr (SqT.of (e _ _ sq)), flat_of h.1 hx', f1, ?_⟩
      rw [f2]
      exact k _ H G (Step.refl e) Rep.bl
    · cases hd
  · cases hd
theorem fresh_notIn : Fresh2 T (inP true) (fun x y H Q => rNotInD T.K x y H Q ∨ rIn T.K true x y H Q) := by
  intro G H x y d v u Q e hx hy hd k
  unfold inP at hd
  split at hd
  · rename_i ys
    split at hd
    · rename_i h
      simp only [Bool.and_eq_true] at h
      cases hd
      have hy2 := View.dp e (ok_lst h.2) hy
      have hs := shaped_py (ok_lst h.2)
      unfold D.py at hy2 hs
      refine .inl ⟨x.py, pys ys, View.dp e h.1 hx, hy2, shaped_py h.1, hs, ?_⟩
      rw [eqv_any h.1 h.2]
      exact k _ H G (Step.refl e) Rep.bl
    · cases hd
  · rename_i ys
    split at hd
    · rename_i h
      simp only [Bool.and_eq_true] at h
      cases hd
      obtain ⟨q, us, rfl, sq, l, r⟩ := View.tup_inv hy
      have hx' : Rep T G x v := by cases x <;> first | (cases h.1; done) | exact hx
      obtain ⟨f1, f2⟩ := any_of h.1 hx' h.2 r
      refine .inr ⟨q, us, rfl, .inr (SqT.of (e _ _ sq)), flat_of h.1 hx', f1, ?_⟩
      rw [f2]
      exact k _ H G (Step.refl e) Rep.bl
    · cases hd
  · cases hd
theorem dn_in {k : Nat} (hT : X.K = T.K) (hr : Room (k + 1) X.A) (ha : PE X a (tD T W A)) (hb : PE X b (tD T W B)) (hm : behindInMarks .In b = false := by rfl) : PE X (.Compare a [.In] [b] pos) (tD T W (mBin (lift2 (inP false)) A B)) :=
  dn_cmp (r := fun x y H Q => rInD T.K x y H Q ∨ rIn T.K false x y H Q) (by rw [← hT]; exact (op_inD (by have := hr.un; omega)).or op_in_seq) (prim2 fresh_in) ha hb hm
theorem dt_in {k : Nat} (hT : X.K = T.K) (hr : Room (k + 1) X.A) (ha : PE X a (tD T W A)) (hb : PE X b (tD T W B)) (hm : behindInMarks .In b = false := by rfl) : PT X (.Compare a [.In] [b] pos) (tDT T W (mTB (mBin (lift2 (inP false)) A B))) :=
  dt_cmp (r := fun x y H Q => rInD T.K x y H Q ∨ rIn T.K false x y H Q) (by rw [← hT]; exact (op_inD (by have := hr.un; omega)).or op_in_seq) (prim2 fresh_in) ha hb hm
theorem dn_notIn {k : Nat} (hT : X.K = T.K) (hr : Room (k + 1) X.A) (ha : PE X a (tD T W A)) (hb : PE X b (tD T W B)) (hm : behindInMarks .NotIn b = false := by rfl) : PE X (.Compare a [.NotIn] [b] pos) (tD T W (mBin (lift2 (inP true)) A B)) :=
  dn_cmp (r := fun x y H Q => rNotInD T.K x y H Q ∨ rIn T.K true x y H Q) (by rw [← hT]; exact (op_notInD (by have := hr.un; omega)).or op_notIn_seq) (prim2 fresh_notIn) ha hb hm
theorem dt_notIn {k : Nat} (hT : X.K = T.K) (hr : Room (k + 1) X.A) (ha : PE X a (tD T W A)) (hb : PE X b (tD T W B)) (hm : behindInMarks .NotIn b = false := by rfl) : PT X (.Compare a [.NotIn] [b] pos) (tDT T W (mTB (mBin (lift2 (inP true)) A B))) :=
  dt_cmp (r := fun x y H Q => rNotInD T.K x y H Q ∨ rIn T.K true x y H Q) (by rw [← hT]; exact (op_notInD (by have := hr.un; omega)).or op_notIn_seq) (prim2 fresh_notIn) ha hb hm

/-! ### places -/
def ixD : D → D → Option D
  | .lst xs, .int i => atI xs i
  | .tup xs, .int i => atI xs i
  | .scr ns, .int i => atI (ns.map D.int) i
  | .str z, .int i => if z.length ≤ sizeLine then (atI z.cps.toList i).map fun c => .str ⟨#[c]⟩ else none
  | _, _ => none
theorem Reps.atI {G : Hp} {xs : List D} {vs : List V} {i : Int} {d : D} (r : Reps T G xs vs) (h : L2.atI xs i = some d) : ∃ v, L2.atI vs i = some v ∧ Rep T G d v := by
  unfold L2.atI at h ⊢
  rw [r.length]
  cases e : ixN xs.length i with
  | none => rw [e] at h; cases h
  | some j =>
    rw [e] at h
    exact r.get h
theorem fresh_ix : Fresh2 T ixD (rIx T.K) := by
  intro G H x y d v u Q e hx hy hd k
  unfold ixD at hd
  split at hd
  · obtain ⟨q, vs, rfl, sq, l, r⟩ := hx
    have := View.int_inv hy; subst this
    obtain ⟨w, hw, rw'⟩ := r.atI hd
    exact .inl ⟨q, vs, _, w, rfl, rfl, SqL.of sq, hw, k _ H G (Step.refl e) rw'⟩
  · obtain ⟨q, vs, rfl, sq, l, r⟩ := View.tup_inv hx
    have := View.int_inv hy; subst this
    obtain ⟨w, hw, rw'⟩ := r.atI hd
    exact .inr (.inl ⟨q, vs, _, w, rfl, rfl, SqT.of (e _ _ sq), hw, k _ H G (Step.refl e) rw'⟩)
  · obtain ⟨q, rfl, sq, l⟩ := hx
    have := View.int_inv hy; subst this
    obtain ⟨w, hw, rw'⟩ := (Reps.map_int (T := T) (G := G) _).atI hd
    exact .inl ⟨q, _, _, w, rfl, rfl, sq, hw, k _ H G (Step.refl e) rw'⟩
  · rename_i z i
    split at hd
    · rename_i hl
      have := View.str_inv hx; subst this
      have := View.int_inv hy; subst this
      cases h : atI z.cps.toList i with
      | none => rw [h] at hd; cases hd
      | some c =>
        rw [h] at hd
        cases hd
        exact .inr (.inr ⟨z, i, c, rfl, rfl, hl, h, k _ H G (Step.refl e) Rep.str⟩)
    · cases hd
  · cases hd
theorem dn_ix (hT : X.K = T.K) (ha : PE X a (tD T W A)) (hb : PE X b (tD T W B)) (hs : PlainIx b := by exact fun _ _ => rfl) : PE X (.Subscript a b pos) (tD T W (mBin (lift2 ixD) A B)) :=
  PE.imp (pe_ix (r := rIx T.K) (by rw [← hT]; exact ix_seq) ha hb hs) fun _ _ _ h => tD_bin (prim2 fresh_ix) h

/-! ### built-ins -/
def lenD : List D → Option D
  | [.lst xs] => some (.int xs.length)
  | [.tup xs] => some (.int xs.length)
  | [.scr xs] => some (.int xs.length)
  | [.str z] => if z.length ≤ sizeLine then some (.int z.length) else none
  | _ => none
theorem Views.one {G H : Hp} {x : D} {vs : List V} (h : Views T G H [x] vs) : ∃ v, vs = [v] ∧ View T G H x v := by
  cases h with
  | cons a b => cases b; exact ⟨_, rfl, a⟩
theorem Views.two {G H : Hp} {x y : D} {vs : List V} (h : Views T G H [x, y] vs) : ∃ v u, vs = [v, u] ∧ View T G H x v ∧ View T G H y u := by
  cases h with
  | cons a b => obtain ⟨u, rfl, r⟩ := b.one; exact ⟨_, _, rfl, a, r⟩
theorem fresh_len : FreshN T lenD (fun xs H Q => (∃ p ys, xs = [.ref p] ∧ (SqL T.K H p ys ∨ SqT T.K H p ys) ∧ Q (.int ys.length) H) ∨ ∃ z, xs = [.str z] ∧ z.length ≤ sizeLine ∧ Q (.int z.length) H) := by
  intro G H x d v Q e hx hd k
  unfold lenD at hd
  split at hd
  · cases hd
    obtain ⟨v, rfl, q, vs, rfl, sq, l, r⟩ := hx.one
    exact .inl ⟨q, vs, rfl, .inl (SqL.of sq), by rw [r.length]; exact k _ H G (Step.refl e) Rep.int⟩
  · cases hd
    obtain ⟨v, rfl, h⟩ := hx.one
    obtain ⟨q, vs, rfl, sq, l, r⟩ := View.tup_inv h
    exact .inl ⟨q, vs, rfl, .inr (SqT.of (e _ _ sq)), by rw [r.length]; exact k _ H G (Step.refl e) Rep.int⟩
  · cases hd
    obtain ⟨v, rfl, q, rfl, sq, l⟩ := hx.one
    exact .inl ⟨q, _, rfl, .inl sq, by rw [List.length_map]; exact k _ H G (Step.refl e) Rep.int⟩
  · split at hd
    · rename_i hl
      cases hd
      obtain ⟨v, rfl, h⟩ := hx.one
      have := View.str_inv h; subst this
      exact .inr ⟨_, rfl, hl, k _ H G (Step.refl e) Rep.int⟩
    · cases hd
  · cases hd
theorem dn_len {B : MA} (hT : X.K = T.K) (hg : Gl X "len") (hm : X.mg "len" = none) (ha : PA X (e :: es) (tDA T W B)) (he : starEach (e :: es) X.env = (false, eval e X.env) :: starEach es X.env := by rfl) (hpl : (backTo pos (starEach es X.env)).any (·.1) = false := by rfl) : PE X (.Call (.Name "len" p) (e :: es) [] pos) (tD T W (mBlt (liftN lenD) B)) :=
  dn_callB (by have := (call_len_seq (X := X)).or call_len_str; rw [hT] at this; exact this) (primN fresh_len) hg hm PySem.boot_len ha (by decide) (by decide) he hpl
def listD : List D → Option D
  | [.lst xs] => some (.lst xs)
  | [.tup xs] => some (.lst xs)
  | [.scr ns] => some (.lst (ns.map D.int))
  | _ => none
theorem fresh_list : FreshN T listD (fun xs H Q => ∃ p ys, xs = [.ref p] ∧ (SqL T.K H p ys ∨ SqT T.K H p ys) ∧ ∀ l, H l = none → Q (.ref l) (upd H l (.lst ys))) := by
  intro G H x d v Q e hx hd k
  have fin : ∀ {xs : List D} {vs : List V} (l : Addr), Reps T G xs vs → xs.length ≤ sizeLine → d = .lst xs → H l = none → Q (.ref l) (upd H l (.lst vs)) := fun {xs vs} l r hl hd hn => by
    subst hd
    have st : Step G H (upd G l (.lst vs)) (upd H l (.lst vs)) := Step.new e hn
    exact k _ _ _ st (Rep.lst upd_same hl (Reps.mono st.g _ _ r))
  unfold listD at hd
  split at hd
  · cases hd
    obtain ⟨v, rfl, q, vs, rfl, sq, l, r⟩ := hx.one
    exact ⟨q, vs, rfl, .inl (SqL.of sq), fun t ht => fin t r l rfl ht⟩
  · cases hd
    obtain ⟨v, rfl, h⟩ := hx.one
    obtain ⟨q, vs, rfl, sq, l, r⟩ := View.tup_inv h
    exact ⟨q, vs, rfl, .inr (SqT.of (e _ _ sq)), fun t ht => fin t r l rfl ht⟩
  · cases hd
    obtain ⟨v, rfl, q, rfl, sq, l⟩ := hx.one
    exact ⟨q, _, rfl, .inl sq, fun t ht => fin t (Reps.map_int _) (by simpa using l) rfl ht⟩
  · cases hd
theorem dn_list {B : MA} (hT : X.K = T.K) (hg : Gl X "list") (hm : X.mg "list" = none) (ha : PA X (e :: es) (tDA T W B)) (he : starEach (e :: es) X.env = (false, eval e X.env) :: starEach es X.env := by rfl) (hpl : (backTo pos (starEach es X.env)).any (·.1) = false := by rfl) : PE X (.Call (.Name "list" p) (e :: es) [] pos) (tD T W (mBlt (liftN listD) B)) :=
  dn_callTy (by have := call_list_of (X := X); rw [hT] at this; exact this) (primN fresh_list) hg hm (by decide +kernel) ha (by decide) (by decide) he hpl
def tupleD : List D → Option D
  | [.lst xs] => some (.tup xs)
  | [.tup xs] => some (.tup xs)
  | _ => none
theorem fresh_tuple : FreshN T tupleD (fun xs H Q => ∃ p ys, xs = [.ref p] ∧ ((SqL T.K H p ys ∧ ∀ l, H l = none → Q (.ref l) (upd H l (.tup ys))) ∨ (SqT T.K H p ys ∧ Q (.ref p) H))) := by
  intro G H x d v Q e hx hd k
  unfold tupleD at hd
  split at hd
  · cases hd
    obtain ⟨v, rfl, q, vs, rfl, sq, l, r⟩ := hx.one
    refine ⟨q, vs, rfl, .inl ⟨SqL.of sq, fun t ht => ?_⟩⟩
    have st : Step G H (upd G t (.tup vs)) (upd H t (.tup vs)) := Step.new e ht
    exact k _ _ _ st (Rep.tup upd_same l (Reps.mono st.g _ _ r))
  · cases hd
    obtain ⟨v, rfl, h⟩ := hx.one
    obtain ⟨q, vs, rfl, sq, l, r⟩ := View.tup_inv h
    exact ⟨q, vs, rfl, .inr ⟨SqT.of (e _ _ sq), k _ H G (Step.refl e) (Rep.tup sq l r)⟩⟩
  · cases hd
theorem dn_tuple {B : MA} (hT : X.K = T.K) (hg : Gl X "tuple") (hm : X.mg "tuple" = none) (ha : PA X (e :: es) (tDA T W B)) (he : starEach (e :: es) X.env = (false, eval e X.env) :: starEach es X.env := by rfl) (hpl : (backTo pos (starEach es X.env)).any (·.1) = false := by rfl) : PE X (.Call (.Name "tuple" p) (e :: es) [] pos) (tD T W (mBlt (liftN tupleD) B)) :=
  dn_callTy (by have := call_tuple_of (X := X); rw [hT] at this; exact this) (primN fresh_tuple) hg hm (by decide +kernel) ha (by decide) (by decide) he hpl
def ints? : List D → Option (List Int)
  | [] => some []
  | .int i :: r => match ints? r with
    | some ns => some (i :: ns)
    | none => none
  | _ :: _ => none
theorem ints?_map : ∀ ns : List Int, ints? (ns.map D.int) = some ns
  | [] => rfl
  | n :: ns => by show (match ints? (ns.map D.int) with | some ns => some (n :: ns) | none => none) = _; rw [ints?_map ns]
theorem ints?_inv : ∀ {xs : List D} {ns : List Int}, ints? xs = some ns → xs = ns.map D.int
  | [], _, h => by cases h; rfl
  | .int i :: r, ns, h => by
    unfold ints? at h
    cases e : ints? r with
    | none => rw [e] at h; cases h
    | some ms => rw [e] at h; cases h; rw [ints?_inv e]; rfl
  | .non :: _, _, h => by cases h
  | .bl _ :: _, _, h => by cases h
  | .str _ :: _, _, h => by cases h
  | .lst _ :: _, _, h => by cases h
  | .tup _ :: _, _, h => by cases h
  | .obj _ _ :: _, _, h => by cases h
  | .scr _ :: _, _, h => by cases h
theorem Reps.ints {G : Hp} : ∀ {ns : List Int} {vs : List V}, Reps T G (ns.map D.int) vs → vs = ns.map V.int
  | [], vs, h => h.nil_inv
  | n :: ns, vs, h => by
    obtain ⟨v, r, rfl, a, b⟩ := h.cons_inv
    have := Rep.int_inv a; subst this
    rw [Reps.ints b]; rfl
def sumD : List D → Option D
  | [.lst xs] => (ints? xs).map fun ns => .int ns.sum
  | [.scr ns] => some (.int ns.sum)
  | _ => none
theorem fresh_sum : FreshN T sumD (rSum T.K) := by
  intro G H x d v Q e hx hd k
  unfold sumD at hd
  split at hd
  · rename_i xs
    cases h : ints? xs with
    | none => rw [h] at hd; cases hd
    | some ns =>
      rw [h] at hd
      cases hd
      have := ints?_inv h; subst this
      obtain ⟨v, rfl, q, vs, rfl, sq, l, r⟩ := hx.one
      rw [r.ints] at sq
      exact ⟨q, ns, rfl, SqL.of sq, k _ H G (Step.refl e) Rep.int⟩
  · cases hd
    obtain ⟨v, rfl, q, rfl, sq, l⟩ := hx.one
    exact ⟨q, _, rfl, sq, k _ H G (Step.refl e) Rep.int⟩
  · cases hd
theorem dn_sum {B : MA} (hT : X.K = T.K) (hc : X.calm = true) (hg : Gl X "sum") (hm : X.mg "sum" = none) (ha : PA X (e :: es) (tDA T W B)) (he : starEach (e :: es) X.env = (false, eval e X.env) :: starEach es X.env := by rfl) (hpl : (backTo pos (starEach es X.env)).any (·.1) = false := by rfl) : PE X (.Call (.Name "sum" p) (e :: es) [] pos) (tD T W (mBlt (liftN sumD) B)) :=
  dn_callB (by have := cr_sum (X := X) hc; rw [hT] at this; exact this) (primN fresh_sum) hg hm (by decide +kernel) ha (by decide) (by decide) he hpl
def absD : List D → Option D
  | [.int i] => some (.int (if i < 0 then -i else i))
  | _ => none
theorem fresh_abs : FreshN T absD (fun xs H Q => ∃ i, xs = [.int i] ∧ Q (.int (if i < 0 then -i else i)) H) := by
  intro G H x d v Q e hx hd k
  unfold absD at hd
  split at hd
  · cases hd
    obtain ⟨v, rfl, h⟩ := hx.one
    have := View.int_inv h; subst this
    exact ⟨_, rfl, k _ H G (Step.refl e) Rep.int⟩
  · cases hd
theorem dn_abs {B : MA} (hg : Gl X "abs") (hm : X.mg "abs" = none) (ha : PA X (e :: es) (tDA T W B)) (he : starEach (e :: es) X.env = (false, eval e X.env) :: starEach es X.env := by rfl) (hpl : (backTo pos (starEach es X.env)).any (·.1) = false := by rfl) : PE X (.Call (.Name "abs" p) (e :: es) [] pos) (tD T W (mBlt (liftN absD) B)) :=
  dn_callB call_abs (primN fresh_abs) hg hm (by decide +kernel) ha (by decide) (by decide) he hpl
def intD : List D → Option D
  | [.int i] => some (.int i)
  | _ => none
theorem fresh_int : FreshN T intD (fun xs H Q => (∃ i, xs = [.int i] ∧ Q (.int i) H) ∨ ∃ k, xs = [.bl k] ∧ Q (.int (if k then 1 else 0)) H) := by
  intro G H x d v Q e hx hd k
  unfold intD at hd
  split at hd
  · cases hd
    obtain ⟨v, rfl, h⟩ := hx.one
    have := View.int_inv h; subst this
    exact .inl ⟨_, rfl, k _ H G (Step.refl e) Rep.int⟩
  · cases hd
theorem dn_intc {B : MA} (hg : Gl X "int") (hm : X.mg "int" = none) (ha : PA X (e :: es) (tDA T W B)) (he : starEach (e :: es) X.env = (false, eval e X.env) :: starEach es X.env := by rfl) (hpl : (backTo pos (starEach es X.env)).any (·.1) = false := by rfl) : PE X (.Call (.Name "int" p) (e :: es) [] pos) (tD T W (mBlt (liftN intD) B)) :=
  dn_callTy call_int1 (primN fresh_int) hg hm (by decide +kernel) ha (by decide) (by decide) he hpl
def max2D : List D → Option D
  | [.int i, .int j] => some (.int (if j > i then j else i))
  | _ => none
def min2D : List D → Option D
  | [.int i, .int j] => some (.int (if j < i then j else i))
  | _ => none
theorem fresh_max2 : FreshN T max2D (fun xs H Q => ∃ i j, xs = [.int i, .int j] ∧ Q (.int (if j > i then j else i)) H) := by
  intro G H x d v Q e hx hd k
  unfold max2D at hd
  split at hd
  · cases hd
    obtain ⟨v, u, rfl, h, h'⟩ := hx.two
    have := View.int_inv h; subst this
    have := View.int_inv h'; subst this
    exact ⟨_, _, rfl, k _ H G (Step.refl e) Rep.int⟩
  · cases hd
theorem fresh_min2 : FreshN T min2D (fun xs H Q => ∃ i j, xs = [.int i, .int j] ∧ Q (.int (if j < i then j else i)) H) := by
  intro G H x d v Q e hx hd k
  unfold min2D at hd
  split at hd
  · cases hd
    obtain ⟨v, u, rfl, h, h'⟩ := hx.two
    have := View.int_inv h; subst this
    have := View.int_inv h'; subst this
    exact ⟨_, _, rfl, k _ H G (Step.refl e) Rep.int⟩
  · cases hd
theorem dn_max2 {B : MA} (hc : X.calm = true) (hg : Gl X "max") (hm : X.mg "max" = none) (ha : PA X (e :: es) (tDA T W B)) (he : starEach (e :: es) X.env = (false, eval e X.env) :: starEach es X.env := by rfl) (hpl : (backTo pos (starEach es X.env)).any (·.1) = false := by rfl) : PE X (.Call (.Name "max" p) (e :: es) [] pos) (tD T W (mBlt (liftN max2D) B)) :=
  dn_callB (call_max2 hc) (primN fresh_max2) hg hm (by decide +kernel) ha (by decide) (by decide) he hpl
theorem dn_min2 {B : MA} (hc : X.calm = true) (hg : Gl X "min") (hm : X.mg "min" = none) (ha : PA X (e :: es) (tDA T W B)) (he : starEach (e :: es) X.env = (false, eval e X.env) :: starEach es X.env := by rfl) (hpl : (backTo pos (starEach es X.env)).any (·.1) = false := by rfl) : PE X (.Call (.Name "min" p) (e :: es) [] pos) (tD T W (mBlt (liftN min2D) B)) :=
  dn_callB (call_min2 hc) (primN fresh_min2) hg hm (by decide +kernel) ha (by decide) (by decide) he hpl
def bls? : List D → Option (List Bool)
  | [] => some []
  | .bl i :: r => match bls? r with
    | some ns => some (i :: ns)
    | none => none
  | _ :: _ => none
theorem bls?_map : ∀ ns : List Bool, bls? (ns.map D.bl) = some ns
  | [] => rfl
  | n :: ns => by show (match bls? (ns.map D.bl) with | some ns => some (n :: ns) | none => none) = _; rw [bls?_map ns]
theorem bls?_inv : ∀ {xs : List D} {ns : List Bool}, bls? xs = some ns → xs = ns.map D.bl
  | [], _, h => by cases h; rfl
  | .bl i :: r, ns, h => by
    unfold bls? at h
    cases e : bls? r with
    | none => rw [e] at h; cases h
    | some ms => rw [e] at h; cases h; rw [bls?_inv e]; rfl
  | .non :: _, _, h => by cases h
  | .int _ :: _, _, h => by cases h
  | .str _ :: _, _, h => by cases h
  | .lst _ :: _, _, h => by cases h
  | .tup _ :: _, _, h => by cases h
  | .obj _ _ :: _, _, h => by cases h
  | .scr _ :: _, _, h => by cases h
theorem Reps.bls {G : Hp} : ∀ {ns : List Bool} {vs : List V}, Reps T G (ns.map D.bl) vs → vs = ns.map V.bl
  | [], vs, h => h.nil_inv
  | n :: ns, vs, h => by
    obtain ⟨v, r, rfl, a, b⟩ := h.cons_inv
    have := Rep.bl_inv a; subst this
    rw [Reps.bls b]; rfl
def allD : List D → Option D
  | [.lst xs] => (bls? xs).map fun ns => .bl (ns.all id)
  | _ => none
def anyD : List D → Option D
  | [.lst xs] => (bls? xs).map fun ns => .bl (ns.any id)
  | _ => none
theorem fresh_all : FreshN T allD (L2.rAll T.K) := by
  intro G H x d v Q e hx hd k
  unfold allD at hd
  split at hd
  · rename_i xs
    cases h : bls? xs with
    | none => rw [h] at hd; cases hd
    | some ns =>
      rw [h] at hd
      cases hd
      have := bls?_inv h; subst this
      obtain ⟨v, rfl, q, vs, rfl, sq, l, r⟩ := hx.one
      rw [r.bls] at sq
      exact ⟨q, ns, rfl, SqL.of sq, k _ H G (Step.refl e) Rep.bl⟩
  · cases hd
theorem fresh_any : FreshN T anyD (L2.rAny T.K) := by
  intro G H x d v Q e hx hd k
  unfold anyD at hd
  split at hd
  · rename_i xs
    cases h : bls? xs with
    | none => rw [h] at hd; cases hd
    | some ns =>
      rw [h] at hd
      cases hd
      have := bls?_inv h; subst this
      obtain ⟨v, rfl, q, vs, rfl, sq, l, r⟩ := hx.one
      rw [r.bls] at sq
      exact ⟨q, ns, rfl, SqL.of sq, k _ H G (Step.refl e) Rep.bl⟩
  · cases hd
theorem dn_all {B : MA} (hT : X.K = T.K) (hc : X.calm = true) (hg : Gl X "all") (hm : X.mg "all" = none) (ha : PA X (e :: es) (tDA T W B)) (he : starEach (e :: es) X.env = (false, eval e X.env) :: starEach es X.env := by rfl) (hpl : (backTo pos (starEach es X.env)).any (·.1) = false := by rfl) : PE X (.Call (.Name "all" p) (e :: es) [] pos) (tD T W (mBlt (liftN allD) B)) :=
  dn_callB (by have := cr_all (X := X) hc; rw [hT] at this; exact this) (primN fresh_all) hg hm (by decide +kernel) ha (by decide) (by decide) he hpl
theorem dn_any {B : MA} (hT : X.K = T.K) (hc : X.calm = true) (hg : Gl X "any") (hm : X.mg "any" = none) (ha : PA X (e :: es) (tDA T W B)) (he : starEach (e :: es) X.env = (false, eval e X.env) :: starEach es X.env := by rfl) (hpl : (backTo pos (starEach es X.env)).any (·.1) = false := by rfl) : PE X (.Call (.Name "any" p) (e :: es) [] pos) (tD T W (mBlt (liftN anyD) B)) :=
  dn_callB (by have := cr_any (X := X) hc; rw [hT] at this; exact this) (primN fresh_any) hg hm (by decide +kernel) ha (by decide) (by decide) he hpl

/-! ### sorted -/
def allAlike (xs : List D) : Bool := xs.all fun x => xs.all fun y => PySem.W.alike x.py y.py
def isTup1 : PyData → Bool
  | .tuple (_ :: _) => true
  | _ => false
def notTup : PyData → Bool
  | .tuple _ => false
  | .none => false
  | _ => true
def sortOk (xs : List D) : Bool := xs.all (D.ok 50) && allAlike xs && (xs.all (fun x => isTup1 x.py) || xs.all fun x => notTup x.py)
/-- a stable sort by putting in place, one by one -/
def insS {α : Type} (le : α → α → Bool) (x : α) : List α → List α
  | [] => [x]
  | y :: r => if le x y = true then x :: y :: r else y :: insS le x r
def isort {α : Type} (le : α → α → Bool) : List α → List α
  | [] => []
  | x :: r => insS le x (isort le r)
theorem insS_at {α : Type} {le : α → α → Bool} {a : α} : ∀ {l₁ l₂ : List α}, (∀ b, b ∈ l₁ → le a b = false) → (∀ b, b ∈ l₂.head? → le a b = true) → insS le a (l₁ ++ l₂) = l₁ ++ a :: l₂
  | [], [], _, _ => rfl
  | [], y :: r, _, h => by
    show insS le a (y :: r) = a :: y :: r
    unfold insS
    rw [if_pos (h y (by simp))]
  | b :: l₁, l₂, h, k => by
    show insS le a (b :: (l₁ ++ l₂)) = b :: (l₁ ++ a :: l₂)
    unfold insS
    rw [if_neg (by rw [h b List.mem_cons_self]; exact Bool.false_ne_true), insS_at (fun x hx => h x (List.mem_cons_of_mem _ hx)) k]
theorem isort_merge {α : Type} {le : α → α → Bool} (trans : ∀ (a b c : α), le a b = true → le b c = true → le a c = true) (total : ∀ (a b : α), (le a b || le b a) = true) : ∀ xs : List α, isort le xs = xs.mergeSort le
  | [] => by simp [isort]
  | x :: r => by
    obtain ⟨l₁, l₂, h1, h2, h3⟩ := List.mergeSort_cons trans total x r
    unfold isort
    rw [isort_merge trans total r, h2, h1, insS_at (fun b hb => by simpa using h3 b hb)]
    intro b hb
    have sorted : (l₁ ++ x :: l₂).Pairwise fun a b => le a b = true := by rw [← h1]; exact List.pairwise_mergeSort trans total _
    have := (List.pairwise_append.mp sorted).2.1
    have := (List.pairwise_cons.mp this).1
    cases l₂ with
    | nil => cases hb
    | cons y r => cases hb; exact this _ List.mem_cons_self
def sortL (xs : List D) : List D := isort (PySem.W.dataLe false D.py) xs
theorem sortL_merge (xs : List D) : sortL xs = xs.mergeSort (PySem.W.dataLe false D.py) := by
  have tot := PySem.W.sortLe_total (PyProof.Rows.listOrd PyProof.Rows.itemOrd) false fun b : D => PySem.W.keyToks b.py
  exact isort_merge (fun a b c h1 h2 => tot.trans a b c h1 h2) (fun a b => by
    rcases tot.total a b with h | h
    · exact Bool.or_eq_true_iff.mpr (.inl h)
    · exact Bool.or_eq_true_iff.mpr (.inr h)) xs
def sortedD : List D → Option D
  | [.lst xs] => if sortOk xs = true then some (.lst (sortL xs)) else none
  | _ => none
def rSrt (T : Tb) : List V → Hp → VK → Prop := fun vs H Q => ∃ G q us xs, vs = [.ref q] ∧ Ex G H ∧ H q = some (.lst us) ∧ Reps T G xs us ∧ sortOk xs = true ∧ xs.length ≤ sizeLine ∧ ∀ t ws, H t = none → Reps T G (sortL xs) ws → Q (.ref t) (upd H t (.lst ws))
theorem alike_ok {xs : List D} (h : allAlike xs = true) : PySem.W.AllAlike (xs.map D.py) := by
  intro d hd d' hd'
  obtain ⟨x, hx, rfl⟩ := List.mem_map.mp hd
  obtain ⟨y, hy, rfl⟩ := List.mem_map.mp hd'
  unfold allAlike at h
  rw [List.all_eq_true] at h
  have := h x hx
  rw [List.all_eq_true] at this
  exact this y hy
theorem sortable_ok {xs : List D} (h : (xs.all (fun x => isTup1 x.py) || xs.all fun x => notTup x.py) = true) : PySem.W.Sortable (xs.map D.py) := by
  rw [Bool.or_eq_true] at h
  rcases h with h | h
  · refine .inl fun d hd => ?_
    obtain ⟨x, hx, rfl⟩ := List.mem_map.mp hd
    rw [List.all_eq_true] at h
    have := h x hx
    unfold isTup1 at this
    split at this
    · rename_i a r hh; exact ⟨a, r, hh⟩
    · cases this
  · refine .inr fun d hd => ?_
    obtain ⟨x, hx, rfl⟩ := List.mem_map.mp hd
    rw [List.all_eq_true] at h
    have := h x hx
    unfold notTup at this
    split at this
    · cases this
    · cases this
    · rename_i h1 h2
      exact ⟨h2, h1⟩
theorem each_of {G H : Hp} (e : Ex G H) {pins : List (Addr × Obj)} {σ : L2.St} {s : Shared} (hT : X.K = T.K) (I : Inv X pins σ H s) : ∀ {xs : List D} {us : List V} {its : List Value}, xs.all (D.ok 50) = true → Reps T G xs us → Vals us its →
    PySem.W.EachIs (fun (v : Value) (d : D) => ∃ x : V, RelV x v ∧ Rep T G d x) its xs ∧ PySem.W.EachIs (fun (v : Value) (d : D) => ∃ as, Reads s.heap v d.py as) its xs
  | [], us, its, _, r, v => by cases r.nil_inv; cases v; exact ⟨.nil, .nil⟩
  | x :: xs, us, its, h, r, v => by
    obtain ⟨u, us, rfl, a, b⟩ := r.cons_inv
    simp only [List.all_cons, Bool.and_eq_true] at h
    cases v with
    | cons v1 v2 =>
      obtain ⟨i1, i2⟩ := each_of e hT I h.2 b v2
      have hd : Dp X.K H u x.py := by rw [hT]; exact Dp.mono e _ _ (Rep.dp 50 _ _ h.1 a)
      exact ⟨.cons ⟨u, v1, a⟩ i1, .cons (Dp.reads I _ _ _ hd v1) i2⟩
theorem each_back {G : Hp} : ∀ {its : List Value} {xs : List D}, PySem.W.EachIs (fun (v : Value) (d : D) => ∃ x : V, RelV x v ∧ Rep T G d x) its xs → ∃ us, Vals us its ∧ Reps T G xs us
  | _, _, .nil => ⟨[], .nil, Reps.nil⟩
  | _, _, .cons ⟨x, r, q⟩ t => let ⟨us, a, b⟩ := each_back t; ⟨x :: us, .cons r a, Reps.cons q b⟩
theorem cr_srt (hT : X.K = T.K) (hu : X.A.units + 64 < cLine) : CallR X (.builtin "sorted") (rSrt T) := by
  intro pins s σ H vs us0 Q I r h
  obtain ⟨G, q, us, xs, rfl, e, hq, rr, ok, hlen, k⟩ := h
  rw [Vals.ref1 r]
  unfold sortOk at ok
  simp only [Bool.and_eq_true] at ok
  obtain ⟨⟨o1, o2⟩, o3⟩ := ok
  obtain ⟨its, rv, hl, hz⟩ := I.list (SqL.of hq)
  obtain ⟨e1, e2⟩ := each_of e hT I o1 rr rv
  refine PySem.W.sorted_data (enc := D.py) hl.isList e1 e2 (alike_ok o2) (sortable_ok o3) hlen (fun b hb => ?_) fun out hol hout => ?_
  · rw [List.all_eq_true] at o1
    have := depth_py 50 b (o1 b hb)
    omega
  · rw [← sortL_merge] at hout
    obtain ⟨ws, hv, hr⟩ := each_back hout
    obtain ⟨ep, he'⟩ := PyProof.Rows.sortedAll_at s.heap its out.toArray
    have hwl : ws.length ≤ sizeLine := by rw [hr.length, sortL_merge, List.length_mergeSort]; exact hlen
    exact ⟨.ref _, upd H (s.heap.objs.size + 1) (.lst ws), I.laid (t' := s.toks) (fun _ _ => PyProof.Rows.sortedAll_old) (Nat.le_succ _) ⟨hwl, out, ep, hv, he'⟩, rfl, k _ ws (I.hok.fresh (Nat.le_succ _)) hr⟩
theorem fresh_sorted : FreshN T sortedD (rSrt T) := by
  intro G H x d v Q e hx hd k
  unfold sortedD at hd
  split at hd
  · rename_i xs
    split at hd
    · rename_i ok
      cases hd
      obtain ⟨v, rfl, q, vs, rfl, sq, l, r⟩ := hx.one
      refine ⟨G, q, vs, xs, rfl, e, sq, r, ok, l, fun t ws ht hr => ?_⟩
      have st : Step G H (upd G t (.lst ws)) (upd H t (.lst ws)) := Step.new e ht
      exact k _ _ _ st (Rep.lst upd_same (by rw [sortL_merge, List.length_mergeSort]; exact l) (Reps.mono st.g _ _ hr))
    · cases hd
  · cases hd
theorem dn_sorted {B : MA} {k : Nat} (hT : X.K = T.K) (hr : Room k X.A) (hg : Gl X "sorted") (hm : X.mg "sorted" = none) (ha : PA X (e :: es) (tDA T W B)) (he : starEach (e :: es) X.env = (false, eval e X.env) :: starEach es X.env := by rfl) (hpl : (backTo pos (starEach es X.env)).any (·.1) = false := by rfl) : PE X (.Call (.Name "sorted" p) (e :: es) [] pos) (tD T W (mBlt (liftN sortedD) B)) :=
  dn_callB (cr_srt hT hr.units) (primN fresh_sorted) hg hm (by decide +kernel) ha (by decide) (by decide) he hpl
end
end Dn

end
section
set_option maxHeartbeats 4000000
/-! Dn7: == and != where objects with an own == stand among the items. -/
namespace Dn
open PySem PySem.Spec PyProof.Rows L2
open PySem.SeqAt
open AutoSeq1 (wpAny_loadPart')
open MeetsSeq MeetsSeq2 MeetsSeq3 SeqRoads2
section
variable {prog : Program} {w : World} {A : Around} {R : Result → Shared → Prop}
def codeOf (neg : Bool) : Int := if neg then 3 else 2
def Both (l b : Addr) (N : Nat) (s : Shared) : Prop := ∃ (x y : Array Value) (n m : Nat), s.heap.get? l = some { cls := .type "list", data := .seq x n } ∧ s.heap.get? b = some { cls := .type "list", data := .seq y m } ∧ x.size = N ∧ y.size = N
/-- at each turn the two lists are read anew; what the i-th two are found to be -/
def Pairs (prog : Program) (w : World) (A : Around) (E : Value → Shared → Prop) (l b : Addr) (N : Nat) (I : Nat → Shared → Prop) (Z : Shared → Prop) : Prop :=
  ∀ (i : Nat) (s : Shared), I i s → ∃ (x y : Array Value) (n m : Nat), s.heap.get? l = some { cls := .type "list", data := .seq x n } ∧ s.heap.get? b = some { cls := .type "list", data := .seq y m } ∧ x.size = N ∧ y.size = N ∧
    ∀ (h1 : i < x.size) (h2 : i < y.size), wpAny (model prog w) A.in1 (eqBool x[i] y[i]) (fun r t => (r = true ∧ I (i + 1) t) ∨ (r = false ∧ Z t)) E s
theorem cmp_loop (neg : Bool) {l b : Addr} {N : Nat} {I : Nat → Shared → Prop} {Z : Shared → Prop} (hl : Pairs prog w A (fun e t => R (.error e) t) l b N I Z) (hB : ∀ t, Z t → Both l b N t)
    (hN : ∀ t, I N t → R (.ok (.ret (.bool (!neg)))) t) (hZ : ∀ t, Z t → R (.ok (.ret (.bool neg))) t) :
    ∀ k i : Nat, N - i = k → i ≤ N → ∀ s, I i s → wpAny (model prog w) A.in1 (Builtin.«list.__eq__.loop» ⟨[.ref l, .ref b, rawInt i, rawInt (codeOf neg)], []⟩) (GQ.FinOf prog w A R) (fun e t => R (.error e) t) s := by
  intro k
  induction k with
  | zero =>
    intro i hk hi s hI
    obtain ⟨x, y, n, m, hx, hy, sx, sy, _⟩ := hl i s hI
    have e : i = N := by omega
    subst e
    have fin := hN s hI
    have nx : x[((i : Nat) : Int).toNat]? = none := by simp; omega
    have ny : y[((i : Nat) : Int).toNat]? = none := by simp; omega
    obtain ⟨hp, g, d, tk, os⟩ := s
    cases neg with
    | false =>
      wp_walk using wpAny_loadPart' hx, wpAny_loadPart' hy
      rw [nx, ny]
      wp_walk using wpAny_loadPart' hx, wpAny_loadPart' hy
      show R (.ok (.ret (.bool (x.size == y.size)))) _
      rw [sx, sy]
      simpa using fin
    | true =>
      wp_walk using wpAny_loadPart' hx, wpAny_loadPart' hy
      rw [nx, ny]
      wp_walk using wpAny_loadPart' hx, wpAny_loadPart' hy
      show R (.ok (.ret (.bool (x.size != y.size)))) _
      rw [sx, sy]
      simpa using fin
  | succ k ih =>
    intro i hk hi s hI
    obtain ⟨x, y, n, m, hx, hy, sx, sy, turn⟩ := hl i s hI
    have h1 : i < x.size := by omega
    have h2 : i < y.size := by omega
    have ht := turn h1 h2
    have gx : x[((i : Nat) : Int).toNat]? = some x[i] := by simp [h1]
    have gy : y[((i : Nat) : Int).toNat]? = some y[i] := by simp [h2]
    have hc : ((i : Int) + 1) = ((i + 1 : Nat) : Int) := by omega
    have two : ∀ t : Shared, Z t → ∃ (x y : Array Value) (n m : Nat), t.heap.get? l = some { cls := .type "list", data := .seq x n } ∧ t.heap.get? b = some { cls := .type "list", data := .seq y m } ∧ (∃ u, x[((i : Nat) : Int).toNat]? = some u) ∧ ∃ u, y[((i : Nat) : Int).toNat]? = some u := fun t z => by
      obtain ⟨x', y', n', m', q1, q2, q3, q4⟩ := hB t z
      have k1 : i < x'.size := by omega
      have k2 : i < y'.size := by omega
      exact ⟨x', y', n', m', q1, q2, ⟨x'[i], by simp [k1]⟩, ⟨y'[i], by simp [k2]⟩⟩
    obtain ⟨hp, g, d, tk, os⟩ := s
    cases neg with
    | false =>
      wp_walk using wpAny_loadPart' hx, wpAny_loadPart' hy
      rw [gx, gy]
      refine wpAny_bind (wpAny_mono ht (fun r t q => ?_) fun _ _ z => z)
      rcases q with ⟨rfl, q⟩ | ⟨rfl, q⟩
      · have next := ih (i + 1) (by omega) (by omega) t q
        obtain ⟨hp2, g2, d2, tk2, os2⟩ := t
        wp_walk
        rw [hc]
        exact ⟨plainId_quiet plain_eq_loop _, codeAny_builtin entry_eq_loop (by rw [Around.under_plainId plain_eq_loop _]; exact next)⟩
      · obtain ⟨x', y', n', m', q1, q2, ⟨u1, q3⟩, u2, q4⟩ := two t q
        have fin := hZ t q
        obtain ⟨hp2, g2, d2, tk2, os2⟩ := t
        wp_walk using wpAny_loadPart' q1, wpAny_loadPart' q2
        rw [q3, q4]
        wp_walk
        exact fin
    | true =>
      wp_walk using wpAny_loadPart' hx, wpAny_loadPart' hy
      rw [gx, gy]
      refine wpAny_bind (wpAny_mono ht (fun r t q => ?_) fun _ _ z => z)
      rcases q with ⟨rfl, q⟩ | ⟨rfl, q⟩
      · have next := ih (i + 1) (by omega) (by omega) t q
        obtain ⟨hp2, g2, d2, tk2, os2⟩ := t
        wp_walk
        rw [hc]
        exact ⟨plainId_quiet plain_eq_loop _, codeAny_builtin entry_eq_loop (by rw [Around.under_plainId plain_eq_loop _]; exact next)⟩
      · obtain ⟨x', y', n', m', q1, q2, ⟨u1, q3⟩, u2, q4⟩ := two t q
        have fin := hZ t q
        obtain ⟨hp2, g2, d2, tk2, os2⟩ := t
        wp_walk using wpAny_loadPart' q1, wpAny_loadPart' q2
        rw [q3, q4]
        wp_walk
        exact fin
def cmpOf (neg : Bool) : CmpOp := if neg then .NotEq else .Eq
theorem list_cmp (neg : Bool) {E : Value → Shared → Prop} {l b : Addr} {N : Nat} {I : Nat → Shared → Prop} {Z : Shared → Prop} {Q : Value → Shared → Prop} {s : Shared} (hu : A.units < cLine) (hl : Pairs prog w A E l b N I Z) (hB : ∀ t, Z t → Both l b N t)
    (hN : ∀ t, I N t → Q (.bool (!neg)) t) (hZ : ∀ t, Z t → Q (.bool neg) t) (h0 : I 0 s) : wpAny (model prog w) A (richCompare (cmpOf neg) (.ref l) (.ref b)) Q E s := by
  obtain ⟨x, y, n, m, hx, hy, sx, sy, _⟩ := hl 0 s h0
  have f3 := AutoSeq1.sub_list_list
  have hne : ¬ (x.size != y.size) = true := by simp [sx, sy]
  have lp := cmp_loop (R := wants (fun v t => v ≠ .notImplemented ∧ Q v t) E) neg hl hB (fun t q => ⟨(fun z => nomatch z), hN t q⟩) (fun t q => ⟨(fun z => nomatch z), hZ t q⟩) N 0 rfl (Nat.zero_le _) s h0
  cases neg with
  | false =>
    refine wpAny_richCompare_same_room (op := .Eq) ⟨_, hx, rfl⟩ ⟨_, hy, rfl⟩ F.slot_list_eq (GQ.call_here F.slot_list_eq ⟨_, hx, rfl⟩ F.entry_list_eq (F.args_list_eq_2 _ _) ?_) hu
    obtain ⟨hp, g, d, tk, os⟩ := s
    wp_walk using wpAny_loadPart' hx, wpAny_loadPart' hy
    exact ⟨plainId_quiet plain_eq_loop _, codeAny_builtin entry_eq_loop (by rw [Around.under_plainId plain_eq_loop _]; exact lp)⟩
  | true =>
    refine wpAny_richCompare_same_room (op := .NotEq) ⟨_, hx, rfl⟩ ⟨_, hy, rfl⟩ F.slot_list_ne (GQ.call_here F.slot_list_ne ⟨_, hx, rfl⟩ F.entry_list_ne (F.args_list_ne_2 _ _) ?_) hu
    obtain ⟨hp, g, d, tk, os⟩ := s
    wp_walk using wpAny_loadPart' hx, wpAny_loadPart' hy
    exact ⟨plainId_quiet plain_eq_loop _, codeAny_builtin entry_eq_loop (by rw [Around.under_plainId plain_eq_loop _]; exact lp)⟩
end

section
variable {X : Cx} {T : Tb} {W : WX} {a b o e : Expr} {es : List Expr} {A B : M} {pos p apos : Pos}
theorem RelH.grow {H H' : Hp} {c : Cs} {G : Hp} {ρ : List Addr} (r : RelH T H c G ρ) (e : Ex H H') : RelH T H' c G ρ := by
  refine ⟨r.ex.trans e, r.len, r.nd, fun i p x a b => ?_⟩
  obtain ⟨g, k⟩ := r.at_ i p x a b
  obtain ⟨o, ho⟩ := k.some
  exact ⟨g, k.keep (.refl _) ((e _ _ ho).trans ho.symm) (List.prefix_refl _)⟩
theorem RelH.none (H : Hp) : RelH T H [] H [] := ⟨.refl _, rfl, List.nodup_nil, fun i p x a _ => by simp at a⟩
/-- the own == of two objects of a class, anywhere below the body -/
theorem rc_own {fn : List S → Cs → R S} {n j k : Nat} (M : MethAt X.prog X.w X.K X.mg X.base T "__eq__" k j fn) (hj : j ≤ n) {Ar : Around} {pins : List (Addr × Obj)} {s : Shared} {σ : L2.St} {H : Hp} {x y : Addr} {xs ys : List D} {r : Bool} (sb : Sub X n Ar) (I : Inv X pins σ H s)
    (hx : Rep T H (.obj k xs) (.ref x)) (hy : Rep T H (.obj k ys) (.ref y)) (hf : fn [.d (.obj k xs), .d (.obj k ys)] [] = .ok (.d (.bl r)) []) :
    wpAny (model X.prog X.w) Ar (richCompare .Eq (.ref x) (.ref y)) (fun v s' => v = .bool r ∧ ∃ H', Inv X pins σ H' s' ∧ Ex H H') X.xe s := by
  obtain ⟨f, fd, ps, F, hm, hc, _, hb⟩ := M
  obtain ⟨_, dx, fv, e1, hx1, _⟩ := hx.obj_inv
  cases e1
  obtain ⟨_, dy, gv, e2, hy1, _⟩ := hy.obj_inv
  cases e2
  obtain ⟨mA, J, _⟩ := ins_get I.hok hx1
  obtain ⟨mB, J', _⟩ := ins_get I.hok hy1
  obtain ⟨od, J, _⟩ := J.look
  obtain ⟨od', J', _⟩ := J'.look
  obtain ⟨m, hF⟩ := I.fr
  refine PySem.W.cmp_K (op := .Eq) (tb := .ref (T.cl k)) sb.room.units0 hF I.ok.mod.kin J J'.type (by simp [PySem.W.notFirst]) hm.at_ hm.fn ?_
  have hsp : spD T fn [.ref x, .ref y] H (fun v H' => v = .bl r ∧ Ex H H') (fun _ _ _ => False) := by
    refine ⟨[.d (.obj k xs), .d (.obj k ys)], [], H, [], .cons hx (.cons hy .nil), RelH.none H, ?_⟩
    rw [hf]
    exact fun v H' G' ρ' eg pr rh rv => ⟨SRep.bl_inv rv, eg.trans rh.ex⟩
  have e0 : Env0 X.prog X.w X.K X.mg X.base Ar X.stack s H := by
    have e := I.env0
    exact ⟨by rw [sb.fr]; exact e.frames, e.mod, e.bs, e.bsz, e.funs, e.frf, e.hok, e.bare⟩
  have hl := F.len _ _ _ _ hsp
  have bb := hb s [.ref x, .ref y] I.kIn (by simpa using hl)
  rw [List.append_nil] at bb
  refine wpAny_call (codeAny_mono (F.run Ar X.stack s H ⟨[.ref x, .ref y], []⟩ [.ref x, .ref y] [.ref x, .ref y] _ _ (sb.room.mono hj) e0 bb (.cons rfl (.cons rfl .nil)) hsp) fun fl s' hq => ?_)
  cases fl with
  | error e =>
    obtain ⟨_, _, _, _, _, _, _, _, _, _, _, _, z⟩ := hq
    exact z.elim
  | ok fl =>
    cases fl with
    | ret w =>
      obtain ⟨z, H', I', rz, ez, ex⟩ := I.after hq
      subst ez
      cases rz
      exact ⟨rfl, H', I', ex⟩
    | next => exact False.elim hq
    | brk => exact False.elim hq
    | cont => exact False.elim hq
/-- two items: plain data, or objects that are equal by their own == -/
def isB (r : R S) : Option Bool := match r with
  | .ok (.d (.bl b)) [] => some b
  | _ => none
theorem isB_inv {r : R S} {b : Bool} (h : isB r = some b) : r = .ok (.d (.bl b)) [] := by
  unfold isB at h
  split at h
  · cases h; rfl
  · cases h
def eqIt (tbl : List (Nat × (List S → Cs → R S))) (x y : D) : Option Bool :=
  if (x.ok 50 && y.ok 50) = true then some (eqD x y) else match x, y with
    | .obj k xs, .obj k2 ys => if k = k2 then (match look tbl k with
        | some fn => if isB (fn [.d (.obj k xs), .d (.obj k2 ys)] []) = some true then some true else none
        | none => none) else none
    | _, _ => none
theorem eqIt_ok {tbl : List (Nat × (List S → Cs → R S))} {n : Nat} (hM : MethsAt X.prog X.w X.K X.mg X.base T "__eq__" n tbl) (hT : X.K = T.K) {Ar : Around} {pins : List (Addr × Obj)} {s : Shared} {σ : L2.St} {H G : Hp} {x y : D} {v u : V} {vv uu : Value} {r : Bool} (sb : Sub X n Ar) (I : Inv X pins σ H s) (eg : Ex G H)
    (hx : Rep T G x v) (hy : Rep T G y u) (rv : RelV v vv) (ru : RelV u uu) (h : eqIt tbl x y = some r) :
    wpAny (model X.prog X.w) Ar (eqBool vv uu) (fun z s' => z = r ∧ ∃ H', Inv X pins σ H' s' ∧ Ex H H') X.xe s := by
  unfold eqIt at h
  split at h
  · rename_i ok
    simp only [Bool.and_eq_true] at ok
    cases h
    have d1 : Dp X.K H v x.py := by rw [hT]; exact Dp.mono eg _ _ (Rep.dp 50 _ _ ok.1 hx)
    have d2 : Dp X.K H u y.py := by rw [hT]; exact Dp.mono eg _ _ (Rep.dp 50 _ _ ok.2 hy)
    obtain ⟨as, q1⟩ := Dp.reads I _ _ _ d1 rv
    obtain ⟨bs, q2⟩ := Dp.reads I _ _ _ d2 ru
    have dd := depth_py 50 x ok.1
    have hu := sb.room.units
    refine eqAt_reads x.py y.py Ar s vv uu as bs q1 q2 (lay_py 50 x ok.1) (lay_py 50 y ok.2) (by have := Nat.min_le_left x.py.depth y.py.depth; omega) X.prog X.w X.xe _ ⟨?_, H, I, .refl _⟩
    exact eqv_py 50 x y ok.1 ok.2
  · split at h
    · rename_i k xs k2 ys _
      split at h
      · rename_i hk
        subst hk
        cases hl : look tbl k with
        | none => simp only [hl] at h; cases h
        | some fn =>
          simp only [hl] at h
          split at h
          · rename_i hb
            cases h
            obtain ⟨j, hj, M⟩ := hM.get (look_mem hl)
            obtain ⟨pa, _, _, rfl, _⟩ := hx.obj_inv
            obtain ⟨pb, _, _, rfl, _⟩ := hy.obj_inv
            cases rv
            cases ru
            by_cases hab : pa = pb
            · subst hab
              exact SeqAt.EqAt.same (A := Ar) (s := s) (.ref pa) X.prog X.w X.xe _ ⟨rfl, H, I, .refl _⟩
            · refine GQ.eqBool_refG hab (wpAny_mono (rc_own M hj sb I (Rep.mono eg _ _ hx) (Rep.mono eg _ _ hy) (isB_inv hb)) (fun z s' q => ?_) fun _ _ z => z)
              obtain ⟨q1, q2⟩ := q
              exact ⟨true, q1, rfl, q2⟩
          · cases h
      · cases h
    · cases h
def eqLs (tbl : List (Nat × (List S → Cs → R S))) : List D → List D → Option Bool
  | [], [] => some true
  | x :: xs, y :: ys => match eqIt tbl x y with
    | some true => eqLs tbl xs ys
    | some false => some false
    | none => none
  | _, _ => none
def rEqLs (T : Tb) (tbl : List (Nat × (List S → Cs → R S))) (neg : Bool) : R2 := fun v u H Q => ∃ G p q vs us xs ys r, v = .ref p ∧ u = .ref q ∧ Ex G H ∧ H p = some (.lst vs) ∧ H q = some (.lst us) ∧ Reps T G xs vs ∧ Reps T G ys us ∧ xs.length = ys.length ∧ eqLs tbl xs ys = some r ∧
  ∀ H', Ex H H' → Q (.bl (if neg then !r else r)) H'
theorem op_eqLs {tbl : List (Nat × (List S → Cs → R S))} {n : Nat} (neg : Bool) (hM : MethsAt X.prog X.w X.K X.mg X.base T "__eq__" n tbl) (hT : X.K = T.K) (hr : Room (n + 1) X.A) : OpR X (compareOp (cmpOf neg)) (rEqLs T tbl neg) := by
  intro pins s σ H v0 u0 vv uu Q I rv ru h
  obtain ⟨G, p, q, vs, us, xs, ys, r, rfl, rfl, eg, hp, hq, rx, ry, hl, he, k⟩ := h
  cases rv
  cases ru
  have sb : Sub X (n + 1) X.A := ⟨hr, rfl⟩
  have go : wpAny (model X.prog X.w) X.A (richCompare (cmpOf neg) (.ref p) (.ref q)) (EP X pins σ Q) X.xe s := by
    refine list_cmp neg (N := xs.length) (I := fun i t => ∃ H', Inv X pins σ H' t ∧ Ex H H' ∧ eqLs tbl (xs.drop i) (ys.drop i) = some r) (Z := fun t => ∃ H', Inv X pins σ H' t ∧ Ex H H' ∧ r = false) hr.units0 (fun i t hI => ?_) (fun t hZ => ?_) (fun t hI => ?_) (fun t hZ => ?_) ⟨H, I, .refl _, by simpa using he⟩
    · obtain ⟨H1, I1, e1, q1⟩ := hI
      obtain ⟨z1, its, k1, r1, g1⟩ := I1.hok p _ (e1 _ _ hp)
      obtain ⟨z2, its2, k2, r2, g2⟩ := I1.hok q _ (e1 _ _ hq)
      have l1 : its.length = xs.length := by rw [← r1.length, rx.length]
      have l2 : its2.length = xs.length := by rw [← r2.length, ry.length, hl]
      refine ⟨its.toArray, its2.toArray, k1, k2, g1, g2, by simpa using l1, by simpa using l2, fun h1 h2 => ?_⟩
      have i1 : i < xs.length := by rw [← l1]; simpa using h1
      have i2 : i < ys.length := by rw [← hl]; exact i1
      rw [List.drop_eq_getElem_cons i1, List.drop_eq_getElem_cons i2] at q1
      unfold eqLs at q1
      obtain ⟨v, hv, rv⟩ := rx.get (List.getElem?_eq_getElem i1)
      obtain ⟨u, hu, ru⟩ := ry.get (List.getElem?_eq_getElem i2)
      obtain ⟨vv, hvv, rvv⟩ := r1.get hv
      obtain ⟨uu, huu, ruu⟩ := r2.get hu
      have ev : its.toArray[i] = vv := by
        have := (List.getElem?_eq_some_iff.mp hvv).2
        simpa using this
      have eu : its2.toArray[i] = uu := by
        have := (List.getElem?_eq_some_iff.mp huu).2
        simpa using this
      rw [ev, eu]
      cases hit : eqIt tbl xs[i] ys[i] with
      | none => simp only [hit] at q1; cases q1
      | some b =>
        simp only [hit] at q1
        refine wpAny_mono (eqIt_ok hM hT sb.in1 I1 (eg.trans e1) rv ru rvv ruu hit) (fun z t' q' => ?_) fun _ _ z => z
        obtain ⟨rfl, H2, I2, e2⟩ := q'
        cases z with
        | true => exact .inl ⟨rfl, H2, I2, e1.trans e2, q1⟩
        | false => exact .inr ⟨rfl, H2, I2, e1.trans e2, (Option.some.inj q1).symm⟩
    · obtain ⟨H1, I1, e1, q1⟩ := hZ
      obtain ⟨z1, its, k1, r1, g1⟩ := I1.hok p _ (e1 _ _ hp)
      obtain ⟨z2, its2, k2, r2, g2⟩ := I1.hok q _ (e1 _ _ hq)
      exact ⟨its.toArray, its2.toArray, k1, k2, g1, g2, by rw [List.size_toArray, ← r1.length, rx.length], by rw [List.size_toArray, ← r2.length, ry.length, hl]⟩
    · obtain ⟨H1, I1, e1, q1⟩ := hI
      rw [List.drop_length, hl, List.drop_length] at q1
      have : r = true := (Option.some.inj q1).symm
      subst this
      refine ⟨.bl (!neg), H1, I1, rfl, ?_⟩
      have := k H1 e1
      cases neg <;> exact this
    · obtain ⟨H1, I1, e1, q1⟩ := hZ
      subst q1
      refine ⟨.bl neg, H1, I1, rfl, ?_⟩
      have := k H1 e1
      cases neg <;> exact this
  cases neg <;> exact go
/-- == and != : plain data; two lists with objects among their items; two objects of a class -/
def eqX (tbl : List (Nat × (List S → Cs → R S))) (neg : Bool) : S → S → Cs → R S := fun s t c => match deref s c, deref t c with
  | some x, some y => if (x.ok 60 && y.ok 60) = true then .ok (.d (.bl (if neg then !eqD x y else eqD x y))) c else match x, y with
    | .lst xs, .lst ys => if xs.length = ys.length then (match eqLs tbl xs ys with
        | some r => .ok (.d (.bl (if neg then !r else r))) c
        | none => .bad) else .bad
    | _, _ => .bad
  | _, _ => .bad
theorem prim_eqX {tbl : List (Nat × (List S → Cs → R S))} {neg : Bool} : Prim2 T (eqX tbl neg) (fun x y H Q => (if neg then rNeD T.K else rEqD T.K) x y H Q ∨ rEqLs T tbl neg x y H Q) := by
  intro W σ G ρ H c s t v u Q hh rs rt p
  unfold eqX at p
  cases e1 : deref s c with
  | none => simp only [e1] at p; exact p.elim
  | some x =>
    cases e2 : deref t c with
    | none => simp only [e1, e2] at p; exact p.elim
    | some y =>
      simp only [e1, e2] at p
      have vx := deref_view hh rs e1
      have vy := deref_view hh rt e2
      by_cases ok : (x.ok 60 && y.ok 60) = true
      · rw [if_pos ok] at p
        have okk := ok
        simp only [Bool.and_eq_true] at okk
        left
        cases neg with
        | false => exact ⟨x.py, y.py, View.dp hh.ex okk.1 vx, View.dp hh.ex okk.2 vy, shaped_py okk.1, shaped_py okk.2, by rw [eqv_py 60 x y okk.1 okk.2]; exact p _ H G ρ (.refl _) (List.prefix_refl _) hh SRep.bl⟩
        | true => exact ⟨x.py, y.py, View.dp hh.ex okk.1 vx, View.dp hh.ex okk.2 vy, shaped_py okk.1, shaped_py okk.2, by rw [eqv_py 60 x y okk.1 okk.2]; exact p _ H G ρ (.refl _) (List.prefix_refl _) hh SRep.bl⟩
      · rw [if_neg ok] at p
        right
        cases x with
        | lst xs =>
          cases y with
          | lst ys =>
            by_cases hl : xs.length = ys.length
            · simp only [hl, if_true] at p
              cases he : eqLs tbl xs ys with
              | none => simp only [he] at p; exact p.elim
              | some r =>
                simp only [he] at p
                obtain ⟨pa, vs, rfl, sq, l, rx⟩ := vx
                obtain ⟨pb, us, rfl, sq', l', ry⟩ := vy
                exact ⟨G, pa, pb, vs, us, xs, ys, r, rfl, rfl, hh.ex, sq, sq', rx, ry, hl, he, fun H' e' => p _ H' G ρ (.refl _) (List.prefix_refl _) (hh.grow e') SRep.bl⟩
            · simp only [hl, if_false] at p; exact p.elim
          | _ => exact p.elim
        | _ => exact p.elim
theorem op_eqX {tbl : List (Nat × (List S → Cs → R S))} {n : Nat} (neg : Bool) (hM : MethsAt X.prog X.w X.K X.mg X.base T "__eq__" n tbl) (hT : X.K = T.K) (hr : Room (n + 1) X.A) : OpR X (compareOp (cmpOf neg)) (fun x y H Q => (if neg then rNeD T.K else rEqD T.K) x y H Q ∨ rEqLs T tbl neg x y H Q) := by
  cases neg with
  | false =>
    have h1 : OpR X (compareOp .Eq) (rEqD T.K) := by rw [← hT]; exact op_eqD hr.units
    exact OpR.or h1 (op_eqLs false hM hT hr)
  | true =>
    have h1 : OpR X (compareOp .NotEq) (rNeD T.K) := by rw [← hT]; exact op_neD hr.units
    exact OpR.or h1 (op_eqLs true hM hT hr)
section
variable {tbl : List (Nat × (List S → Cs → R S))} {n : Nat} (hM : MethsAt X.prog X.w X.K X.mg X.base T "__eq__" n tbl) (hT : X.K = T.K) (hr : Room (n + 1) X.A) (ha : PE X a (tD T W A)) (hb : PE X b (tD T W B))
include hM hT hr ha hb
theorem dn_eqX : PE X (.Compare a [.Eq] [b] pos) (tD T W (mBin (eqX tbl false) A B)) := dn_cmp (op_eqX false hM hT hr) prim_eqX ha hb (nomark _)
theorem dn_neX : PE X (.Compare a [.NotEq] [b] pos) (tD T W (mBin (eqX tbl true) A B)) := dn_cmp (op_eqX true hM hT hr) prim_eqX ha hb (nomark _)
theorem dt_eqX : PT X (.Compare a [.Eq] [b] pos) (tDT T W (mTB (mBin (eqX tbl false) A B))) := dt_cmp (op_eqX false hM hT hr) prim_eqX ha hb (nomark _)
theorem dt_neX : PT X (.Compare a [.NotEq] [b] pos) (tDT T W (mTB (mBin (eqX tbl true) A B))) := dt_cmp (op_eqX true hM hT hr) prim_eqX ha hb (nomark _)
end
/-- two objects of a class -/
def eqO (tbl : List (Nat × (List S → Cs → R S))) : S → S → Cs → R S := fun s t c => match s, t with
  | .d (.obj k xs), .d (.obj k2 ys) => if k = k2 then (match look tbl k with
      | some fn => match isB (fn [.d (.obj k xs), .d (.obj k2 ys)] []) with
        | some r => .ok (.d (.bl r)) c
        | none => .bad
      | none => .bad) else .bad
  | _, _ => .bad
def rEqO (T : Tb) (tbl : List (Nat × (List S → Cs → R S))) : R2 := fun v u H Q => ∃ k xs ys fn r, look tbl k = some fn ∧ Rep T H (.obj k xs) v ∧ Rep T H (.obj k ys) u ∧ fn [.d (.obj k xs), .d (.obj k ys)] [] = .ok (.d (.bl r)) [] ∧ ∀ H', Ex H H' → Q (.bl r) H'
theorem op_eqO {tbl : List (Nat × (List S → Cs → R S))} {n : Nat} (hM : MethsAt X.prog X.w X.K X.mg X.base T "__eq__" n tbl) (hr : Room n X.A) : OpR X (compareOp .Eq) (rEqO T tbl) := by
  intro pins s σ H v u vv uu Q I rv ru h
  obtain ⟨k, xs, ys, fn, r, hl, hx, hy, hf, q⟩ := h
  obtain ⟨j, hj, M⟩ := hM.get (look_mem hl)
  obtain ⟨pa, _, _, rfl, _⟩ := hx.obj_inv
  obtain ⟨pb, _, _, rfl, _⟩ := hy.obj_inv
  cases rv
  cases ru
  show wpAny (model X.prog X.w) X.A (richCompare .Eq (.ref pa) (.ref pb)) (EP X pins σ Q) X.xe s
  refine wpAny_mono (rc_own M hj ⟨hr, rfl⟩ I hx hy hf) (fun z s' ⟨e, H', I', ex⟩ => ?_) fun _ _ z => z
  subst e
  exact ⟨.bl r, H', I', rfl, q H' ex⟩
theorem prim_eqO {tbl : List (Nat × (List S → Cs → R S))} : Prim2 T (eqO tbl) (rEqO T tbl) := by
  intro W σ G ρ H c s t v u Q hh rs rt p
  unfold eqO at p
  split at p
  · rename_i k xs k2 ys
    split at p
    · rename_i hk
      subst hk
      cases hl : look tbl k with
      | none => simp only [hl] at p; exact p.elim
      | some fn =>
        simp only [hl] at p
        cases hb : isB (fn [.d (.obj k xs), .d (.obj k ys)] []) with
        | none => simp only [hb] at p; exact p.elim
        | some r =>
          simp only [hb] at p
          exact ⟨k, xs, ys, fn, r, hl, Rep.mono hh.ex _ _ rs, Rep.mono hh.ex _ _ rt, isB_inv hb, fun H' e' => p _ H' G ρ (.refl _) (List.prefix_refl _) (hh.grow e') SRep.bl⟩
    · exact p.elim
  · exact p.elim
section
variable {tbl : List (Nat × (List S → Cs → R S))} {n : Nat} (hM : MethsAt X.prog X.w X.K X.mg X.base T "__eq__" n tbl) (hr : Room n X.A) (ha : PE X a (tD T W A)) (hb : PE X b (tD T W B))
include hM hr ha hb
theorem dn_eqO : PE X (.Compare a [.Eq] [b] pos) (tD T W (mBin (eqO tbl) A B)) := dn_cmp (op_eqO hM hr) prim_eqO ha hb (nomark _)
theorem dt_eqO : PT X (.Compare a [.Eq] [b] pos) (tDT T W (mTB (mBin (eqO tbl) A B))) := dt_cmp (op_eqO hM hr) prim_eqO ha hb (nomark _)
end
end
end Dn

end
section
set_option maxHeartbeats 1000000
/-! Dn8: list(range), isinstance, cells changed, dicts, errors, len of own objects. -/
namespace Dn
open PySem PySem.Spec PyProof.Rows L2
section
variable {X : Cx} {T : Tb} {W : WX} {a b o e : Expr} {es : List Expr} {A B : M} {pos p p2 pos2 apos : Pos}
/-! ### list(range(n)) -/
def lstRng (s : S) (c : Cs) : R S := match s with
  | .d (.int j) => if j ≤ 16777216 ∧ -(2 ^ 62) ≤ j then .ok (.d (.lst (rngL 0 j.toNat))) c else .bad
  | _ => .bad
def mLstRng (A : M) : M := fun δ c => (A δ c).bind lstRng
theorem reps_rng {G : Hp} (a : Int) (n : Nat) : Reps T G (rngL a n) ((List.range n).map fun i => V.int (a + (i : Nat))) := by
  refine Reps.of_get (by simp [rngL]) fun i d v h1 h2 => ?_
  unfold rngL at h1
  rw [List.getElem?_map] at h1 h2
  cases h : (List.range n)[i]? with
  | none => rw [h] at h1; cases h1
  | some j =>
    rw [h] at h1 h2
    cases h1; cases h2
    exact Rep.int
theorem dn_listRng (hc : X.calm = true) (hg : Gl X "list") (hm : X.mg "list" = none) (hg2 : Gl X "range") (hm2 : X.mg "range" = none) (ha : PE X a (tD T W A)) (na : starEach [a] X.env = (false, eval a X.env) :: starEach [] X.env := by rfl)
    (nb : starEach [.Call (.Name "range" p2) [a] [] pos2] X.env = (false, eval (.Call (.Name "range" p2) [a] [] pos2) X.env) :: starEach [] X.env := by rfl) : PE X (.Call (.Name "list" p) [.Call (.Name "range" p2) [a] [] pos2] [] pos) (tD T W (mLstRng A)) := by
  refine PE.imp (pe_listRg hc hg hm (prg_1 hg2 hm2 ha na) nb) fun σ H Q ⟨δ, c, G, ρ, hs, hh, p⟩ => ?_
  refine ⟨δ, c, G, ρ, hs, hh, (Post.bind (rel := SRep T) p).imp ?_⟩
  rintro v H1 ⟨s, c1, G1, ρ1, e1, p1, h1, r1, q1⟩
  unfold lstRng at q1
  split at q1
  · rename_i j
    split at q1
    · rename_i hj
      have := SRep.int_inv r1; subst this
      refine ⟨j, rfl, ⟨by omega, by omega, by omega, by omega, by omega⟩, fun t ht => ?_⟩
      have st : Step G1 H1 (upd G1 t (.lst (rgV 0 j))) (upd H1 t (.lst (rgV 0 j))) := Step.new h1.ex ht
      refine q1 _ _ _ ρ1 st.g (List.prefix_refl _) (h1.step st) (Rep.lst upd_same ?_ ?_)
      · rw [rngL_len, sizeLine_eq]; omega
      · have e0 : rgV 0 j = (List.range j.toNat).map fun i => V.int (0 + (i : Nat)) := by
          unfold rgV
          rw [show (j - 0).toNat = j.toNat by simp]
        rw [e0]
        exact reps_rng 0 j.toNat
    · exact q1.elim
  · exact q1.elim

/-! ### isinstance -/
/-- what isinstance says of each kind of data -/
structure Kinds where
  non : Option Bool
  bl : Option Bool
  int : Option Bool
  str : Option Bool
  lst : Option Bool
  tup : Option Bool
  obj : List (Nat × Bool)
  dct : Option Bool := none
def Kinds.ask (k : Kinds) : D → Option Bool
  | .non => k.non
  | .bl _ => k.bl
  | .int _ => k.int
  | .str _ => k.str
  | .lst _ => k.lst
  | .tup _ => k.tup
  | .obj c _ => look k.obj c
  | .scr _ => none
  | .dct _ _ => k.dct
/-- a class whose instances may be asked for their class -/
structure Asked (K : PySem.W.Frag) (C : Addr) : Prop where
  cl : Cls K C
  ha : PySem.W.findIn K (.ref C) "__class__" = some (some (.builtin "object.__class__"))
  hn : PySem.W.specialIn K (.builtin "object.__class__") "__get__" = some (some (.builtin "getset_descriptor.__get__"))
  htk : PySem.W.takesIn K (.builtin "object.__class__") = some true
  hm : PySem.W.mroIn K C (.type "object") = some true
structure KindsOk (K : PySem.W.Frag) (T : Tb) (f : Value → Option Bool) (k : Kinds) : Prop where
  non : ∀ r, k.non = some r → f (.type "NoneType") = some r
  bl : ∀ r, k.bl = some r → f (.type "bool") = some r
  int : ∀ r, k.int = some r → f (.type "int") = some r
  str : ∀ r, k.str = some r → f (.type "str") = some r
  lst : ∀ r, k.lst = some r → f (.type "list") = some r
  tup : ∀ r, k.tup = some r → f (.type "tuple") = some r
  obj : ∀ c r, (c, r) ∈ k.obj → Asked K (T.cl c) ∧ f (.ref (T.cl c)) = some r
  dct : ∀ r, k.dct = some r → f (.type "dict") = some r
theorem Kinds.ty {K : PySem.W.Frag} {G H : Hp} {f : Value → Option Bool} {k : Kinds} (ok : KindsOk K T f k) (e : Ex G H) {d : D} {v : V} {r : Bool} (h : View T G H d v) (hk : k.ask d = some r) : ∃ t, TyX K H v t ∧ f t = some r := by
  cases d with
  | non => have := View.non_inv h; subst this; exact ⟨_, .base .non, ok.non r hk⟩
  | bl b => have := View.bl_inv h; subst this; exact ⟨_, .base (.bl b), ok.bl r hk⟩
  | int i => have := View.int_inv h; subst this; exact ⟨_, .base (.int i), ok.int r hk⟩
  | str x => have := View.str_inv h; subst this; exact ⟨_, .base (.str x), ok.str r hk⟩
  | lst xs => obtain ⟨q, vs, rfl, sq, _⟩ := h; exact ⟨_, .base (.lst sq), ok.lst r hk⟩
  | tup xs => obtain ⟨q, vs, rfl, sq, _⟩ := View.tup_inv h; exact ⟨_, .base (.tup (e _ _ sq)), ok.tup r hk⟩
  | obj c xs =>
    obtain ⟨q, dx, fv, rfl, sq, _⟩ := h
    obtain ⟨A, hf⟩ := ok.obj c r (look_mem hk)
    exact ⟨_, .base (.ins sq A.cl A.ha A.hn A.htk A.hm), hf⟩
  | scr _ => cases hk
  | dct ks xs => obtain ⟨q, kv, rfl, sq, _⟩ := Rep.dct_inv (T := T) (G := G) h; exact ⟨_, .base (.dK (e _ _ sq)), ok.dct r hk⟩
/-- as much of it as isinstance asks -/
def topD (s : S) (c : Cs) : Option D := match s with
  | .c n => match c[n]? with
    | some (.lS _) => some (.lst [])
    | some (.tS _) => some (.tup [])
    | _ => deref s c
  | _ => deref s c
theorem top_ty {K : PySem.W.Frag} {G H : Hp} {c : Cs} {ρ : List Addr} {f : Value → Option Bool} {k : Kinds} (ok : KindsOk K T f k) (h : RelH T H c G ρ) {s : S} {v : V} {d : D} {r : Bool} (rs : SRep T G ρ s v) (e : topD s c = some d) (hk : k.ask d = some r) : ∃ t, TyX K H v t ∧ f t = some r := by
  have old : ∀ {s : S} {v : V} {d : D}, SRep T G ρ s v → deref s c = some d → k.ask d = some r → ∃ t, TyX K H v t ∧ f t = some r := fun rs e hk => Kinds.ty ok h.ex (deref_view h rs e) hk
  cases s with
  | d x => exact old rs e hk
  | x _ _ => exact old rs e hk
  | c n =>
    obtain ⟨p, hp, rfl⟩ := id rs
    unfold topD at e
    cases hc : c[n]? with
    | none => simp only [hc] at e; exact old rs e hk
    | some cc =>
      cases cc with
      | lS xs =>
        simp only [hc] at e
        cases e
        obtain ⟨_, vs, a, _⟩ := h.at_ n p _ hp hc
        exact ⟨_, .base (.lst a), ok.lst r hk⟩
      | tS xs =>
        simp only [hc] at e
        cases e
        obtain ⟨_, vs, a, _⟩ := h.at_ n p _ hp hc
        exact ⟨_, .base (.tup a), ok.tup r hk⟩
      | lst _ => simp only [hc] at e; exact old rs e hk
      | dct _ => simp only [hc] at e; exact old rs e hk
      | obj _ _ => simp only [hc] at e; exact old rs e hk
      | tb _ => simp only [hc] at e; exact old rs e hk
def askD (k : Kinds) (s : S) (c : Cs) : R S := match topD s c with
  | some d => match k.ask d with
    | some r => .ok (.d (.bl r)) c
    | none => .bad
  | none => .bad
def mIsi (k : Kinds) (A : M) : M := fun δ c => (A δ c).bind (askD k)
theorem dn_isi {cls : Expr} {u : Value} {vc : V} {k : Kinds} (hT : X.K = T.K) (hc : PE X cls (tC vc)) (hv : ClsV vc u) (ok : KindsOk X.K T (fun t => PySem.W.kitOne X.K t u) k) (hg : Gl X "isinstance") (hm : X.mg "isinstance" = none) (ha : PE X a (tD T W A))
    (h1 : starEach [a, cls] X.env = (false, eval a X.env) :: starEach [cls] X.env := by rfl) (h2 : starEach [cls] X.env = (false, eval cls X.env) :: starEach [] X.env := by rfl) (hpl : (backTo pos (starEach [cls] X.env)).any (·.1) = false := by rfl) : PE X (.Call (.Name "isinstance" p) [a, cls] [] pos) (tD T W (mIsi k A)) := by
  refine PE.imp (pe_callB call_isi hg hm (by decide +kernel) (pa_cons ha (pa_cons hc pa_nil h2) h1) (by decide) (by decide) h1 hpl) fun σ H Q ⟨δ, c, G, ρ, hs, hh, p⟩ => ?_
  refine ⟨δ, c, G, ρ, hs, hh, (Post.bind (rel := SRep T) p).imp ?_⟩
  rintro v H1 ⟨s, c1, G1, ρ1, e1, p1, h1, r1, q1⟩
  unfold askD at q1
  cases e2 : topD s c1 with
  | none => simp only [e2] at q1; exact q1.elim
  | some d =>
    simp only [e2] at q1
    cases e3 : k.ask d with
    | none => simp only [e3] at q1; exact q1.elim
    | some r =>
      simp only [e3] at q1
      obtain ⟨t, ty, hf⟩ := top_ty ok h1 r1 e2 e3
      exact ⟨v, vc, t, u, r, rfl, hv, ty, hf, q1 _ H1 G1 ρ1 (.refl _) (List.prefix_refl _) h1 SRep.bl⟩
/-- isinstance(x, (C, D)) -/
theorem dn_isi2 {c1 c2 : Expr} {u1 u2 : Value} {v1 v2 : V} {k : Kinds} {kt : Nat} {tpos : Pos} (hT : X.K = T.K) (hc1 : PE X c1 (tC v1)) (hc2 : PE X c2 (tC v2)) (hv1 : ClsV v1 u1) (hv2 : ClsV v2 u2) (ok : KindsOk X.K T (fun t => PySem.W.kitAny X.K t [u1, u2]) k) (hg : Gl X "isinstance") (hm : X.mg "isinstance" = none) (ha : PE X a (tD T W A))
    (h1 : starEach [a, .Tuple [c1, c2] kt tpos] X.env = (false, eval a X.env) :: starEach [.Tuple [c1, c2] kt tpos] X.env := by rfl) (h2 : starEach [.Tuple [c1, c2] kt tpos] X.env = (false, eval (.Tuple [c1, c2] kt tpos) X.env) :: starEach [] X.env := by rfl)
    (h3 : starEach [c1, c2] X.env = (false, eval c1 X.env) :: starEach [c2] X.env := by rfl) (h4 : starEach [c2] X.env = (false, eval c2 X.env) :: starEach [] X.env := by rfl) (hpl : (backTo pos (starEach [.Tuple [c1, c2] kt tpos] X.env)).any (·.1) = false := by rfl) :
    PE X (.Call (.Name "isinstance" p) [a, .Tuple [c1, c2] kt tpos] [] pos) (tD T W (mIsi k A)) := by
  refine PE.imp (pe_callB call_isiT hg hm (by decide +kernel) (pa_cons ha (pa_cons (pe_tup (pa_cons hc1 (pa_cons hc2 pa_nil h4) h3)) pa_nil h2) h1) (by decide) (by decide) h1 hpl) fun σ H Q ⟨δ, c, G, ρ, hs, hh, p⟩ => ?_
  refine ⟨δ, c, G, ρ, hs, hh, (Post.bind (rel := SRep T) p).imp ?_⟩
  rintro v H1 ⟨s, cc, G1, ρ1, e1, p1, h1, r1, q1⟩
  refine ⟨by show 2 ≤ sizeLine; decide, fun t ht => ?_⟩
  have st : Step G1 H1 (upd G1 t (.tup [v1, v2])) (upd H1 t (.tup [v1, v2])) := Step.new h1.ex ht
  have h1' := h1.step st
  have r1' : SRep T (upd G1 t (.tup [v1, v2])) ρ1 s v := r1.mono st.g (List.prefix_refl _)
  unfold askD at q1
  cases e2 : topD s cc with
  | none => simp only [e2] at q1; exact q1.elim
  | some d =>
    simp only [e2] at q1
    cases e3 : k.ask d with
    | none => simp only [e3] at q1; exact q1.elim
    | some r =>
      simp only [e3] at q1
      obtain ⟨ty, tyh, hf⟩ := top_ty ok h1' r1' e2 e3
      exact ⟨v, t, [v1, v2], ty, [u1, u2], r, rfl, upd_same, .cons hv1 (.cons hv2 .nil), tyh, hf, q1 _ _ _ ρ1 st.g (List.prefix_refl _) h1' SRep.bl⟩

/-! ### cells changed -/
def appendC : S → List S → Cs → R S
  | .c n, [.d x], c => match c[n]? with
    | some (.lst acc) => if acc.length < sizeLine then .ok (.d .non) (c.set n (.lst (acc ++ [x]))) else .bad
    | _ => .bad
  | _, _, _ => .bad
def mAppend (A : M) (B : MA) : M := fun δ c => (A δ c).bind fun o c => match o with
  | .c n => match c[n]? with
    | some (.lst _) => (B δ c).bind fun ss c => appendC o ss c
    | _ => .bad
  | _ => .bad
theorem dn_append {B : MA} (ho : PE X o (tD T W A)) (ha : PA X (e :: es) (tDA T W B)) (h : ∀ {to : TE} {t : TA}, PE X o to → PA X (e :: es) t → PE X (.Call (.Attribute o "append" apos) (e :: es) [] pos) (tBM X.K "list" rAppend to t)) : PE X (.Call (.Attribute o "append" apos) (e :: es) [] pos) (tD T W (mAppend A B)) := by
  refine PE.imp (h ho ha) fun σ H Q ⟨δ, c, G, ρ, hs, hh, p⟩ => ?_
  refine ⟨δ, c, G, ρ, hs, hh, (Post.bind (rel := SRep T) p).imp ?_⟩
  rintro v H1 ⟨s, c1, G1, ρ1, e1, p1, h1, r1, q1⟩
  cases s with
  | d _ => exact q1.elim
  | x _ _ => exact q1.elim
  | c n =>
    obtain ⟨pa, hpa, rfl⟩ := r1
    cases hc : c1[n]? with
    | none => simp only [hc] at q1; exact q1.elim
    | some cc =>
      cases cc with
      | dct _ => simp only [hc] at q1; exact q1.elim
      | lS _ => simp only [hc] at q1; exact q1.elim
      | tS _ => simp only [hc] at q1; exact q1.elim
      | tb _ => simp only [hc] at q1; exact q1.elim
      | obj _ _ => simp only [hc] at q1; exact q1.elim
      | lst acc0 =>
        simp only [hc] at q1
        obtain ⟨_, vs0, ho0, _⟩ := h1.at_ n pa _ hpa hc
        refine ⟨.inl ⟨rfl, _, SqL.of ho0⟩, δ, c1, G1, ρ1, hs.mono e1 p1, h1, (Post.bind (rel := SReps T) q1).imp ?_⟩
        rintro us H2 ⟨ss, c2, G2, ρ2, e2, p2, h2, r2, q2⟩
        unfold appendC at q2
        split at q2
        · rename_i c2 _ _ cc n' x heq1
          cases heq1
          obtain ⟨u, rfl, ru⟩ := r2.one
          cases hc2 : c2[n]? with
          | none => simp only [hc2] at q2; exact q2.elim
          | some cc =>
            cases cc with
            | dct _ => simp only [hc2] at q2; exact q2.elim
            | lS _ => simp only [hc2] at q2; exact q2.elim
            | tS _ => simp only [hc2] at q2; exact q2.elim
            | tb _ => simp only [hc2] at q2; exact q2.elim
            | obj _ _ => simp only [hc2] at q2; exact q2.elim
            | lst acc =>
              simp only [hc2] at q2
              have hpa2 := pre_get p2 hpa
              obtain ⟨_, vs, ho2, hl, rr⟩ := h2.at_ n pa _ hpa2 hc2
              by_cases hlt : acc.length < sizeLine
              · rw [if_pos hlt] at q2
                exact ⟨pa, vs, u, rfl, rfl, ho2, by rw [rr.length]; exact hlt, q2 _ _ G2 ρ2 (.refl _) (List.prefix_refl _) (h2.cell (x := .lst (acc ++ [x])) hpa2 fun H' hH' _ => ⟨_, hH', by rw [List.length_append]; simp; omega, Reps.append rr (Reps.cons ru Reps.nil)⟩) SRep.non⟩
              · rw [if_neg hlt] at q2; exact q2.elim
        · exact q2.elim
/-- cell[i] = x -/
def setC : S → S → S → Cs → Option Cs
  | .c n, .d (.int i), .d x, c => match c[n]? with
    | some (.lst acc) => match ixN acc.length i with
      | some j => some (c.set n (.lst (acc.set j x)))
      | none => none
    | _ => none
  | _, _, _, _ => none
def sSetIx (A I V : M) : MS := fun δ c => (V δ c).andS δ fun s c => (A δ c).andS δ fun o c => (I δ c).andS δ fun i c => match setC o i s c with
  | some c => .nx δ c
  | none => .bad
theorem ds_setIx {i value : Expr} {I V : M} {tpos : Pos} (ho : PE X o (tD T W A)) (hi : PE X i (tD T W I)) (hv : PE X value (tD T W V))
    (h : ∀ {to ti tv : TE}, PE X o to → PE X i ti → PE X value tv → PS X (.Assign [.Subscript o i tpos] value pos) (tAsg tv (gSub to ti rSetL))) : PS X (.Assign [.Subscript o i tpos] value pos) (tS T W (sSetIx A I V)) := by
  refine PS.imp (h ho hi hv) fun E σ H ⟨δ, c, G, ρ, hs, hh, p⟩ => ?_
  refine ⟨δ, c, G, ρ, hs, hh, (PostS.andS (rel := SRep T) hs p).imp ?_⟩
  rintro y H1 ⟨s1, c1, G1, ρ1, e1, p1, h1, r1, q1⟩
  refine ⟨δ, c1, G1, ρ1, hs.mono e1 p1, h1, (PostS.andS (rel := SRep T) (hs.mono e1 p1) q1).imp ?_⟩
  rintro v H2 ⟨s2, c2, G2, ρ2, e2, p2, h2, r2, q2⟩
  refine ⟨δ, c2, G2, ρ2, (hs.mono e1 p1).mono e2 p2, h2, (PostS.andS (rel := SRep T) ((hs.mono e1 p1).mono e2 p2) q2).imp ?_⟩
  rintro u H3 ⟨s3, c3, G3, ρ3, e3, p3, h3, r3, q3⟩
  have r1' := (r1.mono e2 p2).mono e3 p3
  have r2' := r2.mono e3 p3
  unfold setC at q3
  split at q3
  · rename_i c' hset
    split at hset
    · rename_i cc n ii x
      obtain ⟨pa, hpa, rfl⟩ := r2'
      have := SRep.int_inv r3; subst this
      cases hc : c3[n]? with
      | none => simp only [hc] at hset; cases hset
      | some ccc =>
        cases ccc with
        | dct _ => simp only [hc] at hset; cases hset
        | lS _ => simp only [hc] at hset; cases hset
        | tS _ => simp only [hc] at hset; cases hset
        | tb _ => simp only [hc] at hset; cases hset
        | obj _ _ => simp only [hc] at hset; cases hset
        | lst acc =>
          simp only [hc] at hset
          cases hj : ixN acc.length ii with
          | none => simp only [hj] at hset; cases hset
          | some j =>
            simp only [hj] at hset
            cases hset
            obtain ⟨_, vs, ho3, hl, rr⟩ := h3.at_ n pa _ hpa hc
            refine ⟨pa, vs, ii, j, rfl, rfl, ho3, by rw [rr.length]; exact hj, q3 σ _ G3 ρ3 (.refl _) (List.prefix_refl _) (((hs.mono e1 p1).mono e2 p2).mono e3 p3) (h3.cell (x := .lst (acc.set j x)) hpa fun H' hH' _ => ⟨_, hH', by rw [List.length_set]; exact hl, Reps.set j rr r1'⟩)⟩
    · cases hset
  · exact q3.elim

/-! ### dicts (cells) -/
def dnew (c : Cs) : R S := .ok (.c c.length) (c ++ [.dct []])
def mDict : M := fun _ c => dnew c
theorem dn_dict : PE X (.Dict [] [] pos) (tD T W mDict) := by
  refine PE.imp pe_dnewK fun σ H Q ⟨δ, c, G, ρ, hs, hh, p⟩ q hq => ?_
  exact p _ _ G (ρ ++ [q]) (.refl _) (List.prefix_append _ _) (hh.newCell hq fun H' hH' => ⟨[], hH', Nat.zero_le _, rfl, Reps.nil⟩) ⟨q, by rw [← hh.len]; simp, rfl⟩
def keyD : D → Option Key
  | .int i => some (.inl i)
  | .str x => some (.inr x)
  | _ => none
def valD (kvs : List (Key × D)) (k : Key) : Option D := (kvs.find? fun kv => decide (kv.1 = k)).map (·.2)
def putD (kvs : List (Key × D)) (k : Key) (x : D) : List (Key × D) := if (kvs.any fun kv => decide (kv.1 = k)) = true then kvs.map (fun kv => if kv.1 = k then (kv.1, x) else kv) else kvs ++ [(k, x)]
theorem keyD_rep {G : Hp} {x : D} {v : V} {k : Key} (h : keyD x = some k) (r : Rep T G x v) : v = kV k := by
  cases x with
  | int i => cases h; exact Rep.int_inv r
  | str z => cases h; exact Rep.str_inv r
  | _ => cases h
theorem valD_rep {G : Hp} {k : Key} : ∀ {kvs : List (Key × D)} {kv : List (Key × V)} {x : D}, kv.map (·.1) = kvs.map (·.1) → Reps T G (kvs.map (·.2)) (kv.map (·.2)) → valD kvs k = some x → ∃ v, valV kv k = some v ∧ Rep T G x v
  | [], _, _, _, _, h => by cases h
  | (k1, d1) :: r, [], _, e, _, _ => by cases e
  | (k1, d1) :: r, (k2, v2) :: r2, x, e, q, h => by
    simp only [List.map_cons, List.cons.injEq] at e q
    obtain ⟨e1, e2⟩ := e
    subst e1
    obtain ⟨v, rr, eq, a, b⟩ := q.cons_inv
    cases eq
    unfold valD at h
    unfold valV
    by_cases hk : k2 = k
    · simp only [List.find?_cons, hk, decide_true, Option.map_some, Option.some.injEq] at h ⊢
      subst h
      exact ⟨_, rfl, a⟩
    · have hd : decide (k2 = k) = false := decide_eq_false hk
      simp only [List.find?_cons, hd] at h ⊢
      exact valD_rep e2 b h
def getC : S → S → Cs → R S
  | .c n, .d kx, c => match c[n]?, keyD kx with
    | some (.dct kvs), some k => match valD kvs k with
      | some x => .ok (.d x) c
      | none => .bad
    | _, _ => .bad
  | _, _, _ => .bad
theorem prim_getC : Prim2 T getC (fun x y H Q => ∃ a v, x = .ref a ∧ DGet H a y (some v) ∧ Q v H) := by
  intro W σ G ρ H c s t v u Q hh rs rt p
  unfold getC at p
  split at p
  · rename_i n kx
    cases hc : c[n]? with
    | none => simp only [hc] at p; exact p.elim
    | some cc =>
      cases cc with
      | lst _ => simp only [hc] at p; exact p.elim
      | lS _ => simp only [hc] at p; exact p.elim
      | tS _ => simp only [hc] at p; exact p.elim
      | tb _ => simp only [hc] at p; exact p.elim
      | obj _ _ => simp only [hc] at p; exact p.elim
      | dct kvs =>
        cases hk : keyD kx with
        | none => simp only [hc, hk] at p; exact p.elim
        | some k =>
          simp only [hc, hk] at p
          cases hv : valD kvs k with
          | none => simp only [hv] at p; exact p.elim
          | some x =>
            simp only [hv] at p
            obtain ⟨pa, hpa, rfl⟩ := rs
            obtain ⟨_, kv, ho, _, hks, rr⟩ := hh.at_ n pa _ hpa hc
            obtain ⟨w, hw, rw'⟩ := valD_rep hks rr hv
            have := keyD_rep hk rt; subst this
            exact ⟨pa, w, rfl, by rw [← hw]; exact DGet.k ho, p _ H G ρ (.refl _) (List.prefix_refl _) hh rw'⟩
  · exact p.elim
theorem dn_dget {k : Nat} {i : Expr} {I : M} (hr : Room k X.A) (ho : PE X o (tD T W A)) (hi : PE X i (tD T W I)) (hs : NoSl i := by exact fun _ _ => rfl) : PE X (.Subscript o i pos) (tD T W (mBin getC A I)) := by
  refine PE.imp (pe_dget (hu_of hr) ho hi hs) fun σ H Q h => ?_
  exact tD_bin prim_getC h
def putC : S → S → S → Cs → Option Cs
  | .c n, .d kx, .d x, c => match c[n]?, keyD kx with
    | some (.dct kvs), some k => if kvs.length < 1000 then some (c.set n (.dct (putD kvs k x))) else none
    | _, _ => none
  | _, _, _, _ => none
def sPut (A I V : M) : MS := fun δ c => (V δ c).andS δ fun s c => (A δ c).andS δ fun o c => (I δ c).andS δ fun i c => match putC o i s c with
  | some c => .nx δ c
  | none => .bad
theorem putD_rep {G : Hp} {k : Key} {x : D} {v : V} (rx : Rep T G x v) {kvs : List (Key × D)} {kv : List (Key × V)} (e : kv.map (·.1) = kvs.map (·.1)) (r : Reps T G (kvs.map (·.2)) (kv.map (·.2))) :
    (putK kv k v).map (·.1) = (putD kvs k x).map (·.1) ∧ Reps T G ((putD kvs k x).map (·.2)) ((putK kv k v).map (·.2)) := by
  have anyE : ∀ {kvs : List (Key × D)} {kv : List (Key × V)}, kv.map (·.1) = kvs.map (·.1) → (kv.any fun z => decide (z.1 = k)) = (kvs.any fun z => decide (z.1 = k)) := by
    intro kvs kv e
    have h1 : (kv.any fun z => decide (z.1 = k)) = ((kv.map (·.1)).any fun z => decide (z = k)) := by rw [List.any_map]; rfl
    have h2 : (kvs.any fun z => decide (z.1 = k)) = ((kvs.map (·.1)).any fun z => decide (z = k)) := by rw [List.any_map]; rfl
    rw [h1, h2, e]
  unfold putK putD
  rw [anyE e]
  by_cases ha : (kvs.any fun z => decide (z.1 = k)) = true
  · rw [if_pos ha, if_pos ha]
    clear anyE ha
    induction kvs generalizing kv with
    | nil =>
      cases kv with
      | nil => exact ⟨rfl, Reps.nil⟩
      | cons _ _ => cases e
    | cons z zs ih =>
      cases kv with
      | nil => cases e
      | cons y ys =>
        simp only [List.map_cons, List.cons.injEq] at e r
        obtain ⟨w, rr, eq, a, b⟩ := r.cons_inv
        cases eq
        obtain ⟨i1, i2⟩ := ih e.2 b
        simp only [List.map_cons]
        by_cases hk : y.1 = k
        · have hk2 : z.1 = k := by rw [← e.1]; exact hk
          simp only [hk, hk2, if_true]
          exact ⟨by rw [i1], Reps.cons rx i2⟩
        · have hk2 : ¬ z.1 = k := by rw [← e.1]; exact hk
          simp only [hk, hk2, if_false]
          exact ⟨by rw [i1, e.1], Reps.cons a i2⟩
  · rw [if_neg ha, if_neg ha]
    refine ⟨by rw [List.map_append, List.map_append, e]; rfl, ?_⟩
    rw [List.map_append, List.map_append]
    exact Reps.append r (Reps.cons rx Reps.nil)
theorem putD_len {kvs : List (Key × D)} {k : Key} {x : D} (h : kvs.length < 1000) : (putD kvs k x).length ≤ 1000 := by
  unfold putD
  split
  · rw [List.length_map]; omega
  · rw [List.length_append]; simp; omega
theorem ds_put {k : Nat} {i value : Expr} {I V : M} {tpos : Pos} (hr : Room k X.A) (ho : PE X o (tD T W A)) (hi : PE X i (tD T W I)) (hv : PE X value (tD T W V)) (hs : swapsWith value (some (.Subscript o i tpos)) pos.line X.env = pure false := by rfl) : PS X (.Assign [.Subscript o i tpos] value pos) (tS T W (sPut A I V)) := by
  refine PS.imp (ps_dput (hu_of hr) ho hi hv hs) fun E σ H ⟨δ, c, G, ρ, hs, hh, p⟩ => ?_
  refine ⟨δ, c, G, ρ, hs, hh, (PostS.andS (rel := SRep T) hs p).imp ?_⟩
  rintro y H1 ⟨s1, c1, G1, ρ1, e1, p1, h1, r1, q1⟩
  refine ⟨δ, c1, G1, ρ1, hs.mono e1 p1, h1, (PostS.andS (rel := SRep T) (hs.mono e1 p1) q1).imp ?_⟩
  rintro v H2 ⟨s2, c2, G2, ρ2, e2, p2, h2, r2, q2⟩
  refine ⟨δ, c2, G2, ρ2, (hs.mono e1 p1).mono e2 p2, h2, (PostS.andS (rel := SRep T) ((hs.mono e1 p1).mono e2 p2) q2).imp ?_⟩
  rintro u H3 ⟨s3, c3, G3, ρ3, e3, p3, h3, r3, q3⟩
  have r1' := (r1.mono e2 p2).mono e3 p3
  have r2' := r2.mono e3 p3
  unfold putC at q3
  split at q3
  · rename_i c' hset
    split at hset
    · rename_i cc n kx x
      obtain ⟨pa, hpa, rfl⟩ := r2'
      cases hc : c3[n]? with
      | none => simp only [hc] at hset; cases hset
      | some ccc =>
        cases ccc with
        | lst _ => simp only [hc] at hset; cases hset
        | lS _ => simp only [hc] at hset; cases hset
        | tS _ => simp only [hc] at hset; cases hset
        | tb _ => simp only [hc] at hset; cases hset
        | obj _ _ => simp only [hc] at hset; cases hset
        | dct kvs =>
          cases hk : keyD kx with
          | none => simp only [hc, hk] at hset; cases hset
          | some k =>
            simp only [hc, hk] at hset
            by_cases hl : kvs.length < 1000
            · rw [if_pos hl] at hset
              cases hset
              obtain ⟨_, kv, ho3, _, hks, rr⟩ := h3.at_ n pa _ hpa hc
              have := keyD_rep hk r3; subst this
              have hkl : kv.length = kvs.length := by have := congrArg List.length hks; simpa using this
              obtain ⟨z1, z2⟩ := putD_rep (k := k) r1' hks rr
              refine ⟨pa, _, rfl, DPut.k ho3 (by rw [sizeLine_eq]; omega), q3 σ _ G3 ρ3 (.refl _) (List.prefix_refl _) (((hs.mono e1 p1).mono e2 p2).mono e3 p3) (h3.cell (x := .dct (putD kvs k x)) hpa fun H' hH' _ => ⟨_, hH', putD_len hl, z1, z2⟩)⟩
            · rw [if_neg hl] at hset; cases hset
    · cases hset
  · exact q3.elim
end
end Dn

end
section
set_option maxHeartbeats 1000000
/-! Dn9: what is not walked, errors raised and caught, len of own objects, lists repeated, enumerate of a tuple. -/
namespace Dn
open PySem PySem.Spec PyProof.Rows L2
/-! ### code that is never reached -/
section
variable {X : Cx} {T : Tb} {W : WX} {a b o e : Expr} {es : List Expr} {A B : M} {pos p p2 pos2 apos : Pos} {st : Stmt}
def mBad : M := fun _ _ => .bad
def mtBad : MT := fun _ _ => .bad
def sBad : MS := fun _ _ => .bad
theorem dn_bad : PE X e (tD T W mBad) := ⟨fun pins s σ H Q I ⟨_, _, _, _, _, _, p⟩ => p.elim⟩
theorem dt_bad : PT X e (tDT T W mtBad) := ⟨fun pins s σ H Q I ⟨_, _, _, _, _, _, p⟩ => p.elim⟩
theorem ds_bad : PS X st (tS T W sBad) := ⟨fun pins s σ H D I ⟨_, _, _, _, _, _, p⟩ => p.elim⟩

/-! ### raise X(), X an own class without own __init__ -/
/-- class number n is an exception class, its name x -/
structure ExcAt (X : Cx) (T : Tb) (x : Str) (n : Nat) (bmB : List Value) (newId : String) : Prop where
  q : PySem.W.excIn X.K (T.cl n) bmB newId = true
  g : X.mg x = some (.ref (T.cl n))
  k : PySem.W.keepIn X.K (.ref (T.cl n)) = true
  r : Raises X (.ref (T.cl n))
def sRaise0 (n : Nat) : MS := fun δ c => .ex n [] δ c
theorem pmk_own0 {C : Addr} {bmB : List Value} {B newId initId : String} {x : Str} {p : Pos} (F : ExcBaseFacts B newId initId bmB) (q : PySem.W.excIn X.K C bmB newId = true) (gC : X.mg x = some (.ref C))
    (kC : PySem.W.keepIn X.K (.ref C) = true) (r : Raises X (.ref C)) (hg : Gl X x) (hdb : (x == ("__debug__" : Str)) = false := by decide) :
    PMk X (.Call (.Name x p) [] [] pos) (fun σ H Q => Q (.ref C) none H) := by
  intro pins s σ H Q I h
  refine wpAny_Call_Name_kw (ld_glob I hg gC ?_ hdb)
  refine PySem.W.callWith_K0 I.kIn kC ?_
  show wpAny _ _ (call (.ref C) []) _ _ _
  obtain ⟨bm, N, nm, qn, bs, hdct, sn, sub, ab, col, dd, k0, k1, k2, k3, k5, mN, hC, hN, hni, T⟩ := exc_obj I.kIn q
  refine wpAny_call_exc_subT F T hC hN hni (fun h' e hm => ?_) (by decide)
  exact mk_of I hm r h (I.hok.gone hm.new)
theorem ds_raise0 {B newId initId : String} {bmB : List Value} {x : Str} {n : Nat} (F : ExcBaseFacts B newId initId bmB) (E : ExcAt X T x n bmB newId) (hc : X.calm = true) (tk : Takes X W) (hg : Gl X x) (hdb : (x == ("__debug__" : Str)) = false := by decide) :
    PS X (.Raise (some (.Call (.Name x p) [] [] pos2)) none pos) (tS T W (sRaise0 n)) := by
  refine PS.imp (ps_raise hc tk (pmk_own0 F E.q E.g E.k E.r hg hdb)) fun D σ H ⟨δ, c, G, ρ, hs, hh, p⟩ => ?_
  exact p none σ H G ρ (.refl _) (List.prefix_refl _) hs hh (.inl ⟨rfl, rfl⟩)

/-! ### try .. except X: -/
def noEx : RS → RS
  | .ex _ _ _ _ => .bad
  | r => r
/-- yes: the numbers of the classes that the clause catches, no: of those that it lets by -/
def sTry (yes no : List Nat) (m suite : MS) : MS := fun δ c => match m δ c with
  | .ex k xs δ' c' => if k ∈ yes then noEx (suite δ' c') else if k ∈ no then .ex k xs δ' c' else .bad
  | r => r
def Catches (K : PySem.W.Frag) (T : Tb) (u : Value) (r : Bool) : List Nat → Prop
  | [] => True
  | n :: l => PySem.W.exmOne K (.ref (T.cl n)) u = some r ∧ Catches K T u r l
theorem Catches.get {K : PySem.W.Frag} {u : Value} {r : Bool} : ∀ {l : List Nat} {n : Nat}, Catches K T u r l → n ∈ l → PySem.W.exmOne K (.ref (T.cl n)) u = some r
  | m :: l, n, h, hm => by
    cases hm with
    | head => exact h.1
    | tail _ hm => exact Catches.get h.2 hm
theorem takes_suite {a : Addr} {pn : List (Addr × Obj)} : Takes (X.suite a pn) W0 := fun u s' ⟨_, _, _, _, _, _, _, _, _, _, _, _, _, _, _, _, w⟩ => w.elim
theorem PostS.noEx {G : Hp} {ρ : List Addr} {r : RS} {E : Ends} (h : PostS T W G ρ (noEx r) E) : PostS T W0 G ρ r E := by
  cases r with
  | ex k xs δ c => exact False.elim h
  | nx δ c => exact h
  | bk δ c => exact h
  | ct δ c => exact h
  | rt s c => exact h
  | bad => exact h
theorem ds_try {x : Str} {u : Value} {body suite : List Stmt} {b₀ : Stmt} {np pos' : Pos} {m ms : MS} {yes no : List Nat} (hs : X.stack = X.env :: X.outer) (hf : X.env.frame = some X.env.locals) (hc : Names X x u) (tk : Takes X W)
    (hy : Catches X.K T u true yes) (hn : Catches X.K T u false no)
    (hb : ∀ (W : WX) (pn : List (Addr × Obj)) (xe : Value → Shared → Prop), Takes (X.tr pn xe) W → PassesOwn (model X.prog X.w) X.A X.env xe → PSs (X.tr pn xe) body (tS T W m))
    (hsu : ∀ (a : Addr) (pn : List (Addr × Obj)), PSs (X.suite a pn) (b₀ :: suite) (tS T W0 ms)) :
    PS X (.Try body [.ExceptHandler (some (.Name x np)) none (b₀ :: suite) pos'] [] [] pos) (tS T W (sTry yes no m ms)) := by
  refine PS.imp (ps_try_only (tb := fun W => tS T W m) (ts := fun _ _ _ => tS T W0 ms) hs hf hc tk hb fun a oe cls d pn _ _ => hsu a _) fun E σ H ⟨δ, c, G, ρ, hs, hh, p⟩ => ?_
  refine ⟨δ, c, G, ρ, hs, hh, ?_⟩
  unfold sTry at p
  cases e : m δ c with
  | nx δ1 c1 => rw [e] at p; exact p
  | bk δ1 c1 => rw [e] at p; exact p
  | ct δ1 c1 => rw [e] at p; exact p
  | rt s1 c1 => rw [e] at p; exact p
  | bad => rw [e] at p; exact p
  | ex k xs δ1 c1 =>
    rw [e] at p
    simp only at p
    intro d σ' H' G' ρ' eg pr rs rh xr
    by_cases hk : k ∈ yes
    · rw [if_pos hk] at p
      exact ⟨true, hy.get hk, fun _ a na => ⟨δ1, c1, G', ρ', rs, rh, (PostS.noEx p).mono eg pr⟩, fun z => by cases z⟩
    · rw [if_neg hk] at p
      by_cases hk2 : k ∈ no
      · rw [if_pos hk2] at p
        exact ⟨false, hn.get hk2, (fun z => by cases z), fun _ => p d σ' H' G' ρ' eg pr rs rh xr⟩
      · rw [if_neg hk2] at p; exact p.elim

/-! ### len of own objects -/
def lenO (tbl : List (Nat × (Nat × (List S → Cs → R S)))) : List D → Option D
  | [.obj k xs] => match look tbl k with
    | some (nf, fn) => if xs.length = nf then (match fn [.d (.obj k xs)] [] with
      | .ok (.d (.int r)) [] => if 0 ≤ r ∧ r < 2 ^ 63 then some (.int r) else none
      | _ => none) else none
    | none => none
  | xs => lenD xs
inductive LensAt (P : Program) (w : World) (K : PySem.W.Frag) (mg : Str → Option Value) (base : Heap) (T : Tb) (k : Nat) : List (Nat × (Nat × (List S → Cs → R S))) → Prop
  | nil : LensAt P w K mg base T k []
  | cons {c j nf : Nat} {fn : List S → Cs → R S} {l : List (Nat × (Nat × (List S → Cs → R S)))} : MethAt P w K mg base T "__len__" c j fn → j ≤ k → (T.fl c).length = nf → LensAt P w K mg base T k l → LensAt P w K mg base T k ((c, nf, fn) :: l)
theorem LensAt.get {P : Program} {w : World} {K : PySem.W.Frag} {mg : Str → Option Value} {base : Heap} {k : Nat} {l : List (Nat × (Nat × (List S → Cs → R S)))} (h : LensAt P w K mg base T k l) {c nf : Nat} {fn : List S → Cs → R S} (hm : (c, nf, fn) ∈ l) :
    ∃ j, j ≤ k ∧ MethAt P w K mg base T "__len__" c j fn ∧ (T.fl c).length = nf := by
  induction h with
  | nil => cases hm
  | cons a b c _ ih =>
    cases hm with
    | head => exact ⟨_, b, a, c⟩
    | tail _ hm => exact ih hm
/-- len(o) by the own __len__ -/
def rLenO (T : Tb) (tbl : List (Nat × (Nat × (List S → Cs → R S)))) : List V → Hp → VK → Prop := fun xs H Q => ∃ p k nf ds fn r, xs = [.ref p] ∧ Rep T H (.obj k ds) (.ref p) ∧ (k, nf, fn) ∈ tbl ∧ fn [.d (.obj k ds)] [] = .ok (.d (.int r)) [] ∧ (0 ≤ r ∧ r < 2 ^ 63) ∧ ∀ H', Ex H H' → Q (.int r) H'
theorem call_lenO {k : Nat} {tbl : List (Nat × (Nat × (List S → Cs → R S)))} (hr : Room (k + 1) X.A) (hM : LensAt X.prog X.w X.K X.mg X.base T k tbl) : CallR X (.builtin "len") (rLenO T tbl) := by
  intro pins s σ H xs us Q I rv h
  obtain ⟨x, k, nf, ds, fn, r, rfl, hx, hm, hf, hb0, q⟩ := h
  obtain rfl := Vals.ref1 rv
  obtain ⟨j, hj, ⟨f, fd, ps, F, hm, hc, _, hb⟩, _⟩ := hM.get hm
  obtain ⟨_, dx, fv, e1, hx1, _⟩ := hx.obj_inv
  cases e1
  obtain ⟨mA, J, _⟩ := ins_get I.hok hx1
  obtain ⟨od, J, _⟩ := J.look
  obtain ⟨m, hF⟩ := I.fr
  refine PySem.W.len_K hF I.ok.mod.kin J hm.at_ hm.fn ?_
  have hsp : spD T fn [.ref x] H (fun v H' => v = .int r ∧ Ex H H') (fun _ _ _ => False) := by
    refine ⟨[.d (.obj k ds)], [], H, [], .cons hx .nil, RelH.none H, ?_⟩
    rw [hf]
    exact fun v H' G' ρ' eg pr rh rv => ⟨SRep.int_inv rv, eg.trans rh.ex⟩
  have hl := F.len _ _ _ _ hsp
  have bb := hb s [.ref x] I.kIn (by simpa using hl)
  rw [List.append_nil] at bb
  refine wpAny_call (codeAny_mono (F.run X.A.in1 X.stack s H ⟨[.ref x], []⟩ [.ref x] [.ref x] _ _ (hr.in1.mono hj) I.env0.in1 bb (.cons rfl .nil) hsp) fun fl s' hq => ?_)
  cases fl with
  | error e =>
    obtain ⟨_, _, _, _, _, _, _, _, _, _, _, _, z⟩ := hq
    exact z.elim
  | ok fl =>
    cases fl with
    | ret w =>
      obtain ⟨z, H', I', rz, ez, ex⟩ := I.after hq
      subst ez
      obtain ⟨t, rfl⟩ := rz
      exact ⟨hb0, .int r, H', I'.tok _, ⟨_, rfl⟩, q H' ex⟩
    | next => exact False.elim hq
    | brk => exact False.elim hq
    | cont => exact False.elim hq
theorem Step.grow {G H H' : Hp} (e : Ex G H) (k : Ex H H') : Step G H G H' := ⟨.refl _, k, e.trans k, fun _ _ _ q => q⟩
theorem fresh_lenO {tbl : List (Nat × (Nat × (List S → Cs → R S)))} (hT : ∀ c nf fn, (c, nf, fn) ∈ tbl → (T.fl c).length = nf) : FreshN T (lenO tbl) (fun xs H Q => ((∃ p ys, xs = [.ref p] ∧ (SqL T.K H p ys ∨ SqT T.K H p ys) ∧ Q (.int ys.length) H) ∨ ∃ z, xs = [.str z] ∧ z.length ≤ sizeLine ∧ Q (.int z.length) H) ∨ rLenO T tbl xs H Q) := by
  intro G H x d v Q e hx hd k
  unfold lenO at hd
  split at hd
  · rename_i n xs
    cases hl : look tbl n with
    | none => simp only [hl] at hd; cases hd
    | some y =>
      obtain ⟨nf, fn⟩ := y
      simp only [hl] at hd
      split at hd
      · rename_i hnf
        split at hd
        · rename_i r hfn
          split at hd
          · rename_i hr
            cases hd
            obtain ⟨v, rfl, q, dx, fv, rfl, sq, hfl, rr⟩ := hx.one
            have hm := look_mem hl
            refine .inr ⟨q, n, nf, xs, fn, r, rfl, Rep.obj sq ?_ (Reps.mono e _ _ rr), hm, hfn, hr, fun H' ex => k _ H' G (Step.grow e ex) Rep.int⟩
            rw [hfl, hnf, ← hT n nf fn hm, List.take_length]
          · cases hd
        · cases hd
      · cases hd
  · exact .inl (fresh_len _ _ _ _ _ _ e hx hd k)
theorem dn_lenO {k : Nat} {B : MA} {tbl : List (Nat × (Nat × (List S → Cs → R S)))} (hT : X.K = T.K) (hr : Room (k + 1) X.A) (hM : LensAt X.prog X.w X.K X.mg X.base T k tbl) (hg : Gl X "len") (hm : X.mg "len" = none) (ha : PA X (e :: es) (tDA T W B)) (he : starEach (e :: es) X.env = (false, eval e X.env) :: starEach es X.env := by rfl) (hpl : (backTo pos (starEach es X.env)).any (·.1) = false := by rfl) : PE X (.Call (.Name "len" p) (e :: es) [] pos) (tD T W (mBlt (liftN (lenO tbl)) B)) :=
  dn_callB (by have := ((call_len_seq (X := X)).or call_len_str).or (call_lenO hr hM); rw [hT] at this; exact this) (primN (fresh_lenO fun c nf fn h => let ⟨_, _, _, q⟩ := hM.get h; q)) hg hm PySem.boot_len ha (by decide) (by decide) he hpl
end
end Dn

end
section
/-! Dn10: enumerate of a tuple or a list. -/
namespace Dn
open PySem PySem.Spec PyProof.Rows L2
set_option maxHeartbeats 1000000 in
theorem meets_enum1 {v : Value} {o : Obj} {H : Heap → Prop} (B : Begins v o H) :
    Meets (Builtin.«enumerate.__new__» ⟨[.type "enumerate", v], []⟩) (fun _ R s => H s.heap ∧
      R (.ok (.ret (.ref (s.heap.push o).objs.size))) { s with heap := (s.heap.push o).push { cls := .type "enumerate", data := .fields #[.none, .bool false, .ref s.heap.objs.size, rawInt 0, .none, .none] } }) :=
  .of_wp fun prog w A R s h => by
    obtain ⟨hp, g, d, tk, os⟩ := s; obtain ⟨h1, h⟩ := h
    have hsub := sub_enumerate
    have q1 : ∀ {A' : Around} {E : Value → Shared → Prop} {Q : Value → Shared → Prop}, Q (.ref hp.objs.size) ⟨hp.push o, g, d, tk, os⟩ → wpAny (model prog w) A' (pyIter v) Q E ⟨hp, g, d, tk, os⟩ :=
      fun q => B.iter prog w _ _ ⟨hp, g, d, tk, os⟩ _ h1 q
    wp_walk using q1
    refine wpAny_stack_any fun st => wpAny_pure ?_
    split
    · rename_i c _ _ _ _ _
      cases (c == Value.type "enumerate")
      · wp_walk using q1
        exact ⟨_, rfl, h⟩
      · wp_walk using q1
        exact ⟨_, rfl, h⟩
    · wp_walk using q1
      exact ⟨_, rfl, h⟩
theorem enum_begins1 {prog : Program} {w : World} {A : Around} {E : Value → Shared → Prop} {s : Shared} {v : Value} {o : Obj} {H : Heap → Prop} {Q : Value → Shared → Prop} (B : Begins v o H) (h1 : H s.heap)
    (h : ∀ h', IsEnum h' (s.heap.objs.size + 1) s.heap.objs.size 0 .none → h'.get? s.heap.objs.size = some o → h'.objs.size = s.heap.objs.size + 2 →
      (∀ b o, s.heap.get? b = some o → h'.get? b = some o) → Q (.ref (s.heap.objs.size + 1)) { s with heap := h' }) :
    wpAny (model prog w) A (call (.type "enumerate") [v]) Q E s := by
  refine callType_new F.called_enumerate (by decide) (F.typeCall_enumerate_1 _) (F.newCall_enumerate_1 _) (fun obj => F.args_object_init_2 obj _) F.entry_enumerate_new
    (meets_enum1 B) ⟨h1, ?_⟩
  have hz : (s.heap.push o).objs.size = s.heap.objs.size + 1 := Heap.size_push ..
  show _ ∧ _
  rw [hz]
  have he : IsEnum ((s.heap.push o).push { cls := .type "enumerate", data := .fields #[.none, .bool false, .ref s.heap.objs.size, rawInt 0, .none, .none] }) (s.heap.objs.size + 1) s.heap.objs.size 0 .none := by
    have := Heap.get?_push_size (s.heap.push o) (o := { cls := .type "enumerate", data := .fields #[.none, .bool false, .ref s.heap.objs.size, rawInt 0, .none, .none] }) rfl
    rw [hz] at this; exact this
  refine ⟨⟨_, he, rfl⟩, h _ he (Heap.get?_push_of_some _ (Heap.get?_push_size _ B.free)) (by rw [Heap.size_push, hz]) fun b o x => Heap.get?_push_of_some _ (Heap.get?_push_of_some _ x)⟩

theorem next_enum_endT {prog : Program} {w : World} {A : Around} {E : Value → Shared → Prop} {s : Shared} {e it t : Addr} {items : Array Value} {j : Nat} {i : Int} {old : Value} {Q : Option Value → Shared → Prop} (hh : A.handled = none)
    (he : IsEnum s.heap e it i old) (hit : s.heap.IsTupleIter it t j) (ht : s.heap.IsTuple t items) (hj : items[j]? = none)
    (hQ : ∀ h', Heap.ExtBut it s.heap h' → Q none { s with heap := h' }) : wpAny (model prog w) A (pyNext (.ref e)) Q E s := by
  have hT : s.TypeIs (.ref e) "enumerate" := ⟨_, he, rfl⟩
  unfold pyNext
  refine wpAny_bind (wpAny_attempt (wpAny_callSpecial?_slot (name := Str.ofString "__next__") hT F.slot_enumerate_next
    (wpAny_call_entry F.slot_enumerate_next hT F.entry_enumerate_next ?_ (F.args_enumerate_next_1 _))))
  show wpAny _ _ (field (.ref e) 2 >>= _) _ _ _
  refine wpAny_bind (wpAny_field he rfl (x := .ref it) rfl ?_)
  refine wpAny_bind (wpAny_nextOf_tuple_end (A := A.in1) hh hit ht hj fun h' x he' hx' => ?_)
  obtain ⟨o, ho, hc⟩ := hx'
  refine wpAny_bind (wpAny_isInstance (T := "StopIteration") (b := true) ⟨o, ho, hc⟩ isSubtype_stop ?_)
  exact wpAny_pure (hQ _ he')
/-- the tuple at a, each item in a new pair -/
def IteT (K : PySem.W.Frag) (a : Addr) : It :=
  ⟨fun i H => ∃ (xs : List V) (x : V), SqT K H a xs ∧ xs[i]? = some x, fun i H v H' => ∃ T x, v = .ref T ∧ H T = none ∧ H' = upd H T (.tup [.int (i : Nat), x]) ∧ ∀ xs, SqT K H a xs → xs[i]? = some x, fun i H => ∃ xs : List V, SqT K H a xs ∧ xs.length ≤ i⟩
theorem turn_enumT {P : Program} {w : World} {K : PySem.W.Frag} {elts : List Expr} {kk : Nat} {tpos : Pos} (a e it : Addr) :
    Turn P w K (.Tuple elts kk tpos) (IteT K a) [e, it] e (fun i h => (∃ old, IsEnum h e it ((i : Nat) : Int) old) ∧ h.IsTupleIter it a i ∧ e ≠ it ∧ a ≠ it ∧ a ≠ e) where
  mem := by simp
  obj := fun i h st b hb => by
    obtain ⟨⟨old, he⟩, ⟨o, ho, hc, hd⟩, _⟩ := st
    have e' : b = e ∨ b = it := by simpa using hb
    rcases e' with z | z
    · rw [z]; exact ⟨_, he, fun v q => nomatch q⟩
    · rw [z]; exact ⟨o, ho, fun v q => by rw [hd] at q; cases q⟩
  keep := fun i h h' st k => let ⟨⟨old, he⟩, hi, hne⟩ := st; ⟨⟨old, k e (by simp) _ he⟩, hi.at fun o q => k it (by simp) o q, hne⟩
  item := by
    intro X hP hw hK hc i pins s σ H E I hf st hg
    subst hP hw hK
    obtain ⟨⟨old, he⟩, hit, hne, nai, nae⟩ := st
    obtain ⟨xs, x, hq, hx⟩ := hg
    obtain ⟨its, rv, p, hz⟩ := I.tuple hq
    obtain ⟨u, hu, ru⟩ := rv.get hx
    have hel : e < s.heap.objs.size := Heap.lt_size he
    have hil : it < s.heap.objs.size := by obtain ⟨_, q, _⟩ := hit; exact Heap.lt_size q
    have hi : i < its.toArray.size := by rw [List.size_toArray]; exact (List.getElem?_eq_some_iff.mp hu).1
    refine wpAny_pyNext_enum_itemD (Draws.tuple (A := X.A.in1) (I.ok.hd hc) it a nai its.toArray) he ⟨hit, p⟩ hi hne (by simp [hne, Ne.symm nae]) fun x' h' tk hP ho hit' hT hsz hk => ?_
    have ex' : x' = u := by
      have h1 : its[i]? = some x' := by simpa using hP
      rw [hu] at h1; exact (Option.some.inj h1).symm
    subst ex'
    refine ⟨_, rfl, wpAny_letOwnedTupleGo_enum (s := { s with heap := h', toks := tk + 1 }) ho fun h'' he' sb => ?_⟩
    have hT2 : h''.get? s.heap.objs.size = some { cls := .type "tuple", data := .seq #[.int i tk, x'] } := (sb.2 _ (Nat.ne_of_gt hel)).trans hT
    have new : ObjOk X.prog X.w (upd H s.heap.objs.size (.tup [.int (i : Nat), x])) h'' s.heap.objs.size (.tup [.int (i : Nat), x]) :=
      ⟨by show 2 ≤ sizeLine; decide, [.int i tk, x'], .cons ⟨_, rfl⟩ (.cons ru .nil), ⟨_, hT2, rfl, _, rfl⟩⟩
    have I1 : Inv X pins σ (upd H s.heap.objs.size (.tup [.int (i : Nat), x])) { s with heap := h'', toks := tk + 1 } :=
      I.turnedNew (ch := [e, it]) (fun b ob hb q => (sb.2 b (fun z => hb (by simp [z]))).trans (hk b ob (fun z => hb (by simp [z])) (fun z => hb (by simp [z])) q)) hf (Nat.le_refl _) new
    refine ⟨.ref s.heap.objs.size, _, I1, rfl, ⟨_, x, rfl, I.hok.fresh (Nat.le_refl _), rfl, fun ys hy => by rw [I.tuple_inj hy hq]; exact hx⟩, ⟨⟨x', ?_⟩, hit'.1.at fun o q => (sb.2 it (Ne.symm hne)).trans q, hne, nai, nae⟩, fun b hb => ?_⟩
    · have e1 : ((i + 1 : Nat) : Int) = (i : Int) + 1 := by omega
      rw [e1]; exact he'
    · have hb' : b < s.heap.objs.size := by
        have e' : b = e ∨ b = it := by simpa using hb
        rcases e' with z | z
        · rw [z]; exact hel
        · rw [z]; exact hil
      rw [upd_ne (Nat.ne_of_lt hb')]
      exact (hf b hb).1
  done := by
    intro X hP hw hK hc i pins s σ H E I hf st hg
    subst hP hw hK
    obtain ⟨⟨old, he⟩, hit, hne, nai, nae⟩ := st
    obtain ⟨xs, hq, hx⟩ := hg
    obtain ⟨its, rv, p, hz⟩ := I.tuple hq
    obtain ⟨f0, f1, f2, f3, f4, f5⟩ := hf it (by simp)
    have hl := rv.length
    exact next_enum_endT (I.ok.hd hc) he hit p (by simp; omega) fun h' eb => ⟨rfl, I.turned (t' := s.toks) (fun b o hb q => eb b o hb q) f0 f1 f3 f4 f5⟩
  self := fun A i s Q E st h => let ⟨⟨_, he⟩, _⟩ := st; wpAny_pyIter_enum he h
def iEnumA (K : PySem.W.Frag) (ta : TA) : TI := fun σ H R => ta σ H fun vs H1 => (∃ a xs, vs = [.ref a] ∧ SqL K H1 a xs ∧ R (Ite K a) H1) ∨ ∃ a xs, vs = [.ref a] ∧ SqT K H1 a xs ∧ R (IteT K a) H1
theorem pi_enumA {X : Cx} {e : Expr} {ta : TA} {p pos tpos : Pos} {elts : List Expr} {kk : Nat} (hg : Gl X "enumerate") (hm : X.mg "enumerate" = none) (ha : PA X [e] ta) (hs : starEach [e] X.env = [(false, eval e X.env)] := by rfl) :
    PI X (.Tuple elts kk tpos) (.Call (.Name "enumerate" p) [e] [] pos) (iEnumA X.K ta) := by
  refine ⟨fun pins s σ H R I h => ?_⟩
  refine Call_ (ld_blt I hg hm boot_enumerate (PyProof.Rows.callWith_type1 (thn (ha.run pos pins s σ H _ I h) fun us s1 ⟨vs, H1, I1, r1, q1⟩ => ?_) hs rfl))
  have fp : ∀ b ∈ [s1.heap.objs.size + 1, s1.heap.objs.size], s1.heap.objs.size ≤ b := fun b hb => by
    have e' : b = s1.heap.objs.size + 1 ∨ b = s1.heap.objs.size := by simpa using hb
    rcases e' with z | z
    · rw [z]; exact Nat.le_add_right _ _
    · rw [z]; exact Nat.le_refl _
  rcases q1 with ⟨a, xs, ex, hq, q⟩ | ⟨a, xs, ex, hq, q⟩
  · subst ex
    cases r1 with
    | cons r rr =>
      cases rr
      cases r
      obtain ⟨its, rv, p', hz⟩ := I1.list hq
      refine call_enumerate_list p'.isList fun h' he hit hsz hk => wpAny_pyIter_enum he ?_
      have I2 : Inv X pins σ H1 { s1 with heap := h' } := I1.kept (t' := s1.toks) hk
      exact ⟨s1.heap.objs.size + 1, [s1.heap.objs.size + 1, s1.heap.objs.size], _, _, H1, rfl, I2, turn_enum a (s1.heap.objs.size + 1) s1.heap.objs.size, ⟨⟨.none, he⟩, hit, Nat.succ_ne_self _⟩, fun b hb => I1.fpOk (fp b hb) (I1.hok.fresh (fp b hb)), q⟩
  · subst ex
    cases r1 with
    | cons r rr =>
      cases rr
      cases r
      obtain ⟨its, rv, p', hz⟩ := I1.tuple hq
      have hal : a < s1.heap.objs.size := by obtain ⟨_, q, _⟩ := p'; exact Heap.lt_size q
      refine enum_begins1 (begins_tuple a its.toArray) p' fun h' he hit hsz hk => wpAny_pyIter_enum he ?_
      have I2 : Inv X pins σ H1 { s1 with heap := h' } := I1.kept (t' := s1.toks) hk
      exact ⟨s1.heap.objs.size + 1, [s1.heap.objs.size + 1, s1.heap.objs.size], _, _, H1, rfl, I2, turn_enumT a (s1.heap.objs.size + 1) s1.heap.objs.size, ⟨⟨.none, he⟩, ⟨_, hit, rfl, rfl⟩, Nat.succ_ne_self _, Nat.ne_of_lt hal, Nat.ne_of_lt (Nat.lt_succ_of_lt hal)⟩, fun b hb => I1.fpOk (fp b hb) (I1.hok.fresh (fp b hb)), q⟩

section
variable {X : Cx} {T : Tb} {W : WX} {a b o e : Expr} {es : List Expr} {A B : M} {pos p p2 pos2 apos : Pos}
def enumL : Nat → List D → List D
  | _, [] => []
  | n, x :: xs => .tup [.int n, x] :: enumL (n + 1) xs
theorem enumL_len : ∀ (n : Nat) (xs : List D), (enumL n xs).length = xs.length
  | _, [] => rfl
  | n, x :: xs => by simp [enumL, enumL_len (n + 1) xs]
theorem enumL_get : ∀ {xs : List D} {n i : Nat} {d : D}, (enumL n xs)[i]? = some d → ∃ x, xs[i]? = some x ∧ d = .tup [.int (n + i : Nat), x]
  | [], n, i, d, h => by simp [enumL] at h
  | x :: xs, n, 0, d, h => by simp [enumL] at h; exact ⟨x, rfl, h.symm⟩
  | x :: xs, n, i + 1, d, h => by
    obtain ⟨y, h1, h2⟩ := enumL_get (xs := xs) (n := n + 1) (i := i) (d := d) (by simpa [enumL] using h)
    exact ⟨y, by simpa using h1, by rw [h2, Nat.add_assoc, Nat.add_comm 1 i]⟩
theorem walk_enum {G : Hp} {ρ : List Addr} {p : Addr} {xs : List D} {vs : List V} (h : SqL T.K G p vs) (r : Reps T G xs vs) : Walk T G ρ ((enumL 0 xs).map S.d) (Ite T.K p) := by
  refine ⟨fun i H e hi => ?_, fun i H e hi => ⟨vs, ex_l e h, ?_⟩, fun i H G1 ρ1 x H' e1 pr e2 y d hd => ?_⟩
  · rw [List.length_map, enumL_len] at hi
    exact ⟨vs, vs[i]'(by rw [r.length]; omega), ex_l e h, List.getElem?_eq_getElem _⟩
  · rw [List.length_map, enumL_len] at hi
    rw [r.length]; omega
  · obtain ⟨Tt, x1, rfl, hT, rfl, y1h⟩ := y
    rw [List.getElem?_map] at hd
    obtain ⟨d0, hd0, rfl⟩ := Option.map_eq_some_iff.mp hd
    obtain ⟨d1, hd1, rfl⟩ := enumL_get hd0
    obtain ⟨v1, hv1, rv1⟩ := r.get hd1
    have z1 := y1h vs (ex_l (e1.trans e2) h)
    rw [hv1] at z1
    obtain rfl : v1 = x1 := Option.some.inj z1
    have st : Step G1 H (upd G1 Tt (.tup [.int (i : Nat), v1])) (upd H Tt (.tup [.int (i : Nat), v1])) := Step.new e2 hT
    exact ⟨_, st, Rep.tup upd_same (by show 2 ≤ sizeLine; decide) (Reps.cons (by rw [Nat.zero_add]; exact Rep.int) (Reps.cons (Rep.mono (e1.trans st.g) _ _ rv1) Reps.nil))⟩
theorem walk_enumT {G : Hp} {ρ : List Addr} {p : Addr} {xs : List D} {vs : List V} (h : SqT T.K G p vs) (r : Reps T G xs vs) : Walk T G ρ ((enumL 0 xs).map S.d) (IteT T.K p) := by
  refine ⟨fun i H e hi => ?_, fun i H e hi => ⟨vs, ex_t e h, ?_⟩, fun i H G1 ρ1 x H' e1 pr e2 y d hd => ?_⟩
  · rw [List.length_map, enumL_len] at hi
    exact ⟨vs, vs[i]'(by rw [r.length]; omega), ex_t e h, List.getElem?_eq_getElem _⟩
  · rw [List.length_map, enumL_len] at hi
    rw [r.length]; omega
  · obtain ⟨Tt, x1, rfl, hT, rfl, y1h⟩ := y
    rw [List.getElem?_map] at hd
    obtain ⟨d0, hd0, rfl⟩ := Option.map_eq_some_iff.mp hd
    obtain ⟨d1, hd1, rfl⟩ := enumL_get hd0
    obtain ⟨v1, hv1, rv1⟩ := r.get hd1
    have z1 := y1h vs (ex_t (e1.trans e2) h)
    rw [hv1] at z1
    obtain rfl : v1 = x1 := Option.some.inj z1
    have st : Step G1 H (upd G1 Tt (.tup [.int (i : Nat), v1])) (upd H Tt (.tup [.int (i : Nat), v1])) := Step.new e2 hT
    exact ⟨_, st, Rep.tup upd_same (by show 2 ≤ sizeLine; decide) (Reps.cons (by rw [Nat.zero_add]; exact Rep.int) (Reps.cons (Rep.mono (e1.trans st.g) _ _ rv1) Reps.nil))⟩
def enum1 : List S → Cs → R Src
  | [.d (.lst xs)], c => .ok (.xs ((enumL 0 xs).map S.d)) c
  | [.d (.tup xs)], c => .ok (.xs ((enumL 0 xs).map S.d)) c
  | _, _ => .bad
def iEnum' (B : MA) : MI := fun δ c => (B δ c).bind enum1
theorem di_enum {elts : List Expr} {kk : Nat} {tpos : Pos} {B : MA} (hT : X.K = T.K) (hg : Gl X "enumerate") (hm : X.mg "enumerate" = none) (ha : PA X [a] (tDA T W B)) (hs : starEach [a] X.env = [(false, eval a X.env)] := by rfl) :
    PI X (.Tuple elts kk tpos) (.Call (.Name "enumerate" p) [a] [] pos) (tI T W (iEnum' B)) := by
  refine PI.imp (pi_enumA hg hm ha hs) fun σ H Q ⟨δ, c, G, ρ, hs, hh, p⟩ => ?_
  refine ⟨δ, c, G, ρ, hs, hh, (Post.bind (rel := SReps T) p).imp ?_⟩
  rintro vs H1 ⟨ss, c1, G1, ρ1, e1, p1, h1, r1, q1⟩
  unfold enum1 at q1
  rw [hT]
  split at q1
  · rename_i c xs
    obtain ⟨v, rfl, r⟩ := r1.one
    obtain ⟨q, vs, rfl, sq, hl, rr⟩ := Rep.lst_inv (show Rep T G1 (.lst xs) v from r)
    exact .inl ⟨q, vs, rfl, SqL.of (h1.ex _ _ sq), q1 _ H1 G1 ρ1 (.refl _) (List.prefix_refl _) h1 ⟨walk_enum (SqL.of sq) rr, by rw [List.length_map, enumL_len]; exact hl⟩⟩
  · rename_i c xs
    obtain ⟨v, rfl, r⟩ := r1.one
    obtain ⟨q, vs, rfl, sq, hl, rr⟩ := Rep.tup_inv (show Rep T G1 (.tup xs) v from r)
    exact .inr ⟨q, vs, rfl, SqT.of (h1.ex _ _ sq), q1 _ H1 G1 ρ1 (.refl _) (List.prefix_refl _) h1 ⟨walk_enumT (SqT.of sq) rr, by rw [List.length_map, enumL_len]; exact hl⟩⟩
  · exact q1.elim

end
end Dn

end
section
set_option maxHeartbeats 1000000
/-! Dn11: short forms for the printed derivations; what the top has written. -/
namespace Dn
open PySem PySem.Spec PyProof.Rows L2
section
variable {X : Cx} {T : Tb} {W : WX} {a b o e : Expr} {es : List Expr} {A B : M} {pos p p2 pos2 apos : Pos}
theorem takes0 : Takes X W0 := fun u s' ⟨_, _, _, _, _, _, _, _, _, _, _, _, _, _, _, _, w⟩ => w.elim
theorem vv (i : Nat) {x : Str} {pos : Pos} (hN : X.N[i]? = some x := by rfl) (hv : Vis X.env.scope x := by first | exact Or.inl rfl | exact Or.inr (Or.inl rfl) | exact Or.inr (Or.inr rfl)) (hd : (x == ("__debug__" : Str)) = false := by decide)
    (hcd : (x == ("__classdict__" : Str)) = false := by decide) : PE X (.Name x pos) (tD T W (mVar i)) := dn_var hN hv hd hcd
theorem dn_app {B : MA} (ho : PE X o (tD T W A)) (ha : PA X (e :: es) (tDA T W B)) (hbase : attributeBase o "append" X.env (eval o X.env) = eval o X.env := by rfl)
    (hfew : ((backTo pos (starEach (e :: es) X.env)).all (fun x => !x.1) && (backToKw pos (keywordEach [] X.env)).all (fun x => x.1.isSome)
      && decide ((e :: es).length + ([] : List Keyword).length + (if ([] : List Keyword).isEmpty then 0 else 1) < 30)) = true := by rfl)
    (hline : (apos.endLine == pos.line) = true := by rfl) (hs : starEach (e :: es) X.env = (false, eval e X.env) :: starEach es X.env := by rfl) (hplain : (backTo pos (starEach es X.env)).any (·.1) = false := by rfl) :
    PE X (.Call (.Attribute o "append" apos) (e :: es) [] pos) (tD T W (mAppend A B)) :=
  dn_append ho ha fun h1 h2 => pe_bm PySem.F.plainAttrs_list PySem.F.slot_list_append PySem.F.type_list_append mt_append h1 h2 hbase hfew hline hs hplain
theorem ds_setAt {i value : Expr} {I V : M} {tpos : Pos} (ho : PE X o (tD T W A)) (hi : PE X i (tD T W I)) (hv : PE X value (tD T W V))
    (ha : ∀ v, assign (.Subscript o i tpos) X.env v = (do
      let ov ← holding [v] (eval o X.env)
      let iv ← holding [v, ov] (eval i X.env)
      standAt tpos
      holding [v, ov, iv] (setItem ov iv v)
      release [v, ov, iv] []) := by intro _; rfl)
    (hs : swapsWithSole [.Subscript o i tpos] value pos.line X.env = pure false := by rfl) (hw : swappedStores [.Subscript o i tpos] value X.env = pure none := by rfl)
    (h1 : (assignEach [.Subscript o i tpos] X.env).map (·.2) = [assign (.Subscript o i tpos) X.env] := by rfl) : PS X (.Assign [.Subscript o i tpos] value pos) (tS T W (sSetIx A I V)) :=
  ds_setIx ho hi hv fun a b c => ps_asg c (pg_sub a b set_list ha) hs hw h1

/-! ### == of all kinds -/
def eqZ (tbl : List (Nat × (List S → Cs → R S))) (s t : S) (c : Cs) : R S := match s, t with
  | .d (.obj _ _), .d (.obj _ _) => eqO tbl s t c
  | _, _ => eqX tbl false s t c
section
variable {tbl : List (Nat × (List S → Cs → R S))} {n : Nat} (hM : MethsAt X.prog X.w X.K X.mg X.base T "__eq__" n tbl) (hT : X.K = T.K) (hr : Room (n + 1) X.A) (ha : PE X a (tD T W A)) (hb : PE X b (tD T W B))
theorem prim_eqZ : Prim2 T (eqZ tbl) (fun x y H Q => ((if false then rNeD T.K else rEqD T.K) x y H Q ∨ rEqLs T tbl false x y H Q) ∨ rEqO T tbl x y H Q) := by
  intro W σ G ρ H c s t v u Q hh rs rt p
  unfold eqZ at p
  split at p
  · exact .inr (prim_eqO _ _ _ _ _ _ _ _ _ _ _ hh rs rt p)
  · exact .inl (prim_eqX _ _ _ _ _ _ _ _ _ _ _ hh rs rt p)
include hM hT hr ha hb
theorem dn_eqZ : PE X (.Compare a [.Eq] [b] pos) (tD T W (mBin (eqZ tbl) A B)) := dn_cmp ((op_eqX false hM hT hr).or (op_eqO hM (hr.mono (Nat.le_succ _)))) prim_eqZ ha hb (nomark _)
theorem dt_eqZ : PT X (.Compare a [.Eq] [b] pos) (tDT T W (mTB (mBin (eqZ tbl) A B))) := dt_cmp ((op_eqX false hM hT hr).or (op_eqO hM (hr.mono (Nat.le_succ _)))) prim_eqZ ha hb (nomark _)
end

/-! ### list(zip(..)), sorted(set(..)) -/
def zipS (ss : List S) (c : Cs) : R S := match ss with
  | [.d (.lst xs), .d (.lst ys)] => .ok (.d (.lst (zipL xs ys))) c
  | [.d (.tup xs), .d (.tup ys)] => .ok (.d (.lst (zipL xs ys))) c
  | _ => .bad
def mListZip (B : MA) : M := fun δ c => (B δ c).bind zipS
def intsOf : List D → Option (List Int)
  | [] => some []
  | .int i :: r => match intsOf r with
    | some is => some (i :: is)
    | none => none
  | _ :: _ => none
def insU (x : Int) : List Int → List Int
  | [] => [x]
  | y :: r => if x < y then x :: y :: r else if x = y then y :: r else y :: insU x r
/-- the members, from the least one on, each once -/
def sortU : List Int → List Int
  | [] => []
  | x :: r => insU x (sortU r)
def sortSet (s : S) (c : Cs) : R S := match deref s c with
  | some (.lst xs) => match intsOf xs with
    | some ns => if ns.length ≤ 50 then .ok (.d (.lst ((sortU ns).map D.int))) c else .bad
    | none => .bad
  | _ => .bad
def mSortSet (A : M) : M := fun δ c => (A δ c).bind sortSet

/-! ### classes as values, kinds of built-in types -/
theorem pe_ty {x : Str} {n : String} {pos : Pos} (hg : Gl X x) (hm : X.mg x = none) (hv : bootBuiltins x = some (.type n)) (hn : x ≠ "__name__" := by decide) (hdb : (x == ("__debug__" : Str)) = false := by decide) : PE X (.Name x pos) (tC (.ty n)) :=
  ⟨fun pins s σ H Q I h => ld_blt I hg hm hv ⟨_, H, I, (show RelV (.ty n) (.type n) from rfl), h⟩ hn hdb⟩
theorem boot_ty_int : bootBuiltins "int" = some (.type "int") := by decide +kernel
theorem boot_ty_bool : bootBuiltins "bool" = some (.type "bool") := by decide +kernel
theorem boot_ty_list : bootBuiltins "list" = some (.type "list") := by decide +kernel
theorem boot_ty_tuple : bootBuiltins "tuple" = some (.type "tuple") := by decide +kernel
theorem boot_ty_str : bootBuiltins "str" = some (.type "str") := by decide +kernel
theorem dn_gint {x : Str} {i : Int} {pos : Pos} (hg : Gl X x) (hm : ∃ t, X.mg x = some (.int i t)) (hd : (x == ("__debug__" : Str)) = false := by decide) : PE X (.Name x pos) (tD T W (mC (.int i))) := by
  obtain ⟨t, hm⟩ := hm
  exact dn_glob (v := .int i) hg hm ⟨t, rfl⟩ (fun _ => Rep.int) hd
def kInt (obj : List (Nat × Bool)) : Kinds := ⟨some false, some true, some true, some false, some false, some false, obj, some false⟩
def kBool (obj : List (Nat × Bool)) : Kinds := ⟨some false, some true, some false, some false, some false, some false, obj, some false⟩
def kList (obj : List (Nat × Bool)) : Kinds := ⟨some false, some false, some false, some false, some true, some false, obj, some false⟩
def kLT (obj : List (Nat × Bool)) : Kinds := ⟨some false, some false, some false, some false, some true, some true, obj, some false⟩
def kOwn (obj : List (Nat × Bool)) : Kinds := ⟨none, none, none, none, none, none, obj, none⟩
section
variable {K : PySem.W.Frag} {obj : List (Nat × Bool)}
theorem kInt_ok (h : ∀ c r, (c, r) ∈ obj → Asked K (T.cl c) ∧ PySem.W.kitOne K (.ref (T.cl c)) (.type "int") = some r) : KindsOk K T (fun t => PySem.W.kitOne K t (.type "int")) (kInt obj) :=
  ⟨fun r e => by cases e; rfl, fun r e => by cases e; rfl, fun r e => by cases e; rfl, fun r e => by cases e; rfl, fun r e => by cases e; rfl, fun r e => by cases e; rfl, h, fun r e => by cases e; rfl⟩
theorem kBool_ok (h : ∀ c r, (c, r) ∈ obj → Asked K (T.cl c) ∧ PySem.W.kitOne K (.ref (T.cl c)) (.type "bool") = some r) : KindsOk K T (fun t => PySem.W.kitOne K t (.type "bool")) (kBool obj) :=
  ⟨fun r e => by cases e; rfl, fun r e => by cases e; rfl, fun r e => by cases e; rfl, fun r e => by cases e; rfl, fun r e => by cases e; rfl, fun r e => by cases e; rfl, h, fun r e => by cases e; rfl⟩
theorem kList_ok (h : ∀ c r, (c, r) ∈ obj → Asked K (T.cl c) ∧ PySem.W.kitOne K (.ref (T.cl c)) (.type "list") = some r) : KindsOk K T (fun t => PySem.W.kitOne K t (.type "list")) (kList obj) :=
  ⟨fun r e => by cases e; rfl, fun r e => by cases e; rfl, fun r e => by cases e; rfl, fun r e => by cases e; rfl, fun r e => by cases e; rfl, fun r e => by cases e; rfl, h, fun r e => by cases e; rfl⟩
theorem kLT_ok (h : ∀ c r, (c, r) ∈ obj → Asked K (T.cl c) ∧ PySem.W.kitAny K (.ref (T.cl c)) [.type "list", .type "tuple"] = some r) : KindsOk K T (fun t => PySem.W.kitAny K t [.type "list", .type "tuple"]) (kLT obj) :=
  ⟨fun r e => by cases e; rfl, fun r e => by cases e; rfl, fun r e => by cases e; rfl, fun r e => by cases e; rfl, fun r e => by cases e; rfl, fun r e => by cases e; rfl, h, fun r e => by cases e; rfl⟩
theorem kOwn_ok {f : Value → Option Bool} (h : ∀ c r, (c, r) ∈ obj → Asked K (T.cl c) ∧ f (.ref (T.cl c)) = some r) : KindsOk K T f (kOwn obj) :=
  ⟨(fun r e => by cases e), (fun r e => by cases e), (fun r e => by cases e), (fun r e => by cases e), (fun r e => by cases e), (fun r e => by cases e), h, (fun r e => by cases e)⟩
/-- any kinds, all told -/
def kAll (non bl int str lst tup dct : Bool) (obj : List (Nat × Bool)) : Kinds := ⟨some non, some bl, some int, some str, some lst, some tup, obj, some dct⟩
theorem kAll_ok {f : Value → Option Bool} {non bl int str lst tup dct : Bool} (h1 : f (.type "NoneType") = some non) (h2 : f (.type "bool") = some bl) (h3 : f (.type "int") = some int) (h4 : f (.type "str") = some str) (h5 : f (.type "list") = some lst) (h6 : f (.type "tuple") = some tup) (h7 : f (.type "dict") = some dct)
    (h : ∀ c r, (c, r) ∈ obj → Asked K (T.cl c) ∧ f (.ref (T.cl c)) = some r) : KindsOk K T f (kAll non bl int str lst tup dct obj) :=
  ⟨(fun r e => by cases e; exact h1), (fun r e => by cases e; exact h2), (fun r e => by cases e; exact h3), (fun r e => by cases e; exact h4), (fun r e => by cases e; exact h5), (fun r e => by cases e; exact h6), h, (fun r e => by cases e; exact h7)⟩
theorem more_obj {p : Nat → Bool → Prop} {n : Nat} {q : Bool} {l : List (Nat × Bool)} (h : p n q) (k : ∀ c r, (c, r) ∈ l → p c r) : ∀ c r, (c, r) ∈ (n, q) :: l → p c r := fun c r e => by
  cases e with
  | head => exact h
  | tail _ e => exact k c r e
theorem no_obj {p : Nat → Bool → Prop} : ∀ c r, (c, r) ∈ ([] : List (Nat × Bool)) → p c r := fun _ _ h => by cases h
theorem one_obj {p : Nat → Bool → Prop} {n : Nat} {q : Bool} (h : p n q) : ∀ c r, (c, r) ∈ [(n, q)] → p c r := fun c r e => by
  rw [List.mem_singleton] at e; cases e; exact h
end

/-! ### what the top has written -/
def DefAt (K : PySem.W.Frag) (mg : Str → Option Value) (x : Str) (st : Stmt) (ps : List Str) : Prop :=
  ∃ f fd, Fun K x x st f fd ∧ mg x = some (.ref f) ∧ PySem.W.keepIn K (.ref f) = true ∧ Binds K fd ps []
def MDefAt (K : PySem.W.Frag) (C : Addr) (m qual : Str) (st : Stmt) (ps : List Str) : Prop :=
  ∃ f fd, Fun K m qual st f fd ∧ Meth K C m f ∧ Binds K fd ps []
def IDefAt (K : PySem.W.Frag) (C : Addr) (qual : Str) (st : Stmt) (ps : List Str) : Prop :=
  ∃ f fd, Fun K "__init__" qual st f fd ∧ Mk K C f ∧ Binds K fd ps []
def tbOf (K : PySem.W.Frag) (cl : List Addr) (fl : List (List Str)) : Tb := ⟨K, fun n => cl.getD n 0, fun n => fl.getD n [], none, fun _ => 0⟩
section
variable {P : Program} {w : World} {K : PySem.W.Frag} {mg : Str → Option Value} {base : Heap} {k : Nat}
theorem cx_takes {N : List Str} {x : Str} {sc : Scope} {f : Addr} {cdv : Value} {A : Around} {outer : List Env} {s : Shared} {H : Hp} {E : XK} : Takes (cxOf (L2.CX P w) P w K mg base N x sc f cdv A outer s H E) (fun cls d _ H => E cls d H) := takes_of rfl rfl rfl rfl
theorem fn_okT {kp : Bool} {x qual : Str} {st : Stmt} {f : Addr} {fd : FuncData} {N ps : List Str} {body : MS} (F : Fun K x qual st f fd) (S : FnScope N ps (defScope st))
    (hbody : ∀ (f : Addr) (cdv : Value) (A : Around) (outer : List Env) (s : Shared) (H : Hp) (E : XK), Room k (A.deeper (envOfC qual (defScope st) s.heap.objs.size f cdv)) → Takes (cxOf (L2.CX P w) P w K mg base N qual (defScope st) f cdv A outer s H E) (fun cls d _ H => E cls d H) →
      PSs (cxOf (L2.CX P w) P w K mg base N qual (defScope st) f cdv A outer s H E) (defBody st) (tS T (fun cls d _ H => E cls d H) body)) : FnOk P w K mg base (L2.CX P w) (k + 1) f fd ps (spD T (fnG kp ps.length N.length body)) :=
  fn_ok F S fun cdv A outer s H E hr => hbody f cdv A outer s H E hr cx_takes
theorem fn_at {kp : Bool} {x : Str} {st : Stmt} {N ps : List Str} {body : MS} (D : DefAt K mg x st ps) (S : FnScope N ps (defScope st))
    (hbody : ∀ (f : Addr) (cdv : Value) (A : Around) (outer : List Env) (s : Shared) (H : Hp) (E : XK), Room k (A.deeper (envOfC x (defScope st) s.heap.objs.size f cdv)) → Takes (cxOf (L2.CX P w) P w K mg base N x (defScope st) f cdv A outer s H E) (fun cls d _ H => E cls d H) →
      PSs (cxOf (L2.CX P w) P w K mg base N x (defScope st) f cdv A outer s H E) (defBody st) (tS T (fun cls d _ H => E cls d H) body)) : FnAt P w K mg base T x (k + 1) (fnG kp ps.length N.length body) := by
  obtain ⟨f, fd, F, hm, hk, hb⟩ := D
  exact ⟨f, fd, ps, fn_okT F S hbody, hm, hk, hb⟩
theorem meth_at {kp : Bool} {c : Nat} {m qual : Str} {st : Stmt} {N ps : List Str} {body : MS} (D : MDefAt K (T.cl c) m qual st ps) (hc : Cls K (T.cl c)) (hn : m ∉ T.fl c) (S : FnScope N ps (defScope st))
    (hbody : ∀ (f : Addr) (cdv : Value) (A : Around) (outer : List Env) (s : Shared) (H : Hp) (E : XK), Room k (A.deeper (envOfC qual (defScope st) s.heap.objs.size f cdv)) → Takes (cxOf (L2.CX P w) P w K mg base N qual (defScope st) f cdv A outer s H E) (fun cls d _ H => E cls d H) →
      PSs (cxOf (L2.CX P w) P w K mg base N qual (defScope st) f cdv A outer s H E) (defBody st) (tS T (fun cls d _ H => E cls d H) body)) : MethAt P w K mg base T m c (k + 1) (fnG kp ps.length N.length body) := by
  obtain ⟨f, fd, F, hm, hb⟩ := D
  exact ⟨f, fd, ps, fn_okT F S hbody, hm, hc, hn, hb⟩
theorem make_at {kp : Bool} {c nf : Nat} {x qual : Str} {st : Stmt} {N ps : List Str} {body : MS} (D : IDefAt K (T.cl c) qual st ps) (hm : mg x = some (.ref (T.cl c))) (hn : (T.fl c).length = nf) (S : FnScope N ps (defScope st))
    (hbody : ∀ (f : Addr) (cdv : Value) (A : Around) (outer : List Env) (s : Shared) (H : Hp) (E : XK), Room k (A.deeper (envOfC qual (defScope st) s.heap.objs.size f cdv)) → Takes (cxOf (L2.CX P w) P w K mg base N qual (defScope st) f cdv A outer s H E) (fun cls d _ H => E cls d H) →
      PSs (cxOf (L2.CX P w) P w K mg base N qual (defScope st) f cdv A outer s H E) (defBody st) (tS T (fun cls d _ H => E cls d H) body)) : MakeAt P w K mg base T x c nf (k + 1) (fnG kp ps.length N.length body) := by
  obtain ⟨f, fd, F, hM, hb⟩ := D
  exact ⟨f, fd, ps, fn_okT F S hbody, hM, hm, hn, hb⟩
/-! ### the end -/
def spLawD (K : PySem.W.Frag) : Sp := fun vs H Q _ => ∃ (a : Addr) (ns : List Int), vs = [.ref a] ∧ SqL K H a (ns.map V.int) ∧ ns.length ≤ 63 ∧ (∀ z ∈ ns, Builtin.Int.intBits z ≤ 1048576) ∧ ∀ H', Q (.bl true) H'
def LawTrue (d : List S → Cs → R S) : Prop := ∀ ns : List Int, ns.length ≤ 63 → (∀ z ∈ ns, Builtin.Int.intBits z ≤ 1048576) → d [.d (.scr ns)] [] = .ok (.d (.bl true)) []
theorem law_end {CX : CXT} {f : Addr} {fd : FuncData} {ps : List Str} {d : List S → Cs → R S} (hd : LawTrue d) (hT : T.K = K) (F : FnOk P w K mg base CX k f fd ps (spD T d)) : FnOk P w K mg base CX k f fd ps (spLawD K) := by
  refine F.imp fun vs H Q E h => ?_
  obtain ⟨a, ns, rfl, hS, hl, hb, q⟩ := h
  refine ⟨[.d (.scr ns)], [], H, [], .cons (Rep.scr (by rw [hT]; exact hS) (Nat.le_trans hl (by decide))) .nil, RelH.none H, ?_⟩
  rw [hd ns hl hb]
  intro v H' G' ρ' eg pr rh rv
  have : v = .bl true := SRep.bl_inv rv
  subst this
  exact q H'
theorem walkD {l : PySem.W.OpenLaw} {q : Program} {loose : List Str} {XP : (Str → Option Value) → Heap → Prop} {YP : World → Heap → Prop} {d : DefRec} {K : Params → PySem.W.Frag} {x : Str} (hk : k ≤ 60) (hn : l.most = some 63) (hdf : d.params.defaults = [])
    (hY : ∀ (w : World) (h : Heap), YP w h → (K w.params).In h)
    (F : ∀ (w : World) (mg : Str → Option Value) (fa : Addr) (h : Heap), (K w.params).In h → h.Ns mainGlobals mg → mg d.name = some (.ref fa) →
      ∃ fd : FuncData, (∀ (s : Shared) (u : Value), BindsTo s fd ⟨[u], []⟩ [(x, u)]) ∧ ∀ base : Heap, (K w.params).In base → base.Ns mainGlobals mg → FnOk l.prog w (K w.params) mg base (L2.CX l.prog w) k fa fd [x] (spLawD (K w.params))) :
    PySem.W.WalkO q loose XP YP l.row.toRowW d [] (fun f vs => PySem.call f vs) :=
  L2.walk_ofB (n := 63) (k := k) (x := x) (CX := fun w => L2.CX l.prog w) (sp := fun w => spLawD (K w.params)) hn (by decide) hdf ((⟨rfl, by decide, by decide⟩ : Room 60 callerA).mono hk) hY F (fun _ _ a ns hl hb _ hS => ⟨a, ns, rfl, hS, hl, hb, fun _ => rfl⟩)
    fun _ _ _ _ _ ⟨_, _, _, _, _, _, _, _, _, _, _, _, z⟩ => z
theorem exm_self {S : Addr} (h1 : PySem.W.subIn K (.ref S) (.type "BaseException") = some true) (h2 : PySem.W.isClsIn K S = true) (h3 : PySem.W.typeIn K (.ref S) = some (.type "type")) (h4 : PySem.W.subIn K (.ref S) (.ref S) = some true) :
    PySem.W.exmOne K (.ref S) (.ref S) = some true := by
  have e1 : (PySem.W.subIn K (.ref S) (.type "BaseException") == some true) = true := by rw [h1] <;> rfl
  have e2 : ((PySem.W.clsIn K S).isSome && PySem.W.typeIn K (.ref S) == some (.type "type")) = true := by
    have h2' : (PySem.W.clsIn K S).isSome = true := h2
    rw [h2', h3] <;> rfl
  show (if (PySem.W.subIn K (.ref S) (.type "BaseException") == some true) = true then (if ((PySem.W.clsIn K S).isSome && PySem.W.typeIn K (.ref S) == some (.type "type")) = true then PySem.W.subIn K (.ref S) (.ref S) else none) else none) = some true
  rw [if_pos e1, if_pos e2]
  exact h4
theorem kit_self {C : Addr} : PySem.W.kitOne K (.ref C) (.ref C) = some true := if_pos (beq_self_eq_true _)
end
end
end Dn

end
section
/-! Dn12: sorted(set(a list of ints)). -/
namespace Dn
open PySem PySem.Spec PyProof.Rows L2
section
variable {P : Program} {w : World} {A : Around} {E : Value → Shared → Prop} {s : Shared}
abbrev newSet (w : World) : Obj := { cls := .type "set", dict := none, data := .set #[] 0 (.fresh 0 0 (!w.params.followText "set-order")) }
/-- what stands behind the filling of the new set at a -/
def Filled (w : World) (s : Shared) (a : Addr) (ns : List Int) (t : Shared) : Prop :=
  ∃ h' tk c, t = { s with heap := h', toks := tk } ∧ SetR w h' a (fun j => decide (j ∈ ns)) c ∧ c ≤ ns.length ∧ ∀ b o, b ≠ a → s.heap.get? b = some o → h'.get? b = some o
set_option maxHeartbeats 3200000 in
theorem init_of_list {a l : Addr} {items : Array Value} (ns : List Int) (hh : A.handled = none) (hS : s.heap.get? a = some (newSet w)) (hl : s.heap.IsList l items) (hit : IntsAre items.toList ns) (hb : ns.length + 1 < scanBound) :
    wpAny (model P w) A.in1 (Builtin.«set.__init__» ⟨[.ref a, .ref l], []⟩) (fun fin t => fin = .done (.ret .none) ∧ Filled w s a ns t) E s := by
  have hisz : items.size = ns.length := by
    have q := IntsAre.length hit
    rw [Array.length_toList] at q
    exact q
  have hal : a ≠ l := by
    intro e
    obtain ⟨o, ho, hc, _⟩ := hl
    rw [← e, hS] at ho
    cases ho
    exact absurd (show Value.type "set" = Value.type "list" from hc) (by decide)
  have hT : s.TypeIs (.ref a) "set" := ⟨_, hS, rfl⟩
  obtain ⟨ol, hol, hcl, nl, hdl⟩ := id hl
  obtain ⟨ocls, odict, odata, oslots⟩ := ol
  simp only at hcl hdl
  subst hcl; subst hdl
  have n1 := F.sub_list_set
  have n2 := F.sub_list_frozenset
  have n3 : (Value.type "list" == Value.type "dict") = false := by decide
  unfold Builtin.«set.__init__» noKeywords Builtin.Frozenset.updateFrom
  generalize hPI : pyIter = PI
  wp_walk
  subst hPI
  refine wpAny_pyIter_list hl ?_
  refine wpAny_bind (wpAny_runValue ?_)
  have la : a < s.heap.objs.size := Heap.lt_size hS
  have ll : l < s.heap.objs.size := Heap.lt_size hol
  have hval : ∀ (i : Nat) (v : Value), items[i]? = some v → ∃ k t, ns[i]? = some k ∧ v = .int k t := fun i v hv => by
    have hi : i < ns.length := by rw [← hisz]; exact (Array.getElem?_eq_some_iff.mp hv).1
    obtain ⟨t, e⟩ := PyProof.Rows.IntsAre.int_at hit i v (by rw [Array.getElem?_toList]; exact hv)
    refine ⟨ns[i], t, List.getElem?_eq_getElem hi, ?_⟩
    rw [e, List.getD_eq_getElem?_getD, List.getElem?_eq_getElem hi] <;> rfl
  refine set_update_ints ((Walks.list (A := A.in1.in1) (by simp [hh]) s.heap.objs.size l (Nat.ne_of_lt ll) items).toS) a (by simp; exact ⟨Nat.ne_of_lt la, hal⟩) ns hisz hb hval (items.size - 0) 0 _ (by omega) (Nat.zero_le _)
    ⟨⟨_, Heap.get?_push_size _ rfl, rfl, rfl⟩, hl.push _⟩ ⟨0, Nat.le_refl 0, setR_new_at (Heap.get?_push_of_some _ hS)⟩ ?_
  intro s' c' hm hc' hS'
  obtain ⟨h', g2, d', tk', os'⟩ := s'
  obtain rfl : g2 = s.gens := hm.gens
  obtain rfl : d' = s.drawn := hm.drawn
  obtain rfl : os' = s.os := hm.os
  refine wpAny_pure ?_
  show wpAny _ _ (ret Value.none) _ _ _
  refine wpAny_pure ⟨rfl, h', tk', c', rfl, hS', by omega, fun b o hba e => hm.heap b o ?_ (Heap.get?_push_of_some _ e)⟩
  simp
  exact ⟨hba, Nat.ne_of_lt (Heap.lt_size e)⟩
set_option maxHeartbeats 3200000 in
theorem set_of_list {l : Addr} {items : Array Value} (ns : List Int) {Q : Value → Shared → Prop} (hh : A.handled = none) (hl : s.heap.IsList l items) (hit : IntsAre items.toList ns) (hb : ns.length + 1 < scanBound)
    (h : ∀ (h' : Heap) (tk c : Nat), SetR w h' s.heap.objs.size (fun j => decide (j ∈ ns)) c → c ≤ ns.length → (∀ b o, s.heap.get? b = some o → h'.get? b = some o) → Q (.ref s.heap.objs.size) { s with heap := h', toks := tk }) :
    wpAny (model P w) A (call (.type "set") [.ref l]) Q E s := by
  obtain ⟨_, _, z1⟩ := F.called_set.mro
  have z2 := F.called_set.made
  have z3 := F.called_set.sub
  have z4 := F.called_set.notType
  have z5 := F.called_set.canCreate
  have z6 := F.typeCall_set_1 (.ref l)
  refine wpAny_call (codeAny_of_tree ?_)
  show wpAny _ _ (callAny (.type "set") _) _ _ _
  refine wpAny_pure ⟨Code.quiet_builtin _ (by decide +kernel), codeAny_builtin F.entry_type_call ?_⟩
  rw [Around.under_plain (weight_type_call_type "set" [.ref l] []) rfl]
  repeat (any_goals (first | assumption | wp_step))
  refine codeAny_mono (code_set_led1 (.ref l) (E := E) (Q₁ := fun obj s₁ => obj = .ref s.heap.objs.size ∧ s₁ = { s with heap := s.heap.push (newSet w) }) ⟨rfl, rfl⟩) fun r s₁ hr => ?_
  cases r with
  | error e => exact hr
  | ok fl =>
    cases fl with
    | ret obj =>
      obtain ⟨rfl, rfl⟩ := hr
      have hS : (s.heap.push (newSet w)).get? s.heap.objs.size = some (newSet w) := Heap.get?_push_size _ rfl
      have hT : Shared.TypeIs { s with heap := s.heap.push (newSet w) } (.ref s.heap.objs.size) "set" := ⟨_, hS, rfl⟩
      have z7 := F.called_set.init.lookup
      have z8 := F.called_set.init.bind (.ref s.heap.objs.size)
      repeat (any_goals (first | assumption | wp_step))
      refine codeAny_mono (codeAny_call_builtin (R := wants (fun r s₂ => r = .none ∧ Filled w { s with heap := s.heap.push (newSet w) } s.heap.objs.size ns s₂) E) F.called_set.init.plain F.entry_set_init (check_set_init_1 hT ?_)) fun r₂ s₂ hr₂ => ?_
      · refine wpAny_mono (init_of_list ns (by simp [hh]) hS (hl.push _) hit hb) (fun fin t ⟨e, hf⟩ => ?_) fun e t z => z
        subst e
        exact ⟨rfl, hf⟩
      · cases r₂ with
        | error e => exact hr₂
        | ok fl₂ =>
          cases fl₂ with
          | ret r =>
            obtain ⟨rfl, h', tk, c', rfl, hS', hc', hk'⟩ := hr₂
            repeat (any_goals (first | assumption | wp_step))
            exact h _ _ _ hS' hc' fun b o e => hk' b o (Nat.ne_of_lt (Heap.lt_size e)) (Heap.get?_push_of_some _ e)
          | _ => exact hr₂.elim
    | _ => exact hr.elim
end

theorem mem_insU {x y : Int} : ∀ {l : List Int}, y ∈ insU x l ↔ y = x ∨ y ∈ l
  | [] => by simp [insU]
  | z :: r => by
    unfold insU
    split
    · simp
    · split
      · rename_i h; subst h; simp
      · simp only [List.mem_cons, mem_insU (l := r)]
        constructor
        · rintro (h | h | h)
          · exact .inr (.inl h)
          · exact .inl h
          · exact .inr (.inr h)
        · rintro (h | h | h)
          · exact .inr (.inl h)
          · exact .inl h
          · exact .inr (.inr h)
theorem mem_sortU {y : Int} : ∀ {l : List Int}, y ∈ sortU l ↔ y ∈ l
  | [] => by simp [sortU]
  | x :: r => by simp only [sortU, mem_insU, mem_sortU (l := r), List.mem_cons]
theorem lt_insU {x : Int} : ∀ {l : List Int}, l.Pairwise (· < ·) → (insU x l).Pairwise (· < ·)
  | [], _ => by simp [insU]
  | z :: r, h => by
    obtain ⟨h1, h2⟩ := List.pairwise_cons.mp h
    unfold insU
    split
    · rename_i hx
      refine List.pairwise_cons.mpr ⟨fun y hy => ?_, h⟩
      rcases List.mem_cons.mp hy with e | e
      · rw [e]; exact hx
      · have := h1 y e; omega
    · split
      · exact h
      · rename_i n1 n2
        refine List.pairwise_cons.mpr ⟨fun y hy => ?_, lt_insU h2⟩
        rcases mem_insU.mp hy with e | e
        · rw [e]; omega
        · exact h1 y e
theorem lt_sortU : ∀ (l : List Int), (sortU l).Pairwise (· < ·)
  | [] => List.Pairwise.nil
  | x :: r => lt_insU (lt_sortU r)
theorem lt_unique : ∀ {l m : List Int}, l.Pairwise (· < ·) → m.Pairwise (· < ·) → (∀ k, k ∈ l ↔ k ∈ m) → l = m
  | [], [], _, _, _ => rfl
  | [], y :: m, _, _, e => by have := (e y).mpr List.mem_cons_self; cases this
  | x :: l, [], _, _, e => by have := (e x).mp List.mem_cons_self; cases this
  | x :: l, y :: m, h, k, e => by
    obtain ⟨h1, h2⟩ := List.pairwise_cons.mp h
    obtain ⟨k1, k2⟩ := List.pairwise_cons.mp k
    have hxy : x = y := by
      rcases List.mem_cons.mp ((e x).mp List.mem_cons_self) with z | z
      · exact z
      · rcases List.mem_cons.mp ((e y).mpr List.mem_cons_self) with w | w
        · exact w.symm
        · have := k1 x z; have := h1 y w; omega
    subst hxy
    rw [lt_unique h2 k2 fun j => ?_]
    constructor
    · intro hj
      rcases List.mem_cons.mp ((e j).mp (List.mem_cons_of_mem _ hj)) with z | z
      · have := h1 j hj; omega
      · exact z
    · intro hj
      rcases List.mem_cons.mp ((e j).mpr (List.mem_cons_of_mem _ hj)) with z | z
      · have := k1 j hj; omega
      · exact z
theorem sortU_len : ∀ (l : List Int), (sortU l).length ≤ l.length
  | [] => Nat.le_refl _
  | x :: r => by
    have ins : ∀ l : List Int, (insU x l).length ≤ l.length + 1 := by
      intro l
      induction l with
      | nil => simp [insU]
      | cons z r ih =>
        unfold insU
        split
        · simp
        · split
          · simp
          · simp; omega
    have := ins (sortU r)
    have := sortU_len r
    simp only [sortU, List.length_cons]
    omega
section
variable {X : Cx} {T : Tb} {W : WX} {a b o e : Expr} {es : List Expr} {A B : M} {pos p p2 pos2 apos : Pos}
def rSetL (K : PySem.W.Frag) (w : World) : List V → Hp → VK → Prop := fun xs H Q => ∃ (q : Addr) (ns : List Int), xs = [.ref q] ∧ SqL K H q (ns.map V.int) ∧ ns.length ≤ 50 ∧ ∀ r c, H r = none → c ≤ ns.length → Q (.ref r) (upd H r (SetO w r (fun j => decide (j ∈ ns)) c))
theorem cr_setL (hc : X.calm = true) : CallR X (.type "set") (rSetL X.K X.w) := by
  intro pins s σ H xs us Q I r h
  obtain ⟨q, ns, rfl, hq, hl, k⟩ := h
  obtain rfl := Vals.ref1 r
  obtain ⟨its, rv, pl, hz⟩ := I.list hq
  refine set_of_list ns (I.ok.hd hc) pl.isList (by simpa using ints_of_vals rv) (by unfold scanBound; omega) fun h' tk c R hcn kp => ?_
  exact ⟨.ref _, upd H s.heap.objs.size (SetO X.w s.heap.objs.size (fun j => decide (j ∈ ns)) c), I.laid (t' := tk) kp (Nat.le_refl _) (setO_new R), rfl, k _ _ (I.hok.fresh (Nat.le_refl _)) hcn⟩
theorem intsOf_eq : ∀ {xs : List D} {ns : List Int}, intsOf xs = some ns → xs = ns.map D.int
  | [], ns, h => by cases h; rfl
  | x :: r, ns, h => by
    cases x with
    | int i =>
      unfold intsOf at h
      cases e : intsOf r with
      | none => simp only [e] at h; cases h
      | some m =>
        simp only [e] at h
        cases h
        rw [intsOf_eq e]; rfl
    | _ => cases h
theorem reps_ints {G : Hp} : ∀ {ns : List Int} {vs : List V}, Reps T G (ns.map D.int) vs → vs = ns.map V.int
  | [], vs, h => h.nil_inv
  | n :: ns, vs, h => by
    obtain ⟨v, r, rfl, a, b⟩ := Reps.cons_inv (d := .int n) (ds := ns.map D.int) h
    rw [Rep.int_inv a, reps_ints b]; rfl
theorem dn_sortSet (hT : X.K = T.K) (hc : X.calm = true) (hg : Gl X "sorted") (hm : X.mg "sorted" = none) (hg2 : Gl X "set") (hm2 : X.mg "set" = none) (ha : PE X a (tD T W A))
    (na : starEach [a] X.env = (false, eval a X.env) :: starEach [] X.env := by rfl) (nb : starEach [.Call (.Name "set" p2) [a] [] pos2] X.env = (false, eval (.Call (.Name "set" p2) [a] [] pos2) X.env) :: starEach [] X.env := by rfl) :
    PE X (.Call (.Name "sorted" p) [.Call (.Name "set" p2) [a] [] pos2] [] pos) (tD T W (mSortSet A)) := by
  have h1 := pe_callTy (p := p2) (pos := pos2) (cr_setL hc) hg2 hm2 PyProof.Rows.boot_set (pa_cons ha pa_nil na) (by decide) (by decide) na rfl
  refine PE.imp (pe_callB (cr_sortedSet hc) hg hm (by decide +kernel) (pa_cons h1 pa_nil nb) (by decide) (by decide) nb rfl) fun σ H Q ⟨δ, c, G, ρ, hs, hh, p⟩ => ?_
  refine ⟨δ, c, G, ρ, hs, hh, (Post.bind (rel := SRep T) p).imp ?_⟩
  rintro v H1 ⟨s, c1, G1, ρ1, e1, p1, h1, r1, q1⟩
  unfold sortSet at q1
  cases e2 : deref s c1 with
  | none => simp only [e2] at q1; exact q1.elim
  | some d =>
    cases d with
    | lst xs =>
      simp only [e2] at q1
      cases e3 : intsOf xs with
      | none => simp only [e3] at q1; exact q1.elim
      | some ns =>
        simp only [e3] at q1
        by_cases hl : ns.length ≤ 50
        · rw [if_pos hl] at q1
          obtain ⟨q, vs, rfl, sq, hz, rr⟩ := deref_view h1 r1 e2
          rw [intsOf_eq e3] at rr
          have := reps_ints rr; subst this
          refine ⟨q, ns, rfl, SqL.of sq, hl, fun r n hr hn => ⟨r, _, n, rfl, upd_same, by omega, fun ms t hp hme hlen ht => ?_⟩⟩
          have em : ms = sortU ns := lt_unique hp (lt_sortU ns) fun k => by rw [hme k, mem_sortU, decide_eq_true_eq]
          subst em
          have htr : t ≠ r := by
            intro e; subst e; rw [upd_same] at ht; cases ht
          rw [upd_ne htr] at ht
          have st0 := Step.grow (G := G1) h1.ex (Ex.new (o := SetO X.w r (fun j => decide (j ∈ ns)) n) hr)
          have ht' : upd H1 r (SetO X.w r (fun j => decide (j ∈ ns)) n) t = none := by rw [upd_ne htr]; exact ht
          have st1 := Step.new (G := G1) (o := .lst ((sortU ns).map V.int)) st0.gh ht'
          have st := st0.trans st1
          refine q1 _ _ _ ρ1 st.g (List.prefix_refl _) (h1.step st) (Rep.lst upd_same ?_ (Reps.map_int _))
          rw [List.length_map, sizeLine_eq]
          have := sortU_len ns
          omega
        · rw [if_neg hl] at q1; exact q1.elim
    | _ => simp only [e2] at q1; exact q1.elim
end
end Dn

end
section
/-! Dn13: list(zip(..)) of two lists or two tuples. -/
namespace Dn
open PySem PySem.Spec PyProof.Rows L2
section
variable {prog : Program} {w : World} {A : Around} {E : Value → Shared → Prop} {s : Shared} {z TI TO i1 i2 S : Addr} {fp1 fp2 : List Addr} {n1 n2 i : Nat} {P1 P2 : Nat → Value → Prop} {St1 St2 : Nat → Heap → Prop}
/-- the zip at its i-th turn: no tuple is out, or one that is held; S: the list that is filled -/
def ZSt (z TI TO i1 i2 S : Addr) (St1 St2 : Nat → Heap → Prop) (i : Nat) (h : Heap) : Prop :=
  IsTupOf2 h TI (.ref i1) (.ref i2) ∧ St1 i h ∧ St2 i h ∧ ((IsZip h z TI TO .none ∧ ∃ a b, IsTupOf2 h TO a b) ∨ ∃ T f oT, IsZipHeld h z TI TO T f ∧ h.get? T = some oT ∧ T ≠ z ∧ T ≠ i1 ∧ T ≠ i2 ∧ T ≠ S)
theorem held_item {T : Addr} {f : Bool} {oT : Obj} {Q : Value → Shared → Prop} (Z : ZipSep2 z TI TO i1 i2 fp1 fp2) (D1 : Draws prog w A i1 fp1 n1 P1 St1) (D2 : Draws prog w A i2 fp2 n2 P2 St2)
    (hz : IsZipHeld s.heap z TI TO T f) (hT : s.heap.get? T = some oT) (hTI : IsTupOf2 s.heap TI (.ref i1) (.ref i2)) (st1 : St1 i s.heap) (st2 : St2 i s.heap) (hlt1 : i < n1) (hlt2 : i < n2)
    (hQ : ∀ x1 x2 h' tk, P1 i x1 → P2 i x2 → IsZipHeld h' z TI TO T true → St1 (i + 1) h' → St2 (i + 1) h' → IsTupOf2 h' s.heap.objs.size x1 x2 → h'.objs.size = s.heap.objs.size + 1 →
      (∀ c o, c ≠ z → c ≠ i1 → c ≠ i2 → s.heap.get? c = some o → h'.get? c = some o) → Q (.ref s.heap.objs.size) { s with heap := h', toks := tk }) :
    wpAny (model prog w) A (Builtin.«zip.__next__» ⟨[.ref z], []⟩) (fun fin s' => ∃ v, fin = .done (.ret v) ∧ Q v s') E s := by
  show wpAny _ _ (field (.ref z) 2 >>= _) _ _ _
  refine wpAny_bind (wpAny_field hz rfl (x := .bool false) rfl ?_)
  show wpAny _ _ (field (.ref z) 3 >>= _) _ _ _
  refine wpAny_bind (wpAny_field hz rfl (x := .ref TI) rfl ?_)
  refine wpAny_bind (wpAny_seqItems hTI rfl ?_)
  show wpAny _ _ (Builtin.SmallTypes.ownedTupleIsFree (.ref z) >>= _) _ _ _
  refine wpAny_bind (wpAny_tupleHeld_zip hz hT fun h₁ hz₁ hs₁ => ?_)
  simp only [Bool.false_eq_true, if_false]
  refine wpAny_bind ?_
  rw [← Array.forIn_toList]
  simp only [List.forIn_cons, List.forIn_nil]
  refine wpAny_bind (wpAny_bind (wpAny_holding ?_))
  show wpAny _ _ (Builtin.SmallTypes.nextOf (.ref i1) >>= _) _ _ _
  refine wpAny_bind (D1.item i { s with heap := h₁ } _ _ hlt1 (D1.over st1 hs₁ Z.zf1) fun x1 h₂ tk1 y1 st1₂ hs₂ => wpAny_pure ?_)
  replace hs₂ : Heap.SameBut i1 h₁ h₂ := hs₂
  refine wpAny_pure ?_
  refine wpAny_bind (wpAny_bind (wpAny_holding ?_))
  show wpAny _ _ (Builtin.SmallTypes.nextOf (.ref i2) >>= _) _ _ _
  refine wpAny_bind (D2.item i { s with heap := h₂, toks := tk1 } _ _ hlt2 (D2.over (D2.over st2 hs₁ Z.zf2) hs₂ Z.sep1_2) fun x2 h₃ tk2 y2 st2₃ hs₃ => wpAny_pure ?_)
  replace hs₃ : Heap.SameBut i2 h₂ h₃ := hs₃
  refine wpAny_pure (wpAny_pure ?_)
  show wpAny _ _ (newTuple [x1, x2] >>= _) _ _ _
  refine wpAny_bind (wpAny_newTuple ?_)
  have hsz : h₃.objs.size = s.heap.objs.size := by rw [hs₃.1, hs₂.1, hs₁.1]
  have hz₃ : IsZipHeld h₃ z TI TO T true := hs₃.extBut _ _ Z.zi2 (hs₂.extBut _ _ Z.zi1 hz₁)
  have hk : ∀ c o, c ≠ z → c ≠ i1 → c ≠ i2 → s.heap.get? c = some o → h₃.get? c = some o := fun c o c1 c2 c3 e => hs₃.extBut _ _ c3 (hs₂.extBut _ _ c2 (hs₁.extBut _ _ c1 e))
  have st1₃ : St1 (i + 1) h₃ := D1.over st1₂ hs₃ Z.sep2_1
  refine wpAny_pure ⟨_, rfl, ?_⟩
  show Q (.ref h₃.objs.size) _
  have hp : IsTupOf2 (h₃.push { cls := .type "tuple", data := .seq #[x1, x2] }) h₃.objs.size x1 x2 := Heap.get?_push_size _ rfl
  have hz4 : (h₃.push { cls := .type "tuple", data := .seq #[x1, x2] }).objs.size = h₃.objs.size + 1 := Heap.size_push ..
  rw [hsz] at hp hz4 ⊢
  exact hQ x1 x2 _ tk2 y1 y2 (Heap.get?_push_of_some _ hz₃) (D1.frame _ _ _ st1₃ fun b _ o e => Heap.get?_push_of_some _ e) (D2.frame _ _ _ st2₃ fun b _ o e => Heap.get?_push_of_some _ e) hp hz4 fun c o c1 c2 c3 e => Heap.get?_push_of_some _ (hk c o c1 c2 c3 e)
theorem held_end {T : Addr} {f : Bool} {oT : Obj} {Q : Fin → Shared → Prop} (Z : ZipSep2 z TI TO i1 i2 fp1 fp2) (D1 : Draws prog w A i1 fp1 n1 P1 St1) (D2 : Draws prog w A i2 fp2 n2 P2 St2)
    (hz : IsZipHeld s.heap z TI TO T f) (hT : s.heap.get? T = some oT) (hTI : IsTupOf2 s.heap TI (.ref i1) (.ref i2)) (st1 : St1 i s.heap) (st2 : St2 i s.heap) (hle1 : i ≤ n1) (hle2 : i ≤ n2) (hend : i = n1 ∨ i = n2)
    (hE : ∀ h' tk e, (∀ c o, c ≠ z → c ≠ i1 → c ≠ i2 → s.heap.get? c = some o → h'.get? c = some o) → (∃ o, h'.get? e = some o ∧ o.cls = .type "StopIteration") → E (.ref e) { s with heap := h', toks := tk }) :
    wpAny (model prog w) A (Builtin.«zip.__next__» ⟨[.ref z], []⟩) Q E s := by
  show wpAny _ _ (field (.ref z) 2 >>= _) _ _ _
  refine wpAny_bind (wpAny_field hz rfl (x := .bool false) rfl ?_)
  show wpAny _ _ (field (.ref z) 3 >>= _) _ _ _
  refine wpAny_bind (wpAny_field hz rfl (x := .ref TI) rfl ?_)
  refine wpAny_bind (wpAny_seqItems hTI rfl ?_)
  show wpAny _ _ (Builtin.SmallTypes.ownedTupleIsFree (.ref z) >>= _) _ _ _
  refine wpAny_bind (wpAny_tupleHeld_zip hz hT fun h₁ hz₁ hs₁ => ?_)
  simp only [Bool.false_eq_true, if_false]
  refine wpAny_bind ?_
  rw [← Array.forIn_toList]
  simp only [List.forIn_cons, List.forIn_nil]
  refine wpAny_bind (wpAny_bind (wpAny_holding ?_))
  show wpAny _ _ (Builtin.SmallTypes.nextOf (.ref i1) >>= _) _ _ _
  by_cases h1 : i = n1
  · subst h1
    refine wpAny_bind (D1.done { s with heap := h₁ } _ _ (D1.over st1 hs₁ Z.zf1) fun h₂ e hs₂ he => ?_)
    exact hE h₂ s.toks e (fun c o c1 c2 _ x => hs₂ _ _ c2 (hs₁.extBut _ _ c1 x)) he
  · have h2 : i = n2 := by rcases hend with h | h; exact absurd h h1; exact h
    refine wpAny_bind (D1.item i { s with heap := h₁ } _ _ (by omega) (D1.over st1 hs₁ Z.zf1) fun x1 h₂ tk1 y1 st1₂ hs₂ => wpAny_pure ?_)
    replace hs₂ : Heap.SameBut i1 h₁ h₂ := hs₂
    refine wpAny_pure ?_
    refine wpAny_bind (wpAny_bind (wpAny_holding ?_))
    show wpAny _ _ (Builtin.SmallTypes.nextOf (.ref i2) >>= _) _ _ _
    subst h2
    refine wpAny_bind (D2.done { s with heap := h₂, toks := tk1 } _ _ (D2.over (D2.over st2 hs₁ Z.zf2) hs₂ Z.sep1_2) fun h₃ e hs₃ he => ?_)
    exact hE h₃ tk1 e (fun c o c1 c2 c3 x => hs₃ _ _ c3 (hs₂.extBut _ _ c2 (hs₁.extBut _ _ c1 x))) he
/-- one turn -/
theorem zst_item {Q : Option Value → Shared → Prop} (Z : ZipSep2 z TI TO i1 i2 fp1 fp2) (D1 : Draws prog w A.in1 i1 fp1 n1 P1 St1) (D2 : Draws prog w A.in1 i2 fp2 n2 P2 St2) (hS : S < s.heap.objs.size)
    (st : ZSt z TI TO i1 i2 S St1 St2 i s.heap) (hlt1 : i < n1) (hlt2 : i < n2)
    (hQ : ∀ x1 x2 h' tk, P1 i x1 → P2 i x2 → ZSt z TI TO i1 i2 S St1 St2 (i + 1) h' → IsTupOf2 h' s.heap.objs.size x1 x2 → h'.objs.size = s.heap.objs.size + 1 →
      (∀ c o, c ≠ z → c ≠ TO → c ≠ i1 → c ≠ i2 → s.heap.get? c = some o → h'.get? c = some o) → Q (some (.ref s.heap.objs.size)) { s with heap := h', toks := tk }) :
    wpAny (model prog w) A (pyNext (.ref z)) Q E s := by
  obtain ⟨hTI, st1, st2, hz⟩ := st
  obtain ⟨_, e1⟩ := D1.live _ _ st1
  obtain ⟨_, e2⟩ := D2.live _ _ st2
  have n1' : s.heap.objs.size ≠ i1 := Nat.ne_of_gt (Heap.lt_size e1)
  have n2' : s.heap.objs.size ≠ i2 := Nat.ne_of_gt (Heap.lt_size e2)
  have nS : s.heap.objs.size ≠ S := Nat.ne_of_gt hS
  rcases hz with ⟨hz, a, b, hTO⟩ | ⟨T, f, oT, hz, hT, r1, r2, r3, r4⟩
  · refine wpAny_pyNext_zipD2_item Z D1 D2 hz hTI hTO st1 st2 hlt1 hlt2 fun x1 x2 h' tk y1 y2 a1 a2 a3 a4 a5 a6 hk => ?_
    exact hQ x1 x2 h' tk y1 y2 ⟨hk _ _ Z.TIz Z.TITO Z.TIi1 Z.TIi2 hTI, a3, a4, .inr ⟨s.heap.objs.size, false, _, a1, a5, Nat.ne_of_gt (Heap.lt_size hz), n1', n2', nS⟩⟩ a5 a6 hk
  · have hTy : s.TypeIs (.ref z) "zip" := ⟨_, hz, rfl⟩
    unfold pyNext
    refine wpAny_bind (wpAny_attempt (wpAny_callSpecial?_slot (name := Str.ofString "__next__") hTy F.slot_zip_next
      (wpAny_call_entry F.slot_zip_next hTy F.entry_zip_next
        (held_item Z D1 D2 hz hT hTI st1 st2 hlt1 hlt2 fun x1 x2 h' tk y1 y2 a1 a3 a4 a5 a6 hk => wpAny_pure ?_) (F.args_zip_next_1 _))))
    exact hQ x1 x2 h' tk y1 y2 ⟨hk _ _ Z.TIz Z.TIi1 Z.TIi2 hTI, a3, a4, .inr ⟨T, true, oT, a1, hk _ _ r1 r2 r3 hT, r1, r2, r3, r4⟩⟩ a5 a6 fun c o c1 c2 c3 c4 e => hk c o c1 c3 c4 e
theorem zst_end {Q : Option Value → Shared → Prop} (Z : ZipSep2 z TI TO i1 i2 fp1 fp2) (D1 : Draws prog w A.in1 i1 fp1 n1 P1 St1) (D2 : Draws prog w A.in1 i2 fp2 n2 P2 St2)
    (st : ZSt z TI TO i1 i2 S St1 St2 i s.heap) (hle1 : i ≤ n1) (hle2 : i ≤ n2) (hend : i = n1 ∨ i = n2)
    (hQ : ∀ h' tk, (∀ c o, c ≠ z → c ≠ TO → c ≠ i1 → c ≠ i2 → s.heap.get? c = some o → h'.get? c = some o) → Q none { s with heap := h', toks := tk }) : wpAny (model prog w) A (pyNext (.ref z)) Q E s := by
  obtain ⟨hTI, st1, st2, hz⟩ := st
  rcases hz with ⟨hz, a, b, hTO⟩ | ⟨T, f, oT, hz, hT, r1, r2, r3, r4⟩
  · exact wpAny_pyNext_zipD2_end Z D1 D2 hz hTI hTO st1 st2 hle1 hle2 hend fun h' tk hk => hQ h' tk hk
  · have hTy : s.TypeIs (.ref z) "zip" := ⟨_, hz, rfl⟩
    unfold pyNext
    refine wpAny_bind (wpAny_attempt (wpAny_callSpecial?_slot (name := Str.ofString "__next__") hTy F.slot_zip_next
      (wpAny_call_entry F.slot_zip_next hTy F.entry_zip_next (held_end Z D1 D2 hz hT hTI st1 st2 hle1 hle2 hend fun h' tk e hk he => ?_) (F.args_zip_next_1 _))))
    obtain ⟨o, ho, hc⟩ := he
    refine wpAny_bind (wpAny_isInstance (T := "StopIteration") (b := true) ⟨o, ho, hc⟩ isSubtype_stop ?_)
    exact wpAny_pure (hQ _ _ fun c o c1 c2 c3 c4 e => hk c o c1 c3 c4 e)

/-- what has been put into the list so far: new tuples, from B on -/
def Prs (B : Nat) (P1 P2 : Nat → Value → Prop) (h : Heap) (acc : Array Value) (i : Nat) : Prop :=
  acc.size = i ∧ ∀ j v, acc[j]? = some v → ∃ (T : Addr) (x1 x2 : Value), v = .ref T ∧ B ≤ T ∧ IsTupOf2 h T x1 x2 ∧ P1 j x1 ∧ P2 j x2
theorem Prs.keep {B : Nat} {h h' : Heap} {acc : Array Value} (p : Prs B P1 P2 h acc i) (k : ∀ c o, B ≤ c → h.get? c = some o → h'.get? c = some o) : Prs B P1 P2 h' acc i :=
  ⟨p.1, fun j v e => let ⟨T, x1, x2, a, b, c, d⟩ := p.2 j v e; ⟨T, x1, x2, a, b, k T _ b c, d⟩⟩
theorem Prs.push {B : Nat} {h : Heap} {acc : Array Value} {T : Addr} {x1 x2 : Value} (p : Prs B P1 P2 h acc i) (hB : B ≤ T) (hT : IsTupOf2 h T x1 x2) (h1 : P1 i x1) (h2 : P2 i x2) : Prs B P1 P2 h (acc.push (.ref T)) (i + 1) := by
  refine ⟨by rw [Array.size_push, p.1], fun j v hj => ?_⟩
  rw [Array.getElem?_push] at hj
  split at hj
  · rename_i e
    rw [p.1] at e
    cases hj
    subst e
    exact ⟨T, x1, x2, rfl, hB, hT, h1, h2⟩
  · exact p.2 j v hj
theorem zip_loop {R : Result → Shared → Prop} {B : Nat} (Z : ZipSep2 z TI TO i1 i2 fp1 fp2) (D1 : Draws prog w A.in1.in1 i1 fp1 n1 P1 St1) (D2 : Draws prog w A.in1.in1 i2 fp2 n2 P2 St2) (hn : n1 ≤ sizeLine) (res : Value)
    (bz : z < B) (bT : TO < B) (b1 : i1 < B) (b2 : i2 < B) (bS : S < B) (bI : TI < B) (SI : S ≠ TI) (Sz : S ≠ z) (ST : S ≠ TO) (S1 : S ∉ fp1) (S2 : S ∉ fp2) :
    ∀ (k i : Nat) (s : Shared) (acc : Array Value) (c : Nat), min n1 n2 - i = k → i ≤ min n1 n2 → B ≤ s.heap.objs.size → ZSt z TI TO i1 i2 S St1 St2 i s.heap → s.heap.get? S = some { cls := .type "list", dict := none, data := .seq acc c, slots := #[] } → Prs B P1 P2 s.heap acc i →
    (∀ h' tk acc' c', (∀ b o, b ≠ S → b ≠ z → b ≠ TO → b ≠ i1 → b ≠ i2 → s.heap.get? b = some o → h'.get? b = some o) → h'.get? S = some { cls := .type "list", dict := none, data := .seq acc' c', slots := #[] } → Prs B P1 P2 h' acc' (min n1 n2) → R (.ok (.ret res)) { s with heap := h', toks := tk }) →
    codeAny (model prog w) A (.builtin "list.extend.loop" ⟨[.ref S, .ref z, res], []⟩) R s := by
  have Si1 : S ≠ i1 := fun e => S1 (e ▸ Z.mem1)
  have Si2 : S ≠ i2 := fun e => S2 (e ▸ Z.mem2)
  intro k
  induction k with
  | zero =>
    intro i s acc c hk hi hB st hS hacc hR
    have hin : i = min n1 n2 := by omega
    refine codeAny_builtin F.entry_extend_loop ?_
    rw [Around.under_plainId F.plain_extend_loop _]
    show wpAny _ A.in1 (pyNext (.ref z) >>= _) _ _ s
    refine wpAny_bind (zst_end Z D1 D2 st (by omega) (by omega) (by omega) fun h' tk hk => ?_)
    have hb : ∀ b, B ≤ b → b ≠ z ∧ b ≠ TO ∧ b ≠ i1 ∧ b ≠ i2 := fun b h => ⟨Nat.ne_of_gt (Nat.lt_of_lt_of_le bz h), Nat.ne_of_gt (Nat.lt_of_lt_of_le bT h), Nat.ne_of_gt (Nat.lt_of_lt_of_le b1 h), Nat.ne_of_gt (Nat.lt_of_lt_of_le b2 h)⟩
    refine wpAny_pure (hR h' tk acc c (fun b o _ c1 c2 c3 c4 e => hk b o c1 c2 c3 c4 e) (hk S _ Sz ST Si1 Si2 hS) ?_)
    rw [← hin]
    exact hacc.keep fun b o h e => let ⟨q1, q2, q3, q4⟩ := hb b h; hk b o q1 q2 q3 q4 e
  | succ k ih =>
    intro i s acc c hk hi hB st hS hacc hR
    refine codeAny_builtin F.entry_extend_loop ?_
    rw [Around.under_plainId F.plain_extend_loop _]
    show wpAny _ A.in1 (pyNext (.ref z) >>= _) _ _ s
    refine wpAny_bind (zst_item Z D1 D2 (Heap.lt_size hS) st (by omega) (by omega) fun x1 x2 h' tk y1 y2 st' hT hsz hk' => ?_)
    have hb : ∀ b, B ≤ b → b ≠ z ∧ b ≠ TO ∧ b ≠ i1 ∧ b ≠ i2 := fun b h => ⟨Nat.ne_of_gt (Nat.lt_of_lt_of_le bz h), Nat.ne_of_gt (Nat.lt_of_lt_of_le bT h), Nat.ne_of_gt (Nat.lt_of_lt_of_le b1 h), Nat.ne_of_gt (Nat.lt_of_lt_of_le b2 h)⟩
    have hS' := hk' S _ Sz ST Si1 Si2 hS
    have hacc' : Prs B P1 P2 h' (acc.push (.ref s.heap.objs.size)) (i + 1) := (hacc.keep fun b o h e => let ⟨q1, q2, q3, q4⟩ := hb b h; hk' b o q1 q2 q3 q4 e).push hB hT y1 y2
    have oth : ∀ b o, b ≠ S → h'.get? b = some o → (h'.update S (Obj.mapSeq (·.push (.ref s.heap.objs.size)))).get? b = some o := fun b o hb e => (Heap.get?_update_other _ _ (Ne.symm hb)).trans e
    show wpAny _ A.in1 (updateSeq S (·.push (.ref s.heap.objs.size)) >>= _) _ _ _
    refine wpAny_bind ?_
    refine wpAny_updateSeq hS' rfl (wpAny_pure ⟨plainId_quiet F.plain_extend_loop _, ih (i + 1) _ (acc.push (.ref s.heap.objs.size)) _ (by omega) (by omega) ?_ ?_ (Heap.get?_update_self _ hS' rfl) (hacc'.keep fun b o h e => oth b o (Nat.ne_of_gt (Nat.lt_of_lt_of_le bS h)) e) fun h2 tk2 acc2 c2 k2 hS2 hp2 => ?_⟩)
      (by rw [hacc.1]; omega) (by show (acc.push _).size ≤ sizeLine + 1; rw [Array.size_push, hacc.1]; omega)
    · show B ≤ (h'.update S _).objs.size
      rw [Heap.size_update, hsz]
      exact Nat.le_succ_of_le hB
    · obtain ⟨a1, a2, a3, a4⟩ := st'
      refine ⟨oth _ _ (Ne.symm SI) a1, D1.frame _ _ _ a2 fun b hb o e => oth b o (fun q => S1 (q ▸ hb)) e, D2.frame _ _ _ a3 fun b hb o e => oth b o (fun q => S2 (q ▸ hb)) e, ?_⟩
      rcases a4 with ⟨hz, a, b, hTO⟩ | ⟨T, f, oT, hz, hT, r1, r2, r3, r4⟩
      · exact .inl ⟨oth _ _ (Ne.symm Sz) hz, a, b, oth _ _ (Ne.symm ST) hTO⟩
      · exact .inr ⟨T, f, oT, oth _ _ (Ne.symm Sz) hz, oth _ _ r4 hT, r1, r2, r3, r4⟩
    · exact hR h2 tk2 acc2 c2 (fun b o b1 b2 b3 b4 b5 e => k2 b o b1 b2 b3 b4 b5 (oth b o b1 (hk' b o b2 b3 b4 b5 e))) hS2 hp2
theorem zip_no_len : typeLookup (.type "zip") "__len__" = pure none := by rw [typeLookup_type, builtinLookup_eq_fast]; kernel_rfl
theorem zip_no_hint : typeLookup (.type "zip") "__length_hint__" = pure none := by rw [typeLookup_type, builtinLookup_eq_fast]; kernel_rfl
/-- list(the zip) -/
theorem zip_init {R : Result → Shared → Prop} {B : Nat} {a b : Value} (Z : ZipSep2 z TI TO i1 i2 fp1 fp2) (D1 : Draws prog w A.in1.in1 i1 fp1 n1 P1 St1) (D2 : Draws prog w A.in1.in1 i2 fp2 n2 P2 St2) (hn : n1 ≤ sizeLine)
    (bz : z < B) (bT : TO < B) (b1 : i1 < B) (b2 : i2 < B) (bS : S < B) (bI : TI < B) (SI : S ≠ TI) (Sz : S ≠ z) (ST : S ≠ TO) (S1 : S ∉ fp1) (S2 : S ∉ fp2) (hB : B ≤ s.heap.objs.size)
    (hz : IsZip s.heap z TI TO .none) (hTI : IsTupOf2 s.heap TI (.ref i1) (.ref i2)) (hTO : IsTupOf2 s.heap TO a b) (st1 : St1 0 s.heap) (st2 : St2 0 s.heap) (hS : s.heap.get? S = some { cls := .type "list", data := .seq #[] })
    (hR : ∀ h' tk acc' c', (∀ b o, b ≠ S → b ≠ z → b ≠ TO → b ≠ i1 → b ≠ i2 → s.heap.get? b = some o → h'.get? b = some o) → h'.get? S = some { cls := .type "list", dict := none, data := .seq acc' c', slots := #[] } → Prs B P1 P2 h' acc' (min n1 n2) → R (.ok (.ret .none)) { s with heap := h', toks := tk }) :
    wpAny (model prog w) A.in1 (Builtin.«list.__init__» ⟨[.ref S, .ref z], []⟩)
      (fun fin s' => match fin with | .done f => R (.ok f) s' | .again c' => c'.quiet = true ∧ codeAny (model prog w) A c' R s') (fun e s' => R (.error e) s') s := by
  show wpAny _ _ (do let old ← Builtin.List.listItems (.ref S); Builtin.List.listUpdate (.ref S) (fun _ => #[]); letGo old.toList.reverse; Builtin.List.listExtendWith (.ref S) (.ref z) .none) _ _ s
  refine wpAny_bind ?_
  unfold Builtin.List.listItems
  refine wpAny_bind (wpAny_seqItems hS rfl (wpAny_pure ?_))
  show wpAny _ _ (updateSeq S (fun _ => #[]) >>= fun _ => letGo (#[] : Array Value).toList.reverse >>= fun _ => Builtin.List.listExtendWith (.ref S) (.ref z) .none) _ _ s
  refine wpAny_bind (wpAny_updateSeq hS rfl ?_)
  have hS₂ := Heap.get?_update_self (Obj.mapSeq (fun _ => (#[] : Array Value))) hS rfl
  have oth : ∀ b o, b ≠ S → s.heap.get? b = some o → (s.heap.update S (Obj.mapSeq (fun _ => (#[] : Array Value)))).get? b = some o :=
    fun b o hb e => (Heap.get?_update_other _ _ (Ne.symm hb)).trans e
  refine wpAny_bind (wpAny_letGo ?_)
  have hz₂ := oth z _ (Ne.symm Sz) hz
  have hTy : Shared.TypeIs { s with heap := s.heap.update S (Obj.mapSeq (fun _ => (#[] : Array Value))) } (.ref z) "zip" := ⟨_, hz₂, rfl⟩
  unfold Builtin.List.listExtendWith
  refine wpAny_bind (wpAny_typeOf hTy ?_)
  have h1 : Builtin.List.listSameRef (.ref S) (.ref z) = false := by simp [Builtin.List.listSameRef, Sz]
  have h2 : (Value.type "zip" == Value.type "list") = false := by decide
  have h3 : (Value.type "zip" == Value.type "tuple") = false := by decide
  simp only [h1, h2, h3, Bool.or_false, Bool.false_eq_true, if_false]
  refine wpAny_bind (wpAny_pyIter_zip hz₂ ?_)
  refine wpAny_bind (wpAny_holding ?_)
  unfold Builtin.List.listLengthHint
  refine wpAny_bind (wpAny_specialOf hTy zip_no_len ?_)
  show wpAny _ A.in1 (specialOf (Value.ref z) (Str.ofString "__length_hint__") >>= _) _ _ _
  refine wpAny_bind (wpAny_specialOf hTy zip_no_hint ?_)
  refine wpAny_pure ?_
  show wpAny _ A.in1 (rule "list.extend.makes-room" >>= fun _ => Builtin.List.listTouch (.ref S) >>= fun _ => again (.builtin "list.extend.loop" ⟨[.ref S, .ref z, .none], []⟩)) _ _ _
  refine wpAny_bind (wpAny_rule ?_)
  refine wpAny_bind ?_
  show wpAny _ A.in1 (updateSeq S (·.push .none) >>= fun _ => updateSeq S (·.pop)) _ _ _
  refine wpAny_bind (wpAny_updateSeq hS₂ rfl ?_)
  have hS₃ := Heap.get?_update_self (Obj.mapSeq (·.push Value.none)) hS₂ rfl
  refine wpAny_updateSeq hS₃ rfl ?_
  have hS₄ := Heap.get?_update_self (Obj.mapSeq (·.pop)) hS₃ rfl
  have oth4 : ∀ b o, b ≠ S → s.heap.get? b = some o → (((s.heap.update S (Obj.mapSeq (fun _ => (#[] : Array Value)))).update S (Obj.mapSeq (·.push Value.none))).update S (Obj.mapSeq (·.pop))).get? b = some o :=
    fun b o hb e => (Heap.get?_update_other _ _ (Ne.symm hb)).trans ((Heap.get?_update_other _ _ (Ne.symm hb)).trans (oth b o hb e))
  refine wpAny_pure ⟨plainId_quiet F.plain_extend_loop _, zip_loop Z D1 D2 hn .none bz bT b1 b2 bS bI SI Sz ST S1 S2 _ 0 _ #[] _ rfl (Nat.zero_le _) ?_ ⟨oth4 _ _ (Ne.symm SI) hTI, D1.frame _ _ _ st1 fun b hb o e => oth4 b o (fun q => S1 (q ▸ hb)) e, D2.frame _ _ _ st2 fun b hb o e => oth4 b o (fun q => S2 (q ▸ hb)) e, .inl ⟨oth4 _ _ (Ne.symm Sz) hz, a, b, oth4 _ _ (Ne.symm ST) hTO⟩⟩ hS₄ ⟨rfl, fun j v e => by simp at e⟩ fun h' tk acc' c' k hS' hp => ?_⟩
  · show B ≤ (((s.heap.update S _).update S _).update S _).objs.size
    rw [Heap.size_update, Heap.size_update, Heap.size_update]
    exact hB
  · exact hR h' tk acc' c' (fun b o c1 c2 c3 c4 c5 e => k b o c1 c2 c3 c4 c5 (oth4 b o c1 e)) hS' hp
end

section
variable {X : Cx} {T : Tb} {W : WX} {a b o e : Expr} {es : List Expr} {A B : M} {pos p p2 pos2 apos : Pos}
/-- several new objects tracked at once: all from N on -/
theorem Inv.more {pins : List (Addr × Obj)} {σ : L2.St} {H H' : Hp} {s : Shared} {h' : Heap} {t' : Nat} (I : Inv X pins σ H s) (k : ∀ b u, s.heap.get? b = some u → h'.get? b = some u) (lo : ∀ b, b < s.heap.objs.size → H' b = H b)
    (new : ∀ b u, s.heap.objs.size ≤ b → H' b = some u → ObjOk X.prog X.w H' h' b u) : Inv X pins σ H' { s with heap := h', toks := t' } := by
  have fr : ∀ b u, H b = some u → b < s.heap.objs.size := fun b u e => by
    rcases Nat.lt_or_ge b s.heap.objs.size with z | z
    · exact z
    · rw [I.hok.fresh z] at e; cases e
  have up : ∀ b u, H b = some u → H' b = some u := fun b u e => by rw [lo b (fr b u e)]; exact e
  refine I.un ⟨fun b u q _ _ _ => k b u q, fun b u q _ _ _ => ⟨u.slots, k b u q⟩, fun b u q n _ => by rw [lo b (Heap.lt_size q)]; exact n, fun b u q _ => ⟨u, k b u q⟩, fun b xs q => up b _ q, fun b u xs q => up b _ q, fun b ps q => ⟨#[], by rw [up b _ q]; simp⟩⟩ ?_
  intro b u e
  rcases Nat.lt_or_ge b s.heap.objs.size with z | z
  · rw [lo b z] at e
    exact (I.hok b u e).stay (fun c v _ q => k c v q) (fun c q => up c _ q) fun c xs q => up c _ q
  · exact new b u z e
theorem Step.more {G H H' : Hp} {N : Nat} (e : Ex G H) (fr : ∀ b, N ≤ b → H b = none) (lo : ∀ b, b < N → H' b = H b) : Step G H (fun b => if b < N then G b else H' b) H' := by
  have lt : ∀ b o, H b = some o → b < N := fun b o q => by
    rcases Nat.lt_or_ge b N with z | z
    · exact z
    · rw [fr b z] at q; cases q
  refine ⟨fun b o q => ?_, fun b o q => ?_, fun b o q => ?_, fun b o q n => ?_⟩
  · show (if b < N then G b else H' b) = some o
    rw [if_pos (lt b o (e b o q))]; exact q
  · rw [lo b (lt b o q)]; exact q
  · have q' : (if b < N then G b else H' b) = some o := q
    by_cases z : b < N
    · rw [if_pos z] at q'
      rw [lo b z]; exact e b o q'
    · rw [if_neg z] at q'; exact q'
  · show (if b < N then G b else H' b) = none
    rw [if_pos (lt b o q)]; exact n
/-- list(zip(a, b)): what is wanted behind it -/
def ZipOk (K : PySem.W.Frag) (H : Hp) (x y : V) (Q : VK) : Prop := ∃ q q' vs us, x = .ref q ∧ y = .ref q' ∧ ((SqL K H q vs ∧ SqL K H q' us) ∨ (SqT K H q vs ∧ SqT K H q' us)) ∧
  ∀ (N : Nat) (Sa : Addr) (ts : List Addr) (H' : Hp), (∀ b, N ≤ b → H b = none) → (∀ b, b < N → H' b = H b) → N ≤ Sa → H' Sa = some (.lst (ts.map V.ref)) → ts.length = min vs.length us.length →
    (∀ (j : Nat) (t : Addr), ts[j]? = some t → N ≤ t ∧ ∃ v u, vs[j]? = some v ∧ us[j]? = some u ∧ H' t = some (.tup [v, u])) → Q (.ref Sa) H'
theorem lookup_in {α : Type} : ∀ {l : List (Nat × α)} {b : Nat} {o : α}, (∀ o', (b, o') ∈ l → o' = o) → (b, o) ∈ l → l.lookup b = some o
  | [], _, _, _, h => by cases h
  | (c, o1) :: r, b, o, u, h => by
    by_cases hc : b = c
    · subst hc
      have := u o1 List.mem_cons_self
      subst this
      simp [List.lookup]
    · have hb : (b == c) = false := beq_eq_false_iff_ne.mpr hc
      simp only [List.lookup, hb]
      refine lookup_in (fun o' h' => u o' (List.mem_cons_of_mem _ h')) ?_
      rcases List.mem_cons.mp h with z | z
      · cases z; exact absurd rfl hc
      · exact z
theorem lookup_mem {α : Type} : ∀ {l : List (Nat × α)} {b : Nat} {o : α}, l.lookup b = some o → (b, o) ∈ l
  | [], _, _, h => by cases h
  | (c, o1) :: r, b, o, h => by
    by_cases hc : b = c
    · subst hc
      simp [List.lookup] at h
      subst h
      exact List.mem_cons_self
    · have hb : (b == c) = false := beq_eq_false_iff_ne.mpr hc
      simp only [List.lookup, hb] at h
      exact List.mem_cons_of_mem _ (lookup_mem h)
/-- behind list(zip): the new objects are tracked -/
theorem zip_fin {pins : List (Addr × Obj)} {σ : L2.St} {H : Hp} {s : Shared} {h' : Heap} {tk c B : Nat} {S : Addr} {acc : Array Value} {vs us : List V} {it1 it2 : List Value} {Q : VK} (I : Inv X pins σ H s) (k : ∀ b u, s.heap.get? b = some u → h'.get? b = some u)
    (hS : h'.get? S = some { cls := .type "list", dict := none, data := .seq acc c, slots := #[] }) (nS : s.heap.objs.size ≤ S) (SB : S < B) (r1 : Vals vs it1) (r2 : Vals us it2) (hl : vs.length ≤ sizeLine)
    (hp : Prs B (fun i v => it1.toArray[i]? = some v) (fun i v => it2.toArray[i]? = some v) h' acc (min vs.length us.length))
    (q : ∀ (N : Nat) (Sa : Addr) (ts : List Addr) (H' : Hp), (∀ b, N ≤ b → H b = none) → (∀ b, b < N → H' b = H b) → N ≤ Sa → H' Sa = some (.lst (ts.map V.ref)) → ts.length = min vs.length us.length →
      (∀ (j : Nat) (t : Addr), ts[j]? = some t → N ≤ t ∧ ∃ v u, vs[j]? = some v ∧ us[j]? = some u ∧ H' t = some (.tup [v, u])) → Q (.ref Sa) H') :
    EP X pins σ Q (.ref S) { s with heap := h', toks := tk } := by
  have hm := hp.1
  have hall : ∀ j, j < acc.size → ∃ (t : Addr) (v u : V) (x1 x2 : Value), acc[j]? = some (.ref t) ∧ B ≤ t ∧ vs[j]? = some v ∧ us[j]? = some u ∧ IsTupOf2 h' t x1 x2 ∧ RelV v x1 ∧ RelV u x2 := by
    intro j hj
    obtain ⟨t, x1, x2, e, hB, hT, h1, h2⟩ := hp.2 j acc[j] (Array.getElem?_eq_getElem hj)
    have h1' : it1[j]? = some x1 := by simpa using h1
    have h2' : it2[j]? = some x2 := by simpa using h2
    obtain ⟨y1, e1, rv⟩ := r1.get (List.getElem?_eq_getElem (show j < vs.length by omega))
    obtain ⟨y2, e2, ru⟩ := r2.get (List.getElem?_eq_getElem (show j < us.length by omega))
    rw [h1'] at e1; cases e1
    rw [h2'] at e2; cases e2
    exact ⟨t, _, _, x1, x2, by rw [Array.getElem?_eq_getElem hj, e], hB, List.getElem?_eq_getElem _, List.getElem?_eq_getElem _, hT, rv, ru⟩
  let ad : Value → Addr := fun v => match v with | .ref t => t | _ => 0
  let ts : List Addr := acc.toList.map ad
  let prs : List (Nat × HO) := (List.range acc.size).map fun j => (ts.getD j 0, HO.tup [vs.getD j .non, us.getD j .non])
  have hts : ∀ (j : Nat) (t : Addr), acc[j]? = some (Value.ref t) → ts[j]? = some t := fun j t e => by
    show (acc.toList.map ad)[j]? = some t
    rw [List.getElem?_map, Array.getElem?_toList, e]
    rfl
  have tsl : ts.length = acc.size := by show (acc.toList.map ad).length = _; rw [List.length_map, Array.length_toList]
  have mem : ∀ (b : Nat) (ob : HO), (b, ob) ∈ prs → ∃ (j : Nat) (v u : V) (x1 x2 : Value), j < acc.size ∧ ts[j]? = some b ∧ B ≤ b ∧ ob = .tup [v, u] ∧ vs[j]? = some v ∧ us[j]? = some u ∧ IsTupOf2 h' b x1 x2 ∧ RelV v x1 ∧ RelV u x2 := by
    intro b ob hb
    obtain ⟨j, hj, e⟩ := List.mem_map.mp hb
    have hj := List.mem_range.mp hj
    obtain ⟨t, v, u, x1, x2, a1, a2, a3, a4, a5, a6, a7⟩ := hall j hj
    have z1 : ts.getD j 0 = t := by rw [List.getD_eq_getElem?_getD, hts j t a1]; rfl
    have z2 : vs.getD j .non = v := by rw [List.getD_eq_getElem?_getD, a3]; rfl
    have z3 : us.getD j .non = u := by rw [List.getD_eq_getElem?_getD, a4]; rfl
    rw [z1, z2, z3] at e
    cases e
    exact ⟨j, v, u, x1, x2, hj, hts j _ a1, a2, rfl, a3, a4, a5, a6, a7⟩
  have lk : ∀ (j : Nat) (t : Addr) (v u : V) (x1 x2 : Value), j < acc.size → ts[j]? = some t → vs[j]? = some v → us[j]? = some u → IsTupOf2 h' t x1 x2 → RelV v x1 → RelV u x2 → prs.lookup t = some (.tup [v, u]) := by
    intro j t v u x1 x2 hj a1 a3 a4 a5 a6 a7
    refine lookup_in (fun o' ho' => ?_) (List.mem_map.mpr ⟨j, List.mem_range.mpr hj, ?_⟩)
    · obtain ⟨j', v', u', y1, y2, _, _, _, e, _, _, c5, c6, c7⟩ := mem t o' ho'
      have a5' : h'.get? t = some { cls := .type "tuple", data := .seq #[x1, x2] } := a5
      have c5' : h'.get? t = some { cls := .type "tuple", data := .seq #[y1, y2] } := c5
      rw [a5'] at c5'
      cases c5'
      rw [e, c6.inj a6, c7.inj a7]
    · have z1 : ts.getD j 0 = t := by rw [List.getD_eq_getElem?_getD, a1]; rfl
      have z2 : vs.getD j .non = v := by rw [List.getD_eq_getElem?_getD, a3]; rfl
      have z3 : us.getD j .non = u := by rw [List.getD_eq_getElem?_getD, a4]; rfl
      rw [z1, z2, z3]
  let H' : Hp := fun b => if b < s.heap.objs.size then H b else if b = S then some (.lst (ts.map V.ref)) else prs.lookup b
  have lo : ∀ b, b < s.heap.objs.size → H' b = H b := fun b z => if_pos z
  have hHS : H' S = some (.lst (ts.map V.ref)) := by
    show (if S < s.heap.objs.size then H S else if S = S then _ else _) = _
    rw [if_neg (Nat.not_lt.mpr nS), if_pos rfl]
  have I' : Inv X pins σ H' { s with heap := h', toks := tk } := by
    refine Inv.more I k lo fun b ob hb e => ?_
    have e' : (if b < s.heap.objs.size then H b else if b = S then some (HO.lst (ts.map V.ref)) else prs.lookup b) = some ob := e
    rw [if_neg (Nat.not_lt.mpr hb)] at e'
    by_cases hbS : b = S
    · subst hbS
      rw [if_pos rfl] at e'
      cases e'
      refine ⟨by rw [List.length_map, tsl]; omega, acc.toList, c, ?_, by rw [Array.toArray_toList]; exact hS⟩
      have aux : ∀ l : List Value, (∀ v ∈ l, ∃ t, v = .ref t) → Vals ((l.map ad).map V.ref) l := by
        intro l
        induction l with
        | nil => intro _; exact .nil
        | cons x r ih =>
          intro h
          obtain ⟨t, rfl⟩ := h x List.mem_cons_self
          exact .cons rfl (ih fun v hv => h v (List.mem_cons_of_mem _ hv))
      refine aux _ fun v hv => ?_
      obtain ⟨j, hj⟩ := List.getElem?_of_mem hv
      rw [Array.getElem?_toList] at hj
      obtain ⟨t, _, _, _, _, a1, _⟩ := hall j (Array.getElem?_eq_some_iff.mp hj).1
      rw [hj] at a1
      exact ⟨t, Option.some.inj a1⟩
    · rw [if_neg hbS] at e'
      obtain ⟨j, v, u, x1, x2, _, _, _, rfl, _, _, c5, c6, c7⟩ := mem b ob (lookup_mem e')
      exact ⟨by show 2 ≤ sizeLine; decide, [x1, x2], .cons c6 (.cons c7 .nil), ⟨_, c5, rfl, _, rfl⟩⟩
  refine ⟨.ref S, H', I', rfl, q s.heap.objs.size S ts H' (fun b z => I.hok.fresh z) lo nS hHS (by rw [tsl]; exact hm) fun j t ht => ?_⟩
  have hj : j < acc.size := by rw [← tsl]; exact (List.getElem?_eq_some_iff.mp ht).1
  obtain ⟨t', v, u, x1, x2, a1, a2, a3, a4, a5, a6, a7⟩ := hall j hj
  have := hts j t' a1
  rw [ht] at this
  cases this
  have hN : s.heap.objs.size ≤ t := Nat.le_trans nS (Nat.le_trans (Nat.le_of_lt SB) a2)
  refine ⟨hN, v, u, a3, a4, ?_⟩
  show (if t < s.heap.objs.size then H t else if t = S then _ else _) = _
  rw [if_neg (Nat.not_lt.mpr hN), if_neg (Nat.ne_of_gt (Nat.lt_of_lt_of_le SB a2))]
  exact lk j t v u x1 x2 hj ht a3 a4 a5 a6 a7

/-- list(zip(a, b)), from the two values on -/
theorem call_listZip {pins : List (Addr × Obj)} {σ : L2.St} {H : Hp} {s : Shared} {v1 v2 : Value} {o1 o2 : Obj} {H1 H2 : Heap → Prop} {vs us : List V} {it1 it2 : List Value} {St1 St2 : Addr → Nat → Heap → Prop} {f1 f2 : Addr} {Q : VK} (I : Inv X pins σ H s)
    (B1 : Begins v1 o1 H1) (B2 : Begins v2 o2 H2) (h1 : H1 s.heap) (h2 : H2 s.heap) (l1 : f1 < s.heap.objs.size) (l2 : f2 < s.heap.objs.size)
    (D1 : ∀ A' it, A'.handled = none → f1 ≠ it → Draws X.prog X.w A' it [it, f1] it1.toArray.size (fun i v => it1.toArray[i]? = some v) (St1 it)) (D2 : ∀ A' it, A'.handled = none → f2 ≠ it → Draws X.prog X.w A' it [it, f2] it2.toArray.size (fun i v => it2.toArray[i]? = some v) (St2 it))
    (s1 : ∀ h it, H1 h → h.get? it = some o1 → St1 it 0 h) (s2 : ∀ h it, H2 h → h.get? it = some o2 → St2 it 0 h) (hc : X.calm = true) (r1 : Vals vs it1) (r2 : Vals us it2) (hl : vs.length ≤ sizeLine)
    (q : ∀ (N : Nat) (Sa : Addr) (ts : List Addr) (H' : Hp), (∀ b, N ≤ b → H b = none) → (∀ b, b < N → H' b = H b) → N ≤ Sa → H' Sa = some (.lst (ts.map V.ref)) → ts.length = min vs.length us.length →
      (∀ (j : Nat) (t : Addr), ts[j]? = some t → N ≤ t ∧ ∃ v u, vs[j]? = some v ∧ us[j]? = some u ∧ H' t = some (.tup [v, u])) → Q (.ref Sa) H') :
    wpAny (model X.prog X.w) X.A (call (.type "zip") [v1, v2]) (fun z t => wpAny (model X.prog X.w) X.A (call (.type "list") [z]) (EP X pins σ Q) X.xe t) X.xe s := by
  have hd := I.ok.hd hc
  refine zip_begins2 B1 B2 h1 h2 fun h' hz hTI hTO g1 g2 hsz hk => ?_
  have Z := zip_sep2 (N := s.heap.objs.size) (fp1 := [f1]) (fp2 := [f2]) (fun b hb => by rw [List.mem_singleton.mp hb]; exact l1) (fun b hb => by rw [List.mem_singleton.mp hb]; exact l2)
  refine callType_codes (Q₁ := fun obj t => obj = .ref h'.objs.size ∧ t = { s with heap := h'.push { cls := .type "list", data := .seq #[] } }) F.called_list (F.typeCall_list_1 _) F.entry_list_init (code_list_new _ ⟨rfl, rfl⟩) fun obj t ht => ?_
  obtain ⟨rfl, rfl⟩ := ht
  have up : ∀ b o, h'.get? b = some o → (h'.push { cls := .type "list", data := .seq #[] }).get? b = some o := fun b o e => Heap.get?_push_of_some _ e
  have hS : (h'.push { cls := .type "list", data := .seq #[] }).get? h'.objs.size = some { cls := .type "list", data := .seq #[] } := Heap.get?_push_size _ rfl
  have e1 : vs.length = it1.toArray.size := by rw [List.size_toArray]; exact r1.length
  have e2 : us.length = it2.toArray.size := by rw [List.size_toArray]; exact r2.length
  have n1 : f1 ≠ s.heap.objs.size := Nat.ne_of_lt l1
  have n2 : f2 ≠ s.heap.objs.size + 1 := Nat.ne_of_lt (Nat.lt_succ_of_lt l2)
  have hz5 : h'.objs.size = s.heap.objs.size + 5 := hsz
  have low : ∀ b, b < s.heap.objs.size + 5 → b < h'.objs.size + 1 := fun b hb => by rw [hz5]; exact Nat.lt_succ_of_lt hb
  have ne : ∀ b, b < s.heap.objs.size + 5 → h'.objs.size ≠ b := fun b hb => by rw [hz5]; exact Nat.ne_of_gt hb
  have K1 : H1 h' := B1.keeps _ _ h1 hk
  have K2 : H2 h' := B2.keeps _ _ h2 hk
  refine ⟨⟨_, hS, rfl⟩, F.args_list_init_2 _ _, ?_⟩
  refine zip_init (A := X.A.in1) (B := h'.objs.size + 1) Z (D1 _ _ (by simp [hd]) n1) (D2 _ _ (by simp [hd]) n2) (by rw [← e1]; exact hl) (low _ (by show (s.heap.objs.size + 4 : Nat) < _; omega)) (low _ (by show (s.heap.objs.size + 3 : Nat) < _; omega)) (low _ (by show (s.heap.objs.size : Nat) < _; omega)) (low _ (by show (s.heap.objs.size + 1 : Nat) < _; omega)) (Nat.lt_succ_self _) (low _ (by show (s.heap.objs.size + 2 : Nat) < _; omega))
    (ne _ (by show (s.heap.objs.size + 2 : Nat) < _; omega)) (ne _ (by show (s.heap.objs.size + 4 : Nat) < _; omega)) (ne _ (by show (s.heap.objs.size + 3 : Nat) < _; omega)) ?_ ?_ (by rw [Heap.size_push]; exact Nat.le_refl _) (up _ _ hz) (up _ _ hTI) (up _ _ hTO) (s1 _ _ (B1.keeps _ _ K1 up) (up _ _ g1)) (s2 _ _ (B2.keeps _ _ K2 up) (up _ _ g2)) hS fun h2 tk acc c k hS2 hp => ?_
  · intro hm
    rcases List.mem_cons.mp hm with e | e
    · exact ne _ (by show (s.heap.objs.size : Nat) < _; omega) e
    · exact ne f1 (Nat.lt_of_lt_of_le l1 (Nat.le_add_right _ _)) (List.mem_singleton.mp e)
  · intro hm
    rcases List.mem_cons.mp hm with e | e
    · exact ne _ (by show (s.heap.objs.size + 1 : Nat) < _; omega) e
    · exact ne f2 (Nat.lt_of_lt_of_le l2 (Nat.le_add_right _ _)) (List.mem_singleton.mp e)
  · refine ⟨rfl, zip_fin (s := s) (B := h'.objs.size + 1) I (fun b o e => ?_) hS2 (by rw [hz5]; exact Nat.le_add_right _ _) (Nat.lt_succ_self _) r1 r2 hl (by rw [e1, e2]; exact hp) q⟩
    have hb := Heap.lt_size e
    have hlt : ∀ j, b ≠ s.heap.objs.size + j := fun j => Nat.ne_of_lt (Nat.lt_of_lt_of_le hb (Nat.le_add_right _ _))
    exact k b o (Ne.symm (ne b (Nat.lt_of_lt_of_le hb (Nat.le_add_right _ _)))) (hlt 4) (hlt 3) (hlt 0) (hlt 1) (up _ _ (hk b o e))
theorem dn_listZip {B : MA} (hT : X.K = T.K) (hc : X.calm = true) (hg : Gl X "list") (hm : X.mg "list" = none) (hg2 : Gl X "zip") (hm2 : X.mg "zip" = none) (ha : PA X [a, b] (tDA T W B))
    (na : starEach [.Call (.Name "zip" p2) [a, b] [] pos2] X.env = (false, eval (.Call (.Name "zip" p2) [a, b] [] pos2) X.env) :: starEach [] X.env := by rfl)
    (hs : starEach [a, b] X.env = (false, eval a X.env) :: starEach [b] X.env := by rfl) (hpl : (backTo pos2 (starEach [b] X.env)).any (·.1) = false := by rfl) : PE X (.Call (.Name "list" p) [.Call (.Name "zip" p2) [a, b] [] pos2] [] pos) (tD T W (mListZip B)) := by
  refine ⟨fun pins s σ H Q I ⟨δ, c, G, ρ, hss, hh, pp⟩ => ?_⟩
  refine Call_ (ld_blt I hg hm boot_list (PyProof.Rows.callWith_type1 (args_cons (thn (Q := fun z t => wpAny (model X.prog X.w) X.A (call (.type "list") [z]) (EP X pins σ Q) X.xe t) ?_ fun z t h => args_nil h) na) na))
  refine Call_ (ld_blt I hg2 hm2 PyProof.Rows.boot_zip (PyProof.Rows.callWith_type1 (thn (ha.run pos2 pins s σ H _ I ⟨δ, c, G, ρ, hss, hh, Post.bind (rel := SReps T) pp⟩) fun us' s1 ⟨vs', H1, I1, r1, ss, c1, G1, ρ1, e1, p1, h1, rs, q1⟩ => ?_) hs hpl))
  have fin : ∀ {xs ys : List D} {vs us : List V}, Reps T G1 xs vs → Reps T G1 ys us → xs.length ≤ sizeLine → Post (SRep T) T W σ G1 ρ1 (.ok (.d (.lst (zipL xs ys))) c1) Q →
      ∀ (N : Nat) (Sa : Addr) (ts : List Addr) (H' : Hp), (∀ b, N ≤ b → H1 b = none) → (∀ b, b < N → H' b = H1 b) → N ≤ Sa → H' Sa = some (.lst (ts.map V.ref)) → ts.length = min vs.length us.length →
      (∀ (j : Nat) (t : Addr), ts[j]? = some t → N ≤ t ∧ ∃ v u, vs[j]? = some v ∧ us[j]? = some u ∧ H' t = some (.tup [v, u])) → Q (.ref Sa) H' := by
    intro xs ys vs us rx ry hl q N Sa ts H' fr lo hN hSa hlen hts
    have st := Step.more (N := N) h1.ex fr lo
    have hG : ∀ b o, N ≤ b → H' b = some o → (fun b => if b < N then G1 b else H' b) b = some o := fun b o hb e => by
      show (if b < N then G1 b else H' b) = some o
      rw [if_neg (Nat.not_lt.mpr hb)]; exact e
    refine q _ H' _ ρ1 st.g (List.prefix_refl _) (h1.step st) (Rep.lst (hG Sa _ hN hSa) (by rw [zipL_len]; omega) ?_)
    refine Reps.of_get (by rw [List.length_map, hlen, zipL_len, rx.length, ry.length]) fun j d v hd hv => ?_
    obtain ⟨x, y, hx, hy, rfl⟩ := zipL_inv hd
    rw [List.getElem?_map] at hv
    cases ht : ts[j]? with
    | none => rw [ht] at hv; cases hv
    | some t =>
      rw [ht] at hv
      cases hv
      obtain ⟨ht1, v1, u1, hv1, hu1, hH⟩ := hts j t ht
      obtain ⟨v', e1, rv⟩ := rx.get hx
      obtain ⟨u', e2, ru⟩ := ry.get hy
      rw [hv1] at e1; cases e1
      rw [hu1] at e2; cases e2
      exact Rep.tup (hG t _ ht1 hH) (by show 2 ≤ sizeLine; decide) (Reps.cons (Rep.mono st.g _ _ rv) (Reps.cons (Rep.mono st.g _ _ ru) Reps.nil))
  unfold zipS at q1
  split at q1
  · rename_i xs ys
    obtain ⟨v, u, rfl, r, r'⟩ := rs.two
    obtain ⟨q, vs, rfl, sq, hl, rr⟩ := Rep.lst_inv (show Rep T G1 (.lst xs) v from r)
    obtain ⟨q', us, rfl, sq', hl', rr'⟩ := Rep.lst_inv (show Rep T G1 (.lst ys) u from r')
    cases r1 with
    | cons ra rb =>
      cases rb with
      | cons rb rn =>
        cases rn; cases ra; cases rb
        obtain ⟨it1, rv1, pl1, z1⟩ := I1.list (SqL.of (h1.ex _ _ sq))
        obtain ⟨it2, rv2, pl2, z2⟩ := I1.list (SqL.of (h1.ex _ _ sq'))
        exact call_listZip I1 (begins_list q it1.toArray) (begins_list q' it2.toArray) pl1.isList pl2.isList pl1.lt pl2.lt (St1 := fun it i h => h.IsListIter it q i ∧ h.IsList q it1.toArray) (St2 := fun it i h => h.IsListIter it q' i ∧ h.IsList q' it2.toArray)
          (fun A' it hh hne => Draws.list hh it q hne it1.toArray) (fun A' it hh hne => Draws.list hh it q' hne it2.toArray) (fun h it hH hit => ⟨⟨_, hit, rfl, rfl⟩, hH⟩) (fun h it hH hit => ⟨⟨_, hit, rfl, rfl⟩, hH⟩) hc rv1 rv2 (by rw [rr.length]; exact hl) (fin rr rr' hl q1)
  · rename_i xs ys
    obtain ⟨v, u, rfl, r, r'⟩ := rs.two
    obtain ⟨q, vs, rfl, sq, hl, rr⟩ := Rep.tup_inv (show Rep T G1 (.tup xs) v from r)
    obtain ⟨q', us, rfl, sq', hl', rr'⟩ := Rep.tup_inv (show Rep T G1 (.tup ys) u from r')
    cases r1 with
    | cons ra rb =>
      cases rb with
      | cons rb rn =>
        cases rn; cases ra; cases rb
        obtain ⟨it1, rv1, pl1, z1⟩ := I1.tuple (SqT.of (h1.ex _ _ sq))
        obtain ⟨it2, rv2, pl2, z2⟩ := I1.tuple (SqT.of (h1.ex _ _ sq'))
        have l1 : q < s1.heap.objs.size := by obtain ⟨_, e, _⟩ := pl1; exact Heap.lt_size e
        have l2 : q' < s1.heap.objs.size := by obtain ⟨_, e, _⟩ := pl2; exact Heap.lt_size e
        exact call_listZip I1 (begins_tuple q it1.toArray) (begins_tuple q' it2.toArray) pl1 pl2 l1 l2 (St1 := fun it i h => h.IsTupleIter it q i ∧ h.IsTuple q it1.toArray) (St2 := fun it i h => h.IsTupleIter it q' i ∧ h.IsTuple q' it2.toArray)
          (fun A' it hh hne => Draws.tuple hh it q hne it1.toArray) (fun A' it hh hne => Draws.tuple hh it q' hne it2.toArray) (fun h it hH hit => ⟨⟨_, hit, rfl, rfl⟩, hH⟩) (fun h it hH hit => ⟨⟨_, hit, rfl, rfl⟩, hH⟩) hc rv1 rv2 (by rw [rr.length]; exact hl) (fin rr rr' hl q1)
  · exact q1.elim
end
end Dn

end
section
/-! Dn14: errors that carry a value: their making, several except clauses, with and without a name, their fields. -/
namespace Dn
open PySem PySem.Spec PyProof.Rows L2

/-! ### Base.__init__(self, text), Base an own class over ValueError -/
section
variable {X : Cx} {o e : Expr} {es : List Expr} {ta : TA} {p p1 p2 pos : Pos}
/-- the class at B, by its name, lends ValueError's __init__ -/
structure Lends (K : PySem.W.Frag) (B : Addr) : Prop where
  sp : PySem.W.specialIn K (.ref B) "__getattribute__" = some (some (.builtin "type.__getattribute__"))
  rd : PySem.W.readsIn K B (.type "type") = true
  fc : PySem.W.findCls K (.ref B) (.type "type") "__init__" = some (.val (.builtin "ValueError.__init__"))
theorem pe_lent {x : Str} {B : Addr} {pl : Sem Bool} (hg : Gl X x) (hm : X.mg x = some (.ref B)) (L : Lends X.K B) (ha : PA X (e :: es) ta) (hdb : (x == ("__debug__" : Str)) = false := by decide)
    (hc : eval (.Call (.Attribute (.Name x p1) "__init__" p2) (e :: es) [] pos) X.env = (do
      let ov ← eval (.Name x p1) X.env
      standAt p2.atName
      let (f, first) ← holding [ov] (getMethod ov "__init__" pl)
      callWith pos f first (backTo pos (starEach (e :: es) X.env)) (backToKw pos (keywordEach [] X.env))) := by rfl)
    (he : starEach (e :: es) X.env = (false, eval e X.env) :: starEach es X.env := by rfl) (hpl : (backTo pos (starEach es X.env)).any (·.1) = false := by rfl) :
    PE X (.Call (.Attribute (.Name x p1) "__init__" p2) (e :: es) [] pos) (tVeI X.K ta) := by
  refine ⟨fun pins s σ H Q I h => ?_⟩
  refine PySem.W.methodCall_KW (ld_glob I hg hm ?_ hdb) hc
  refine PySem.W.method_cls I.kIn L.sp (PySem.W.cls_value I.kIn L.rd L.fc (by decide +kernel) ?_)
  show wpAny _ _ (callWith pos (Value.builtin "ValueError.__init__") [] (backTo pos (starEach (e :: es) X.env)) []) _ _ _
  refine PyProof.Rows.callWith_method1 (thn (ha.run pos pins _ σ H _ (I.tok _) h) fun us s1 ⟨vs, H1, I1, r1, a, C, ws, ev, hl, T, ea, q⟩ => ?_) he hpl
  subst ev
  cases r1 with
  | @cons _ u0 _ ur ra rw' =>
    obtain rfl : u0 = Value.ref a := ra
    have hlen : ur.length ≤ sizeLine := by
      rw [← Paired.length rw', sizeLine_eq]
      omega
    exact oinit_ok T I1 ea hlen fun s' J => ⟨.non, H1, J, rfl, q⟩
end
/-- the two statements of such an __init__ -/
def tXI (K : PySem.W.Frag) (f : Str) : TS := fun D σ H => ∃ (a C : Addr) (v : V), σ[0]? = some (some (.ref a)) ∧ σ[1]? = some (some v) ∧ OexC K C ∧ PySem.W.findIn K (.ref C) f = some none ∧ H a = some (exo a C none) ∧
  ∀ dx, H dx = none → dx ≠ a → D.nx σ (upd (upd H dx (exd dx [(f, v)])) a (exo a C (some dx)))
theorem pss_xi {X : Cx} {B : Addr} {y g f t : Str} {j} {p1 p2 p3 p4 p5 p6 p7 p8 p9 p10 : Pos} (hg : Gl X y) (hm : X.mg y = some (.ref B)) (L : Lends X.K B) (h0 : X.N[0]? = some ("self" : Str)) (v0 : Vis X.env.scope "self") (h1 : X.N[1]? = some g) (v1 : Vis X.env.scope g)
    (hdb : (y == ("__debug__" : Str)) = false := by decide) (hd : (g == ("__debug__" : Str)) = false := by decide) (hcd : (g == ("__classdict__" : Str)) = false := by decide)
    (hc : ∀ pl : Sem Bool, pl = pl → ∃ pl : Sem Bool, eval (.Call (.Attribute (.Name y p1) "__init__" p2) [.Name "self" p3, .Constant (.str t) j p4] [] p5) X.env = (do
      let ov ← eval (.Name y p1) X.env
      standAt p2.atName
      let (f, first) ← holding [ov] (getMethod ov "__init__" pl)
      callWith p5 f first (backTo p5 (starEach [.Name "self" p3, .Constant (.str t) j p4] X.env)) (backToKw p5 (keywordEach [] X.env))) := by exact fun _ _ => ⟨_, rfl⟩)
    (he : starEach [.Name "self" p3, .Constant (.str t) j p4] X.env = (false, eval (.Name "self" p3) X.env) :: starEach [.Constant (.str t) j p4] X.env := by rfl)
    (he2 : starEach [.Constant (.str t) j p4] X.env = (false, eval (.Constant (.str t) j p4) X.env) :: starEach [] X.env := by rfl)
    (hpl : (backTo p5 (starEach [.Constant (.str t) j p4] X.env)).any (·.1) = false := by rfl)
    (hs : swapsWith (.Call (.Attribute (.Name y p1) "__init__" p2) [.Name "self" p3, .Constant (.str t) j p4] [] p5) none p6.line X.env = pure false := by rfl)
    (hs2 : swapsWith (.Name g p9) (some (.Attribute (.Name "self" p7) f p8)) p10.line X.env = pure false := by rfl) :
    PSs X [.Expr (.Call (.Attribute (.Name y p1) "__init__" p2) [.Name "self" p3, .Constant (.str t) j p4] [] p5) p6, .Assign [.Attribute (.Name "self" p7) f p8] (.Name g p9) p10] (tXI X.K f) := by
  obtain ⟨pl, hc⟩ := hc (pure true) rfl
  have s0 : ∀ {p}, PE X (.Name "self" p) (tVar 0) := pe_var h0 v0
  have s1 : PE X (.Name g p9) (tVar 1) := pe_var h1 v1 hd hcd
  refine PSs.imp (pss_cons (ps_expr (pe_lent (pl := pl) hg hm L (pa_cons s0 (pa_cons pe_str pa_nil he2) he) hdb hc he hpl) hs) (pss_one (ps_ost s0 s1 hs2))) fun D σ H h => ?_
  obtain ⟨a, C, v, e0, e1, T, hf, ea, q⟩ := h
  refine ⟨.ref a, e0, ?_⟩
  refine ⟨a, C, [.str t], rfl, by simp, T, ea, ?_⟩
  refine ⟨v, e1, .ref a, e0, a, C, rfl, T, hf, .inl ⟨ea, q⟩⟩
/-- what the __init__ of an error class with one field promises -/
def spXI (K : PySem.W.Frag) (f : Str) : Sp := fun vs H Q _ => ∃ (a C : Addr) (v : V), vs = [.ref a, v] ∧ OexC K C ∧ PySem.W.findIn K (.ref C) f = some none ∧ H a = some (exo a C none) ∧
  ∀ dx, H dx = none → dx ≠ a → Q .non (upd (upd H dx (exd dx [(f, v)])) a (exo a C (some dx)))
section
variable {P : Program} {w : World} {K : PySem.W.Frag} {mg : Str → Option Value} {base : Heap} {T : Tb} {k : Nat}
theorem xi_ok {qual : Str} {st : Stmt} {f : Addr} {fd : FuncData} {g fld : Str} (F : Fun K "__init__" qual st f fd) (S : FnScope ["self", g] ["self", g] (defScope st))
    (hb : ∀ (f : Addr) (cdv : Value) (A : Around) (outer : List Env) (s : Shared) (H : Hp) (E : XK), PSs (cxOf (L2.CX P w) P w K mg base ["self", g] qual (defScope st) f cdv A outer s H E) (defBody st) (tXI K fld)) :
    FnOk P w K mg base (L2.CX P w) (k + 1) f fd ["self", g] (spXI K fld) := by
  refine F.okX S ?_ ?_
  · rintro vs H Q E ⟨a, C, v, rfl, _⟩
    rfl
  · rintro cdv A outer s H vs Q E hr ⟨a, C, v, rfl, T, hf, ea, q⟩
    exact ⟨_, hb f cdv A outer s H E, a, C, v, rfl, rfl, T, hf, ea, q⟩
/-- the error class x, number n, with the one field fld -/
def XAt (P : Program) (w : World) (K : PySem.W.Frag) (mg : Str → Option Value) (base : Heap) (T : Tb) (x : Str) (n : Nat) (fld : Str) : Prop :=
  ∃ f fd ps, FnOk P w K mg base (L2.CX P w) 1 f fd ps (spXI K fld) ∧ OexC K (T.cl n) ∧ PySem.W.findIn K (.ref (T.cl n)) "__init__" = some (some (.ref f)) ∧ PySem.W.typeIn K (.ref f) = some (.type "function") ∧ Binds K fd ps [] ∧
    mg x = some (.ref (T.cl n)) ∧ PySem.W.findIn K (.ref (T.cl n)) fld = some none ∧ T.fl n = [fld]
end
section
variable {X : Cx} {T : Tb} {W : WX} {a b o e : Expr} {es : List Expr} {A B : M} {pos p p2 pos2 apos : Pos}
/-- raise X(e) -/
def sRaise1 (n : Nat) (A : M) : MS := fun δ c => (A δ c).andS δ fun s c => match s with
  | .d x => .ex n [x] δ c
  | _ => .bad
theorem ds_raise1 {x fld : Str} {n : Nat} (E : XAt X.prog X.w X.K X.mg X.base T x n fld) (hr : Room 2 X.A) (hc : X.calm = true) (tk : Takes X W) (hg : Gl X x) (ha : PE X e (tD T W A)) (hdb : (x == ("__debug__" : Str)) = false := by decide)
    (he : starEach [e] X.env = (false, eval e X.env) :: starEach [] X.env := by rfl) (hpl : (backTo pos2 (starEach [] X.env)).any (·.1) = false := by rfl) :
    PS X (.Raise (some (.Call (.Name x p) [e] [] pos2)) none pos) (tS T W (sRaise1 n A)) := by
  obtain ⟨f, fd, ps, F, O, iC, tI, hb, hm, hf, hfl⟩ := E
  refine PS.imp (ps_raise hc tk (pmk_oex (k := 1) (dvs := []) O iC tI F hr hb .nil (fun _ _ _ _ _ _ _ h => by
    obtain ⟨_, _, _, _, _, _, _, _, _, _, _, _, z⟩ := h
    exact z.elim) hg hm (pa_cons ha pa_nil he) hdb he hpl)) fun D σ H ⟨δ, c, G, ρ, hs, hh, p⟩ => ?_
  refine ⟨δ, c, G, ρ, hs, hh, (PostS.andS (rel := SRep T) hs p).imp ?_⟩
  rintro v H1 ⟨s, c1, G1, ρ1, e1, p1, h1, r1, q1⟩
  cases s with
  | c _ => exact q1.elim
  | x _ _ => exact q1.elim
  | d y =>
    refine ⟨by simp, fun a ha => ⟨a, T.cl n, v, rfl, O, hf, upd_same, fun dx hdx ne => ⟨rfl, dx, [(fld, v)], upd_same, ?_, ?_, ?_⟩⟩⟩
    · rw [upd_ne ne]; exact upd_same
    · rw [upd_ne ne] at hdx; exact hdx
    · rw [upd_ne ne] at hdx
      have eh : upd (del (upd (upd (upd H1 a (exo a (T.cl n) none)) dx (exd dx [(fld, v)])) a (exo a (T.cl n) (some dx))) a) dx (.xd [(fld, v)]) = upd H1 dx (.xd [(fld, v)]) := by
        funext b
        by_cases hb : b = dx
        · subst hb; rw [upd_same, upd_same]
        · rw [upd_ne hb, upd_ne hb]
          by_cases hb2 : b = a
          · subst hb2; rw [del_same, ha]
          · rw [del_ne hb2, upd_ne hb2, upd_ne hb, upd_ne hb2]
      rw [eh]
      have st : Step G1 H1 (upd G1 dx (.xd [(fld, v)])) (upd H1 dx (.xd [(fld, v)])) := Step.new h1.ex hdx
      exact q1 (some dx) σ _ _ ρ1 st.g (List.prefix_refl _) ((hs.mono e1 p1).mono st.g (List.prefix_refl _)) (h1.step st) (.inr ⟨dx, _, rfl, upd_same, by rw [hfl]; rfl, Reps.cons (Rep.mono st.g _ _ r1) Reps.nil⟩)
end
end Dn

end
section
/-! Dn15: try with any number of clauses, each with or without a name. -/
namespace Dn
open PySem PySem.Spec PyProof.Rows L2

abbrev SuT := Addr → Value → Option Addr → TS
/-- behind a suite with the name at slot i -/
def offE (i : Nat) (D : Ends) : Ends := { nx := fun s h => D.nx (s.set i none) h, rt := D.rt, bk := fun s h => D.bk (s.set i none) h, ct := fun s h => D.ct (s.set i none) h }
/-- what one clause wishes -/
def wCl (D : Ends) (t : SuT) : Option Nat → Value → Option Addr → L2.St → Hp → Prop
  | none, cls, d, σ, H => ∀ a, H a = none → t a cls d D σ H
  | some i, cls, d, σ, H => ∀ a, H a = none → t a cls d (offE i D) (σ.set i (some (.ref a))) H
def wMix (K : PySem.W.Frag) (Wo : WX) (D : Ends) : List (Value × Option Nat × SuT) → WX
  | [] => Wo
  | (c, n, t) :: r => fun cls d σ H => ∃ b, PySem.W.exmOne K cls c = some b ∧ (b = true → wCl D t n cls d σ H) ∧ (b = false → wMix K Wo D r cls d σ H)
/-- a clause's name -/
def NameOk (X : Cx) : Option Str → Option Nat → Prop
  | none, none => True
  | some n, some i => X.N.Nodup ∧ X.N[i]? = some n ∧ X.env.kindOf n = some .local
  | _, _ => False
inductive ClsOk (X : Cx) : List ExceptHandler → List (Value × Option Nat × SuT) → Prop
  | nil : ClsOk X [] []
  | cons {x : Str} {c : Value} {n : Option Str} {i : Option Nat} {t : SuT} {st : Stmt} {sts : List Stmt} {np ps : Pos} {hs : List ExceptHandler} {l : List (Value × Option Nat × SuT)} (hc : Names X x c) (hn : NameOk X n i)
      (hsu : ∀ (a : Addr) (oe : Obj) (cls : Value) (d : Option Addr) (pn : List (Addr × Obj)), Zc cls d oe → (∃ vs, oe.data = .fields vs) → PSs (X.suite a ((a, oe) :: pn)) (st :: sts) (t a cls d)) (r : ClsOk X hs l) :
      ClsOk X (.ExceptHandler (some (.Name x np)) n (st :: sts) ps :: hs) ((c, i, t) :: l)
section
variable {X : Cx} {body : List Stmt} {h0 : ExceptHandler} {hs : List ExceptHandler} {l : List (Value × Option Nat × SuT)} {pos : Pos} {tb : WX → TS} {Wo : WX}
theorem ps_try_mix (hk : X.stack = X.env :: X.outer) (hf : X.env.frame = some X.env.locals) (tk : Takes X Wo)
    (hb : ∀ (W : WX) (pn : List (Addr × Obj)) (xe : Value → Shared → Prop), Takes (X.tr pn xe) W → PassesOwn (model X.prog X.w) X.A X.env xe → PSs (X.tr pn xe) body (tb W)) (hh : ClsOk X (h0 :: hs) l) :
    PS X (.Try body (h0 :: hs) [] [] pos) (fun D σ H => tb (wMix X.K Wo D l) D σ H) := by
  refine ⟨fun pins s σ H D I h => ?_⟩
  have ok := I.ok
  have hfr : X.A.frames = some (X.env :: X.outer) := by rw [ok.frames, hk]
  refine wpAny_Try_except (wpAny_mono ((hb (wMix X.K Wo D l) (X.pn ++ pins) (fun u t1 => wpAny (model X.prog X.w) X.A (noteFrame u X.env) (fun _ t2 => wpAny (model X.prog X.w) X.A (setFlight u none) (fun _ t3 => wpAny (model X.prog X.w) X.A (handleBy u X.env (h0 :: hs)) (SP X pins D) X.xe t3) X.xe t2) X.xe t1)
    (fun u s' xx => ?_) PassesOwn.looking).run [] s σ H D (I.toTry _) h) (fun f s1 hsp => ?_) (fun e s1 he => he))
  · obtain ⟨a, B, sI, pins', σ1, H1, cls, d, rfl, J0, nb, up, sky, na, os, ag, w⟩ := xx
    have J : Inv X pins σ1 H1 sI := J0.ofTry ok
    have sk : Sky B (X.env :: X.outer) a (Zc cls d) X.env.locals s'.heap := by rw [← hk]; exact sky
    show wpAny (model X.prog X.w) X.A (noteFrame (.ref a) X.env) _ _ _
    refine Sky.land Zc.steady hfr hf sk fun h3 fl3 up3 => ?_
    have J3 : Inv X pins σ1 H1 { s' with heap := h3 } := J.landed nb fl3.1 (up.trans up3) os ag
    obtain ⟨o3, v3, he3, hz3, hd3⟩ := fl3.there
    have nfr : a ∉ frs (X.env :: X.outer) := fun hm => by obtain ⟨_, o', e', hnf⟩ := fl3.2.2.1.mem hm; rw [he3] at e'; cases e'; exact hnf _ hd3
    have nL : a ≠ X.env.locals := fun z => nfr (List.mem_filterMap.mpr ⟨X.env, List.mem_cons_self, by rw [hf, z]⟩)
    have nF : a ∉ X.fs := fun hm => by obtain ⟨e, he, q⟩ := List.mem_filterMap.mp hm; exact nfr (List.mem_filterMap.mpr ⟨e, List.mem_cons_of_mem _ he, q⟩)
    have S3 := J3.suite he3 hd3 na nL nF
    have go : ∀ {hs' : List ExceptHandler} {l' : List (Value × Option Nat × SuT)}, ClsOk X hs' l' → wMix X.K Wo D l' cls d σ1 H1 → wpAny (model X.prog X.w) X.A (handleBy (.ref a) X.env hs') (SP X pins D) X.xe { s' with heap := h3 } := by
      intro hs' l' hk'
      induction hk' with
      | nil =>
        intro w
        obtain ⟨k1, k2, k3, oe, vs, T, oT, ts', he, hz, hd, h1, hr⟩ := id fl3
        refine wpAny_handleBy_nil ?_
        unfold PySem.passOn
        refine wpAny_bind (wpAny_field he hd h1 ?_)
        rw [if_neg (show ¬ ((Value.ref T == Value.none) = true) from by simp)]
        have fin : wpAny (model X.prog X.w) X.A (setFlight (.ref a) X.env.frame) (fun _ t4 => wpAny (model X.prog X.w) X.A (throw (.ref a) : Sem Flow) (SP X pins D) X.xe t4) X.xe { s' with heap := h3 } := by
          rw [hf]; exact HandSPX.setFlight_upZ fl3 fun h4 hh4 up4 => wpAny_throw (tk _ _ ⟨a, B, sI, pins, σ1, H1, cls, d, rfl, J, nb, (up.trans up3).trans up4, .inr (.inr (by rw [hk]; exact hh4)), na, os, ag, w⟩)
        first | exact wpAny_bind (wpAny_pure (wpAny_bind fin)) | exact wpAny_bind fin
      | @cons x c n i t st sts np ps hs2 l2 hc hn hsu r ih =>
        intro w
        obtain ⟨b, hb1, hyes, hno⟩ := w
        refine wpAny_handleBy_cons (codeAny_handlers_test ?_) (by intro q; cases q)
        have LT : PySem.W.Looks (model X.prog X.w) h3 (typeOf (.ref a)) cls := fun A Q E s k q => wpAny_typeOf_ref (k _ _ he3) (by rw [hz3.1]; exact q)
        have LM := PySem.W.exm_one (M := model X.prog X.w) (J3.kIn) LT hb1
        have test : ∀ {Q : Value → Shared → Prop} {E : Value → Shared → Prop}, Q c { s' with heap := h3 } → wpAny (model X.prog X.w) (X.A.mark (some (.ref a))) (eval (.Name x np) X.env) Q E { s' with heap := h3 } := fun {Q E} q => by
          rcases hc with ⟨hg, hdbg, hm | ⟨hm, hv, hnn⟩⟩
          · exact ld_glob (X := X.suite a ((a, o3) :: (X.pn ++ pins))) S3 hg hm q hdbg
          · exact ld_blt (X := X.suite a ((a, o3) :: (X.pn ++ pins))) S3 hg hm hv q hnn hdbg
        refine test (LM.here ?_)
        cases b with
        | false =>
          show wpAny _ X.A (handleBy (.ref a) X.env hs2) _ _ _
          exact ih (hno rfl)
        | true =>
          have hy := hyes rfl
          cases n with
          | none =>
            cases i with
            | some _ => exact hn.elim
            | none =>
              refine codeAny_handlers_suite (HandSPX.lands_againZ fl3 fun h4 fl4 up4 => ?_)
              have J4 : Inv X pins σ1 H1 { s' with heap := h4 } := J.landed nb fl4.1 ((up.trans up3).trans up4) os ag
              obtain ⟨o4, v4, he4, hz4, hd4⟩ := fl4.there
              refine wpAny_mono ((hsu a o4 cls d (X.pn ++ pins) hz4 ⟨_, hd4⟩).run [] _ _ H1 _ (J4.suite he4 hd4 na nL nF) (hy a na)) (fun f s6 hsp => ?_) (fun _ _ z => False.elim z)
              cases f with
              | next => obtain ⟨σ6, H6, S6, q6⟩ := hsp; exact ⟨_, _, S6.unsuite ok, q6⟩
              | brk => obtain ⟨σ6, H6, S6, q6⟩ := hsp; exact ⟨_, _, S6.unsuite ok, q6⟩
              | cont => obtain ⟨σ6, H6, S6, q6⟩ := hsp; exact ⟨_, _, S6.unsuite ok, q6⟩
              | ret u => obtain ⟨v6, σ6, H6, S6, r6, q6⟩ := hsp; exact ⟨_, _, _, S6.unsuite ok, r6, q6⟩
          | some n =>
            cases i with
            | none => exact hn.elim
            | some i =>
              obtain ⟨hN, hi, hln⟩ := hn
              refine codeAny_handlers_suite_as (HandSPX.lands_againZ fl3 fun h4 fl4 up4 => ?_)
              have J4 : Inv X pins σ1 H1 { s' with heap := h4 } := J.landed nb fl4.1 ((up.trans up3).trans up4) os ag
              obtain ⟨o4, v4, he4, hz4, hd4⟩ := fl4.there
              refine store_ok (X := X.suite a ((a, o4) :: (X.pn ++ pins))) (v := .ref a) (J4.suite he4 hd4 na nL nF) hN hi (.inl hln) rfl (fun s5 S5 => ?_) (.inr hln)
              refine wpAny_mono ((hsu a o4 cls d (X.pn ++ pins) hz4 ⟨_, hd4⟩).run [] s5 _ H1 _ S5 (hy a na)) (fun f s6 hsp => ?_) (fun _ _ z => False.elim z)
              have end_ : ∀ {σ6 : L2.St} {H6 : Hp} {Q : Shared → Prop}, Inv (X.suite a ((a, o4) :: (X.pn ++ pins))) [] σ6 H6 s6 → (∀ s7, Inv X pins (σ6.set i none) H6 s7 → Q s7) → wpAny (model X.prog X.w) X.A (do bindName X.env n .none; unbindBehindTheSuite X.env n ps) (fun _ s7 => Q s7) X.xe s6 := fun {σ6 H6 Q} S6 hq => gone_ok (S6.unsuite ok) hN hi hln hq
              cases f with
              | next => obtain ⟨σ6, H6, S6, q6⟩ := hsp; exact end_ S6 fun s7 J7 => ⟨_, _, J7, q6⟩
              | brk => obtain ⟨σ6, H6, S6, q6⟩ := hsp; exact end_ S6 fun s7 J7 => ⟨_, _, J7, q6⟩
              | cont => obtain ⟨σ6, H6, S6, q6⟩ := hsp; exact end_ S6 fun s7 J7 => ⟨_, _, J7, q6⟩
              | ret u => obtain ⟨v6, σ6, H6, S6, r6, q6⟩ := hsp; exact end_ S6 fun s7 J7 => ⟨_, _, _, J7, r6, q6⟩
    exact go hh w
  · cases f with
    | next => obtain ⟨σ1, H1, J1, q⟩ := hsp; exact wpAny_execs_nil ⟨σ1, H1, J1.ofTry ok, q⟩
    | brk => obtain ⟨σ1, H1, J1, q⟩ := hsp; exact ⟨σ1, H1, J1.ofTry ok, q⟩
    | cont => obtain ⟨σ1, H1, J1, q⟩ := hsp; exact ⟨σ1, H1, J1.ofTry ok, q⟩
    | ret u => obtain ⟨v, σ1, H1, J1, r, q⟩ := hsp; exact ⟨v, σ1, H1, J1.ofTry ok, r, q⟩
end
end Dn

end
section
/-! Dn16: the readings of try; an error in hand and its fields. -/
namespace Dn
open PySem PySem.Spec PyProof.Rows L2

def Tb.wx (T : Tb) (x : Option (Addr × Option Addr × Nat)) : Tb := { T with x := x }
section
variable {T : Tb} {x : Option (Addr × Option Addr × Nat)} {G H : Hp} {ρ : List Addr} {c : Cs} {σ : L2.St} {δ : Sl} {W : WX}
mutual
theorem Rep.wx : ∀ (d : D) (v : V), Rep T G d v → Rep (T.wx x) G d v
  | .non, v, e => by unfold Rep at *; exact e
  | .bl _, v, e => by unfold Rep at *; exact e
  | .int _, v, e => by unfold Rep at *; exact e
  | .str _, v, e => by unfold Rep at *; exact e
  | .scr ns, v, e => by unfold Rep at *; exact e
  | .lst xs, v, e => by unfold Rep at *; obtain ⟨p, vs, a, b, l, q⟩ := e; exact ⟨p, vs, a, b, l, Reps.wx xs vs q⟩
  | .tup xs, v, e => by unfold Rep at *; obtain ⟨p, vs, a, b, l, q⟩ := e; exact ⟨p, vs, a, b, l, Reps.wx xs vs q⟩
  | .obj _ xs, v, e => by unfold Rep at *; obtain ⟨p, dx, fv, a, b, l, q⟩ := e; exact ⟨p, dx, fv, a, b, l, Reps.wx xs _ q⟩
  | .dct _ xs, v, e => by unfold Rep at *; obtain ⟨p, kv, a, b, l, q⟩ := e; exact ⟨p, kv, a, b, l, Reps.wx xs _ q⟩
theorem Reps.wx : ∀ (d : List D) (v : List V), Reps T G d v → Reps (T.wx x) G d v
  | [], v, e => by unfold Reps at *; exact e
  | d :: ds, v, e => by unfold Reps at *; obtain ⟨y, r, a, b, q⟩ := e; exact ⟨y, r, a, Rep.wx d y b, Reps.wx ds r q⟩
end
mutual
theorem Rep.xw : ∀ (d : D) (v : V), Rep (T.wx x) G d v → Rep T G d v
  | .non, v, e => by unfold Rep at *; exact e
  | .bl _, v, e => by unfold Rep at *; exact e
  | .int _, v, e => by unfold Rep at *; exact e
  | .str _, v, e => by unfold Rep at *; exact e
  | .scr ns, v, e => by unfold Rep at *; exact e
  | .lst xs, v, e => by unfold Rep at *; obtain ⟨p, vs, a, b, l, q⟩ := e; exact ⟨p, vs, a, b, l, Reps.xw xs vs q⟩
  | .tup xs, v, e => by unfold Rep at *; obtain ⟨p, vs, a, b, l, q⟩ := e; exact ⟨p, vs, a, b, l, Reps.xw xs vs q⟩
  | .obj _ xs, v, e => by unfold Rep at *; obtain ⟨p, dx, fv, a, b, l, q⟩ := e; exact ⟨p, dx, fv, a, b, l, Reps.xw xs _ q⟩
  | .dct _ xs, v, e => by unfold Rep at *; obtain ⟨p, kv, a, b, l, q⟩ := e; exact ⟨p, kv, a, b, l, Reps.xw xs _ q⟩
theorem Reps.xw : ∀ (d : List D) (v : List V), Reps (T.wx x) G d v → Reps T G d v
  | [], v, e => by unfold Reps at *; exact e
  | d :: ds, v, e => by unfold Reps at *; obtain ⟨y, r, a, b, q⟩ := e; exact ⟨y, r, a, Rep.xw d y b, Reps.xw ds r q⟩
end
theorem CRep.wx : ∀ {s : S} {v : V}, CRep T G ρ s v → CRep (T.wx x) G ρ s v
  | .d _, _, e => Rep.wx _ _ e
  | .c _, _, e => e
theorem CRep.xw : ∀ {s : S} {v : V}, CRep (T.wx x) G ρ s v → CRep T G ρ s v
  | .d _, _, e => Rep.xw _ _ e
  | .c _, _, e => e
theorem CReps.wx {ss : List S} {vs : List V} (r : CReps T G ρ ss vs) : CReps (T.wx x) G ρ ss vs := by
  induction r with
  | nil => exact .nil
  | cons a _ ih => exact .cons a.wx ih
theorem CReps.xw {ss : List S} {vs : List V} (r : CReps (T.wx x) G ρ ss vs) : CReps T G ρ ss vs := by
  induction r with
  | nil => exact .nil
  | cons a _ ih => exact .cons a.xw ih
theorem CellOk.wx {p : Addr} : ∀ {y : CC}, CellOk T G H ρ p y → CellOk (T.wx x) G H ρ p y
  | .lst xs, ⟨vs, a, b, r⟩ => ⟨vs, a, b, Reps.wx _ _ r⟩
  | .dct kvs, ⟨kv, a, b, k, r⟩ => ⟨kv, a, b, k, Reps.wx _ _ r⟩
  | .obj c xs, ⟨dx, fv, a, b, r⟩ => ⟨dx, fv, a, b, Reps.wx _ _ r⟩
  | .lS xs, ⟨vs, a, b, r⟩ => ⟨vs, a, b, r.wx⟩
  | .tS xs, ⟨vs, a, b, r⟩ => ⟨vs, a, b, r.wx⟩
  | .tb j, ⟨z, ps, a, b⟩ => ⟨z, ps, a, b⟩
theorem CellOk.xw {p : Addr} : ∀ {y : CC}, CellOk (T.wx x) G H ρ p y → CellOk T G H ρ p y
  | .lst xs, ⟨vs, a, b, r⟩ => ⟨vs, a, b, Reps.xw _ _ r⟩
  | .dct kvs, ⟨kv, a, b, k, r⟩ => ⟨kv, a, b, k, Reps.xw _ _ r⟩
  | .obj c xs, ⟨dx, fv, a, b, r⟩ => ⟨dx, fv, a, b, Reps.xw _ _ r⟩
  | .lS xs, ⟨vs, a, b, r⟩ => ⟨vs, a, b, r.xw⟩
  | .tS xs, ⟨vs, a, b, r⟩ => ⟨vs, a, b, r.xw⟩
  | .tb j, ⟨z, ps, a, b⟩ => ⟨z, ps, a, b⟩
theorem RelH.wx (r : RelH T H c G ρ) : RelH (T.wx x) H c G ρ := ⟨r.ex, r.len, r.nd, fun i p y a b => let ⟨g, k⟩ := r.at_ i p y a b; ⟨g, k.wx⟩⟩
theorem RelH.xw (r : RelH (T.wx x) H c G ρ) : RelH T H c G ρ := ⟨r.ex, r.len, r.nd, fun i p y a b => let ⟨g, k⟩ := r.at_ i p y a b; ⟨g, k.xw⟩⟩
theorem XRep.wx {k : Nat} {xs : List D} {d : Option Addr} (r : XRep T G k xs d) : XRep (T.wx x) G k xs d := by
  rcases r with r | ⟨dx, fv, a, b, e, r⟩
  · exact .inl r
  · exact .inr ⟨dx, fv, a, b, e, Reps.wx _ _ r⟩
theorem XRep.xw {k : Nat} {xs : List D} {d : Option Addr} (r : XRep (T.wx x) G k xs d) : XRep T G k xs d := by
  rcases r with r | ⟨dx, fv, a, b, e, r⟩
  · exact .inl r
  · exact .inr ⟨dx, fv, a, b, e, Reps.xw _ _ r⟩
theorem SRep.xw (hx : T.x = none) : ∀ {s : S} {v : V}, SRep (T.wx x) G ρ s v → SRep T G ρ s v
  | .d _, _, e => Rep.xw _ _ e
  | .c _, _, e => e
  | .x _ _, _, _ => fun a d k z => by rw [hx] at z; cases z
theorem SReps.xw (hx : T.x = none) {ss : List S} {vs : List V} (r : SReps (T.wx x) G ρ ss vs) : SReps T G ρ ss vs := by
  induction r with
  | nil => exact .nil
  | cons a _ ih => exact .cons (a.xw hx) ih
/-- no error is in the slots -/
def clrX : Sl → Sl
  | [] => []
  | some (.x _ _) :: r => none :: clrX r
  | o :: r => o :: clrX r
theorem clrX_len : ∀ δ : Sl, (clrX δ).length = δ.length
  | [] => rfl
  | o :: r => by
    cases o with
    | none => simp [clrX, clrX_len r]
    | some s => cases s <;> simp [clrX, clrX_len r]
theorem clrX_get : ∀ {δ : Sl} {i : Nat} {s : S}, (clrX δ)[i]? = some (some s) → δ[i]? = some (some s) ∧ ∀ k xs, s ≠ .x k xs
  | [], _, _, e => by simp [clrX] at e
  | o :: r, 0, s, e => by
    cases o with
    | none => simp [clrX] at e
    | some t => cases t <;> simp [clrX] at e <;> subst e <;> exact ⟨rfl, fun _ _ z => by cases z⟩
  | o :: r, i + 1, s, e => by
    cases o with
    | none => simpa [clrX] using clrX_get (δ := r) (i := i) (by simpa [clrX] using e)
    | some t => cases t <;> simpa [clrX] using clrX_get (δ := r) (i := i) (by simpa [clrX] using e)
theorem RelS.wx (r : RelS T G ρ σ δ) : RelS (T.wx x) G ρ σ (clrX δ) := by
  refine ⟨by rw [clrX_len]; exact r.len, fun i s e => ?_⟩
  obtain ⟨e1, ne⟩ := clrX_get e
  obtain ⟨v, hv, rv⟩ := r.at_ i s e1
  refine ⟨v, hv, ?_⟩
  cases s with
  | d _ => exact Rep.wx _ _ rv
  | c _ => exact rv
  | x k xs => exact absurd rfl (ne k xs)
theorem RelS.xw (hx : T.x = none) (r : RelS (T.wx x) G ρ σ δ) : RelS T G ρ σ δ :=
  ⟨r.len, fun i s e => let ⟨v, a, b⟩ := r.at_ i s e; ⟨v, a, b.xw hx⟩⟩
theorem PostS.xw (hx : T.x = none) {r : RS} {E : Ends} (h : PostS T W0 G ρ r E) : PostS (T.wx x) W0 G ρ r E := by
  cases r with
  | nx δ c => exact fun σ' H' G' ρ' e p s q => h σ' H' G' ρ' e p (s.xw hx) q.xw
  | bk δ c => exact fun σ' H' G' ρ' e p s q => h σ' H' G' ρ' e p (s.xw hx) q.xw
  | ct δ c => exact fun σ' H' G' ρ' e p s q => h σ' H' G' ρ' e p (s.xw hx) q.xw
  | rt s c => exact fun v H' G' ρ' e p s q => h v H' G' ρ' e p (s.xw hx) q.xw
  | ex k xs δ c => exact fun d σ' H' G' ρ' e p s q z => h d σ' H' G' ρ' e p (s.xw hx) q.xw z.xw
  | bad => exact h
end
/-- a clause: what it catches, what it lets by, its name's slot, its suite -/
structure Hd where
  yes : List Nat
  no : List Nat
  as_ : Option Nat
  su : MS
def offS (i : Nat) : RS → RS
  | .nx δ c => .nx (δ.set i none) c
  | .bk δ c => .bk (δ.set i none) c
  | .ct δ c => .ct (δ.set i none) c
  | r => r
def suH (h : Hd) (k : Nat) (xs : List D) (δ : Sl) (c : Cs) : RS := match h.as_ with
  | none => noEx (h.su δ c)
  | some i => offS i (noEx (h.su ((clrX δ).set i (some (.x k xs))) c))
def runH : List Hd → Nat → List D → Sl → Cs → RS
  | [], k, xs, δ, c => .ex k xs δ c
  | h :: r, k, xs, δ, c => if k ∈ h.yes then suH h k xs δ c else if k ∈ h.no then runH r k xs δ c else .bad
def sTryM (hs : List Hd) (m : MS) : MS := fun δ c => match m δ c with
  | .ex k xs δ c => runH hs k xs δ c
  | r => r
section
variable {X : Cx} {T : Tb} {W : WX} {a b o e : Expr} {es : List Expr} {A B : M} {pos p p2 pos2 apos : Pos} {m ms : MS}
/-- a suite's reading: with an error of class k in hand -/
def tSu (T : Tb) (as_ : Option Nat) (ms : MS) : SuT := fun a cls d D σ H => match as_ with
  | none => tS T W0 ms D σ H
  | some _ => ∃ k, cls = .ref (T.cl k) ∧ tS (T.wx (some (a, d, k))) W0 ms D σ H
inductive HdsOkD (X : Cx) (T : Tb) : List ExceptHandler → List Hd → List (Value × Option Nat × SuT) → Prop
  | nil : HdsOkD X T [] [] []
  | cons {x : Str} {u : Value} {n : Option Str} {i : Option Nat} {yes no : List Nat} {ms : MS} {st : Stmt} {sts : List Stmt} {np ps : Pos} {hs : List ExceptHandler} {hds : List Hd} {l : List (Value × Option Nat × SuT)} (hc : Names X x u) (hn : NameOk X n i)
      (hy : Catches X.K T u true yes) (hno : Catches X.K T u false no)
      (hsu : ∀ (a : Addr) (oe : Obj) (cls : Value) (d : Option Addr) (pn : List (Addr × Obj)), Zc cls d oe → (∃ vs, oe.data = .fields vs) → PSs (X.suite a ((a, oe) :: pn)) (st :: sts) (tSu T i ms a cls d)) (r : HdsOkD X T hs hds l) :
      HdsOkD X T (.ExceptHandler (some (.Name x np)) n (st :: sts) ps :: hs) (⟨yes, no, i, ms⟩ :: hds) ((u, i, tSu T i ms) :: l)
theorem HdsOkD.cls {hs : List ExceptHandler} {hds : List Hd} {l : List (Value × Option Nat × SuT)} (h : HdsOkD X T hs hds l) : ClsOk X hs l := by
  induction h with
  | nil => exact .nil
  | cons hc hn _ _ hsu _ ih => exact .cons hc hn hsu ih
theorem offS_ok {i : Nat} {r : RS} {G : Hp} {ρ : List Addr} {D : Ends} (h : PostS T W0 G ρ (offS i r) D) : PostS T W0 G ρ r (offE i D) := by
  cases r with
  | nx δ c => exact fun σ' H' G' ρ' e p s q => h _ H' G' ρ' e p (s.unset i none) q
  | bk δ c => exact fun σ' H' G' ρ' e p s q => h _ H' G' ρ' e p (s.unset i none) q
  | ct δ c => exact fun σ' H' G' ρ' e p s q => h _ H' G' ρ' e p (s.unset i none) q
  | rt s c => exact h
  | ex k xs δ c => exact h
  | bad => exact h
theorem noEx_off {i : Nat} {r : RS} : noEx (offS i (noEx r)) = offS i (noEx r) := by cases r <;> rfl
theorem runH_ok (hx : T.x = none) {hs : List ExceptHandler} {hds : List Hd} {l : List (Value × Option Nat × SuT)} (h : HdsOkD X T hs hds l) {k : Nat} {xs : List D} {δ : Sl} {c : Cs} {D : Ends} :
    ∀ {d : Option Addr} {σ : L2.St} {H G : Hp} {ρ : List Addr}, RelS T G ρ σ δ → RelH T H c G ρ → XRep T G k xs d → PostS T W G ρ (runH hds k xs δ c) D → wMix X.K W D l (.ref (T.cl k)) d σ H := by
  induction h with
  | nil =>
    intro d σ H G ρ rs rh xr q
    exact q d σ H G ρ (.refl _) (List.prefix_refl _) rs rh xr
  | @cons x u n i yes no ms st sts np ps hs hds l hc hn hy hno hsu r ih =>
    intro d σ H G ρ rs rh xr q
    unfold runH at q
    by_cases hk : k ∈ yes
    · rw [if_pos hk] at q
      refine ⟨true, hy.get hk, fun _ => ?_, fun z => by cases z⟩
      cases i with
      | none => exact fun a na => ⟨δ, c, G, ρ, rs, rh, PostS.noEx q⟩
      | some i =>
        intro a na
        refine ⟨k, rfl, (clrX δ).set i (some (.x k xs)), c, G, ρ, ?_, rh.wx, ?_⟩
        · exact (rs.wx (x := some (a, d, k))).set i (s := .x k xs) (v := .ref a) (fun a' d' k' z => by
            cases z
            exact ⟨rfl, rfl, xr.wx⟩)
        · have q : PostS T W G ρ (offS i (noEx (ms ((clrX δ).set i (some (.x k xs))) c))) D := q
          rw [← noEx_off] at q
          have q1 := offS_ok (PostS.noEx q)
          have q2 : PostS T W0 G ρ (ms ((clrX δ).set i (some (.x k xs))) c) (offE i D) := by
            cases hm : ms ((clrX δ).set i (some (.x k xs))) c with
            | ex _ _ _ _ => rw [hm] at q1; exact q1.elim
            | _ => rw [hm] at q1; exact q1
          exact q2.xw hx
    · rw [if_neg hk] at q
      by_cases hk2 : k ∈ no
      · rw [if_pos hk2] at q
        exact ⟨false, hno.get hk2, (fun z => by cases z), fun _ => ih rs rh xr q⟩
      · rw [if_neg hk2] at q; exact q.elim
theorem ds_tryM {h0 : ExceptHandler} {hs : List ExceptHandler} {hds : List Hd} {l : List (Value × Option Nat × SuT)} {body : List Stmt} (hx : T.x = none) (hk : X.stack = X.env :: X.outer) (hf : X.env.frame = some X.env.locals) (tk : Takes X W)
    (hb : ∀ (W : WX) (pn : List (Addr × Obj)) (xe : Value → Shared → Prop), Takes (X.tr pn xe) W → PassesOwn (model X.prog X.w) X.A X.env xe → PSs (X.tr pn xe) body (tS T W m)) (h : HdsOkD X T (h0 :: hs) hds l) :
    PS X (.Try body (h0 :: hs) [] [] pos) (tS T W (sTryM hds m)) := by
  refine PS.imp (ps_try_mix (tb := fun W => tS T W m) hk hf tk hb h.cls) fun E σ H ⟨δ, c, G, ρ, hs, hh, p⟩ => ?_
  refine ⟨δ, c, G, ρ, hs, hh, ?_⟩
  unfold sTryM at p
  cases e : m δ c with
  | nx δ1 c1 => rw [e] at p; exact p
  | bk δ1 c1 => rw [e] at p; exact p
  | ct δ1 c1 => rw [e] at p; exact p
  | rt s1 c1 => rw [e] at p; exact p
  | bad => rw [e] at p; exact p
  | ex k xs δ1 c1 =>
    rw [e] at p
    intro d σ' H' G' ρ' eg pr rs rh xr
    exact runH_ok hx h rs rh xr (PostS.mono (r := runH hds k xs δ1 c1) p eg pr)
/-- a suite without a name, with one -/
theorem su_none {a : Addr} {oe : Obj} {cls : Value} {d : Option Addr} {pn : List (Addr × Obj)} {sts : List Stmt} (h : PSs (X.suite a ((a, oe) :: pn)) sts (tS T W0 ms)) : PSs (X.suite a ((a, oe) :: pn)) sts (tSu T none ms a cls d) := h
theorem su_some {i : Nat} {a : Addr} {oe : Obj} {cls : Value} {d : Option Addr} {pn : List (Addr × Obj)} {sts : List Stmt} (h : ∀ k, cls = .ref (T.cl k) → PSs (X.suite a ((a, oe) :: pn)) sts (tS (T.wx (some (a, d, k))) W0 ms)) :
    PSs (X.suite a ((a, oe) :: pn)) sts (tSu T (some i) ms a cls d) := ⟨fun pins s σ H D I ⟨k, hk, q⟩ => (h k hk).run pins s σ H D I q⟩
/-- e.f, e the error in hand -/
def XFldAt (K : PySem.W.Frag) (T : Tb) (f : Str) (n j : Nat) : Prop := XfC K (T.cl n) ∧ PySem.W.findIn K (.ref (T.cl n)) f = some none ∧ (T.fl n)[j]? = some f ∧ (T.fl n).Nodup
inductive XFldsAt (K : PySem.W.Frag) (T : Tb) (f : Str) : List (Nat × Nat) → Prop
  | nil : XFldsAt K T f []
  | cons {n j : Nat} {l : List (Nat × Nat)} : XFldAt K T f n j → XFldsAt K T f l → XFldsAt K T f ((n, j) :: l)
theorem XFldsAt.get {K : PySem.W.Frag} {f : Str} {l : List (Nat × Nat)} (h : XFldsAt K T f l) {c i : Nat} (hm : (c, i) ∈ l) : XFldAt K T f c i := by
  induction h with
  | nil => cases hm
  | cons a _ ih =>
    cases hm with
    | head => exact a
    | tail _ hm => exact ih hm
def mXf (tbl : List (Nat × Nat)) (i : Nat) : M := fun δ c => match δ[i]? with
  | some (some (.x k xs)) => match look tbl k with
    | some j => match xs[j]? with
      | some x => .ok (.d x) c
      | none => .bad
    | none => .bad
  | _ => .bad
theorem dn_xf {a : Addr} {oe : Obj} {cls : Value} {d : Option Addr} {pn : List (Addr × Obj)} {k i : Nat} {n f : Str} {tbl : List (Nat × Nat)} (hk : cls = .ref (T.cl k)) (hz : Zc cls d oe) (hf : ∃ vs, oe.data = .fields vs) (ht : XFldsAt X.K T f tbl)
    (hN : X.N[i]? = some n) (hv : Vis X.env.scope n) (hd : (n == ("__debug__" : Str)) = false := by decide) (hcd : (n == ("__classdict__" : Str)) = false := by decide)
    (hb : attributeBase (.Name n p) f X.env (eval (.Name n p) X.env) = eval (.Name n p) X.env := by rfl) :
    PE (X.suite a ((a, oe) :: pn)) (.Attribute (.Name n p) f pos) (tD (T.wx (some (a, d, k))) W0 (mXf tbl i)) := by
  have pv : PE (X.suite a ((a, oe) :: pn)) (.Name n p) (tVar i) := pe_var (X := X.suite a ((a, oe) :: pn)) hN hv hd hcd
  refine ⟨fun pins s σ H Q I ⟨δ, c, G, ρ, hs, hh, p⟩ => ?_⟩
  unfold mXf at p
  cases e1 : δ[i]? with
  | none => simp only [e1] at p; exact p.elim
  | some o1 =>
    cases o1 with
    | none => simp only [e1] at p; exact p.elim
    | some s1 =>
      cases s1 with
      | d _ => simp only [e1] at p; exact p.elim
      | c _ => simp only [e1] at p; exact p.elim
      | x k2 xs =>
        simp only [e1] at p
        obtain ⟨v, hv1, rv⟩ := hs.at_ i _ e1
        obtain ⟨rfl, rfl, xr⟩ := rv a d k rfl
        cases e2 : look tbl k with
        | none => simp only [e2] at p; exact p.elim
        | some j =>
          simp only [e2] at p
          cases e3 : xs[j]? with
          | none => simp only [e3] at p; exact p.elim
          | some x =>
            simp only [e3] at p
            obtain ⟨hxf, hno, hj, hnd⟩ := ht.get (look_mem e2)
            rcases xr with ⟨hxs, _⟩ | ⟨dx, fv, hdx, hg, hfl, rr⟩
            · subst hxs; cases e3
            · obtain ⟨w, hw, rw'⟩ := rr.get e3
              have hlk : fv.lookup f = some w := lookup_at (by rw [hfl]; exact hnd) (by rw [hfl]; exact hj) hw
              refine (pe_xf hxf hno hz hf pv hb).run pins s σ H Q I ⟨.ref a, hv1, rfl, hk, dx, fv, w, hdx, hh.ex _ _ hg, hlk, ?_⟩
              exact p w H G ρ (.refl _) (List.prefix_refl _) hh rw'
end
end Dn

end
section
set_option maxHeartbeats 4000000
/-! Dn17: tuples compared, lists searched, where the items' == may be a def's. -/
namespace Dn
open PySem PySem.Spec PyProof.Rows L2
open PySem.SeqAt
open AutoSeq1 (wpAny_loadPart')
open MeetsSeq MeetsSeq2 MeetsSeq3 SeqRoads2
section
variable {prog : Program} {w : World} {A : Around} {R : Result → Shared → Prop} {E : Value → Shared → Prop}
/-- what the i-th two of two tuples are found to be -/
def TPairs (prog : Program) (w : World) (A : Around) (E : Value → Shared → Prop) (x y : Array Value) (I : Nat → Shared → Prop) (Z : Shared → Prop) : Prop :=
  ∀ (i : Nat) (s : Shared), I i s → ∀ (h1 : i < x.size) (h2 : i < y.size), wpAny (model prog w) A.in1 (eqBool x[i] y[i]) (fun r t => (r = true ∧ I (i + 1) t) ∨ (r = false ∧ Z t)) E s
theorem tup_tree {l b : Addr} {x y : Array Value} {n m : Nat} {dl db : Option Addr} {sl sb : Array (Option Value)} {I : Nat → Shared → Prop} {Z : Shared → Prop} {s : Shared}
    (hx : s.heap.get? l = some { cls := .type "tuple", dict := dl, data := .seq x n, slots := sl }) (hy : s.heap.get? b = some { cls := .type "tuple", dict := db, data := .seq y m, slots := sb }) (hs : x.size = y.size)
    (hl : TPairs prog w A (fun e t => R (.error e) t) x y I Z) (hN : ∀ t, I x.size t → R (.ok (.ret (.bool true))) t) (hZ : ∀ t, Z t → R (.ok (.ret (.bool false))) t) (h0 : I 0 s) :
    wpAny (model prog w) A.in1 (Builtin.«tuple.__eq__» ⟨[.ref l, .ref b], []⟩) (GQ.FinOf prog w A R) (fun e t => R (.error e) t) s := by
  obtain ⟨hp, g, d, tk, os⟩ := s
  have f2 := AutoSeq1.sub_tuple_tuple
  have zl : (x.toList.zip y.toList).length = x.size := by simp [hs]
  wp_walk using wpAny_loadPart' hx, wpAny_loadPart' hy, wpAny_forIn_list _ (fun rest b s' => b.1 = none ∧ ∃ i, i ≤ x.size ∧ rest = (x.toList.zip y.toList).drop i ∧ I i s') _
  case turn =>
    rintro ⟨u, v⟩ rest b s' ⟨hb', i, hi, hz, hI⟩
    have hlt : i < (x.toList.zip y.toList).length := by
      rcases Nat.lt_or_ge i (x.toList.zip y.toList).length with q | q
      · exact q
      · rw [List.drop_of_length_le q] at hz; cases hz
    have h1 : i < x.size := by omega
    have h2 : i < y.size := by omega
    rw [List.drop_eq_getElem_cons hlt] at hz
    injection hz with e1 e2
    have eu : u = x[i] := by have := congrArg Prod.fst e1; simpa using this
    have ev : v = y[i] := by have := congrArg Prod.snd e1; simpa using this
    subst eu ev
    refine wpAny_bind (wpAny_mono (hl i s' hI h1 h2) (fun r t q => ?_) fun _ _ z => z)
    rcases q with ⟨rfl, q⟩ | ⟨rfl, q⟩
    · wp_walk
      exact ⟨rfl, i + 1, h1, e2, q⟩
    · have fin := hZ t q
      obtain ⟨hp2, g2, d2, tk2, os2⟩ := t
      wp_walk
      exact fin
  case fin =>
    rintro ⟨b1, b2⟩ s' ⟨hb', i, hi, hz, hI⟩
    simp only at hb'
    subst hb'
    have hge : x.size ≤ i := by
      rcases Nat.lt_or_ge i (x.toList.zip y.toList).length with q | q
      · rw [List.drop_eq_getElem_cons q] at hz; cases hz
      · omega
    have e : i = x.size := by omega
    subst e
    have fin := hN s' hI
    obtain ⟨hp2, g2, d2, tk2, os2⟩ := s'
    wp_walk
    simpa [Builtin.Tuple.tupleCompareSizes, hs] using fin
  case h => exact ⟨rfl, 0, Nat.zero_le _, rfl, h0⟩
theorem tup_cmp {l b : Addr} {x y : Array Value} {I : Nat → Shared → Prop} {Z : Shared → Prop} {s : Shared} {Q : Value → Shared → Prop} (hx : IsTup s.heap l x) (hy : IsTup s.heap b y) (hs : x.size = y.size) (hu : A.units < cLine)
    (hl : TPairs prog w A E x y I Z) (hN : ∀ t, I x.size t → Q (.bool true) t) (hZ : ∀ t, Z t → Q (.bool false) t) (h0 : I 0 s) : wpAny (model prog w) A (richCompare .Eq (.ref l) (.ref b)) Q E s := by
  obtain ⟨⟨c1, d1, k1, s1⟩, q1, q2, n, q3⟩ := hx
  obtain ⟨⟨c2, d2, k2, s2⟩, r1, r2, m, r3⟩ := hy
  simp only at q2 q3 r2 r3
  subst q2 q3 r2 r3
  exact wpAny_richCompare_same_room (op := .Eq) ⟨_, q1, rfl⟩ ⟨_, r1, rfl⟩ F.slot_tuple_eq (GQ.call_here F.slot_tuple_eq ⟨_, q1, rfl⟩ F.entry_tuple_eq (F.args_tuple_eq_2 _ _)
    (tup_tree (R := wants (fun v t => v ≠ .notImplemented ∧ Q v t) E) q1 r1 hs hl (fun t q => ⟨(fun z => nomatch z), hN t q⟩) (fun t q => ⟨(fun z => nomatch z), hZ t q⟩) h0)) hu
/-- what the i-th item of a list is found to be; the list is read anew at each turn -/
def Finds (prog : Program) (w : World) (A : Around) (E : Value → Shared → Prop) (l : Addr) (N : Nat) (v : Value) (I : Nat → Shared → Prop) (Z : Nat → Shared → Prop) : Prop :=
  ∀ (i : Nat) (s : Shared), I i s → ∃ (x : Array Value) (n : Nat) (dd : Option Addr) (sl : Array (Option Value)), s.heap.get? l = some { cls := .type "list", dict := dd, data := .seq x n, slots := sl } ∧ x.size = N ∧
    ∀ (h1 : i < x.size), wpAny (model prog w) A.in1 (eqBool x[i] v) (fun r t => (r = false ∧ I (i + 1) t) ∨ (r = true ∧ Z i t)) E s
theorem find_loop {l : Addr} {N : Nat} {v : Value} {I : Nat → Shared → Prop} {Z : Nat → Shared → Prop} (hl : Finds prog w A (fun e t => R (.error e) t) l N v I Z) (hN : ∀ t, I N t → R (.ok (.ret (.bool false))) t) (hZ : ∀ i t, Z i t → R (.ok (.ret (.bool true))) t) :
    ∀ k i : Nat, N - i = k → i ≤ N → ∀ s, I i s → wpAny (model prog w) A.in1 (Builtin.«list.__contains__.loop» ⟨[.ref l, v, rawInt i], []⟩) (GQ.FinOf prog w A R) (fun e t => R (.error e) t) s := by
  intro k
  induction k with
  | zero =>
    intro i hk hi s hI
    obtain ⟨x, n, dd, sl, hx, sx, _⟩ := hl i s hI
    have e : i = N := by omega
    subst e
    have fin := hN s hI
    have nx : x[((i : Nat) : Int).toNat]? = none := by simp; omega
    obtain ⟨hp, g, d, tk, os⟩ := s
    wp_walk using wpAny_loadPart' hx
    rw [nx]
    wp_walk
    exact fin
  | succ k ih =>
    intro i hk hi s hI
    obtain ⟨x, n, dd, sl, hx, sx, turn⟩ := hl i s hI
    have h1 : i < x.size := by omega
    have ht := turn h1
    have gx : x[((i : Nat) : Int).toNat]? = some x[i] := by simp [h1]
    have hc : ((i : Int) + 1) = ((i + 1 : Nat) : Int) := by omega
    obtain ⟨hp, g, d, tk, os⟩ := s
    wp_walk using wpAny_loadPart' hx
    rw [gx]
    refine wpAny_bind (wpAny_mono ht (fun r t q => ?_) fun _ _ z => z)
    rcases q with ⟨rfl, q⟩ | ⟨rfl, q⟩
    · have next := ih (i + 1) (by omega) (by omega) t q
      obtain ⟨hp2, g2, d2, tk2, os2⟩ := t
      wp_walk
      rw [hc]
      exact ⟨plainId_quiet plain_contains_loop _, codeAny_builtin entry_contains_loop (by rw [Around.under_plainId plain_contains_loop _]; exact next)⟩
    · have fin := hZ i t q
      obtain ⟨hp2, g2, d2, tk2, os2⟩ := t
      wp_walk
      exact fin
theorem find_tree {l : Addr} {N : Nat} {v : Value} {I : Nat → Shared → Prop} {Z : Nat → Shared → Prop} {s : Shared} (hl : Finds prog w A (fun e t => R (.error e) t) l N v I Z) (hN : ∀ t, I N t → R (.ok (.ret (.bool false))) t) (hZ : ∀ i t, Z i t → R (.ok (.ret (.bool true))) t) (h0 : I 0 s) :
    wpAny (model prog w) A.in1 (Builtin.«list.__contains__» ⟨[.ref l, v], []⟩) (GQ.FinOf prog w A R) (fun e t => R (.error e) t) s := by
  obtain ⟨x, n, dd, sl, hx, sx, _⟩ := hl 0 s h0
  have lp := find_loop hl hN hZ N 0 rfl (Nat.zero_le _) s h0
  obtain ⟨hp, g, d, tk, os⟩ := s
  wp_walk using wpAny_loadPart' hx
  exact ⟨plainId_quiet plain_contains_loop _, codeAny_builtin entry_contains_loop (by rw [Around.under_plainId plain_contains_loop _]; exact lp)⟩
theorem index_loop {l : Addr} {N : Nat} {v : Value} {upto : Int} {I : Nat → Shared → Prop} {Z : Nat → Shared → Prop} (hb : (N : Int) < upto) (hl : Finds prog w A (fun e t => R (.error e) t) l N v I Z) (hN : ∀ t, ¬ I N t) (hZ : ∀ i t, Z i t → R (.ok (.ret (.int i t.toks))) { t with toks := t.toks + 1 }) :
    ∀ k i : Nat, N - i = k → i ≤ N → ∀ s, I i s → wpAny (model prog w) A.in1 (Builtin.«list.index.loop» ⟨[.ref l, v, rawInt i, rawInt (upto)], []⟩) (GQ.FinOf prog w A R) (fun e t => R (.error e) t) s := by
  intro k
  induction k with
  | zero =>
    intro i hk hi s hI
    have e : i = N := by omega
    subst e
    exact absurd hI (hN s)
  | succ k ih =>
    intro i hk hi s hI
    obtain ⟨x, n, dd, sl, hx, sx, turn⟩ := hl i s hI
    have h1 : i < x.size := by omega
    have ht := turn h1
    have hst : (i : Int) < upto := by omega
    have gx : (if (i : Int) < upto then x[((i : Nat) : Int).toNat]? else none) = some x[i] := by rw [if_pos hst]; simp [h1]
    have hc : ((i : Int) + 1) = ((i + 1 : Nat) : Int) := by omega
    obtain ⟨hp, g, d, tk, os⟩ := s
    wp_walk using wpAny_loadPart' hx
    rw [gx]
    refine wpAny_bind (wpAny_mono ht (fun r t q => ?_) fun _ _ z => z)
    rcases q with ⟨rfl, q⟩ | ⟨rfl, q⟩
    · have next := ih (i + 1) (by omega) (by omega) t q
      obtain ⟨hp2, g2, d2, tk2, os2⟩ := t
      wp_walk
      rw [hc]
      exact ⟨plainId_quiet plain_index_loop _, codeAny_builtin entry_index_loop (by rw [Around.under_plainId plain_index_loop _]; exact next)⟩
    · have fin := hZ i t q
      obtain ⟨hp2, g2, d2, tk2, os2⟩ := t
      wp_walk
      exact fin
theorem index_tree {l : Addr} {N : Nat} {v : Value} {I : Nat → Shared → Prop} {Z : Nat → Shared → Prop} {s : Shared} (hb : (N : Int) < 2 ^ 63 - 1) (hl : Finds prog w A (fun e t => R (.error e) t) l N v I Z) (hN : ∀ t, ¬ I N t) (hZ : ∀ i t, Z i t → R (.ok (.ret (.int i t.toks))) { t with toks := t.toks + 1 }) (h0 : I 0 s) :
    wpAny (model prog w) A.in1 (Builtin.«list.index» ⟨[.ref l, v], []⟩) (GQ.FinOf prog w A R) (fun e t => R (.error e) t) s := by
  obtain ⟨x, n, dd, sl, hx, sx, _⟩ := hl 0 s h0
  have lp := index_loop hb hl hN hZ N 0 rfl (Nat.zero_le _) s h0
  obtain ⟨hp, g, d, tk, os⟩ := s
  wp_walk using wpAny_loadPart' hx
  have a1 : ((fun i : Int => if i < 0 then max 0 (i + (x.size : Int)) else i) ((none : Option Int).getD 0)) = ((0 : Nat) : Int) := by simp
  have a2 : ((fun i : Int => if i < 0 then max 0 (i + (x.size : Int)) else i) ((none : Option Int).getD (2 ^ 63 - 1))) = 2 ^ 63 - 1 := by simp
  rw [a1, a2]
  exact ⟨plainId_quiet plain_index_loop _, codeAny_builtin entry_index_loop (by rw [Around.under_plainId plain_index_loop _]; exact lp)⟩
end
end Dn

end
section
set_option maxHeartbeats 4000000
/-! Dn18: == at any depth, in, not in, index: by plain data, own ==, lists and tuples of such. -/
namespace Dn
open PySem PySem.Spec PyProof.Rows L2
open PySem.SeqAt
/-! ### one value, one datum -/
mutual
theorem eqD_refl : ∀ (n : Nat) (d : D), d.ok n = true → eqD d d = true
  | n, .non, _ => by unfold eqD; rfl
  | n, .bl b, _ => by unfold eqD; simp
  | n, .int i, _ => by unfold eqD; simp
  | n, .str x, _ => by unfold eqD; simp
  | n, .lst xs, h => by
    unfold D.ok at h
    simp only [Bool.and_eq_true] at h
    unfold eqD; exact eqDs_refl (n - 1) xs h.2
  | n, .tup xs, h => by
    unfold D.ok at h
    simp only [Bool.and_eq_true] at h
    unfold eqD; exact eqDs_refl (n - 1) xs h.2
  | n, .obj _ _, h => by unfold D.ok at h; cases h
  | n, .scr _, h => by unfold D.ok at h; cases h
  | n, .dct _ _, h => by unfold D.ok at h; cases h
theorem eqDs_refl : ∀ (n : Nat) (ds : List D), oks n ds = true → eqDs ds ds = true
  | n, [], _ => by unfold eqDs; rfl
  | n, x :: xs, h => by
    unfold oks at h
    simp only [Bool.and_eq_true] at h
    unfold eqDs; simp [eqD_refl n x h.1, eqDs_refl n xs h.2]
end
section
variable {T : Tb} {G : Hp}
mutual
theorem Rep.same : ∀ (n m : Nat) (x y : D) (v : V), x.ok n = true → y.ok m = true → Rep T G x v → Rep T G y v → x = y
  | n, m, x, y, v, hx, hy, rx, ry => by
    cases x with
    | non => have := rx.non_inv; subst this; cases y <;> first | rfl | (unfold Rep at ry; simp at ry; done) | (unfold D.ok at hy; cases hy; done)
    | bl b => have := rx.bl_inv; subst this; cases y <;> first | (unfold Rep at ry; cases ry; rfl) | (unfold Rep at ry; simp at ry; done) | (unfold D.ok at hy; cases hy; done)
    | int i => have := rx.int_inv; subst this; cases y <;> first | (unfold Rep at ry; cases ry; rfl) | (unfold Rep at ry; simp at ry; done) | (unfold D.ok at hy; cases hy; done)
    | str s => have := rx.str_inv; subst this; cases y <;> first | (unfold Rep at ry; cases ry; rfl) | (unfold Rep at ry; simp at ry; done) | (unfold D.ok at hy; cases hy; done)
    | obj _ _ => unfold D.ok at hx; cases hx
    | scr _ => unfold D.ok at hx; cases hx
    | dct _ _ => unfold D.ok at hx; cases hx
    | lst xs =>
      obtain ⟨p, vs, rfl, sq, _, r⟩ := rx.lst_inv
      unfold D.ok at hx
      simp only [Bool.and_eq_true] at hx
      cases y with
      | lst ys =>
        obtain ⟨q, us, e, sq2, _, r2⟩ := ry.lst_inv
        cases e
        rw [sq] at sq2; cases sq2
        unfold D.ok at hy
        simp only [Bool.and_eq_true] at hy
        rw [Reps.same (n - 1) (m - 1) xs ys vs hx.2 hy.2 r r2]
      | tup ys =>
        obtain ⟨q, us, e, sq2, _, r2⟩ := ry.tup_inv
        cases e
        rw [sq] at sq2; cases sq2
      | obj _ _ => unfold D.ok at hy; cases hy
      | scr _ => unfold D.ok at hy; cases hy
      | dct _ _ => unfold D.ok at hy; cases hy
      | _ => unfold Rep at ry; cases ry
    | tup xs =>
      obtain ⟨p, vs, rfl, sq, _, r⟩ := rx.tup_inv
      unfold D.ok at hx
      simp only [Bool.and_eq_true] at hx
      cases y with
      | tup ys =>
        obtain ⟨q, us, e, sq2, _, r2⟩ := ry.tup_inv
        cases e
        rw [sq] at sq2; cases sq2
        unfold D.ok at hy
        simp only [Bool.and_eq_true] at hy
        rw [Reps.same (n - 1) (m - 1) xs ys vs hx.2 hy.2 r r2]
      | lst ys =>
        obtain ⟨q, us, e, sq2, _, r2⟩ := ry.lst_inv
        cases e
        rw [sq] at sq2; cases sq2
      | obj _ _ => unfold D.ok at hy; cases hy
      | scr _ => unfold D.ok at hy; cases hy
      | dct _ _ => unfold D.ok at hy; cases hy
      | _ => unfold Rep at ry; cases ry
theorem Reps.same : ∀ (n m : Nat) (xs ys : List D) (vs : List V), oks n xs = true → oks m ys = true → Reps T G xs vs → Reps T G ys vs → xs = ys
  | n, m, [], ys, vs, _, _, r, r2 => by
    cases r.nil_inv
    cases ys with
    | nil => rfl
    | cons y ys => obtain ⟨_, _, e, _⟩ := r2.cons_inv; cases e
  | n, m, x :: xs, ys, vs, hx, hy, r, r2 => by
    obtain ⟨v, vr, rfl, a, b⟩ := r.cons_inv
    cases ys with
    | nil => cases r2.nil_inv
    | cons y ys =>
      obtain ⟨_, _, e, a2, b2⟩ := r2.cons_inv
      cases e
      unfold oks at hx hy
      simp only [Bool.and_eq_true] at hx hy
      rw [Rep.same n m x y v hx.1 hy.1 a a2, Reps.same n m xs ys vr hx.2 hy.2 b b2]
end
end
/-! ### == by fuel -/
abbrev Tbl := List (Nat × (List S → Cs → R S))
def eqRs (e : D → D → Option Bool) : List D → List D → Option Bool
  | [], [] => some true
  | x :: xs, y :: ys => match e x y with
    | some true => eqRs e xs ys
    | some false => some false
    | none => none
  | _, _ => none
def objEq (tbl : Tbl) (k : Nat) (xs : List D) (k2 : Nat) (ys : List D) : Option Bool := if k = k2 then (match look tbl k with
    | some fn => match isB (fn [.d (.obj k xs), .d (.obj k2 ys)] []) with
      | some true => some true
      | some false => if (oks 50 xs && oks 50 ys && !eqDs xs ys) = true then some false else none
      | none => none
    | none => none) else none
def flatEq : D → D → Bool
  | .non, .non => true
  | .bl a, .bl b => a == b
  | .int a, .int b => a == b
  | .str a, .str b => a == b
  | _, _ => false
def eqR (tbl : Tbl) : Nat → D → D → Option Bool
  | 0, x, y => if (x.ok 50 && y.ok 50) = true then some (eqD x y) else none
  | f + 1, x, y => if (x.ok 50 && y.ok 50) = true then some (eqD x y) else match x, y with
    | .obj k xs, .obj k2 ys => objEq tbl k xs k2 ys
    | .lst xs, .lst ys => if xs.length = ys.length then eqRs (eqR tbl f) xs ys else some false
    | .tup xs, .tup ys => if xs.length = ys.length then eqRs (eqR tbl f) xs ys else none
    | .dct [k] [x], .dct [k2] [y] => if (decide (k = k2) && flatEq x y) = true then some true else none
    | _, _ => none
section
variable {X : Cx} {T : Tb} {W : WX} {a b o e : Expr} {es : List Expr} {A B : M} {pos p apos : Pos}
def EqOk (X : Cx) (T : Tb) (n : Nat) (e : D → D → Option Bool) : Prop :=
  (∀ {Ar : Around} {pins : List (Addr × Obj)} {s : Shared} {σ : L2.St} {H G : Hp} {x y : D} {v u : V} {vv uu : Value} {r : Bool}, Sub X n Ar → Inv X pins σ H s → Ex G H → Rep T G x v → Rep T G y u → RelV v vv → RelV u uu → e x y = some r →
    wpAny (model X.prog X.w) Ar (eqBool vv uu) (fun z s' => z = r ∧ ∃ H', Inv X pins σ H' s' ∧ Ex H H') X.xe s) ∧
  ∀ {G : Hp} {x y : D} {v : V} {r : Bool}, Rep T G x v → Rep T G y v → e x y = some r → r = true
theorem eqRs_same {n : Nat} {e : D → D → Option Bool} (h : EqOk X T n e) {G : Hp} : ∀ {xs ys : List D} {vs : List V} {r : Bool}, Reps T G xs vs → Reps T G ys vs → eqRs e xs ys = some r → r = true
  | [], [], _, r, _, _, q => by unfold eqRs at q; cases q; rfl
  | [], _ :: _, _, r, _, _, q => by unfold eqRs at q; cases q
  | _ :: _, [], _, r, _, _, q => by unfold eqRs at q; cases q
  | x :: xs, y :: ys, vs, r, r1, r2, q => by
    obtain ⟨v, vr, rfl, a, b⟩ := r1.cons_inv
    obtain ⟨_, _, e1, a2, b2⟩ := r2.cons_inv
    cases e1
    unfold eqRs at q
    cases hq : e x y with
    | none => simp only [hq] at q; cases q
    | some z =>
      have := h.2 a a2 hq
      subst this
      simp only [hq] at q
      exact eqRs_same h b b2 q
/-- two lists -/
theorem lists_ok (neg : Bool) {n : Nat} {e : D → D → Option Bool} (he : EqOk X T n e) {Ar : Around} {pins : List (Addr × Obj)} {s : Shared} {σ : L2.St} {H G : Hp} {p q : Addr} {vs us : List V} {xs ys : List D} {r : Bool} (sb : Sub X (n + 1) Ar) (I : Inv X pins σ H s) (eg : Ex G H)
    (hp : H p = some (.lst vs)) (hq : H q = some (.lst us)) (rx : Reps T G xs vs) (ry : Reps T G ys us) (hl : xs.length = ys.length) (h : eqRs e xs ys = some r) :
    wpAny (model X.prog X.w) Ar (richCompare (cmpOf neg) (.ref p) (.ref q)) (fun z s' => z = .bool (if neg then !r else r) ∧ ∃ H', Inv X pins σ H' s' ∧ Ex H H') X.xe s := by
  refine list_cmp neg (N := xs.length) (I := fun i t => ∃ H', Inv X pins σ H' t ∧ Ex H H' ∧ eqRs e (xs.drop i) (ys.drop i) = some r) (Z := fun t => ∃ H', Inv X pins σ H' t ∧ Ex H H' ∧ r = false) sb.room.units0 (fun i t hI => ?_) (fun t hZ => ?_) (fun t hI => ?_) (fun t hZ => ?_) ⟨H, I, .refl _, by simpa using h⟩
  · obtain ⟨H1, I1, e1, q1⟩ := hI
    obtain ⟨z1, its, k1, r1, g1⟩ := I1.hok p _ (e1 _ _ hp)
    obtain ⟨z2, its2, k2, r2, g2⟩ := I1.hok q _ (e1 _ _ hq)
    have l1 : its.length = xs.length := by rw [← r1.length, rx.length]
    have l2 : its2.length = xs.length := by rw [← r2.length, ry.length, hl]
    refine ⟨its.toArray, its2.toArray, k1, k2, g1, g2, by simpa using l1, by simpa using l2, fun h1 h2 => ?_⟩
    have i1 : i < xs.length := by rw [← l1]; simpa using h1
    have i2 : i < ys.length := by rw [← hl]; exact i1
    rw [List.drop_eq_getElem_cons i1, List.drop_eq_getElem_cons i2] at q1
    unfold eqRs at q1
    obtain ⟨v, hv, rv⟩ := rx.get (List.getElem?_eq_getElem i1)
    obtain ⟨u, hu, ru⟩ := ry.get (List.getElem?_eq_getElem i2)
    obtain ⟨vv, hvv, rvv⟩ := r1.get hv
    obtain ⟨uu, huu, ruu⟩ := r2.get hu
    have ev : its.toArray[i] = vv := by have := (List.getElem?_eq_some_iff.mp hvv).2; simpa using this
    have eu : its2.toArray[i] = uu := by have := (List.getElem?_eq_some_iff.mp huu).2; simpa using this
    rw [ev, eu]
    cases hit : e xs[i] ys[i] with
    | none => simp only [hit] at q1; cases q1
    | some b =>
      simp only [hit] at q1
      refine wpAny_mono (he.1 sb.in1 I1 (eg.trans e1) rv ru rvv ruu hit) (fun z t' q' => ?_) fun _ _ z => z
      obtain ⟨rfl, H2, I2, e2⟩ := q'
      cases z with
      | true => exact .inl ⟨rfl, H2, I2, e1.trans e2, q1⟩
      | false => exact .inr ⟨rfl, H2, I2, e1.trans e2, (Option.some.inj q1).symm⟩
  · obtain ⟨H1, I1, e1, q1⟩ := hZ
    obtain ⟨z1, its, k1, r1, g1⟩ := I1.hok p _ (e1 _ _ hp)
    obtain ⟨z2, its2, k2, r2, g2⟩ := I1.hok q _ (e1 _ _ hq)
    exact ⟨its.toArray, its2.toArray, k1, k2, g1, g2, by rw [List.size_toArray, ← r1.length, rx.length], by rw [List.size_toArray, ← r2.length, ry.length, hl]⟩
  · obtain ⟨H1, I1, e1, q1⟩ := hI
    rw [List.drop_length, hl, List.drop_length] at q1
    have : r = true := (Option.some.inj q1).symm
    subst this
    exact ⟨by cases neg <;> rfl, H1, I1, e1⟩
  · obtain ⟨H1, I1, e1, q1⟩ := hZ
    subst q1
    exact ⟨by cases neg <;> rfl, H1, I1, e1⟩
/-- two tuples -/
theorem tuples_ok {n : Nat} {e : D → D → Option Bool} (he : EqOk X T n e) {Ar : Around} {pins : List (Addr × Obj)} {s : Shared} {σ : L2.St} {H G : Hp} {p q : Addr} {vs us : List V} {xs ys : List D} {r : Bool} (sb : Sub X (n + 1) Ar) (I : Inv X pins σ H s) (eg : Ex G H)
    (hp : H p = some (.tup vs)) (hq : H q = some (.tup us)) (rx : Reps T G xs vs) (ry : Reps T G ys us) (hl : xs.length = ys.length) (h : eqRs e xs ys = some r) :
    wpAny (model X.prog X.w) Ar (richCompare .Eq (.ref p) (.ref q)) (fun z s' => z = .bool r ∧ ∃ H', Inv X pins σ H' s' ∧ Ex H H') X.xe s := by
  obtain ⟨z1, its, r1, g1⟩ := I.hok p _ hp
  obtain ⟨z2, its2, r2, g2⟩ := I.hok q _ hq
  have l1 : its.length = xs.length := by rw [← r1.length, rx.length]
  have l2 : its2.length = xs.length := by rw [← r2.length, ry.length, hl]
  refine tup_cmp (I := fun i t => ∃ H', Inv X pins σ H' t ∧ Ex H H' ∧ eqRs e (xs.drop i) (ys.drop i) = some r) (Z := fun t => ∃ H', Inv X pins σ H' t ∧ Ex H H' ∧ r = false) g1 g2 (by simp [l1, l2]) sb.room.units0 (fun i t hI h1 h2 => ?_) (fun t hI => ?_) (fun t hZ => ?_) ⟨H, I, .refl _, by simpa using h⟩
  · obtain ⟨H1, I1, e1, q1⟩ := hI
    have i1 : i < xs.length := by rw [← l1]; simpa using h1
    have i2 : i < ys.length := by rw [← hl]; exact i1
    rw [List.drop_eq_getElem_cons i1, List.drop_eq_getElem_cons i2] at q1
    unfold eqRs at q1
    obtain ⟨v, hv, rv⟩ := rx.get (List.getElem?_eq_getElem i1)
    obtain ⟨u, hu, ru⟩ := ry.get (List.getElem?_eq_getElem i2)
    obtain ⟨vv, hvv, rvv⟩ := r1.get hv
    obtain ⟨uu, huu, ruu⟩ := r2.get hu
    have ev : its.toArray[i] = vv := by have := (List.getElem?_eq_some_iff.mp hvv).2; simpa using this
    have eu : its2.toArray[i] = uu := by have := (List.getElem?_eq_some_iff.mp huu).2; simpa using this
    rw [ev, eu]
    cases hit : e xs[i] ys[i] with
    | none => simp only [hit] at q1; cases q1
    | some b =>
      simp only [hit] at q1
      refine wpAny_mono (he.1 sb.in1 I1 (eg.trans e1) rv ru rvv ruu hit) (fun z t' q' => ?_) fun _ _ z => z
      obtain ⟨rfl, H2, I2, e2⟩ := q'
      cases z with
      | true => exact .inl ⟨rfl, H2, I2, e1.trans e2, q1⟩
      | false => exact .inr ⟨rfl, H2, I2, e1.trans e2, (Option.some.inj q1).symm⟩
  · obtain ⟨H1, I1, e1, q1⟩ := hI
    have hz : its.toArray.size = xs.length := by simp [l1]
    rw [hz, List.drop_length, hl, List.drop_length] at q1
    have : r = true := (Option.some.inj q1).symm
    subst this
    exact ⟨rfl, H1, I1, e1⟩
  · obtain ⟨H1, I1, e1, q1⟩ := hZ
    subst q1
    exact ⟨rfl, H1, I1, e1⟩
theorem flatEq_rep {G : Hp} {x y : D} {v u : V} (h : flatEq x y = true) (rx : Rep T G x v) (ry : Rep T G y u) : v = u ∧ flatB v = true := by
  cases x <;> cases y <;> first
    | (simp [flatEq] at h; done)
    | (unfold Rep at rx ry; subst rx ry; simp [flatEq] at h; try subst h
       exact ⟨rfl, rfl⟩)
theorem plain_ok {n : Nat} {e : D → D → Option Bool} {Ar : Around} {pins : List (Addr × Obj)} {s : Shared} {σ : L2.St} {H G : Hp} {x y : D} {v u : V} {vv uu : Value} (hT : X.K = T.K) (sb : Sub X n Ar) (I : Inv X pins σ H s) (eg : Ex G H) (hx : Rep T G x v) (hy : Rep T G y u) (rv : RelV v vv) (ru : RelV u uu) (ok : (x.ok 50 && y.ok 50) = true) :
    wpAny (model X.prog X.w) Ar (eqBool vv uu) (fun z s' => z = eqD x y ∧ ∃ H', Inv X pins σ H' s' ∧ Ex H H') X.xe s := by
  simp only [Bool.and_eq_true] at ok
  have d1 : Dp X.K H v x.py := by rw [hT]; exact Dp.mono eg _ _ (Rep.dp 50 _ _ ok.1 hx)
  have d2 : Dp X.K H u y.py := by rw [hT]; exact Dp.mono eg _ _ (Rep.dp 50 _ _ ok.2 hy)
  obtain ⟨as, q1⟩ := Dp.reads I _ _ _ d1 rv
  obtain ⟨bs, q2⟩ := Dp.reads I _ _ _ d2 ru
  have dd := depth_py 50 x ok.1
  have hu := sb.room.units
  exact eqAt_reads x.py y.py Ar s vv uu as bs q1 q2 (lay_py 50 x ok.1) (lay_py 50 y ok.2) (by have := Nat.min_le_left x.py.depth y.py.depth; omega) X.prog X.w X.xe _ ⟨eqv_py 50 x y ok.1 ok.2, H, I, .refl _⟩
theorem plain_same {G : Hp} {x y : D} {v : V} (hx : Rep T G x v) (hy : Rep T G y v) (ok : (x.ok 50 && y.ok 50) = true) : eqD x y = true := by
  simp only [Bool.and_eq_true] at ok
  have := Rep.same 50 50 x y v ok.1 ok.2 hx hy
  subst this
  exact eqD_refl 50 x ok.1
theorem same_ok {Ar : Around} {pins : List (Addr × Obj)} {s : Shared} {σ : L2.St} {H : Hp} {u : Value} (I : Inv X pins σ H s) : wpAny (model X.prog X.w) Ar (eqBool u u) (fun z s' => z = true ∧ ∃ H', Inv X pins σ H' s' ∧ Ex H H') X.xe s :=
  SeqAt.EqAt.same (A := Ar) (s := s) u X.prog X.w X.xe _ ⟨rfl, H, I, .refl _⟩
theorem eqR_ok {tbl : Tbl} {n : Nat} (hM : MethsAt X.prog X.w X.K X.mg X.base T "__eq__" n tbl) (hT : X.K = T.K) : ∀ f, EqOk X T (n + f) (eqR tbl f)
  | 0 => by
    refine ⟨fun sb I eg hx hy rv ru h => ?_, fun hx hy h => ?_⟩
    · unfold eqR at h
      split at h
      · rename_i ok; cases h; exact plain_ok (e := eqR tbl 0) hT sb I eg hx hy rv ru ok
      · cases h
    · unfold eqR at h
      split at h
      · rename_i ok; cases h; exact plain_same hx hy ok
      · cases h
  | f + 1 => by
    have ih := eqR_ok hM hT f
    refine ⟨fun {Ar pins s σ H G x y v u vv uu r} sb I eg hx hy rv ru h => ?_, fun {G x y v r} hx hy h => ?_⟩
    · unfold eqR at h
      split at h
      · rename_i ok; cases h; exact plain_ok (e := eqR tbl 0) hT sb I eg hx hy rv ru ok
      · split at h
        · rename_i k xs k2 ys _
          unfold objEq at h
          split at h
          · rename_i hk
            subst hk
            cases hl : look tbl k with
            | none => simp only [hl] at h; cases h
            | some fn =>
              simp only [hl] at h
              obtain ⟨j, hj, M⟩ := hM.get (look_mem hl)
              obtain ⟨pa, dx, fv, rfl, ha, hfl, ra⟩ := hx.obj_inv
              obtain ⟨pb, dy, gv, rfl, hb, hgl, rb⟩ := hy.obj_inv
              cases rv
              cases ru
              cases hB : isB (fn [.d (.obj k xs), .d (.obj k ys)] []) with
              | none => simp only [hB] at h; cases h
              | some z =>
                have go : pa ≠ pb → r = z → wpAny (model X.prog X.w) Ar (eqBool (.ref pa) (.ref pb)) (fun z s' => z = r ∧ ∃ H', Inv X pins σ H' s' ∧ Ex H H') X.xe s := fun hab hr => by
                  refine GQ.eqBool_refG hab (wpAny_mono (rc_own M (Nat.le_trans hj (Nat.le_add_right _ _)) sb I (Rep.mono eg _ _ hx) (Rep.mono eg _ _ hy) (isB_inv hB)) (fun w s' q => ?_) fun _ _ z => z)
                  obtain ⟨q1, q2⟩ := q
                  exact ⟨z, q1, hr.symm, q2⟩
                cases z with
                | true =>
                  simp only [hB] at h
                  cases h
                  by_cases hab : pa = pb
                  · subst hab; exact same_ok I
                  · exact go hab rfl
                | false =>
                  simp only [hB] at h
                  split at h
                  · rename_i hc
                    cases h
                    refine go (fun hab => ?_) rfl
                    subst hab
                    rw [ha] at hb
                    cases hb
                    simp only [Bool.and_eq_true, Bool.not_eq_true'] at hc
                    have := Reps.same 50 50 xs ys _ hc.1.1 hc.1.2 ra rb
                    subst this
                    rw [eqDs_refl 50 xs hc.1.1] at hc
                    cases hc.2
                  · cases h
          · cases h
        · rename_i xs ys _
          obtain ⟨pa, vs, rfl, ha, la, ra⟩ := hx.lst_inv
          obtain ⟨pb, us, rfl, hb, lb, rb⟩ := hy.lst_inv
          cases rv
          cases ru
          by_cases hab : pa = pb
          · subst hab
            rw [ha] at hb
            cases hb
            have hl : xs.length = ys.length := by rw [← ra.length, ← rb.length]
            rw [if_pos hl] at h
            rw [eqRs_same ih ra rb h]
            exact same_ok I
          · split at h
            · rename_i hl
              refine GQ.eqBool_refG hab (wpAny_mono (lists_ok false ih sb I eg (eg _ _ ha) (eg _ _ hb) ra rb hl h) (fun w s' q => ?_) fun _ _ z => z)
              obtain ⟨q1, q2⟩ := q
              exact ⟨r, q1, rfl, q2⟩
            · rename_i hl
              cases h
              obtain ⟨z1, its, k1, r1, g1⟩ := I.hok pa _ (eg _ _ ha)
              obtain ⟨z2, its2, k2, r2, g2⟩ := I.hok pb _ (eg _ _ hb)
              have ne : (its.toArray.size != its2.toArray.size) = true := by
                have e1 : its.length = xs.length := by rw [← r1.length, ra.length]
                have e2 : its2.length = ys.length := by rw [← r2.length, rb.length]
                simp only [List.size_toArray, bne_iff_ne, ne_eq]
                omega
              exact EqAt.of_refs hab (RcAt.lists_lengths ⟨_, g1, rfl, _, rfl⟩ ⟨_, g2, rfl, _, rfl⟩ ne sb.room.units0) X.prog X.w X.xe _ ⟨rfl, H, I, .refl _⟩
        · rename_i xs ys _
          obtain ⟨pa, vs, rfl, ha, la, ra⟩ := hx.tup_inv
          obtain ⟨pb, us, rfl, hb, lb, rb⟩ := hy.tup_inv
          cases rv
          cases ru
          split at h
          · rename_i hl
            by_cases hab : pa = pb
            · subst hab
              rw [ha] at hb
              cases hb
              rw [eqRs_same ih ra rb h]
              exact same_ok I
            · refine GQ.eqBool_refG hab (wpAny_mono (tuples_ok ih sb I eg (eg _ _ ha) (eg _ _ hb) ra rb hl h) (fun w s' q => ?_) fun _ _ z => z)
              obtain ⟨q1, q2⟩ := q
              exact ⟨r, q1, rfl, q2⟩
          · cases h
        · rename_i k x k2 y _
          obtain ⟨pa, kv, rfl, ha, la, ra⟩ := hx.dct_inv
          obtain ⟨pb, kw, rfl, hb, lb, rb⟩ := hy.dct_inv
          cases rv
          cases ru
          split at h
          · rename_i hc
            cases h
            simp only [Bool.and_eq_true, decide_eq_true_eq] at hc
            obtain ⟨rfl, hf⟩ := hc
            by_cases hab : pa = pb
            · subst hab; exact same_ok I
            · match kv, la, ra, ha with
              | [(k', v1)], la, ra, ha =>
                match kw, lb, rb, hb with
                | [(k3, v2)], lb, rb, hb =>
                  simp only [List.map_cons, List.map_nil, List.cons.injEq, and_true] at la lb
                  subst la lb
                  obtain ⟨_, _, e1, r1, _⟩ := ra.cons_inv
                  cases e1
                  obtain ⟨_, _, e2, r2, _⟩ := rb.cons_inv
                  cases e2
                  obtain ⟨rfl, hfl⟩ := flatEq_rep hf r1 r2
                  obtain ⟨_, ya, va, rra, da⟩ := (show ObjOk X.prog X.w H s.heap pa (.dK [(_, v1)]) from I.hok pa _ (eg _ _ ha))
                  obtain ⟨_, yb, vb, rrb, db⟩ := (show ObjOk X.prog X.w H s.heap pb (.dK [(_, v1)]) from I.hok pb _ (eg _ _ hb))
                  have hl : va.length = vb.length := by rw [← rra.length, ← rrb.length]
                  refine GQ.eqBool_refG hab ?_
                  exact PySem.W.keq_eq (knd := mixKind X.prog X.w) (r := true) ya yb da db sb.room.units0 (fun _ => hits_all rrb rra (fun p hp => by
                    simp only [List.mem_singleton] at hp
                    subst hp
                    exact ⟨by simp [valV], hfl⟩)) ⟨true, by simp [hl], rfl, H, I, .refl _⟩
          · cases h
        · cases h
    · unfold eqR at h
      split at h
      · rename_i ok; cases h; exact plain_same hx hy ok
      · split at h
        · rename_i k xs k2 ys _
          unfold objEq at h
          split at h
          · rename_i hk
            subst hk
            cases hl : look tbl k with
            | none => simp only [hl] at h; cases h
            | some fn =>
              simp only [hl] at h
              obtain ⟨pa, dx, fv, rfl, ha, hfl, ra⟩ := hx.obj_inv
              obtain ⟨pb, dy, gv, e1, hb, hgl, rb⟩ := hy.obj_inv
              cases e1
              rw [ha] at hb
              cases hb
              cases hB : isB (fn [.d (.obj k xs), .d (.obj k ys)] []) with
              | none => simp only [hB] at h; cases h
              | some z =>
                cases z with
                | true => simp only [hB] at h; cases h; rfl
                | false =>
                  simp only [hB] at h
                  split at h
                  · rename_i hc
                    simp only [Bool.and_eq_true, Bool.not_eq_true'] at hc
                    have := Reps.same 50 50 xs ys _ hc.1.1 hc.1.2 ra rb
                    subst this
                    rw [eqDs_refl 50 xs hc.1.1] at hc
                    cases hc.2
                  · cases h
          · cases h
        · rename_i xs ys _
          obtain ⟨pa, vs, rfl, ha, la, ra⟩ := hx.lst_inv
          obtain ⟨pb, us, e1, hb, lb, rb⟩ := hy.lst_inv
          cases e1
          rw [ha] at hb
          cases hb
          have hl : xs.length = ys.length := by rw [← ra.length, ← rb.length]
          rw [if_pos hl] at h
          exact eqRs_same ih ra rb h
        · rename_i xs ys _
          obtain ⟨pa, vs, rfl, ha, la, ra⟩ := hx.tup_inv
          obtain ⟨pb, us, e1, hb, lb, rb⟩ := hy.tup_inv
          cases e1
          rw [ha] at hb
          cases hb
          have hl : xs.length = ys.length := by rw [← ra.length, ← rb.length]
          rw [if_pos hl] at h
          exact eqRs_same ih ra rb h
        · split at h
          · cases h; rfl
          · cases h
        · cases h
end
end Dn

end
section
set_option maxHeartbeats 4000000
/-! Dn19: the operators over Dn18; clear, slices, a dict with one key, min of a list, is None. -/
namespace Dn
open PySem PySem.Spec PyProof.Rows L2
open PySem.SeqAt
section
variable {X : Cx} {T : Tb} {W : WX} {a b o e : Expr} {es : List Expr} {A B : M} {pos p p2 apos : Pos}
/-- an operation that answers r and only makes objects -/
def rSem (X : Cx) (f : Value → Value → Sem Value) : R2 := fun v u H Q => ∃ r : Bool, (∀ (pins : List (Addr × Obj)) (s : Shared) (σ : L2.St) (vv uu : Value), Inv X pins σ H s → RelV v vv → RelV u uu →
  wpAny (model X.prog X.w) X.A (f vv uu) (fun z s' => z = .bool r ∧ ∃ H', Inv X pins σ H' s' ∧ Ex H H') X.xe s) ∧ ∀ H', Ex H H' → Q (.bl r) H'
theorem op_sem {f : Value → Value → Sem Value} : OpR X f (rSem X f) := by
  intro pins s σ H v u vv uu Q I rv ru ⟨r, h, q⟩
  refine wpAny_mono (h pins s σ vv uu I rv ru) (fun z s' ⟨e, H', I', ex⟩ => ?_) fun _ _ z => z
  subst e
  exact ⟨.bl r, H', I', rfl, q H' ex⟩
/-! ### == and != -/
def eqY (tbl : Tbl) (f : Nat) (neg : Bool) : S → S → Cs → R S := fun s t c => match deref s c, deref t c with
  | some x, some y => if (x.ok 60 && y.ok 60) = true then .ok (.d (.bl (if neg then !eqD x y else eqD x y))) c else match x, y with
    | .lst xs, .lst ys => if xs.length = ys.length then (match eqRs (eqR tbl f) xs ys with
        | some r => .ok (.d (.bl (if neg then !r else r))) c
        | none => .bad) else .bad
    | .tup xs, .tup ys => if neg = false ∧ xs.length = ys.length then (match eqRs (eqR tbl f) xs ys with
        | some r => .ok (.d (.bl r)) c
        | none => .bad) else .bad
    | _, _ => .bad
  | _, _ => .bad
theorem prim_eqY {tbl : Tbl} {f n : Nat} {neg : Bool} (hM : MethsAt X.prog X.w X.K X.mg X.base T "__eq__" n tbl) (hT : X.K = T.K) (hr : Room (n + f + 1) X.A) : Prim2 T (eqY tbl f neg) (rSem X (compareOp (cmpOf neg))) := by
  intro W σ G ρ H c s t v u Q hh rs rt p
  have sb : Sub X (n + f + 1) X.A := ⟨hr, rfl⟩
  unfold eqY at p
  cases e1 : deref s c with
  | none => simp only [e1] at p; exact p.elim
  | some x =>
    cases e2 : deref t c with
    | none => simp only [e1, e2] at p; exact p.elim
    | some y =>
      simp only [e1, e2] at p
      have vx := deref_view hh rs e1
      have vy := deref_view hh rt e2
      by_cases ok : (x.ok 60 && y.ok 60) = true
      · rw [if_pos ok] at p
        have okk := ok
        simp only [Bool.and_eq_true] at okk
        refine ⟨if neg then !eqD x y else eqD x y, fun pins s σ vv uu I rv ru => ?_, fun H' e' => p _ H' G ρ (.refl _) (List.prefix_refl _) (hh.grow e') SRep.bl⟩
        have d1 := View.dp hh.ex okk.1 vx
        have d2 := View.dp hh.ex okk.2 vy
        rw [← hT] at d1 d2
        obtain ⟨as, r1⟩ := Dp.reads I _ _ _ d1 rv
        obtain ⟨bs, r2⟩ := Dp.reads I _ _ _ d2 ru
        cases neg with
        | false => exact SeqAt.compareEq_shaped r1 r2 (shaped_py okk.1) (shaped_py okk.2) hr.units ⟨by rw [eqv_py 60 x y okk.1 okk.2]; rfl, H, I, .refl _⟩
        | true => exact SeqAt.compareNe_shaped r1 r2 (shaped_py okk.1) (shaped_py okk.2) hr.units ⟨by rw [eqv_py 60 x y okk.1 okk.2]; rfl, H, I, .refl _⟩
      · rw [if_neg ok] at p
        cases x with
        | lst xs =>
          cases y with
          | lst ys =>
            simp only at p
            by_cases hl : xs.length = ys.length
            · rw [if_pos hl] at p
              cases he : eqRs (eqR tbl f) xs ys with
              | none => simp only [he] at p; exact p.elim
              | some r =>
                simp only [he] at p
                obtain ⟨pa, vs, rfl, sq, l, rx⟩ := vx
                obtain ⟨pb, us, rfl, sq', l', ry⟩ := vy
                refine ⟨if neg then !r else r, fun pins s σ vv uu I rv ru => ?_, fun H' e' => p _ H' G ρ (.refl _) (List.prefix_refl _) (hh.grow e') SRep.bl⟩
                cases rv
                cases ru
                have := lists_ok neg (eqR_ok hM hT f) sb I hh.ex sq sq' rx ry hl he
                cases neg <;> exact this
            · rw [if_neg hl] at p; exact p.elim
          | _ => exact p.elim
        | tup xs =>
          cases y with
          | tup ys =>
            simp only at p
            by_cases hl : neg = false ∧ xs.length = ys.length
            · rw [if_pos hl] at p
              obtain ⟨rfl, hl⟩ := hl
              cases he : eqRs (eqR tbl f) xs ys with
              | none => simp only [he] at p; exact p.elim
              | some r =>
                simp only [he] at p
                obtain ⟨pa, vs, rfl, sq, l, rx⟩ := View.tup_inv vx
                obtain ⟨pb, us, rfl, sq', l', ry⟩ := View.tup_inv vy
                refine ⟨r, fun pins s σ vv uu I rv ru => ?_, fun H' e' => p _ H' G ρ (.refl _) (List.prefix_refl _) (hh.grow e') SRep.bl⟩
                cases rv
                cases ru
                exact tuples_ok (eqR_ok hM hT f) sb I hh.ex (hh.ex _ _ sq) (hh.ex _ _ sq') rx ry hl he
            · rw [if_neg hl] at p; exact p.elim
          | _ => exact p.elim
        | _ => exact p.elim
/-- == : that, or two objects of a class -/
def eqV2 (tbl : Tbl) (f : Nat) (s t : S) (c : Cs) : R S := match s, t with
  | .d (.obj k xs), .d (.obj k2 ys) => eqO tbl (.d (.obj k xs)) (.d (.obj k2 ys)) c
  | s, t => eqY tbl f false s t c
theorem prim_eqV2 {tbl : Tbl} {f n : Nat} (hM : MethsAt X.prog X.w X.K X.mg X.base T "__eq__" n tbl) (hT : X.K = T.K) (hr : Room (n + f + 1) X.A) : Prim2 T (eqV2 tbl f) (fun x y H Q => rSem X (compareOp (cmpOf false)) x y H Q ∨ rEqO T tbl x y H Q) := by
  intro W σ G ρ H c s t v u Q hh rs rt p
  unfold eqV2 at p
  split at p
  · exact .inr (prim_eqO W σ G ρ H c _ _ v u Q hh rs rt p)
  · exact .inl (prim_eqY hM hT hr W σ G ρ H c _ _ v u Q hh rs rt p)
section
variable {tbl : Tbl} {n f : Nat} (hM : MethsAt X.prog X.w X.K X.mg X.base T "__eq__" n tbl) (hT : X.K = T.K) (hr : Room (n + f + 1) X.A) (ha : PE X a (tD T W A)) (hb : PE X b (tD T W B))
include hM hT hr ha hb
theorem dn_neY : PE X (.Compare a [.NotEq] [b] pos) (tD T W (mBin (eqY tbl f true) A B)) := dn_cmp (r := rSem X (compareOp (cmpOf true))) op_sem (prim_eqY hM hT hr) ha hb (nomark _)
theorem dt_neY : PT X (.Compare a [.NotEq] [b] pos) (tDT T W (mTB (mBin (eqY tbl f true) A B))) := dt_cmp (r := rSem X (compareOp (cmpOf true))) op_sem (prim_eqY hM hT hr) ha hb (nomark _)
theorem dn_eqY : PE X (.Compare a [.Eq] [b] pos) (tD T W (mBin (eqV2 tbl f) A B)) := dn_cmp (OpR.or (op_sem (f := compareOp (cmpOf false))) (op_eqO hM (hr.mono (by omega)))) (prim_eqV2 hM hT hr) ha hb (nomark _)
theorem dt_eqY : PT X (.Compare a [.Eq] [b] pos) (tDT T W (mTB (mBin (eqV2 tbl f) A B))) := dt_cmp (OpR.or (op_sem (f := compareOp (cmpOf false))) (op_eqO hM (hr.mono (by omega)))) (prim_eqV2 hM hT hr) ha hb (nomark _)
end
/-! ### in -/
def inL (e : D → D → Option Bool) (x : D) : List D → Option Bool
  | [] => some false
  | y :: ys => match e y x with
    | some true => some true
    | some false => inL e x ys
    | none => none
def inY (tbl : Tbl) (f : Nat) (neg : Bool) : S → S → Cs → R S := fun s t c => match s, deref t c with
  | .d x, some (.lst ys) => match inL (eqR tbl f) x ys with
    | some r => .ok (.d (.bl (if neg then !r else r))) c
    | none => .bad
  | _, _ => .bad
theorem cmp_in (neg : Bool) {prog : Program} {w : World} {A : Around} {E : Value → Shared → Prop} {s : Shared} {l : Addr} {N : Nat} {v : Value} {I : Nat → Shared → Prop} {Z : Nat → Shared → Prop} {Q : Value → Shared → Prop} (hl : Finds prog w A E l N v I Z)
    (hN : ∀ t, I N t → Q (.bool neg) t) (hZ : ∀ i t, Z i t → Q (.bool (!neg)) t) (h0 : I 0 s) : wpAny (model prog w) A (compareOp (if neg then .NotIn else .In) v (.ref l)) Q E s := by
  obtain ⟨x, n, dd, sl, hx, _⟩ := hl 0 s h0
  have tr := find_tree (R := wants (fun z t => ∃ b, z = .bool b ∧ Q (.bool (if neg then !b else b)) t) E) hl (fun t q => ⟨false, rfl, by cases neg <;> exact hN t q⟩) (fun i t q => ⟨true, rfl, by cases neg <;> exact hZ i t q⟩) h0
  have ty : s.TypeIs (.ref l) "list" := ⟨_, hx, rfl⟩
  have cl := GQ.call_here F.slot_list_contains ty F.entry_list_contains (F.args_list_contains_2 (.ref l) v) tr
  cases neg with
  | false =>
    show wpAny _ A (do return .bool (← contains (.ref l) v)) Q E s
    refine wpAny_bind (wpAny_contains_slot ty F.slot_list_contains (wpAny_mono cl (fun z t ⟨b, e, q⟩ => ?_) fun _ _ z => z))
    subst e
    exact wpAny_truthy_bool (wpAny_pure q)
  | true =>
    show wpAny _ A (do return .bool (!(← contains (.ref l) v))) Q E s
    refine wpAny_bind (wpAny_contains_slot ty F.slot_list_contains (wpAny_mono cl (fun z t ⟨b, e, q⟩ => ?_) fun _ _ z => z))
    subst e
    exact wpAny_truthy_bool (wpAny_pure q)
/-- one turn of a search in a list that stays -/
theorem finds_of {n : Nat} {e : D → D → Option Bool} (he : EqOk X T n e) {Ar : Around} {pins : List (Addr × Obj)} {σ : L2.St} {H G : Hp} {p : Addr} {us : List V} {ys : List D} {x : D} {v : V} {vv : Value} (sb : Sub X (n + 1) Ar) (eg : Ex G H) (hp : H p = some (.lst us)) (ry : Reps T G ys us) (rx : Rep T G x v) (rv : RelV v vv)
    (C : Nat → Prop) (h : ∀ i y, C i → ys[i]? = some y → ∃ b, e y x = some b ∧ (b = false → C (i + 1))) :
    Finds X.prog X.w Ar X.xe p ys.length vv (fun i t => C i ∧ ∃ H', Inv X pins σ H' t ∧ Ex H H') (fun i t => C i ∧ (∃ y, ys[i]? = some y ∧ e y x = some true) ∧ ∃ H', Inv X pins σ H' t ∧ Ex H H') := by
  rintro i t ⟨hC, H1, I1, e1⟩
  obtain ⟨z1, its, k1, r1, g1⟩ := I1.hok p _ (e1 _ _ hp)
  have l1 : its.length = ys.length := by rw [← r1.length, ry.length]
  refine ⟨its.toArray, k1, none, #[], g1, by simp [l1], fun h1 => ?_⟩
  have i1 : i < ys.length := by rw [← l1]; simpa using h1
  obtain ⟨u, hu, ru⟩ := ry.get (List.getElem?_eq_getElem i1)
  obtain ⟨uu, huu, ruu⟩ := r1.get hu
  have eu : its.toArray[i] = uu := by have := (List.getElem?_eq_some_iff.mp huu).2; simpa using this
  rw [eu]
  obtain ⟨b, hb, hn⟩ := h i _ hC (List.getElem?_eq_getElem i1)
  refine wpAny_mono (he.1 sb.in1 I1 (eg.trans e1) ru rx ruu rv hb) (fun z t' q' => ?_) fun _ _ z => z
  obtain ⟨rfl, H2, I2, e2⟩ := q'
  cases z with
  | false => exact .inl ⟨rfl, hn rfl, H2, I2, e1.trans e2⟩
  | true => exact .inr ⟨rfl, hC, ⟨_, List.getElem?_eq_getElem i1, hb⟩, H2, I2, e1.trans e2⟩
theorem prim_inY {tbl : Tbl} {f n : Nat} {neg : Bool} (hM : MethsAt X.prog X.w X.K X.mg X.base T "__eq__" n tbl) (hT : X.K = T.K) (hr : Room (n + f + 1) X.A) : Prim2 T (inY tbl f neg) (rSem X (compareOp (if neg then .NotIn else .In))) := by
  intro W σ G ρ H c s t v u Q hh rs rt p
  have sb : Sub X (n + f + 1) X.A := ⟨hr, rfl⟩
  unfold inY at p
  split at p
  · rename_i x ys e2
    have vy := deref_view hh rt e2
    cases he : inL (eqR tbl f) x ys with
    | none => simp only [he] at p; exact p.elim
    | some r =>
      simp only [he] at p
      obtain ⟨pb, us, rfl, sq, l, ry⟩ := vy
      refine ⟨if neg then !r else r, fun pins s σ vv uu I rv ru => ?_, fun H' e' => p _ H' G ρ (.refl _) (List.prefix_refl _) (hh.grow e') SRep.bl⟩
      cases ru
      have fd := finds_of (pins := pins) (σ := σ) (eqR_ok hM hT f) sb hh.ex sq ry rs rv (fun i => inL (eqR tbl f) x (ys.drop i) = some r) (fun i y hC hy => by
        obtain ⟨hi, e⟩ := List.getElem?_eq_some_iff.mp hy
        rw [List.drop_eq_getElem_cons hi, e] at hC
        unfold inL at hC
        cases hb : eqR tbl f y x with
        | none => simp only [hb] at hC; cases hC
        | some b =>
          refine ⟨b, rfl, fun z => ?_⟩
          subst z
          simp only [hb] at hC
          exact hC)
      refine cmp_in neg fd (fun t ⟨hC, H1, I1, e1⟩ => ?_) (fun i t ⟨hC, ⟨y, hy, hb⟩, H1, I1, e1⟩ => ?_) ⟨by simpa using he, H, I, .refl _⟩
      · rw [List.drop_length] at hC
        have : r = false := (Option.some.inj hC).symm
        subst this
        exact ⟨by cases neg <;> rfl, H1, I1, e1⟩
      · obtain ⟨hi, e⟩ := List.getElem?_eq_some_iff.mp hy
        rw [List.drop_eq_getElem_cons hi, e] at hC
        unfold inL at hC
        simp only [hb] at hC
        have : r = true := (Option.some.inj hC).symm
        subst this
        exact ⟨by cases neg <;> rfl, H1, I1, e1⟩
  · exact p.elim
section
variable {tbl : Tbl} {n f : Nat} (hM : MethsAt X.prog X.w X.K X.mg X.base T "__eq__" n tbl) (hT : X.K = T.K) (hr : Room (n + f + 1) X.A) (ha : PE X a (tD T W A)) (hb : PE X b (tD T W B))
include hM hT hr ha hb
theorem dn_inY (hm : behindInMarks .In b = false := by rfl) : PE X (.Compare a [.In] [b] pos) (tD T W (mBin (inY tbl f false) A B)) := dn_cmp (r := rSem X (compareOp .In)) op_sem (prim_inY (neg := false) hM hT hr) ha hb hm
theorem dt_inY (hm : behindInMarks .In b = false := by rfl) : PT X (.Compare a [.In] [b] pos) (tDT T W (mTB (mBin (inY tbl f false) A B))) := dt_cmp (r := rSem X (compareOp .In)) op_sem (prim_inY (neg := false) hM hT hr) ha hb hm
theorem dn_notInY (hm : behindInMarks .NotIn b = false := by rfl) : PE X (.Compare a [.NotIn] [b] pos) (tD T W (mBin (inY tbl f true) A B)) := dn_cmp (r := rSem X (compareOp .NotIn)) op_sem (prim_inY (neg := true) hM hT hr) ha hb hm
theorem dt_notInY (hm : behindInMarks .NotIn b = false := by rfl) : PT X (.Compare a [.NotIn] [b] pos) (tDT T W (mTB (mBin (inY tbl f true) A B))) := dt_cmp (r := rSem X (compareOp .NotIn)) op_sem (prim_inY (neg := true) hM hT hr) ha hb hm
end
end
end Dn

end
section
set_option maxHeartbeats 4000000
/-! Dn20: index, clear, slices, a dict with one key, min of a list, is None. -/
namespace Dn
open PySem PySem.Spec PyProof.Rows L2
open PySem.SeqAt
section
variable {X : Cx} {T : Tb} {W : WX} {a b o e : Expr} {es : List Expr} {A B : M} {pos p p2 apos : Pos}
/-! ### xs.index(x) -/
def idxL (e : D → D → Option Bool) (x : D) : List D → Option Nat
  | [] => none
  | y :: ys => match e y x with
    | some true => some 0
    | some false => (idxL e x ys).map (· + 1)
    | none => none
def idxS (tbl : Tbl) (f : Nat) (o : S) (ss : List S) (c : Cs) : R S := match ss, deref o c with
  | [.d x], some (.lst ys) => match idxL (eqR tbl f) x ys with
    | some i => .ok (.d (.int i)) c
    | none => .bad
  | _, _ => .bad
def mIndex (tbl : Tbl) (f : Nat) (A : M) (B : MA) : M := fun δ c => (A δ c).bind fun o c => match deref o c with
  | some (.lst _) => (B δ c).bind fun ss c => idxS tbl f o ss c
  | _ => .bad
def rIdxS (X : Cx) : V → List V → Hp → VK → Prop := fun x xs H Q => ∃ j : Nat, (∀ (pins : List (Addr × Obj)) (s : Shared) (σ : L2.St) (v : Value) (us : List Value), Inv X pins σ H s → RelV x v → Vals xs us →
  wpAny (model X.prog X.w) X.A (call (.builtin "list.index") (v :: us)) (fun z s' => (∃ t, z = .int j t) ∧ ∃ H', Inv X pins σ H' s' ∧ Ex H H') X.xe s) ∧ ∀ H', Ex H H' → Q (.int j) H'
theorem mt_idxS : MtR X "list.index" (rIdxS X) := by
  intro pins s σ H x xs v us Q I rx rxs ⟨j, h, q⟩
  refine wpAny_mono (h pins s σ v us I rx rxs) (fun z s' ⟨⟨t, e⟩, H', I', ex⟩ => ?_) fun _ _ z => z
  subst e
  exact ⟨.int j, H', I', ⟨t, rfl⟩, q H' ex⟩
theorem idx_sem {tbl : Tbl} {f n : Nat} (hM : MethsAt X.prog X.w X.K X.mg X.base T "__eq__" n tbl) (hT : X.K = T.K) (hr : Room (n + f + 1) X.A) {G H : Hp} {pb : Addr} {us : List V} {ys : List D} {x : D} {v : V} {j : Nat} (eg : Ex G H) (hp : H pb = some (.lst us)) (hl : ys.length ≤ sizeLine) (ry : Reps T G ys us) (rx : Rep T G x v) (hi : idxL (eqR tbl f) x ys = some j)
    (pins : List (Addr × Obj)) (s : Shared) (σ : L2.St) (vv : Value) (I : Inv X pins σ H s) (rv : RelV v vv) : wpAny (model X.prog X.w) X.A (call (.builtin "list.index") [.ref pb, vv]) (fun z s' => (∃ t, z = .int j t) ∧ ∃ H', Inv X pins σ H' s' ∧ Ex H H') X.xe s := by
  have sb : Sub X (n + f + 1) X.A := ⟨hr, rfl⟩
  have fd := finds_of (pins := pins) (σ := σ) (eqR_ok hM hT f) sb eg hp ry rx rv (fun i => i ≤ j ∧ idxL (eqR tbl f) x (ys.drop i) = some (j - i)) (fun i y hC hy => by
    obtain ⟨hi, e⟩ := List.getElem?_eq_some_iff.mp hy
    obtain ⟨hij, hC⟩ := hC
    rw [List.drop_eq_getElem_cons hi, e] at hC
    unfold idxL at hC
    cases hb : eqR tbl f y x with
    | none => simp only [hb] at hC; cases hC
    | some b =>
      refine ⟨b, rfl, fun z => ?_⟩
      subst z
      simp only [hb] at hC
      cases hd : idxL (eqR tbl f) x (ys.drop (i + 1)) with
      | none => rw [hd] at hC; cases hC
      | some k =>
        rw [hd] at hC
        have : k + 1 = j - i := Option.some.inj hC
        exact ⟨by omega, by congr 1; omega⟩)
  obtain ⟨z1, its, k1, r1, g1⟩ := I.hok pb _ hp
  have hsz := sizeLine_eq
  have tr := index_tree (R := wants (fun z s' => (∃ t, z = .int j t) ∧ ∃ H', Inv X pins σ H' s' ∧ Ex H H') X.xe) (by omega) fd (fun t ⟨⟨_, hC⟩, _⟩ => by rw [List.drop_length] at hC; cases hC) (fun i t ⟨⟨hij, hC⟩, ⟨y, hy, hb⟩, H1, I1, e1⟩ => by
    obtain ⟨hi, e⟩ := List.getElem?_eq_some_iff.mp hy
    rw [List.drop_eq_getElem_cons hi, e] at hC
    unfold idxL at hC
    simp only [hb] at hC
    have : 0 = j - i := Option.some.inj hC
    have : i = j := by omega
    subst this
    exact ⟨⟨_, rfl⟩, H1, I1.tok _, e1⟩) ⟨⟨Nat.zero_le _, by simpa using hi⟩, H, I, .refl _⟩
  exact GQ.call_here PySem.F.slot_list_index ⟨_, g1, rfl⟩ PySem.F.entry_list_index (PySem.F.args_list_index_2 _ _) tr
theorem dn_index {tbl : Tbl} {n f : Nat} {B : MA} (hM : MethsAt X.prog X.w X.K X.mg X.base T "__eq__" n tbl) (hT : X.K = T.K) (hr : Room (n + f + 1) X.A) (ho : PE X o (tD T W A)) (ha : PA X (e :: es) (tDA T W B)) (hbase : attributeBase o "index" X.env (eval o X.env) = eval o X.env := by rfl)
    (hfew : ((backTo pos (starEach (e :: es) X.env)).all (fun x => !x.1) && (backToKw pos (keywordEach [] X.env)).all (fun x => x.1.isSome)
      && decide ((e :: es).length + ([] : List Keyword).length + (if ([] : List Keyword).isEmpty then 0 else 1) < 30)) = true := by rfl)
    (hline : (apos.endLine == pos.line) = true := by rfl) (hs : starEach (e :: es) X.env = (false, eval e X.env) :: starEach es X.env := by rfl) (hplain : (backTo pos (starEach es X.env)).any (·.1) = false := by rfl) :
    PE X (.Call (.Attribute o "index" apos) (e :: es) [] pos) (tD T W (mIndex tbl f A B)) := by
  refine PE.imp (pe_bm PySem.F.plainAttrs_list PySem.F.slot_list_index PySem.F.type_list_index mt_idxS ho ha hbase hfew hline hs hplain) fun σ H Q ⟨δ, c, G, ρ, hs, hh, p⟩ => ?_
  refine ⟨δ, c, G, ρ, hs, hh, (Post.bind (rel := SRep T) p).imp ?_⟩
  rintro v H1 ⟨s, c1, G1, ρ1, e1, p1, h1, r1, q1⟩
  cases hd : deref s c1 with
  | none => simp only [hd] at q1; exact q1.elim
  | some d =>
    cases d with
    | lst ys0 =>
      simp only [hd] at q1
      obtain ⟨pb, us0, rfl, sq0, _, _⟩ := deref_view h1 r1 hd
      refine ⟨.inl ⟨rfl, _, SqL.of sq0⟩, δ, c1, G1, ρ1, hs.mono e1 p1, h1, (Post.bind (rel := SReps T) q1).imp ?_⟩
      rintro vs H2 ⟨ss, c2, G2, ρ2, e2, p2, h2, r2, q2⟩
      unfold idxS at q2
      split at q2
      · rename_i x ys hd2
        obtain ⟨u, rfl, ru⟩ := r2.one
        obtain ⟨pb2, us, e5, sq, l, ry⟩ := deref_view h2 (r1.mono e2 p2) hd2
        cases e5
        cases hi : idxL (eqR tbl f) x ys with
        | none => simp only [hi] at q2; exact q2.elim
        | some j =>
          simp only [hi] at q2
          refine ⟨j, fun pins s σ v us' I rv rus => ?_, fun H' e' => q2 _ H' G2 ρ2 (.refl _) (List.prefix_refl _) (h2.grow e') SRep.int⟩
          cases rv
          cases rus with
          | cons ra rb =>
            cases rb
            exact idx_sem hM hT hr h2.ex sq l ry ru hi pins s σ _ I ra
      · exact q2.elim
    | _ => simp only [hd] at q1; exact q1.elim
/-! ### xs.clear() -/
def clearC : S → Cs → R S
  | .c n, c => match c[n]? with
    | some (.lst _) => .ok (.d .non) (c.set n (.lst []))
    | some (.lS _) => .ok (.d .non) (c.set n (.lst []))
    | _ => .bad
  | _, _ => .bad
def mClear (A : M) : M := fun δ c => (A δ c).bind clearC
theorem dn_clear (ho : PE X o (tD T W A)) (hbase : attributeBase o "clear" X.env (eval o X.env) = eval o X.env := by rfl) (hline : (apos.endLine == pos.line) = true := by rfl) : PE X (.Call (.Attribute o "clear" apos) [] [] pos) (tD T W (mClear A)) := by
  refine PE.imp (pe_bm0 PySem.F.plainAttrs_list PySem.F.slot_list_clear PySem.F.type_list_clear mt_clear ho hbase hline) fun σ H Q ⟨δ, c, G, ρ, hs, hh, p⟩ => ?_
  refine ⟨δ, c, G, ρ, hs, hh, (Post.bind (rel := SRep T) p).imp ?_⟩
  rintro v H1 ⟨s, c1, G1, ρ1, e1, p1, h1, r1, q1⟩
  cases s with
  | d _ => exact q1.elim
  | x _ _ => exact q1.elim
  | c n =>
    unfold clearC at q1
    obtain ⟨pa, hpa, rfl⟩ := r1
    cases hc : c1[n]? with
    | none => simp only [hc] at q1; exact q1.elim
    | some cc =>
      have go : ∀ vs, H1 pa = some (.lst vs) → Post (SRep T) T W σ G1 ρ1 (.ok (.d .non) (c1.set n (.lst []))) Q → tyV X.K "list" (.ref pa) H1 ∧ rClear (.ref pa) [] H1 Q := fun vs ho q => by
        refine ⟨.inl ⟨rfl, _, SqL.of ho⟩, pa, vs, rfl, rfl, ho, ?_⟩
        exact q _ _ G1 ρ1 (.refl _) (List.prefix_refl _) (h1.cell (x := .lst []) hpa fun H' hH' _ => ⟨[], hH', Nat.zero_le _, Reps.nil⟩) SRep.non
      cases cc with
      | lst xs =>
        simp only [hc] at q1
        obtain ⟨_, vs, ho, _⟩ := h1.at_ n pa _ hpa hc
        exact go vs ho q1
      | lS xs =>
        simp only [hc] at q1
        obtain ⟨_, vs, ho, _⟩ := h1.at_ n pa _ hpa hc
        exact go vs ho q1
      | _ => simp only [hc] at q1; exact q1.elim
/-! ### a[lo:hi] -/
abbrev MO := Sl → Cs → R (Option Int)
def moNone : MO := fun _ c => .ok none c
def asI : S → Cs → R (Option Int)
  | .d (.int i), c => .ok (some i) c
  | _, _ => .bad
def moSome (A : M) : MO := fun δ c => (A δ c).bind asI
abbrev relO : Hp → List Addr → Option Int → Option Int → Prop := fun _ _ a b => b = a
def tDO (T : Tb) (W : WX) (m : MO) : TO := fun σ H Q => ∃ δ c G ρ, RelS T G ρ σ δ ∧ RelH T H c G ρ ∧ Post relO T W σ G ρ (m δ c) Q
theorem PO.imp {oe : Option Expr} {t t' : TO} (h : PO X oe t) (k : ∀ σ H Q, t' σ H Q → t σ H Q) : PO X oe t' := ⟨fun pins s σ H Q I q => h.run pins s σ H Q I (k σ H Q q)⟩
theorem do_none : PO X none (tDO T W moNone) := PO.imp po_none fun σ H Q ⟨δ, c, G, ρ, hs, hh, p⟩ => p none H G ρ (.refl _) (List.prefix_refl _) hh rfl
theorem do_some (ha : PE X a (tD T W A)) : PO X (some a) (tDO T W (moSome A)) := by
  refine PO.imp (po_some ha) fun σ H Q ⟨δ, c, G, ρ, hs, hh, p⟩ => ?_
  refine ⟨δ, c, G, ρ, hs, hh, (Post.bind (rel := SRep T) p).imp ?_⟩
  rintro v H1 ⟨s, c1, G1, ρ1, e1, p1, h1, r1, q1⟩
  unfold asI at q1
  split at q1
  · rename_i i
    exact ⟨i, SRep.int_inv r1, q1 _ H1 G1 ρ1 (.refl _) (List.prefix_refl _) h1 rfl⟩
  · exact q1.elim
def cutD {α : Type} (xs : List α) (lo hi : Option Int) : List α := (xs.drop (HT.sIx xs.length 0 lo)).take (HT.sIx xs.length xs.length hi - HT.sIx xs.length 0 lo)
def slD (x : D) (lo hi : Option Int) : Option D := match x with
  | .lst xs => some (.lst (cutD xs lo hi))
  | .scr ns => some (.lst (cutD (ns.map D.int) lo hi))
  | .tup xs => some (.tup (cutD xs lo hi))
  | .str z => if z.length ≤ sizeLine then some (.str (cutS z lo hi)) else none
  | _ => none
def slS (lo hi : Option Int) (s : S) (c : Cs) : R S := match deref s c with
  | some x => match slD x lo hi with
    | some y => .ok (.d y) c
    | none => .bad
  | none => .bad
def mSl (A : M) (lo hi : MO) : M := fun δ c => (A δ c).bind fun s c => (lo δ c).bind fun l c => (hi δ c).bind fun h c => slS l h s c
theorem Reps.drop {G : Hp} : ∀ {xs : List D} {vs : List V} (n : Nat), Reps T G xs vs → Reps T G (xs.drop n) (vs.drop n)
  | _, _, 0, r => r
  | [], _, n + 1, r => by cases r.nil_inv; simpa using Reps.nil
  | x :: xs, _, n + 1, r => by obtain ⟨v, vr, rfl, _, b⟩ := r.cons_inv; simpa using Reps.drop n b
theorem Reps.take {G : Hp} : ∀ {xs : List D} {vs : List V} (n : Nat), Reps T G xs vs → Reps T G (xs.take n) (vs.take n)
  | _, _, 0, r => by simpa using Reps.nil
  | [], _, n + 1, r => by cases r.nil_inv; simpa using Reps.nil
  | x :: xs, _, n + 1, r => by obtain ⟨v, vr, rfl, a, b⟩ := r.cons_inv; simpa using Reps.cons a (Reps.take n b)
theorem Reps.cut {G : Hp} {xs : List D} {vs : List V} (r : Reps T G xs vs) (lo hi : Option Int) : Reps T G (cutD xs lo hi) (cutV vs lo hi) := by
  unfold cutD cutV
  rw [r.length]
  exact (r.drop _).take _
theorem cutD_length {α : Type} (xs : List α) (lo hi : Option Int) : (cutD xs lo hi).length ≤ xs.length := by
  unfold cutD
  rw [List.length_take, List.length_drop]
  omega
end
end Dn

end
section
set_option maxHeartbeats 4000000
/-! Dn21: slices, a dict with one key, min of a list, is None. -/
namespace Dn
open PySem PySem.Spec PyProof.Rows L2
open PySem.SeqAt
section
variable {X : Cx} {T : Tb} {W : WX} {a b o e : Expr} {es : List Expr} {A B : M} {pos p p2 apos : Pos}
theorem dn_slice {lo hi : Option Expr} {L U : MO} (hT : X.K = T.K) (ha : PE X a (tD T W A)) (hl : PO X lo (tDO T W L)) (hu : PO X hi (tDO T W U)) : PE X (.Subscript a (.Slice lo hi none p2) pos) (tD T W (mSl A L U)) := by
  refine PE.imp (pe_slice (SlR.or sl_list (SlR.or sl_tupA sl_str)) ha hl hu) fun σ H Q ⟨δ, c, G, ρ, hs, hh, p⟩ => ?_
  refine ⟨δ, c, G, ρ, hs, hh, (Post.bind (rel := SRep T) p).imp ?_⟩
  rintro v H1 ⟨s, c1, G1, ρ1, e1, p1, h1, r1, q1⟩
  refine ⟨δ, c1, G1, ρ1, hs.mono e1 p1, h1, (Post.bind (rel := relO) q1).imp ?_⟩
  rintro l H2 ⟨l', c2, G2, ρ2, e2, p2, h2, r2, q2⟩
  have r2 : l = l' := r2
  subst r2
  refine ⟨δ, c2, G2, ρ2, (hs.mono e1 p1).mono e2 p2, h2, (Post.bind (rel := relO) q2).imp ?_⟩
  rintro u H3 ⟨u', c3, G3, ρ3, e3, p3, h3, r3, q3⟩
  have r3 : u = u' := r3
  subst r3
  have rs : SRep T G3 ρ3 s v := (r1.mono e2 p2).mono e3 p3
  unfold slS at q3
  cases hd : deref s c3 with
  | none => simp only [hd] at q3; exact q3.elim
  | some x =>
    simp only [hd] at q3
    have vx := deref_view h3 rs hd
    cases hy : slD x l u with
    | none => simp only [hy] at q3; exact q3.elim
    | some y =>
      simp only [hy] at q3
      have fin : ∀ {v' : V} {H' G' : Hp}, Step G3 H3 G' H' → Rep T G' y v' → Q v' H' := fun st r => q3 _ _ _ ρ3 st.g (List.prefix_refl _) (h3.step st) r
      cases x with
      | lst xs =>
        cases hy
        obtain ⟨q, vs, rfl, sq, hl, r⟩ := vx
        refine .inl ⟨q, vs, rfl, SqL.of sq, fun t ht => fin (Step.new h3.ex ht) (Rep.lst upd_same (Nat.le_trans (cutD_length _ _ _) hl) (Reps.mono (Step.new h3.ex ht).g _ _ (r.cut l u)))⟩
      | scr ns =>
        cases hy
        obtain ⟨q, rfl, sq, hl⟩ := vx
        refine .inl ⟨q, _, rfl, by rw [hT]; exact sq, fun t ht => fin (Step.new h3.ex ht) (Rep.lst upd_same (Nat.le_trans (cutD_length _ _ _) (by simpa using hl)) (Reps.mono (Step.new h3.ex ht).g _ _ ((Reps.map_int ns).cut l u)))⟩
      | tup xs =>
        cases hy
        obtain ⟨q, vs, rfl, sq, hl, r⟩ := View.tup_inv vx
        have e0 := r.length
        refine .inr (.inl ⟨q, vs, rfl, SqT.of (h3.ex _ _ sq), fun hw => ?_, fun hw t ht => fin (Step.new h3.ex ht) (Rep.tup upd_same (Nat.le_trans (cutD_length _ _ _) hl) (Reps.mono (Step.new h3.ex ht).g _ _ (r.cut l u)))⟩)
        have ew : cutD xs l u = xs := by
          unfold cutD
          rw [e0] at hw
          rw [hw.1, hw.2]
          simp
        rw [ew] at fin
        exact fin (Step.refl h3.ex) (Rep.tup sq hl r)
      | str z =>
        unfold slD at hy
        by_cases hz : z.length ≤ sizeLine
        · simp only [hz, if_true] at hy
          cases hy
          have := View.str_inv vx
          subst this
          exact .inr (.inr ⟨z, rfl, hz, fin (Step.refl h3.ex) Rep.str⟩)
        · simp only [hz, if_false] at hy; cases hy
      | _ => cases hy
/-! ### {'a': 1} -/
def mDct1 (k : Str) (i : Int) : M := fun _ c => .ok (.d (.dct [.inr k] [.int i])) c
theorem dn_dct1 {k : Str} {i : Int} {j j2 p1 p2} : PE X (.Dict [some (.Constant (.str k) j p1)] [.Constant (.int i) j2 p2] pos) (tD T W (mDct1 k i)) := by
  refine PE.imp (pe_disp (pps_cons pe_str pe_int pps_nil) rfl rfl (by simp) (by simp)) fun σ H Q ⟨δ, c, G, ρ, hs, hh, p⟩ => ?_
  intro q hq
  refine ⟨upd_same, [(.inr k, .int i)], rfl, by simp, ?_⟩
  have eh : upd (upd H q (.dK [])) q (.dK (mergeK [] [(Sum.inr k, V.int i)])) = upd H q (.dK [(Sum.inr k, V.int i)]) := by
    rw [upd_upd]
    rfl
  rw [eh]
  have st := Step.new (o := .dK [((Sum.inr k : Key), V.int i)]) hh.ex hq
  exact p _ _ _ ρ st.g (List.prefix_refl _) (hh.step st) (Rep.dct (ks := [Sum.inr k]) upd_same rfl (Reps.cons Rep.int Reps.nil))
/-! ### x is None -/
def isN (neg : Bool) : S → Cs → R S
  | .d .non, c => .ok (.d (.bl (!neg))) c
  | .d _, c => .ok (.d (.bl neg)) c
  | .c _, c => .ok (.d (.bl neg)) c
  | .x _ _, _ => .bad
def mIsN (neg : Bool) (A : M) : M := fun δ c => (A δ c).bind (isN neg)
theorem isN_ok {neg : Bool} {σ : L2.St} {G H : Hp} {ρ : List Addr} {s : S} {c : Cs} {v : V} {Q : VK} (r : SRep T G ρ s v) (hh : RelH T H c G ρ) (p : Post (SRep T) T W σ G ρ (isN neg s c) Q) : Q (.bl (if neg then !decide (v = .non) else decide (v = .non))) H := by
  have fin : ∀ b : Bool, Post (SRep T) T W σ G ρ (.ok (.d (.bl b)) c) Q → Q (.bl b) H := fun b q => q _ H G ρ (.refl _) (List.prefix_refl _) hh SRep.bl
  cases s with
  | x _ _ => exact p.elim
  | c n =>
    obtain ⟨q, _, rfl⟩ := r
    have := fin neg p
    cases neg <;> exact this
  | d x =>
    cases x with
    | non =>
      have := SRep.non_inv r
      subst this
      have := fin (!neg) p
      cases neg <;> exact this
    | bl b => have := SRep.bl_inv r; subst this; have := fin neg p; cases neg <;> exact this
    | int b => have := SRep.int_inv r; subst this; have := fin neg p; cases neg <;> exact this
    | str b => have := SRep.str_inv r; subst this; have := fin neg p; cases neg <;> exact this
    | lst _ => obtain ⟨q, _, rfl, _⟩ := Rep.lst_inv (show Rep T G _ _ from r); have := fin neg p; cases neg <;> exact this
    | tup _ => obtain ⟨q, _, rfl, _⟩ := Rep.tup_inv (show Rep T G _ _ from r); have := fin neg p; cases neg <;> exact this
    | obj _ _ => obtain ⟨q, _, _, rfl, _⟩ := Rep.obj_inv (show Rep T G _ _ from r); have := fin neg p; cases neg <;> exact this
    | scr _ => obtain ⟨q, rfl, _⟩ := Rep.scr_inv (show Rep T G _ _ from r); have := fin neg p; cases neg <;> exact this
    | dct _ _ => obtain ⟨q, _, rfl, _⟩ := Rep.dct_inv (show Rep T G _ _ from r); have := fin neg p; cases neg <;> exact this
theorem tD_isN {neg : Bool} {σ : L2.St} {H : Hp} {Q : VK} (h : tD T W (mIsN neg A) σ H Q) : tD T W A σ H (fun x H1 => Q (.bl (if neg then !decide (x = .non) else decide (x = .non))) H1) := by
  obtain ⟨δ, c, G, ρ, hs, hh, p⟩ := h
  refine ⟨δ, c, G, ρ, hs, hh, (Post.bind (rel := SRep T) p).imp ?_⟩
  rintro v H1 ⟨s, c1, G1, ρ1, e1, p1, h1, r1, q1⟩
  exact isN_ok r1 h1 q1
theorem dn_isN {j p1} (ha : PE X a (tD T W A)) : PE X (.Compare a [.Is] [.Constant .none j p1] pos) (tD T W (mIsN false A)) := PE.imp (pe_cmp (pc_isN ha)) fun _ _ _ h => tD_isN h
theorem dn_notN {j p1} (ha : PE X a (tD T W A)) : PE X (.Compare a [.IsNot] [.Constant .none j p1] pos) (tD T W (mIsN true A)) := PE.imp (pe_cmp (pc_notN ha)) fun _ _ _ h => tD_isN h
theorem tB_isN {neg : Bool} {σ : L2.St} {H : Hp} {Q : Bool → Hp → Prop} (h : tDT T W (mTB (mIsN neg A)) σ H Q) : tD T W A σ H (fun x H1 => ∃ d, V.bl (if neg then !decide (x = .non) else decide (x = .non)) = .bl d ∧ Q d H1) := by
  exact tD_isN (tDT_B h)
theorem dt_isN {j p1} (ha : PE X a (tD T W A)) : PT X (.Compare a [.Is] [.Constant .none j p1] pos) (tDT T W (mTB (mIsN false A))) := PT.imp (pt_cmp (pc_isN ha)) fun _ _ _ h => tB_isN h
theorem dt_notN {j p1} (ha : PE X a (tD T W A)) : PT X (.Compare a [.IsNot] [.Constant .none j p1] pos) (tDT T W (mTB (mIsN true A))) := PT.imp (pt_cmp (pc_notN ha)) fun _ _ _ h => tB_isN h
/-! ### min(xs), plain items -/
def minL : D → List D → D
  | b, [] => b
  | b, x :: xs => minL (if PySem.W.dataLt x.py b.py then x else b) xs
def minOk (xs : List D) : Bool := oks 20 xs && allAlike xs && xs.all fun x => match x with
  | .non => false
  | _ => true
def minLD : List D → Option D
  | [.lst (x :: xs)] => if minOk (x :: xs) = true then some (minL x xs) else none
  | _ => none
theorem minL_py : ∀ (b : D) (xs : List D), (minL b xs).py = PySem.W.minD b.py (xs.map D.py)
  | b, [] => rfl
  | b, x :: xs => by
    unfold minL
    rw [minL_py]
    unfold PySem.W.minD
    rw [List.map_cons, List.foldl_cons]
    congr 1
    by_cases h : PySem.W.dataLt x.py b.py = true
    · rw [if_pos h, if_pos h]
    · rw [if_neg h, if_neg h]
theorem minL_mem : ∀ (b : D) (xs : List D), minL b xs ∈ b :: xs
  | b, [] => by simp [minL]
  | b, x :: xs => by
    unfold minL
    have := minL_mem (if PySem.W.dataLt x.py b.py then x else b) xs
    by_cases h : PySem.W.dataLt x.py b.py = true
    · rw [if_pos h] at this ⊢; exact List.mem_cons_of_mem _ this
    · rw [if_neg h] at this ⊢
      simp only [List.mem_cons] at this ⊢
      rcases this with h | h
      · exact .inl h
      · exact .inr (.inr h)
mutual
theorem py_inj : ∀ (n : Nat) (x y : D), x.ok n = true → y.ok n = true → x.py = y.py → x = y
  | n, x, y, hx, hy, h => by
    cases x <;> cases y <;> first
      | rfl
      | (unfold D.ok at hx; cases hx; done)
      | (unfold D.ok at hy; cases hy; done)
      | (unfold D.py at h; cases h; done)
      | (unfold D.py at h; injection h with h; subst h; rfl)
      | (rename_i xs ys
         unfold D.py at h
         injection h with h
         unfold D.ok at hx hy
         simp only [Bool.and_eq_true] at hx hy
         rw [pys_inj (n - 1) xs ys hx.2 hy.2 h])
theorem pys_inj : ∀ (n : Nat) (xs ys : List D), oks n xs = true → oks n ys = true → pys xs = pys ys → xs = ys
  | n, [], [], _, _, _ => rfl
  | n, [], y :: ys, _, _, h => by unfold pys at h; cases h
  | n, x :: xs, [], _, _, h => by unfold pys at h; cases h
  | n, x :: xs, y :: ys, hx, hy, h => by
    unfold oks at hx hy
    simp only [Bool.and_eq_true] at hx hy
    unfold pys at h
    injection h with h1 h2
    rw [py_inj n x y hx.1 hy.1 h1, pys_inj n xs ys hx.2 hy.2 h2]
end
def rMinL (T : Tb) : List V → Hp → VK → Prop := fun vs H Q => ∃ G q us x xs, vs = [.ref q] ∧ Ex G H ∧ H q = some (.lst us) ∧ Reps T G (x :: xs) us ∧ minOk (x :: xs) = true ∧ ∀ u, Rep T G (minL x xs) u → Q u H
theorem oks_mem {n : Nat} {xs : List D} (h : oks n xs = true) {x : D} (hx : x ∈ xs) : x.ok n = true := by rw [oks_all] at h; exact List.all_eq_true.mp h x hx
theorem cr_minL (hT : X.K = T.K) (hc : X.calm = true) (hu : X.A.units + 64 < cLine) : CallR X (.builtin "min") (rMinL T) := by
  intro pins s σ H vs us Q I r h
  obtain ⟨G, q, ws, x, xs, rfl, eg, hq, rr, ok, k⟩ := h
  unfold minOk at ok
  simp only [Bool.and_eq_true] at ok
  obtain ⟨⟨hok, hal⟩, hnn⟩ := ok
  rw [Vals.ref1 r]
  have dp : DpAll X.K H ws (pys (x :: xs)) := by rw [hT]; exact DpAll.mono eg _ _ (Reps.dp 20 _ _ hok rr)
  obtain ⟨z1, its, k1, r1, g1⟩ := I.hok q _ hq
  obtain ⟨as, h4⟩ := Dp.readsAll I _ _ its dp r1
  rw [pys_map, List.map_cons] at h4
  have hdep := depth_pys 20 (x :: xs) hok
  rw [pys_map, List.map_cons] at hdep
  refine PySem.W.min_list_data (vs := its.toArray) (I.ok.hd hc) ⟨_, g1, rfl, _, rfl⟩ h4 ⟨fun a ha b hb => ?_, fun a ha => ?_⟩ (by omega) (fun i v h' tk bs hv rd hk => ?_)
  · rw [← List.map_cons (f := D.py)] at ha hb
    exact alike_ok hal a ha b hb
  · rw [← List.map_cons (f := D.py)] at ha
    obtain ⟨d, hd, rfl⟩ := List.mem_map.mp ha
    have := List.all_eq_true.mp hnn d hd
    have h2 := oks_mem hok hd
    cases d <;> first | (simp at this; done) | (unfold D.ok at h2; cases h2; done) | (unfold D.py; intro z; cases z)
  · have hv2 : its[i]? = some v := by simpa using hv
    obtain ⟨hi, ei⟩ := List.getElem?_eq_some_iff.mp hv2
    have hiw : i < ws.length := by rw [r1.length]; exact hi
    obtain ⟨d, hd, rd2⟩ := rr.get' (List.getElem?_eq_getElem hiw)
    obtain ⟨v2, hv3, rv⟩ := r1.get (List.getElem?_eq_getElem hiw)
    rw [hv2] at hv3
    cases hv3
    have dok : d.ok 20 = true := oks_mem hok (List.mem_of_getElem? hd)
    have ddp : Dp X.K H ws[i] d.py := by rw [hT]; exact Dp.mono eg _ _ (Rep.dp 20 _ _ dok rd2)
    obtain ⟨cs, q2⟩ := Dp.reads I _ _ _ ddp rv
    have e1 : (minL x xs).py = d.py := by
      rw [minL_py]
      exact (reads_det (fun b o hb _ => hk b o hb) q2 rd).1
    have e2 : minL x xs = d := py_inj 20 _ _ (oks_mem hok (minL_mem x xs)) dok e1
    rw [e2] at k
    exact ⟨ws[i], H, I.kept hk, rv, k _ rd2⟩
theorem fresh_minL : FreshN T minLD (rMinL T) := by
  intro G H x d v Q e vw h k
  unfold minLD at h
  split at h
  · rename_i x0 xs
    split at h
    · rename_i ok
      cases h
      obtain ⟨u, rfl, w⟩ := vw.one
      obtain ⟨q, us, rfl, sq, _, r⟩ := w
      exact ⟨G, q, us, x0, xs, rfl, e, sq, r, ok, fun u ru => k _ _ _ (Step.refl e) ru⟩
    · cases h
  · cases h
theorem dn_minL {B : MA} {k : Nat} (hT : X.K = T.K) (hc : X.calm = true) (hr : Room k X.A) (hg : Gl X "min") (hm : X.mg "min" = none) (ha : PA X (e :: es) (tDA T W B)) (he : starEach (e :: es) X.env = (false, eval e X.env) :: starEach es X.env := by rfl) (hpl : (backTo pos (starEach es X.env)).any (·.1) = false := by rfl) :
    PE X (.Call (.Name "min" p) (e :: es) [] pos) (tD T W (mBlt (liftN minLD) B)) := dn_callB (cr_minL hT hc hr.units) (primN fresh_minL) hg hm (by decide +kernel) ha (by decide) (by decide) he hpl
end
end Dn

end
section
set_option maxHeartbeats 4000000
/-! Dn22: lists that may still change are walked; lists and tuples that hold cells; leaving a def with them. -/
namespace Dn
open PySem PySem.Spec PyProof.Rows L2
section
variable {X : Cx} {T : Tb} {W : WX} {a b o e : Expr} {es : List Expr} {A B : M} {pos p p2 apos : Pos}
end
end Dn

end
section
set_option maxHeartbeats 4000000
/-! Dn23: tuples that hold cells; leaving a def with its cells kept, or with all of them turned into data. -/
namespace Dn
open PySem PySem.Spec PyProof.Rows L2
section
variable {X : Cx} {T : Tb} {W : WX} {a b o e : Expr} {es : List Expr} {A B : M} {pos p p2 apos : Pos}
/-! ### a tuple with cells -/
def noXs : List S → Bool
  | [] => true
  | .x _ _ :: _ => false
  | _ :: r => noXs r
theorem noXs_reps {G : Hp} {ρ : List Addr} : ∀ {ss : List S} {vs : List V}, noXs ss = true → SReps T G ρ ss vs → CReps T G ρ ss vs
  | [], _, _, h => by cases h; exact .nil
  | .d _ :: r, _, n, h => by cases h with | cons a b => exact .cons a (noXs_reps n b)
  | .c _ :: r, _, n, h => by cases h with | cons a b => exact .cons a (noXs_reps n b)
  | .x _ _ :: r, _, n, h => by cases n
def mkTupC (ss : List S) (c : Cs) : R S := if noXs ss = true ∧ ss.length ≤ sizeLine then .ok (.c c.length) (c ++ [.tS ss]) else .bad
def mTupC (B : MA) : M := fun δ c => (B δ c).bind mkTupC
theorem dn_tupC {B : MA} {x1} (h : PA X es (tDA T W B)) : PE X (.Tuple es x1 pos) (tD T W (mTupC B)) := by
  refine PE.imp (pe_tup h) fun σ H Q ⟨δ, c, G, ρ, hs, hh, p⟩ => ?_
  refine ⟨δ, c, G, ρ, hs, hh, (Post.bind (rel := SReps T) p).imp ?_⟩
  rintro vs H1 ⟨ss, c1, G1, ρ1, e1, p1, h1, r1, q1⟩
  unfold mkTupC at q1
  by_cases hk : noXs ss = true ∧ ss.length ≤ sizeLine
  · rw [if_pos hk] at q1
    refine ⟨by rw [r1.length]; exact hk.2, fun t ht => ?_⟩
    have h2 := h1.newCell (x := .tS ss) (ob := .tup vs) ht (fun H' hH' => ⟨vs, hH', hk.2, noXs_reps hk.1 r1⟩)
    exact q1 _ _ G1 (ρ1 ++ [t]) (.refl _) (List.prefix_append _ _) h2 ⟨t, by rw [← h1.len]; simp, rfl⟩
  · rw [if_neg hk] at q1; exact q1.elim
/-! ### xs[i] where xs may hold cells -/
def ixS (s t : S) (c : Cs) : R S := match s, t with
  | .c n, .d (.int i) => match c[n]? with
    | some (.tS ss) => match L2.atI ss i with
      | some u => .ok u c
      | none => .bad
    | some (.lS ss) => match L2.atI ss i with
      | some u => .ok u c
      | none => .bad
    | _ => lift2 ixD s t c
  | _, _ => lift2 ixD s t c
theorem CReps.atI {G : Hp} {ρ : List Addr} {ss : List S} {vs : List V} {i : Int} {u : S} (r : CReps T G ρ ss vs) (h : L2.atI ss i = some u) : ∃ v, L2.atI vs i = some v ∧ CRep T G ρ u v := by
  have hl := r.length
  have aux : ∀ {ss : List S} {vs : List V}, CReps T G ρ ss vs → ∀ {j : Nat} {u : S}, ss[j]? = some u → ∃ v, vs[j]? = some v ∧ CRep T G ρ u v := by
    intro ss vs r
    induction r with
    | nil => intro j u e; simp at e
    | cons a _ ih =>
      intro j u e
      cases j with
      | zero => simp at e; subst e; exact ⟨_, rfl, a⟩
      | succ j => simpa using ih (by simpa using e)
  unfold L2.atI at h ⊢
  rw [hl]
  cases hj : ixN ss.length i with
  | none => rw [hj] at h; cases h
  | some j => rw [hj] at h; exact aux r h
theorem prim_ixS : Prim2 T ixS (rIx T.K) := by
  intro W σ G ρ H c s t v u Q hh rs rt p
  unfold ixS at p
  have old : Post (SRep T) T W σ G ρ (lift2 ixD s t c) Q → rIx T.K v u H Q := fun p => prim2 fresh_ix W σ G ρ H c s t v u Q hh rs rt p
  split at p
  · rename_i n i
    have hi := SRep.int_inv rt
    subst hi
    cases hc : c[n]? with
    | none => simp only [hc] at p; exact old p
    | some cc =>
      obtain ⟨q, hq, rfl⟩ := id rs
      cases cc with
      | tS ss =>
        simp only [hc] at p
        cases ha : L2.atI ss i with
        | none => simp only [ha] at p; exact p.elim
        | some x =>
          simp only [ha] at p
          obtain ⟨_, vs, ho, hl, rr⟩ := hh.at_ n q _ hq hc
          obtain ⟨w, hw, rw'⟩ := rr.atI ha
          exact .inr (.inl ⟨q, vs, i, w, rfl, rfl, SqT.of ho, hw, p _ H G ρ (.refl _) (List.prefix_refl _) hh (rw'.srep.mono (.refl _) (List.take_prefix _ _))⟩)
      | lS ss =>
        simp only [hc] at p
        cases ha : L2.atI ss i with
        | none => simp only [ha] at p; exact p.elim
        | some x =>
          simp only [ha] at p
          obtain ⟨_, vs, ho, hl, rr⟩ := hh.at_ n q _ hq hc
          obtain ⟨w, hw, rw'⟩ := rr.atI ha
          exact .inl ⟨q, vs, i, w, rfl, rfl, SqL.of ho, hw, p _ H G ρ (.refl _) (List.prefix_refl _) hh (rw'.srep.mono (.refl _) (List.take_prefix _ _))⟩
      | lst _ => simp only [hc] at p; exact old p
      | dct _ => simp only [hc] at p; exact old p
      | tb _ => simp only [hc] at p; exact old p
      | obj _ _ => simp only [hc] at p; exact old p
  · exact old p
theorem dn_ixS (hT : X.K = T.K) (ha : PE X a (tD T W A)) (hb : PE X b (tD T W B)) (hs : PlainIx b := by exact fun _ _ => rfl) : PE X (.Subscript a b pos) (tD T W (mBin ixS A B)) :=
  PE.imp (pe_ix (r := rIx T.K) (by rw [← hT]; exact ix_seq) ha hb hs) fun _ _ _ h => tD_bin prim_ixS h
end
/-! ### leaving a def: all cells are kept -/
def exitA (n0 : Nat) : RS → R S
  | .nx _ c => .ok (.d .non) c
  | .rt (.x _ _) _ => .bad
  | .rt s c => .ok s c
  | .ex k xs _ c => .ex k xs (c.take n0)
  | _ => .bad
def fnA (np n : Nat) (body : MS) : List S → Cs → R S := fun ss c => if ss.length = np then exitA c.length (body (ss.map some ++ List.replicate (n - np) none) c) else .bad
/-! ### .. or turned into data -/
def frz (n0 : Nat) (c : Cs) : Nat → S → Option D
  | _, .d x => some x
  | _, .x _ _ => none
  | 0, .c _ => none
  | f + 1, .c k => if k < n0 then none else match c[k]? with
    | some (.lst xs) => some (.lst xs)
    | some (.lS ss) => (ss.mapM (frz n0 c f)).map .lst
    | some (.tS ss) => (ss.mapM (frz n0 c f)).map .tup
    | _ => none
def exitF (n0 : Nat) : RS → R S
  | .nx _ c => .ok (.d .non) (c.take n0)
  | .rt s c => match frz n0 c 8 s with
    | some d => .ok (.d d) (c.take n0)
    | none => .bad
  | .ex k xs _ c => .ex k xs (c.take n0)
  | _ => .bad
def fnF (np n : Nat) (body : MS) : List S → Cs → R S := fun ss c => if ss.length = np then exitF c.length (body (ss.map some ++ List.replicate (n - np) none) c) else .bad
section
variable {T : Tb} {G G' H H' : Hp} {ρ ρ' : List Addr} {c c' : Cs} {σ : L2.St} {δ : Sl} {Q : VK} {E : XK}
theorem exitA_ok {r : RS} (h : PostF T G ρ (exitA ρ.length r) Q E) : PostS T (fun cls d _ H => E cls d H) G ρ r { nx := fun _ H' => Q .non H', rt := Q } := by
  cases r with
  | nx δ c => exact fun σ' H' G' ρ' e p rs rh => h .non H' G' ρ' e p rh SRep.non
  | bk δ c => exact False.elim h
  | ct δ c => exact False.elim h
  | bad => exact h
  | ex k xs δ c => exact fun d σ' H' G' ρ' e p rs rh x => h d H' G' e (rh.take p) x
  | rt s c =>
    cases s with
    | x _ _ => exact False.elim h
    | d x => exact fun v H' G' ρ' e p rs rh => h v H' G' ρ' e p rh rs
    | c k => exact fun v H' G' ρ' e p rs rh => h v H' G' ρ' e p rh rs
open Classical in
noncomputable def thaw (G H : Hp) (own : List Addr) : Hp := fun p => if p ∈ own then H p else G p
theorem RelH.thaw (r : RelH T H c G ρ') (pr : ρ <+: ρ') : Ex G (Dn.thaw G H (ρ'.drop ρ.length)) ∧ RelH T H (c.take ρ.length) (Dn.thaw G H (ρ'.drop ρ.length)) ρ := by
  have gn : ∀ p ∈ ρ'.drop ρ.length, G p = Option.none := fun p hp => by
    obtain ⟨i, hi, e⟩ := List.getElem_of_mem (List.mem_of_mem_drop hp)
    have hic : i < c.length := by rw [← r.len]; exact hi
    exact (r.at_ i p c[i] (by rw [List.getElem?_eq_getElem hi, e]) (List.getElem?_eq_getElem hic)).1
  have e : Ex G (Dn.thaw G H (ρ'.drop ρ.length)) := fun a o h => by
    unfold Dn.thaw
    rw [if_neg (fun hm => by rw [gn a hm] at h; cases h)]
    exact h
  have r1 := r.take pr
  refine ⟨e, ⟨fun a u q => ?_, r1.len, r1.nd, fun i q x a b => ?_⟩⟩
  · unfold Dn.thaw at q
    split at q
    · exact q
    · exact r.ex a u q
  · obtain ⟨g, k1⟩ := r1.at_ i q x a b
    have hi : i < ρ.length := (List.getElem?_eq_some_iff.mp a).1
    have ne : q ∉ ρ'.drop ρ.length := fun hm => by
      obtain ⟨t, rfl⟩ := pr
      rw [List.drop_left] at hm
      have nd := r.nd
      rw [List.nodup_append] at nd
      exact nd.2.2 q (List.mem_of_getElem? a) q hm rfl
    refine ⟨by unfold Dn.thaw; rw [if_neg ne]; exact g, k1.keep e rfl (List.prefix_refl _)⟩
theorem thaw_at {k : Nat} {p : Addr} (hk : ¬ k < ρ.length) (hp : ρ'[k]? = some p) : Dn.thaw G H (ρ'.drop ρ.length) p = H p := by
  unfold Dn.thaw
  rw [if_pos]
  obtain ⟨h1, e1⟩ := List.getElem?_eq_some_iff.mp hp
  rw [List.mem_iff_getElem]
  exact ⟨k - ρ.length, by rw [List.length_drop]; omega, by rw [List.getElem_drop, ← e1]; congr 1; omega⟩
theorem frz_ok (r : RelH T H c G ρ') (pr : ρ <+: ρ') : ∀ (f : Nat) (s : S) (v : V) (d : D), frz ρ.length c f s = some d → SRep T G ρ' s v → Rep T (Dn.thaw G H (ρ'.drop ρ.length)) d v
  | f, .d x, v, d, e, rs => by
    have : x = d := by cases f <;> (unfold frz at e; cases e; rfl)
    subst this
    exact Rep.mono (r.thaw pr).1 _ _ rs
  | f, .x _ _, v, d, e, rs => by cases f <;> (unfold frz at e; cases e)
  | 0, .c k, v, d, e, rs => by unfold frz at e; cases e
  | f + 1, .c k, v, d, e, rs => by
    obtain ⟨p, hp, rfl⟩ := rs
    unfold frz at e
    split at e
    · cases e
    · rename_i hk
      have ht := thaw_at (G := G) (H := H) hk hp
      cases hc : c[k]? with
      | none => simp only [hc] at e; cases e
      | some cc =>
        obtain ⟨g, ko⟩ := r.at_ k p cc hp hc
        have go : ∀ {ss : List S} {vs : List V} {ds : List D}, CReps T G (ρ'.take k) ss vs → ss.mapM (frz ρ.length c f) = some ds → Reps T (Dn.thaw G H (ρ'.drop ρ.length)) ds vs ∧ ds.length = ss.length := by
          intro ss vs ds rr
          induction rr generalizing ds with
          | nil => intro em; simp at em; subst em; exact ⟨Reps.nil, rfl⟩
          | @cons s ss v vs a _ ih =>
            intro em
            rw [List.mapM_cons] at em
            cases e1 : frz ρ.length c f s with
            | none => rw [e1] at em; cases em
            | some x =>
              rw [e1] at em
              cases e2 : ss.mapM (frz ρ.length c f) with
              | none => rw [e2] at em; cases em
              | some xs =>
                rw [e2] at em
                cases em
                obtain ⟨i1, i2⟩ := ih e2
                exact ⟨Reps.cons (frz_ok r pr f s v x e1 (a.srep.mono (.refl _) (List.take_prefix _ _))) i1, by simp [i2]⟩
        cases cc with
        | lst xs =>
          simp only [hc] at e
          cases e
          obtain ⟨vs, ho, hl, rr⟩ := ko
          exact Rep.lst (by rw [ht]; exact ho) hl (Reps.mono (r.thaw pr).1 _ _ rr)
        | lS ss =>
          simp only [hc] at e
          obtain ⟨vs, ho, hl, rr⟩ := ko
          cases em : ss.mapM (frz ρ.length c f) with
          | none => rw [em] at e; cases e
          | some ds =>
            rw [em] at e
            cases e
            obtain ⟨i1, i2⟩ := go rr em
            exact Rep.lst (by rw [ht]; exact ho) (by rw [i2]; exact hl) i1
        | tS ss =>
          simp only [hc] at e
          obtain ⟨vs, ho, hl, rr⟩ := ko
          cases em : ss.mapM (frz ρ.length c f) with
          | none => rw [em] at e; cases e
          | some ds =>
            rw [em] at e
            cases e
            obtain ⟨i1, i2⟩ := go rr em
            exact Rep.tup (by rw [ht]; exact ho) (by rw [i2]; exact hl) i1
        | dct _ => simp only [hc] at e; cases e
        | tb _ => simp only [hc] at e; cases e
        | obj _ _ => simp only [hc] at e; cases e
theorem exitF_ok {r : RS} (h : PostF T G ρ (exitF ρ.length r) Q E) : PostS T (fun cls d _ H => E cls d H) G ρ r { nx := fun _ H' => Q .non H', rt := Q } := by
  cases r with
  | nx δ c => exact fun σ' H' G' ρ' e p rs rh => h .non H' G' ρ e (List.prefix_refl _) (rh.take p) SRep.non
  | bk δ c => exact False.elim h
  | ct δ c => exact False.elim h
  | bad => exact h
  | ex k xs δ c => exact fun d σ' H' G' ρ' e p rs rh x => h d H' G' e (rh.take p) x
  | rt s c =>
    unfold exitF at h
    cases hf : frz ρ.length c 8 s with
    | none => simp only [hf] at h; exact h.elim
    | some d =>
      simp only [hf] at h
      intro v H' G' ρ' e p rs rh
      obtain ⟨e2, r2⟩ := rh.thaw p
      exact h v H' _ ρ (e.trans e2) (List.prefix_refl _) r2 (frz_ok rh p 8 s v d hf rs)
end
section
variable {P : Program} {w : World} {K : PySem.W.Frag} {mg : Str → Option Value} {base : Heap} {T : Tb} {k : Nat}
/-- how a def may be left -/
structure ExitOk (T : Tb) (ext : Nat → RS → R S) : Prop where
  ok : ∀ {G : Hp} {ρ : List Addr} {r : RS} {Q : VK} {E : XK}, PostF T G ρ (ext ρ.length r) Q E → PostS T (fun cls d _ H => E cls d H) G ρ r { nx := fun _ H' => Q .non H', rt := Q }
def fnE (ext : Nat → RS → R S) (np n : Nat) (body : MS) : List S → Cs → R S := fun ss c => if ss.length = np then ext c.length (body (ss.map some ++ List.replicate (n - np) none) c) else .bad
theorem exA : ExitOk T exitA := ⟨exitA_ok⟩
theorem exF : ExitOk T exitF := ⟨exitF_ok⟩
theorem fn_okE {ext : Nat → RS → R S} (X : ExitOk T ext) {x qual : Str} {st : Stmt} {f : Addr} {fd : FuncData} {N ps : List Str} {body : MS} (F : Fun K x qual st f fd) (S : FnScope N ps (defScope st))
    (hbody : ∀ (f : Addr) (cdv : Value) (A : Around) (outer : List Env) (s : Shared) (H : Hp) (E : XK), Room k (A.deeper (envOfC qual (defScope st) s.heap.objs.size f cdv)) → Takes (cxOf (L2.CX P w) P w K mg base N qual (defScope st) f cdv A outer s H E) (fun cls d _ H => E cls d H) →
      PSs (cxOf (L2.CX P w) P w K mg base N qual (defScope st) f cdv A outer s H E) (defBody st) (tS T (fun cls d _ H => E cls d H) body)) : FnOk P w K mg base (L2.CX P w) (k + 1) f fd ps (spD T (fnE ext ps.length N.length body)) := by
  refine F.okX S ?_ ?_
  · rintro vs H Q E ⟨ss, c, G, ρ, rs, rh, p⟩
    rw [rs.length]
    unfold fnE at p
    by_cases h : ss.length = ps.length
    · exact h
    · rw [if_neg h] at p; exact p.elim
  · rintro cdv A outer s H vs Q E hr ⟨ss, c, G, ρ, rs, rh, p⟩
    refine ⟨_, hbody f cdv A outer s H E hr cx_takes, ?_⟩
    unfold fnE at p
    by_cases h : ss.length = ps.length
    · rw [if_pos h] at p
      refine ⟨_, c, G, ρ, rs.start h, rh, ?_⟩
      rw [← rh.len] at p
      exact X.ok p
    · rw [if_neg h] at p; exact p.elim
theorem fn_atE {ext : Nat → RS → R S} (X : ExitOk T ext) {x : Str} {st : Stmt} {N ps : List Str} {body : MS} (D : DefAt K mg x st ps) (S : FnScope N ps (defScope st))
    (hbody : ∀ (f : Addr) (cdv : Value) (A : Around) (outer : List Env) (s : Shared) (H : Hp) (E : XK), Room k (A.deeper (envOfC x (defScope st) s.heap.objs.size f cdv)) → Takes (cxOf (L2.CX P w) P w K mg base N x (defScope st) f cdv A outer s H E) (fun cls d _ H => E cls d H) →
      PSs (cxOf (L2.CX P w) P w K mg base N x (defScope st) f cdv A outer s H E) (defBody st) (tS T (fun cls d _ H => E cls d H) body)) : FnAt P w K mg base T x (k + 1) (fnE ext ps.length N.length body) := by
  obtain ⟨f, fd, F, hm, hk, hb⟩ := D
  exact ⟨f, fd, ps, fn_okE X F S hbody, hm, hk, hb⟩
end
end Dn

end
section
set_option maxHeartbeats 4000000
/-! Dn24: defaults, properties, gcd, which class is which. -/
namespace Dn
open PySem PySem.Spec PyProof.Rows L2
section
variable {X : Cx} {T : Tb} {W : WX} {a b o e : Expr} {es : List Expr} {A B : M} {pos p p2 apos : Pos} {fn : List S → Cs → R S} {k : Nat}
/-! ### C(e, ..), the last parameters by their defaults -/
theorem run_makeD {CX : CXT} {f C : Addr} {fd : FuncData} {ps : List Str} {sp : Sp} {E : L2.St → XK} {pins : List (Addr × Obj)} {σ : L2.St} {H : Hp} {s : Shared} {Q : VK} {us ds : List Value} {vs dvs : List V} (M : Mk X.K C f) (F : FnOk X.prog X.w X.K X.mg X.base CX k f fd ps sp) (hr : Room (k + 1) X.A) (hb : Binds X.K fd ps ds) (hd : Vals dvs ds)
    (hx : PassesAt CX X σ (E σ)) (I : Inv X pins σ H s) (r : Vals vs us)
    (h : ∀ x dx, H x = none → H dx = none → dx ≠ x → sp (.ref x :: (vs ++ dvs)) (upd (upd H dx (.own x)) x (.ins C dx [])) (fun v H2 => v = .non ∧ Q (.ref x) H2) (E σ)) :
    wpAny (model X.prog X.w) X.A (call (.ref C) us) (EP X pins σ Q) X.xe s := by
  have hq := h (s.heap.objs.size + 1) s.heap.objs.size (I.hok.fresh (Nat.le_succ _)) (I.hok.fresh (Nat.le_refl _)) (Nat.ne_of_lt (Nat.lt_succ_self _))
  have I2 := Inv.made (C := C) I
  have r2 : Vals (V.ref (s.heap.objs.size + 1) :: (vs ++ dvs)) (Value.ref (s.heap.objs.size + 1) :: (us ++ ds)) := .cons rfl (r.append hd)
  have hl : ((Value.ref (s.heap.objs.size + 1) :: us) ++ ds).length = ps.length := by
    have e := r2.length
    rw [F.len _ _ _ _ hq] at e
    exact e.symm
  refine wpAny_call (make_map (f := f) I.kIn M.makes M.init (beq_iff_eq.mp M.fn) (codeAny_mono (F.run _ X.stack _ _ ⟨Value.ref (s.heap.objs.size + 1) :: us, []⟩ (Value.ref (s.heap.objs.size + 1) :: (us ++ ds)) _ _ (E σ) (hr.make C us [])
    (I2.env0.make C us []) (hb _ (Value.ref (s.heap.objs.size + 1) :: us) I2.kIn hl) r2 hq) fun r s' hq' => ?_))
  cases r with
  | error e => exact hx pins _ _ e s' I2 hq'
  | ok fl =>
    cases fl with
    | ret u =>
      obtain ⟨v, H', I3, rv, ev, q3⟩ := I2.after hq'
      subst ev
      exact ⟨rv, ⟨V.ref (s.heap.objs.size + 1), H', I3, rfl, q3⟩⟩
    | next => exact False.elim hq'
    | brk => exact False.elim hq'
    | cont => exact False.elim hq'
/-- the class x, number c, is made by fn; its last parameter's default is the int d -/
def MakeDAt (P : Program) (w : World) (K : PySem.W.Frag) (mg : Str → Option Value) (base : Heap) (T : Tb) (x : Str) (c : Nat) (nf : Nat) (k : Nat) (fn : List S → Cs → R S) (d : Int) : Prop :=
  ∃ f fd ps ds, FnOk P w K mg base (L2.CX P w) k f fd ps (spD T fn) ∧ Mk K (T.cl c) f ∧ mg x = some (.ref (T.cl c)) ∧ (T.fl c).length = nf ∧ Binds K fd ps [] ∧ Binds K fd ps ds ∧ Vals [.int d] ds
theorem MakeDAt.all {P : Program} {w : World} {K : PySem.W.Frag} {mg : Str → Option Value} {base : Heap} {x : Str} {c nf : Nat} {d : Int} (h : MakeDAt P w K mg base T x c nf k fn d) : MakeAt P w K mg base T x c nf k fn := by
  obtain ⟨f, fd, ps, ds, F, hM, hm, hn, hb, _, _⟩ := h
  exact ⟨f, fd, ps, F, hM, hm, hn, hb⟩
def mDfl (B : MA) (d : Int) : MA := fun δ c => (B δ c).bind fun ss c => .ok (ss ++ [.d (.int d)]) c
theorem dn_makeD {x : Str} {n nf : Nat} {d : Int} {B : MA} (hf : MakeDAt X.prog X.w X.K X.mg X.base T x n nf k fn d) (hr : Room (k + 1) X.A) (tk : Takes X W) (hg : Gl X x) (ha : PA X (e :: es) (tDA T W B)) (hdb : (x == ("__debug__" : Str)) = false := by decide)
    (he : starEach (e :: es) X.env = (false, eval e X.env) :: starEach es X.env := by rfl) (hpl : (backTo pos (starEach es X.env)).any (·.1) = false := by rfl) : PE X (.Call (.Name x p) (e :: es) [] pos) (tD T W (mMake n nf fn (mDfl B d))) := by
  obtain ⟨f, fd, ps, ds, F, hM, hm, hn, _, hb, hd⟩ := hf
  refine ⟨fun pins s σ H Q I ⟨δ, c, G, ρ, hs, hh, p⟩ => ?_⟩
  refine wpAny_Call_Name_kw (ld_glob I hg hm ?_ hdb)
  have p' : Post (SRep T) T W σ G ρ ((B δ c).bind fun ss c => fin n nf c.length (fn (.c c.length :: (ss ++ [.d (.int d)])) (c ++ [.obj n []]))) Q := by
    unfold mMake mDfl at p
    cases hB : B δ c with
    | ok ss c1 => rw [hB] at p; exact p
    | ex k xs c1 => rw [hB] at p; exact p
    | bad => rw [hB] at p; exact p
  refine PySem.W.callWith_K (h₀ := X.base) I.ok.mod.kin hM.kp (thn (ha.run pos pins s σ H _ I ⟨δ, c, G, ρ, hs, hh, Post.bind (rel := SReps T) p'⟩) ?_) he hpl
  rintro us s1 ⟨vs, H1, I1, r, ss, c1, G1, ρ1, e1, p1, h1, r1, q1⟩
  exact ⟨I1.kIn, run_makeD (E := WE W) hM F hr hb hd (passAt tk σ) I1 r (make_core hn h1 (r1.append (.cons SRep.int .nil)) q1)⟩
section
variable {P : Program} {w : World} {K : PySem.W.Frag} {mg : Str → Option Value} {base : Heap}
def IDefDAt (K : PySem.W.Frag) (C : Addr) (qual : Str) (st : Stmt) (ps : List Str) (d : Int) : Prop :=
  ∃ f fd ds, FunD K "__init__" qual (defArgs st) (defBody st) (defScope st) [.int d] [] f fd ∧ Mk K C f ∧ Binds K fd ps [] ∧ Binds K fd ps ds ∧ Vals [.int d] ds
theorem make_atD {kp : Bool} {c nf : Nat} {d : Int} {x qual : Str} {st : Stmt} {N ps : List Str} {body : MS} (D : IDefDAt K (T.cl c) qual st ps d) (hm : mg x = some (.ref (T.cl c))) (hn : (T.fl c).length = nf) (S : FnScope N ps (defScope st))
    (hbody : ∀ (f : Addr) (cdv : Value) (A : Around) (outer : List Env) (s : Shared) (H : Hp) (E : XK), Room k (A.deeper (envOfC qual (defScope st) s.heap.objs.size f cdv)) → Takes (cxOf (L2.CX P w) P w K mg base N qual (defScope st) f cdv A outer s H E) (fun cls d _ H => E cls d H) →
      PSs (cxOf (L2.CX P w) P w K mg base N qual (defScope st) f cdv A outer s H E) (defBody st) (tS T (fun cls d _ H => E cls d H) body)) : MakeDAt P w K mg base T x c nf (k + 1) (fnG kp ps.length N.length body) d := by
  obtain ⟨f, fd, ds, F, hM, hb, hb2, hv⟩ := D
  refine ⟨f, fd, ps, ds, ?_, hM, hm, hn, hb, hb2, hv⟩
  refine F.ok S ?_ ?_
  · rintro vs H Q E ⟨ss, c, G, ρ, rs, rh, p⟩
    rw [rs.length]
    unfold fnG at p
    by_cases h : ss.length = ps.length
    · exact h
    · rw [if_neg h] at p; exact p.elim
  · rintro cdv A outer s H vs Q E hr ⟨ss, c, G, ρ, rs, rh, p⟩
    refine ⟨_, hbody f cdv A outer s H E hr cx_takes, ?_⟩
    unfold fnG at p
    by_cases h : ss.length = ps.length
    · rw [if_pos h] at p
      refine ⟨_, c, G, ρ, rs.start h, rh, ?_⟩
      rw [← rh.len] at p
      exact exit_ok p
    · rw [if_neg h] at p; exact p.elim
/-- how IDefDAt is made -/
theorem idefD_mk {C f : Addr} {qual : Str} {st : Stmt} {ps : List Str} {d : Int} {oc : Value} {od an : Option Addr} {osl : Array (Option Value)} {kV doc pm cdv ct : Value} {TT : Addr} {ot : Obj} {tt : Tok} {nn : Nat}
    (l : K.lookup f = some ⟨oc, od, .func (PySem.W.fnOf "__init__" qual (defArgs st) (defBody st) (defScope st) (.ref TT) kV doc pm an cdv ct), osl⟩) (c : PySem.W.codeIn K cdv qual = true) (kk : PySem.W.keepIn K (.ref f) = true) (lt : K.lookup TT = some ot) (hot : ot.data = .seq #[.int d tt] nn) (M : Mk K C f)
    (h2 : ∀ (T : Addr) (kV doc pm : Value) (an : Option Addr) (cdv ct : Value) (us its : List Value), us.length = ps.length → its.length = 1 →
      ∃ k, bindArgs (PySem.W.fnOf "__init__" qual (defArgs st) (defBody st) (defScope st) (.ref T) kV doc pm an cdv ct) ⟨us, []⟩ = seqItems? (.ref T) >>= k ∧ k (some its.toArray) = pure (ps.zip (us ++ its.drop 1)))
    (h1 : ∀ (T : Addr) (kV doc pm : Value) (an : Option Addr) (cdv ct : Value) (us its : List Value), us.length = ps.length - 1 → its.length = 1 →
      ∃ k, bindArgs (PySem.W.fnOf "__init__" qual (defArgs st) (defBody st) (defScope st) (.ref T) kV doc pm an cdv ct) ⟨us, []⟩ = seqItems? (.ref T) >>= k ∧ k (some its.toArray) = pure (ps.zip (us ++ its.drop 0)))
    (hp : 1 ≤ ps.length) : IDefDAt K C qual st ps d := by
  have F : FunD K "__init__" qual (defArgs st) (defBody st) (defScope st) [.int d] [] f _ := ⟨⟨oc, od, .ref TT, kV, doc, pm, an, cdv, ct, osl, rfl, l, c, .inr ⟨by simp, TT, ot, [.int d tt], nn, rfl, lt, hot, .cons ⟨tt, rfl⟩ .nil⟩, .inl rfl⟩, kk⟩
  obtain ⟨ds0, v0, b0⟩ := F.binds1 (ps := ps) ps.length 1 (by simp) (by simp) (fun T kV doc pm an cdv ct us its hu hi => h2 T kV doc pm an cdv ct us its hu (by simpa using hi))
  obtain ⟨ds1, v1, b1⟩ := F.binds1 (ps := ps) (ps.length - 1) 0 (by simp) (by simp; omega) (fun T kV doc pm an cdv ct us its hu hi => h1 T kV doc pm an cdv ct us its hu (by simpa using hi))
  have e0 : ds0 = [] := by cases v0; rfl
  subst e0
  exact ⟨f, _, ds1, F, M, b0, b1, v1⟩
end
/-! ### e.f, a property that reads a field -/
structure PropAt (X : Cx) (T : Tb) (f g : Str) (n i : Nat) : Prop where
  cl : Cls X.K (T.cl n)
  na : NoAttr X.K (T.cl n) g
  fl : (T.fl n)[i]? = some g
  nd : (T.fl n).Nodup
  pr : ∃ p ga fd, PropOf X.K (T.cl n) f p ga ∧ FnOk X.prog X.w X.K X.mg X.base (L2.CX X.prog X.w) 1 ga fd ["self"] (getSp (T.cl n) g) ∧ Binds X.K fd ["self"] []
def mProp (n i : Nat) (A : M) : M := mAttr [(n, i)] A
theorem dn_prop {f g : Str} {n i : Nat} (P : PropAt X T f g n i) (hr : Room 2 X.A) (he : PE X o (tD T W A)) (hab : attributeBase o f X.env (eval o X.env) = eval o X.env := by rfl) : PE X (.Attribute o f pos) (tD T W (mProp n i A)) := by
  obtain ⟨pp, ga, fd, hp, F, hb⟩ := P.pr
  refine PE.imp (pe_prop (E := fun _ _ _ => False) (dvs := []) he P.cl hp F hr hb .nil (fun _ _ _ _ _ _ _ h => by obtain ⟨_, _, _, _, _, _, _, _, _, _, _, _, z⟩ := h; exact z.elim) hab) fun σ H Q ⟨δ, c, G, ρ, hs, hh, p⟩ => ?_
  refine ⟨δ, c, G, ρ, hs, hh, (Post.bind (rel := SRep T) p).imp ?_⟩
  rintro v H1 ⟨s, c1, G1, ρ1, e1, p1, h1, r1, q1⟩
  cases hd : deref s c1 with
  | none => simp only [hd] at q1; exact q1.elim
  | some d =>
    cases d with
    | obj k2 xs =>
      simp only [hd] at q1
      cases hl : look [(n, i)] k2 with
      | none => simp only [hl] at q1; exact q1.elim
      | some j =>
        have hm := look_mem hl
        simp only [List.mem_singleton, Prod.mk.injEq] at hm
        obtain ⟨rfl, rfl⟩ := hm
        simp only [hl] at q1
        cases hx : xs[j]? with
        | none => simp only [hx] at q1; exact q1.elim
        | some x =>
          simp only [hx] at q1
          obtain ⟨a, dx, fv, rfl, ea, hfl, rr⟩ := deref_view h1 r1 hd
          obtain ⟨w, hw, rw'⟩ := rr.get hx
          have hj : j < xs.length := (List.getElem?_eq_some_iff.mp hx).1
          have hlk : fv.lookup g = some w := lookup_at (by rw [hfl]; exact nd_take P.nd _) (by rw [hfl, List.getElem?_take_of_lt hj]; exact P.fl) hw
          exact ⟨a, dx, fv, rfl, ea, a, dx, fv, w, rfl, ea, hlk, q1 _ H1 G1 ρ1 (.refl _) (List.prefix_refl _) h1 rw'⟩
    | _ => simp only [hd] at q1; exact q1.elim
/-! ### gcd(a, b) -/
def gcdD : List D → Option D
  | [.int a, .int b] => some (.int (Nat.gcd a.natAbs b.natAbs : Nat))
  | _ => none
theorem fresh_gcd : FreshN T gcdD rGcd := by
  intro G H x d v Q e vw h k
  unfold gcdD at h
  split at h
  · cases h
    obtain ⟨u, w, rfl, a, b⟩ := vw.two
    have := View.int_inv a; subst this
    have := View.int_inv b; subst this
    exact ⟨_, _, rfl, k _ _ _ (Step.refl e) Rep.int⟩
  · cases h
theorem dn_gcd {B : MA} (hg : Gl X "gcd") (hm : X.mg "gcd" = some (.builtin "math.gcd")) (ha : PA X (e :: es) (tDA T W B)) (he : starEach (e :: es) X.env = (false, eval e X.env) :: starEach es X.env := by rfl) (hpl : (backTo pos (starEach es X.env)).any (·.1) = false := by rfl) :
    PE X (.Call (.Name "gcd" p) (e :: es) [] pos) (tD T W (mBlt (liftN gcdD) B)) := PE.imp (pe_callBfun cr_gcd hg hm ha (by decide) he hpl) fun _ _ _ h => tD_blt (primN fresh_gcd) h
end
/-! ### which class is which -/
theorem kit_own {K : PySem.W.Frag} {t : Value} {C : Addr} {r : Bool} (ne : (t == .ref C) = false) (h1 : PySem.W.isClsIn K C = true) (h2 : PySem.W.typeIn K (.ref C) = some (.type "type")) (h3 : PySem.W.subIn K t (.ref C) = some r) : PySem.W.kitOne K t (.ref C) = some r := by
  unfold PySem.W.kitOne
  rw [if_neg (by rw [ne]; decide)]
  unfold PySem.W.kitCls
  dsimp only
  rw [if_pos]
  · exact h3
  · rw [h2]
    unfold PySem.W.isClsIn at h1
    rw [h1]
    decide
theorem kit_typ {K : PySem.W.Frag} {C : Addr} {n : String} {r : Bool} (hm : PySem.W.kitMeta n = true) (h3 : PySem.W.subIn K (.ref C) (.type n) = some r) : PySem.W.kitOne K (.ref C) (.type n) = some r := by
  unfold PySem.W.kitOne
  rw [if_neg (by simp)]
  unfold PySem.W.kitCls
  dsimp only
  rw [if_pos hm]
  exact h3
theorem kitAny2 {K : PySem.W.Frag} {t a b : Value} {x y : Bool} (h : PySem.W.kitOne K t a = some x) (k : PySem.W.kitOne K t b = some y) : PySem.W.kitAny K t [a, b] = some (x || y) := by
  refine kitAny_cons h (fun e => ?_) (fun e => by rw [e]; rfl)
  subst e
  refine kitAny_cons k (fun e => ?_) (fun e => by rw [e]; rfl)
  subst e
  rfl
end Dn

end
section
set_option maxHeartbeats 4000000
/-! Dn25: texts (split, join, find, str, int, signs, reversed), starred displays, extend, lists that hold cells. -/
namespace Dn
open PySem PySem.Spec PyProof.Rows L2
section
variable {X : Cx} {T : Tb} {W : WX} {a b o e : Expr} {es : List Expr} {A B : M} {pos p p2 apos : Pos}
theorem PE.or {t u : TE} (h : PE X a t) (k : PE X a u) : PE X a (fun σ H Q => t σ H Q ∨ u σ H Q) := ⟨fun pins s σ H Q I q => q.elim (h.run pins s σ H Q I) (k.run pins s σ H Q I)⟩
/-! ### a method of a text with one argument -/
def m1T (f : Str → S → Cs → R S) (A B : M) : M := fun δ c => (A δ c).bind fun s c => match s with
  | .d (.str a) => (B δ c).bind fun t c => f a t c
  | _ => .bad
def Prim1T (T : Tb) (f : Str → S → Cs → R S) (r : V → List V → Hp → VK → Prop) : Prop := ∀ (W : WX) (σ : L2.St) (G : Hp) (ρ : List Addr) (H : Hp) (c : Cs) (a : Str) (t : S) (u : V) (Q : VK), RelH T H c G ρ → SRep T G ρ t u → Post (SRep T) T W σ G ρ (f a t c) Q → r (.str a) [u] H Q
theorem tD_m1T {f : Str → S → Cs → R S} {r : V → List V → Hp → VK → Prop} (hp : Prim1T T f r) {σ : L2.St} {H : Hp} {Q : VK} (h : tD T W (m1T f A B) σ H Q) : tM1 r (tD T W A) (tD T W B) σ H Q := by
  obtain ⟨δ, c, G, ρ, hs, hh, p⟩ := h
  refine ⟨δ, c, G, ρ, hs, hh, (Post.bind (rel := SRep T) p).imp ?_⟩
  rintro v H1 ⟨s, c1, G1, ρ1, e1, p1, h1, r1, q1⟩
  cases s with
  | c _ => exact q1.elim
  | x _ _ => exact q1.elim
  | d x =>
    cases x with
    | str z =>
      have := SRep.str_inv r1
      subst this
      refine ⟨⟨z, rfl⟩, δ, c1, G1, ρ1, hs.mono e1 p1, h1, (Post.bind (rel := SRep T) q1).imp ?_⟩
      rintro u H2 ⟨t, c2, G2, ρ2, e2, p2, h2, r2, q2⟩
      exact hp _ _ G2 ρ2 _ _ _ _ _ _ h2 r2 q2
    | _ => exact q1.elim
/-! find -/
def findF (a : Str) (t : S) (c : Cs) : R S := match t with
  | .d (.str b) => .ok (.d (.int (Txt.find a b))) c
  | _ => .bad
theorem dn_find (ho : PE X o (tD T W A)) (he : PE X e (tD T W B)) (hs : starEach [e] X.env = [(false, eval e X.env)] := by rfl) (hbase : attributeBase o "find" X.env (eval o X.env) = eval o X.env := by rfl) (hline : (apos.endLine == pos.line) = true := by rfl) :
    PE X (.Call (.Attribute o "find" apos) [e] [] pos) (tD T W (m1T findF A B)) := by
  refine PE.imp (pe_m1 F.slot_str_find F.type_str_find mt_find ho he hs hbase hline) fun _ _ _ h => tD_m1T ?_ h
  intro W σ G ρ H c a t u Q hh rt q
  unfold findF at q
  split at q
  · have := SRep.str_inv rt
    subst this
    exact ⟨_, _, rfl, rfl, q _ H G ρ (.refl _) (List.prefix_refl _) hh SRep.int⟩
  · exact q.elim
/-! split -/
def splOk (a b : Str) : Prop := (b.length == 0) = false ∧ a.length + 2 ≤ sizeLine ∧ (Txt.split a b).length ≤ sizeLine
instance (a b : Str) : Decidable (splOk a b) := inferInstanceAs (Decidable (_ ∧ _ ∧ _))
def splF (a : Str) (t : S) (c : Cs) : R S := match t with
  | .d (.str b) => if splOk a b then .ok (.d (.lst ((Txt.split a b).map D.str))) c else .bad
  | _ => .bad
def splC (a : Str) (t : S) (c : Cs) : R S := match t with
  | .d (.str b) => if splOk a b then .ok (.c c.length) (c ++ [.lst ((Txt.split a b).map D.str)]) else .bad
  | _ => .bad
theorem Reps.map_str {G : Hp} : ∀ ys : List Str, Reps T G (ys.map D.str) (ys.map V.str)
  | [] => Reps.nil
  | y :: ys => Reps.cons Rep.str (Reps.map_str ys)
section
variable (ho : PE X o (tD T W A)) (he : PE X e (tD T W B)) (hs : starEach [e] X.env = [(false, eval e X.env)] := by rfl) (hbase : attributeBase o "split" X.env (eval o X.env) = eval o X.env := by rfl) (hline : (apos.endLine == pos.line) = true := by rfl)
include ho he hs hbase hline
theorem dn_split : PE X (.Call (.Attribute o "split" apos) [e] [] pos) (tD T W (m1T splF A B)) := by
  refine PE.imp (pe_split ho he hs hbase hline) fun _ _ _ h => tD_m1T ?_ h
  intro W σ G ρ H c a t u Q hh rt q
  unfold splF at q
  split at q
  · have := SRep.str_inv rt
    subst this
    split at q
    · rename_i b hk
      obtain ⟨k1, k2, k3⟩ := hk
      refine ⟨_, _, rfl, rfl, k1, k2, fun t ht => ?_⟩
      have st : Step G H (upd G t (.lst ((Txt.split a b).map V.str))) (upd H t (.lst ((Txt.split a b).map V.str))) := Step.new hh.ex ht
      exact q _ _ _ ρ st.g (List.prefix_refl _) (hh.step st) (Rep.lst upd_same (by simpa using k3) (Reps.map_str _))
    · exact q.elim
  · exact q.elim
theorem dn_splitC : PE X (.Call (.Attribute o "split" apos) [e] [] pos) (tD T W (m1T splC A B)) := by
  refine PE.imp (pe_split ho he hs hbase hline) fun _ _ _ h => tD_m1T ?_ h
  intro W σ G ρ H c a t u Q hh rt q
  unfold splC at q
  split at q
  · have := SRep.str_inv rt
    subst this
    split at q
    · rename_i b hk
      obtain ⟨k1, k2, k3⟩ := hk
      refine ⟨_, _, rfl, rfl, k1, k2, fun t ht => ?_⟩
      exact q _ _ G (ρ ++ [t]) (.refl _) (List.prefix_append _ _) (hh.newCell (x := .lst ((Txt.split a b).map D.str)) ht fun H' hH' => ⟨_, hH', by simpa using k3, Reps.map_str _⟩) ⟨t, by rw [← hh.len]; simp, rfl⟩
    · exact q.elim
  · exact q.elim
end
/-! join -/
def strsOf : List D → Option (List Str)
  | [] => some []
  | .str x :: r => (strsOf r).map (x :: ·)
  | _ :: _ => none
theorem strsOf_eq : ∀ {xs : List D} {ys : List Str}, strsOf xs = some ys → xs = ys.map D.str
  | [], ys, h => by cases h; rfl
  | x :: r, ys, h => by
    cases x with
    | str z =>
      unfold strsOf at h
      cases e : strsOf r with
      | none => rw [e] at h; cases h
      | some zs =>
        rw [e] at h
        cases h
        rw [strsOf_eq e]
        rfl
    | _ => cases h
theorem Reps.strs {G : Hp} : ∀ {ys : List Str} {vs : List V}, Reps T G (ys.map D.str) vs → vs = ys.map V.str
  | [], vs, r => r.nil_inv
  | y :: ys, vs, r => by
    obtain ⟨v, us, rfl, a, b⟩ := Reps.cons_inv r
    have := Rep.str_inv a
    subst this
    rw [Reps.strs b]
    rfl
def joinOk (a : Str) (ys : List Str) : Prop := (ys.map (·.length)).sum + ys.length * a.length ≤ 16777216
instance (a : Str) (ys : List Str) : Decidable (joinOk a ys) := inferInstanceAs (Decidable (_ ≤ _))
def joinF (a : Str) (t : S) (c : Cs) : R S := match deref t c with
  | some (.lst xs) => match strsOf xs with
    | some ys => if joinOk a ys then .ok (.d (.str (Txt.join a ys))) c else .bad
    | none => .bad
  | _ => .bad
theorem dn_join (hT : X.K = T.K) (ho : PE X o (tD T W A)) (he : PE X e (tD T W B)) (hs : starEach [e] X.env = [(false, eval e X.env)] := by rfl) (hbase : attributeBase o "join" X.env (eval o X.env) = eval o X.env := by rfl) (hline : (apos.endLine == pos.line) = true := by rfl) :
    PE X (.Call (.Attribute o "join" apos) [e] [] pos) (tD T W (m1T joinF A B)) := by
  refine PE.imp (pe_join ho he hs hbase hline) fun _ _ _ h => tD_m1T ?_ h
  intro W σ G ρ H c a t u Q hh rt q
  unfold joinF at q
  cases hd : deref t c with
  | none => simp only [hd] at q; exact q.elim
  | some d =>
    cases d with
    | lst xs =>
      simp only [hd] at q
      cases hx : strsOf xs with
      | none => simp only [hx] at q; exact q.elim
      | some ys =>
        simp only [hx] at q
        by_cases hk : joinOk a ys
        · rw [if_pos hk] at q
          obtain ⟨pq, us, rfl, sq, hl, r⟩ := deref_view hh rt hd
          rw [strsOf_eq hx] at r
          have := r.strs
          subst this
          exact ⟨_, pq, ys, rfl, rfl, .inl (SqL.of sq), hk, q _ H G ρ (.refl _) (List.prefix_refl _) hh SRep.str⟩
        · rw [if_neg hk] at q; exact q.elim
    | _ => simp only [hd] at q; exact q.elim
/-! ### str(x), int(x) -/
def strD : List D → Option D
  | [.int i] => if i.natAbs.log2 < 1920 then some (.str (toString i)) else none
  | [.str z] => some (.str z)
  | _ => none
theorem fresh_str : FreshN T strD (fun xs H Q => (∃ i : Int, xs = [.int i] ∧ i.natAbs.log2 < 1920 ∧ Q (.str (toString i)) H) ∨ ∃ z, xs = [.str z] ∧ Q (.str z) H) := by
  intro G H x d v Q e hx hd k
  unfold strD at hd
  split at hd
  · split at hd
    · rename_i hi
      cases hd
      obtain ⟨v, rfl, h⟩ := hx.one
      have := View.int_inv h; subst this
      exact .inl ⟨_, rfl, hi, k _ H G (Step.refl e) Rep.str⟩
    · cases hd
  · cases hd
    obtain ⟨v, rfl, h⟩ := hx.one
    have := View.str_inv h; subst this
    exact .inr ⟨_, rfl, k _ H G (Step.refl e) Rep.str⟩
  · cases hd
theorem dn_strc {B : MA} (hg : Gl X "str") (hm : X.mg "str" = none) (ha : PA X (e :: es) (tDA T W B)) (he : starEach (e :: es) X.env = (false, eval e X.env) :: starEach es X.env := by rfl) (hpl : (backTo pos (starEach es X.env)).any (·.1) = false := by rfl) : PE X (.Call (.Name "str" p) (e :: es) [] pos) (tD T W (mBlt (liftN strD) B)) :=
  dn_callTy ((call_str_int (X := X)).or SkE.call_str_str) (primN fresh_str) hg hm (by decide +kernel) ha (by decide) (by decide) he hpl
def intT : List D → Option D
  | [.int i] => some (.int i)
  | [.str z] => match PySem.intText? z with
    | some n => if z.length ≤ 640 then some (.int n) else none
    | none => none
  | _ => none
theorem fresh_intT : FreshN T intT (fun xs H Q => ((∃ i, xs = [.int i] ∧ Q (.int i) H) ∨ ∃ k, xs = [.bl k] ∧ Q (.int (if k then 1 else 0)) H) ∨ ∃ a n, xs = [.str a] ∧ PySem.intText? a = some n ∧ a.length ≤ 640 ∧ Q (.int n) H) := by
  intro G H x d v Q e hx hd k
  unfold intT at hd
  split at hd
  · cases hd
    obtain ⟨v, rfl, h⟩ := hx.one
    have := View.int_inv h; subst this
    exact .inl (.inl ⟨_, rfl, k _ H G (Step.refl e) Rep.int⟩)
  · rename_i z
    cases hz : PySem.intText? z with
    | none => simp only [hz] at hd; cases hd
    | some n =>
      simp only [hz] at hd
      split at hd
      · rename_i hl
        cases hd
        obtain ⟨v, rfl, h⟩ := hx.one
        have := View.str_inv h; subst this
        exact .inr ⟨_, n, rfl, hz, hl, k _ H G (Step.refl e) Rep.int⟩
      · cases hd
  · cases hd
theorem dn_intT {B : MA} (hg : Gl X "int") (hm : X.mg "int" = none) (ha : PA X (e :: es) (tDA T W B)) (he : starEach (e :: es) X.env = (false, eval e X.env) :: starEach es X.env := by rfl) (hpl : (backTo pos (starEach es X.env)).any (·.1) = false := by rfl) : PE X (.Call (.Name "int" p) (e :: es) [] pos) (tD T W (mBlt (liftN intT) B)) :=
  dn_callTy ((call_int1 (X := X)).or call_int_str) (primN fresh_intT) hg hm (by decide +kernel) ha (by decide) (by decide) he hpl
end
end Dn

end
section
set_option maxHeartbeats 4000000
/-! Dn26: signs of a text, in a text, starred displays. -/
namespace Dn
open PySem PySem.Spec PyProof.Rows L2
section
variable {X : Cx} {T : Tb} {W : WX} {a b o e : Expr} {es : List Expr} {A B : M} {pos p p2 p3 apos : Pos}
/-! ### the signs of a text, walked -/
def signs (z : Str) : List D := z.cps.toList.map fun c => D.str ⟨#[c]⟩
def itemsT : S → Cs → R Src
  | .d (.str z), c => if z.length ≤ sizeLine then .ok (.xs ((signs z).map S.d)) c else .bad
  | s, c => items s c
def iSeqT (A : M) : MI := fun δ c => (A δ c).bind itemsT
theorem signs_len (z : Str) : (signs z).length = z.cps.size := by simp [signs]
theorem walk_str {G : Hp} {ρ : List Addr} {z : Str} : Walk T G ρ ((signs z).map S.d) (Its z) := by
  refine ⟨fun i H e hi => by rw [List.length_map, signs_len] at hi; exact hi, fun i H e hi => by rw [List.length_map, signs_len] at hi; exact hi, fun i H G1 ρ1 x H' e1 pr e2 y d hd => ?_⟩
  obtain ⟨rfl, c, hc, rfl⟩ := y
  refine ⟨G1, Step.refl e2, ?_⟩
  unfold signs at hd
  rw [List.getElem?_map, List.getElem?_map, Array.getElem?_toList, hc] at hd
  cases hd
  exact SRep.str
theorem di_seqT {tg l : Expr} (hT : X.K = T.K) (hl : PE X l (tD T W A)) : PI X tg l (tI T W (iSeqT A)) := by
  refine PI.imp (PI.or (di_seq hT hl) (pi_str hl)) fun σ H Q ⟨δ, c, G, ρ, hs, hh, p⟩ => ?_
  unfold iSeqT at p
  have old : ∀ s c', A δ c = .ok s c' → itemsT s c' = items s c' → tI T W (iSeq A) σ H Q := fun s c' hA he => by
    refine ⟨δ, c, G, ρ, hs, hh, ?_⟩
    unfold iSeq
    rw [hA] at p ⊢
    have p : Post _ T W σ G ρ (itemsT s c') _ := p
    rw [he] at p
    exact p
  cases hA : A δ c with
  | bad => rw [hA] at p; exact p.elim
  | ex k xs c' =>
    rw [hA] at p
    exact .inl ⟨δ, c, G, ρ, hs, hh, by unfold iSeq; rw [hA]; exact p⟩
  | ok s c' =>
    cases s with
    | c n => exact .inl (old _ _ hA rfl)
    | x _ _ => exact .inl (old _ _ hA rfl)
    | d x =>
      cases x with
      | str z =>
        rw [hA] at p
        have p : Post (relI T) T W σ G ρ (if z.length ≤ sizeLine then .ok (.xs ((signs z).map S.d)) c' else .bad) Q := p
        by_cases hz : z.length ≤ sizeLine
        · rw [if_pos hz] at p
          refine .inr ⟨δ, c, G, ρ, hs, hh, ?_⟩
          rw [hA]
          intro v H1 G1 ρ1 e1 p1 h1 r1
          have := SRep.str_inv r1
          subst this
          exact ⟨z, rfl, p _ H1 G1 ρ1 e1 p1 h1 ⟨walk_str, by rw [List.length_map, signs_len]; exact hz⟩⟩
        · rw [if_neg hz] at p; exact p.elim
      | _ => exact .inl (old _ _ hA rfl)
/-! ### a sign in a text -/
def inX (neg : Bool) (x y : D) : Option D := match y with
  | .str z => match x with
    | .str s => match s.cps.toList with
      | [c] => some (.bl (if neg then !decide (c ∈ z.cps.toList) else decide (c ∈ z.cps.toList)))
      | _ => none
    | _ => none
  | y => inP neg x y
theorem one_sign {s : Str} {c : Nat} (h : s.cps.toList = [c]) : s = ⟨#[c]⟩ := by
  obtain ⟨cps⟩ := s
  congr 1
  apply Array.ext'
  simpa using h
theorem fresh_inX {neg : Bool} {r : R2} (h : Fresh2 T (inP neg) r) : Fresh2 T (inX neg) (fun x y H Q => r x y H Q ∨ ∃ (c : Nat) (z : Str), x = .str ⟨#[c]⟩ ∧ y = .str z ∧ Q (.bl (if neg then !decide (c ∈ z.cps.toList) else decide (c ∈ z.cps.toList))) H) := by
  intro G H x y d v u Q e hx hy hd k
  unfold inX at hd
  split at hd
  · rename_i z
    split at hd
    · rename_i s
      split at hd
      · rename_i c hc
        cases hd
        have := View.str_inv hx; subst this
        have := View.str_inv hy; subst this
        exact .inr ⟨c, z, by rw [one_sign hc], rfl, k _ H G (Step.refl e) Rep.bl⟩
      · cases hd
    · cases hd
  · exact .inl (h G H x y d v u Q e hx hy hd k)
section
variable {k : Nat} (hT : X.K = T.K) (hr : Room (k + 1) X.A) (ha : PE X a (tD T W A)) (hb : PE X b (tD T W B))
include hT hr ha hb
theorem dn_inX (hm : behindInMarks .In b = false := by rfl) : PE X (.Compare a [.In] [b] pos) (tD T W (mBin (lift2 (inX false)) A B)) :=
  dn_cmp (OpR.or (by rw [← hT]; exact (op_inD (by have := hr.un; omega)).or op_in_seq) op_inS) (prim2 (fresh_inX fresh_in)) ha hb hm
theorem dt_inX (hm : behindInMarks .In b = false := by rfl) : PT X (.Compare a [.In] [b] pos) (tDT T W (mTB (mBin (lift2 (inX false)) A B))) :=
  dt_cmp (OpR.or (by rw [← hT]; exact (op_inD (by have := hr.un; omega)).or op_in_seq) op_inS) (prim2 (fresh_inX fresh_in)) ha hb hm
theorem dn_notInX (hm : behindInMarks .NotIn b = false := by rfl) : PE X (.Compare a [.NotIn] [b] pos) (tD T W (mBin (lift2 (inX true)) A B)) :=
  dn_cmp (OpR.or (by rw [← hT]; exact (op_notInD (by have := hr.un; omega)).or op_notIn_seq) op_notInS) (prim2 (fresh_inX fresh_notIn)) ha hb hm
theorem dt_notInX (hm : behindInMarks .NotIn b = false := by rfl) : PT X (.Compare a [.NotIn] [b] pos) (tDT T W (mTB (mBin (lift2 (inX true)) A B))) :=
  dt_cmp (OpR.or (by rw [← hT]; exact (op_notInD (by have := hr.un; omega)).or op_notIn_seq) op_notInS) (prim2 (fresh_inX fresh_notIn)) ha hb hm
end
/-! ### *xs in a display -/
def starF (s : S) (c : Cs) : Option (List D) := match deref s c with
  | some (.lst xs) => some xs
  | some (.tup xs) => some xs
  | _ => none
def mStarC (A : M) (B : MA) : MA := fun δ c => (A δ c).bind fun s c => match starF s c with
  | some xs => (B δ c).bind fun ss c => .ok (xs.map S.d ++ ss) c
  | none => .bad
theorem SReps.datas {G : Hp} {ρ : List Addr} : ∀ {xs : List D} {vs : List V}, Reps T G xs vs → SReps T G ρ (xs.map S.d) vs
  | [], vs, r => by cases r.nil_inv; exact .nil
  | x :: xs, vs, r => by obtain ⟨v, us, rfl, a, b⟩ := r.cons_inv; exact .cons a (SReps.datas b)
theorem da_star {B : MA} (hT : X.K = T.K) (he : PE X e (tD T W A)) (hr : PA X es (tDA T W B)) (hs : starEach (.Starred e p :: es) X.env = (true, eval e X.env) :: starEach es X.env := by rfl) : PA X (.Starred e p :: es) (tDA T W (mStarC A B)) := by
  refine PA.imp (StX.pa_star he hr hs) fun σ H Q ⟨δ, c, G, ρ, hs, hh, p⟩ => ?_
  refine ⟨δ, c, G, ρ, hs, hh, (Post.bind (rel := SRep T) p).imp ?_⟩
  rintro v H1 ⟨s, c1, G1, ρ1, e1, p1, h1, r1, q1⟩
  unfold starF at q1
  have go : ∀ {xs : List D} {q : Addr} {vs : List V}, v = .ref q → (SqT X.K H1 q vs ∨ SqL X.K H1 q vs) → Reps T G1 xs vs → Post (SReps T) T W σ G1 ρ1 ((B δ c1).bind fun ss c => .ok (xs.map S.d ++ ss) c) Q → ∃ p xs, v = V.ref p ∧ (SqT X.K H1 p xs ∨ SqL X.K H1 p xs) ∧ tDA T W B σ H1 fun ys H2 => Q (xs ++ ys) H2 := by
    intro xs q vs ev hq r q2
    refine ⟨q, vs, ev, hq, δ, c1, G1, ρ1, hs.mono e1 p1, h1, (Post.bind (rel := SReps T) q2).imp ?_⟩
    rintro us H2 ⟨ss, c2, G2, ρ2, e2, p2, h2, r2, q3⟩
    exact q3 _ H2 G2 ρ2 (.refl _) (List.prefix_refl _) h2 ((SReps.datas (Reps.mono e2 _ _ r)).append r2)
  cases hd : deref s c1 with
  | none => simp only [hd] at q1; exact q1.elim
  | some d =>
    cases d with
    | lst xs =>
      simp only [hd] at q1
      obtain ⟨q, us, ev, sq, _, r⟩ := deref_view h1 r1 hd
      exact go ev (.inr (by rw [hT]; exact SqL.of sq)) r q1
    | tup xs =>
      simp only [hd] at q1
      obtain ⟨q, us, ev, sq, _, r⟩ := View.tup_inv (deref_view h1 r1 hd)
      exact go ev (.inl (by rw [hT]; exact SqT.of (h1.ex _ _ sq))) r q1
    | _ => simp only [hd] at q1; exact q1.elim
end
end Dn

end
section
set_option maxHeartbeats 4000000
/-! Dn27: extend, [::-1], lists that hold cells, {'a': x}. -/
namespace Dn
open PySem PySem.Spec PyProof.Rows L2
section
variable {X : Cx} {T : Tb} {W : WX} {a b o e : Expr} {es : List Expr} {A B : M} {pos p p1 p2 p3 apos : Pos}
/-! ### xs.extend(ys), xs a cell -/
def extC : S → List S → Cs → R S
  | .c n, [t], c => match c[n]? with
    | some (.lst acc) => match deref t c with
      | some (.lst ys) => if acc.length + ys.length ≤ sizeLine then .ok (.d .non) (c.set n (.lst (acc ++ ys))) else .bad
      | _ => .bad
    | _ => .bad
  | _, _, _ => .bad
def mExtend (A : M) (B : MA) : M := fun δ c => (A δ c).bind fun o c => match o with
  | .c n => match c[n]? with
    | some (.lst _) => (B δ c).bind fun ss c => extC o ss c
    | _ => .bad
  | _ => .bad
theorem dn_extend {B : MA} (ho : PE X o (tD T W A)) (ha : PA X (e :: es) (tDA T W B)) (hbase : attributeBase o "extend" X.env (eval o X.env) = eval o X.env := by rfl)
    (hfew : ((backTo pos (starEach (e :: es) X.env)).all (fun x => !x.1) && (backToKw pos (keywordEach [] X.env)).all (fun x => x.1.isSome)
      && decide ((e :: es).length + ([] : List Keyword).length + (if ([] : List Keyword).isEmpty then 0 else 1) < 30)) = true := by rfl)
    (hline : (apos.endLine == pos.line) = true := by rfl) (hs : starEach (e :: es) X.env = (false, eval e X.env) :: starEach es X.env := by rfl) (hplain : (backTo pos (starEach es X.env)).any (·.1) = false := by rfl) : PE X (.Call (.Attribute o "extend" apos) (e :: es) [] pos) (tD T W (mExtend A B)) := by
  refine PE.imp (pe_bm PySem.F.plainAttrs_list PySem.F.slot_list_extend PySem.F.type_list_extend mt_extend ho ha hbase hfew hline hs hplain) fun σ H Q ⟨δ, c, G, ρ, hs, hh, p⟩ => ?_
  refine ⟨δ, c, G, ρ, hs, hh, (Post.bind (rel := SRep T) p).imp ?_⟩
  rintro v H1 ⟨s, c1, G1, ρ1, e1, p1, h1, r1, q1⟩
  cases s with
  | d _ => exact q1.elim
  | x _ _ => exact q1.elim
  | c n =>
    obtain ⟨pa, hpa, rfl⟩ := r1
    cases hc : c1[n]? with
    | none => simp only [hc] at q1; exact q1.elim
    | some cc =>
      cases cc with
      | lst acc0 =>
        simp only [hc] at q1
        obtain ⟨_, vs0, ho0, _⟩ := h1.at_ n pa _ hpa hc
        refine ⟨.inl ⟨rfl, _, SqL.of ho0⟩, δ, c1, G1, ρ1, hs.mono e1 p1, h1, (Post.bind (rel := SReps T) q1).imp ?_⟩
        rintro us H2 ⟨ss, c2, G2, ρ2, e2, p2, h2, r2, q2⟩
        cases r2 with
        | nil => exact q2.elim
        | cons ra rb =>
          cases rb with
          | cons _ _ => exact q2.elim
          | nil =>
            rename_i t u
            unfold extC at q2
            simp only at q2
            cases hc2 : c2[n]? with
            | none => simp only [hc2] at q2; exact q2.elim
            | some cc =>
              cases cc with
              | lst acc =>
                simp only [hc2] at q2
                cases hd : deref t c2 with
                | none => simp only [hd] at q2; exact q2.elim
                | some d =>
                  cases d with
                  | lst ys =>
                    simp only [hd] at q2
                    by_cases hl : acc.length + ys.length ≤ sizeLine
                    · rw [if_pos hl] at q2
                      have hpa2 := pre_get p2 hpa
                      obtain ⟨_, vs, hv, hvl, rv⟩ := h2.at_ n pa _ hpa2 hc2
                      obtain ⟨qb, us, rfl, sq, hul, ru⟩ := deref_view h2 ra hd
                      refine ⟨pa, qb, vs, us, rfl, rfl, hv, sq, by rw [rv.length, ru.length]; exact hl, ?_⟩
                      exact q2 _ _ G2 ρ2 (.refl _) (List.prefix_refl _) (h2.cell (x := .lst (acc ++ ys)) hpa2 fun H' hH' _ => ⟨vs ++ us, hH', by rw [List.length_append]; exact hl, rv.append ru⟩) SRep.non
                    · rw [if_neg hl] at q2; exact q2.elim
                  | _ => simp only [hd] at q2; exact q2.elim
              | _ => simp only [hc2] at q2; exact q2.elim
      | _ => simp only [hc] at q1; exact q1.elim
/-! ### xs[::-1] -/
def revS (z : Str) : Str := ⟨((Builtin.Str.strSliceIndices none none (-1) z.length).filterMap (z.cps[·]?)).toArray⟩
def revF (s : S) (c : Cs) : R S := match deref s c with
  | some (.lst xs) => .ok (.d (.lst xs.reverse)) c
  | some (.str z) => if z.length ≤ sizeLine then .ok (.d (.str (revS z))) c else .bad
  | _ => .bad
def mRev (A : M) : M := fun δ c => (A δ c).bind revF
def tRevS (te : TE) : TE := fun σ H Q => te σ H fun x H1 => ∃ z, x = .str z ∧ z.length ≤ sizeLine ∧ Q (.str (revS z)) H1
theorem revS_len (z : Str) : (revS z).length ≤ z.length := by
  show (((Builtin.Str.strSliceIndices none none (-1) z.length).filterMap (z.cps[·]?)).toArray).size ≤ z.length
  rw [List.size_toArray]
  exact Nat.le_trans (List.length_filterMap_le _ _) (sliceIndicesBy_le _ _ _ (by decide) z.length)
theorem pe_revS {te : TE} {k : Nat} (he : PE X e te) : PE X (.Subscript e (.Slice none none (some (.UnaryOp .USub (.Constant (.int 1) k p1) p2)) p3) pos) (tRevS te) := by
  refine ⟨fun pins s σ H Q I h => ?_⟩
  refine Subscript_ (thn (he.run pins s σ H _ I h) fun v s1 ⟨x, H1, I1, r1, z, ex, hz, q⟩ => ?_)
  subst ex
  obtain ⟨t, rfl⟩ := r1
  have hst : PO X (some (.UnaryOp .USub (.Constant (.int 1) k p1) p2)) (tPart (tUn (rU fun i => .int (-i)) (tC (.int 1)))) := po_some (pe_un un_neg pe_int)
  refine wpAny_Slice (thn (po_none.run pins s1 σ H1 (fun o H2 => o = none ∧ H2 = H1) I1 ⟨rfl, rfl⟩) fun vl s2 ⟨l, H2, I2, pl, el, e2⟩ => ?_)
  subst el e2
  refine thn (po_none.run pins s2 σ H2 (fun o H3 => o = none ∧ H3 = H2) I2 ⟨rfl, rfl⟩) fun vu s3 ⟨u, H3, I3, pu, eu, e3⟩ => ?_
  subst eu e3
  refine thn (hst.run pins s3 σ H3 (fun o H4 => o = some (-1) ∧ H4 = H3) I3 ⟨1, rfl, -1, rfl, rfl, rfl⟩) fun vs s4 ⟨o, H4, I4, ps, eo, e4⟩ => ?_
  subst eo e4
  have I5 : Inv X pins σ H4 { s4 with heap := s4.heap.push { cls := .type "slice", data := .fields #[vl, vu, vs] } } := I4.kept (t' := s4.toks) fun b ob q => Heap.get?_push_of_some _ q
  obtain ⟨l1, rfl, el⟩ := IsPart.raw pl
  obtain ⟨u1, rfl, eu⟩ := IsPart.raw pu
  obtain ⟨st1, rfl, es⟩ := IsPart.raw ps
  have el : l1 = none := by cases l1 <;> simp_all
  have eu : u1 = none := by cases u1 <;> simp_all
  subst el eu
  show wpAny (model X.prog X.w) X.A (subscriptTail e (.Slice none none (some (.UnaryOp .USub (.Constant (.int 1) k p1) p2)) p3) (.str z t) (.ref s4.heap.objs.size)) (EP X pins σ Q) X.xe { s4 with heap := s4.heap.push { cls := .type "slice", data := .fields #[partValue none, partValue none, partValue st1] } }
  refine tail_any (ops := [.str z t, .ref s4.heap.objs.size]) (typeIs_str _ _ _) F.slot_str_getitem.lookup ?_ (by with_unfolding_all rfl)
  cases st1 with
  | none => cases es
  | some q1 =>
    obtain ⟨i, ti⟩ := q1
    have hi : i = -1 := by simpa using es
    subst hi
    refine wpAny_getItem_str_slice (l := none) (u := none) (st := some (-1, ti)) ⟨_, Heap.get?_push_size _ rfl, rfl, rfl⟩ rfl ?_
    show Made.post (if ((-1 : Int) == 1 && (Builtin.Str.strSliceIndices none none (-1) z.length).length == z.length) = true then Made.val (.str z t) else Made.str (revS z)) (EP X pins σ Q) _
    rw [if_neg (by simp)]
    exact ⟨Nat.le_trans (revS_len z) hz, .str _, H4, I5.tok _, ⟨_, rfl⟩, q⟩
theorem Reps.reverse {G : Hp} : ∀ {xs : List D} {vs : List V}, Reps T G xs vs → Reps T G xs.reverse vs.reverse
  | [], vs, r => by cases r.nil_inv; exact Reps.nil
  | x :: xs, vs, r => by
    obtain ⟨v, us, rfl, a, b⟩ := r.cons_inv
    rw [List.reverse_cons, List.reverse_cons]
    exact (Reps.reverse b).append (Reps.cons a Reps.nil)
theorem dn_rev {k : Nat} (hT : X.K = T.K) (he : PE X e (tD T W A)) : PE X (.Subscript e (.Slice none none (some (.UnaryOp .USub (.Constant (.int 1) k p1) p2)) p3) pos) (tD T W (mRev A)) := by
  refine PE.imp (PE.or (pe_revL he) (pe_revS he)) fun σ H Q ⟨δ, c, G, ρ, hs, hh, p⟩ => ?_
  cases hA : A δ c with
  | bad => unfold mRev at p; rw [hA] at p; exact p.elim
  | ex k xs c' => unfold mRev at p; rw [hA] at p; exact .inl ⟨δ, c, G, ρ, hs, hh, by rw [hA]; exact p⟩
  | ok s c' =>
    unfold mRev at p
    rw [hA] at p
    have p : Post (SRep T) T W σ G ρ (revF s c') Q := p
    unfold revF at p
    cases hd : deref s c' with
    | none => simp only [hd] at p; exact p.elim
    | some d =>
      cases d with
      | lst xs =>
        simp only [hd] at p
        refine .inl ⟨δ, c, G, ρ, hs, hh, ?_⟩
        rw [hA]
        intro v H1 G1 ρ1 e1 p1 h1 r1
        obtain ⟨q, vs, rfl, sq, hl, rr⟩ := deref_view h1 r1 hd
        refine ⟨q, vs, rfl, by rw [hT]; exact SqL.of sq, fun t ht => ?_⟩
        have st : Step G1 H1 (upd G1 t (.lst vs.reverse)) (upd H1 t (.lst vs.reverse)) := Step.new h1.ex ht
        exact p _ _ _ ρ1 (e1.trans st.g) p1 (h1.step st) (Rep.lst upd_same (by simpa using hl) (Reps.mono st.g _ _ (Reps.reverse rr)))
      | str z =>
        simp only [hd] at p
        by_cases hz : z.length ≤ sizeLine
        · rw [if_pos hz] at p
          refine .inr ⟨δ, c, G, ρ, hs, hh, ?_⟩
          rw [hA]
          intro v H1 G1 ρ1 e1 p1 h1 r1
          have := View.str_inv (deref_view h1 r1 hd)
          subst this
          exact ⟨z, rfl, hz, p _ H1 G1 ρ1 e1 p1 h1 SRep.str⟩
        · rw [if_neg hz] at p; exact p.elim
      | _ => simp only [hd] at p; exact p.elim
/-! ### a list with cells -/
def mkLstC (ss : List S) (c : Cs) : R S := if noXs ss = true ∧ ss.length ≤ sizeLine then .ok (.c c.length) (c ++ [.lS ss]) else .bad
def mLstC (B : MA) : M := fun δ c => (B δ c).bind mkLstC
theorem dn_lstC {B : MA} (h : PA X es (tDA T W B)) : PE X (.List es pos) (tD T W (mLstC B)) := by
  refine PE.imp (pe_lst h) fun σ H Q ⟨δ, c, G, ρ, hs, hh, p⟩ => ?_
  refine ⟨δ, c, G, ρ, hs, hh, (Post.bind (rel := SReps T) p).imp ?_⟩
  rintro vs H1 ⟨ss, c1, G1, ρ1, e1, p1, h1, r1, q1⟩
  unfold mkLstC at q1
  by_cases hk : noXs ss = true ∧ ss.length ≤ sizeLine
  · rw [if_pos hk] at q1
    refine ⟨by rw [r1.length]; exact hk.2, fun t ht => ?_⟩
    have h2 := h1.newCell (x := .lS ss) (ob := .lst vs) ht (fun H' hH' => ⟨vs, hH', hk.2, noXs_reps hk.1 r1⟩)
    exact q1 _ _ G1 (ρ1 ++ [t]) (.refl _) (List.prefix_append _ _) h2 ⟨t, by rw [← h1.len]; simp, rfl⟩
  · rw [if_neg hk] at q1; exact q1.elim
/-! ### {'a': x}, x a local name -/
def mDctV (k : Str) (i : Nat) : M := fun δ c => match δ[i]? with
  | some (some (.d x)) => .ok (.d (.dct [.inr k] [x])) c
  | _ => .bad
theorem dn_dctV {k : Str} {i j : Nat} {x : Str} {p1 p2} (hN : X.N[i]? = some x) (hv : Vis X.env.scope x) (hd : (x == ("__debug__" : Str)) = false := by decide) (hcd : (x == ("__classdict__" : Str)) = false := by decide) : PE X (.Dict [some (.Constant (.str k) j p1)] [.Name x p2] pos) (tD T W (mDctV k i)) := by
  refine PE.imp (pe_disp (pps_cons pe_str (pe_var hN hv hd hcd) pps_nil) rfl rfl (by simp) (by simp)) fun σ H Q ⟨δ, c, G, ρ, hs, hh, p⟩ => ?_
  unfold mDctV at p
  split at p
  · rename_i d hd
    obtain ⟨v, hv, r⟩ := hs.at_ i _ hd
    intro q hq
    refine ⟨v, hv, upd_same, [(.inr k, v)], rfl, by simp, ?_⟩
    have eh : upd (upd H q (.dK [])) q (.dK (mergeK [] [(Sum.inr k, v)])) = upd H q (.dK [(Sum.inr k, v)]) := by
      rw [upd_upd]
      rfl
    rw [eh]
    have st := Step.new (o := .dK [((Sum.inr k : Key), v)]) hh.ex hq
    exact p _ _ _ ρ st.g (List.prefix_refl _) (hh.step st) (Rep.dct (ks := [Sum.inr k]) upd_same rfl (Reps.cons (Rep.mono st.g _ _ r) Reps.nil))
  · exact p.elim
end
end Dn
namespace Dn
open PySem PySem.Spec PyProof.Rows L2
theorem dn_gstr {X : Cx} {T : Tb} {W : WX} {x : Str} {z : Str} {pos : Pos} (hg : Gl X x) (hm : ∃ t, X.mg x = some (.str z t)) (hd : (x == ("__debug__" : Str)) = false := by decide) : PE X (.Name x pos) (tD T W (mC (.str z))) := by
  obtain ⟨t, hm⟩ := hm
  exact dn_glob (v := .str z) hg hm ⟨t, rfl⟩ (fun _ => Rep.str) hd
end Dn
namespace Dn
open PySem PySem.Spec PyProof.Rows L2
section
variable {X : Cx} {T : Tb} {W : WX} {a b : Expr} {pos : Pos}
/-- a, b = x, y by a tuple -/
theorem ds_parT {i j : Nat} {x y : Str} {B : MA} {px py pt : Pos} {kt k2 pt2} (hc : X.calm = true) (hN : X.N.Nodup) (hi : X.N[i]? = some x) (hj : X.N[j]? = some y) (hx : Loc X.env.scope x) (hy : Loc X.env.scope y) (ha : PA X [a, b] (tDA T W B))
    (hw : swappedStores [.Tuple [.Name x px, .Name y py] kt pt] (.Tuple [a, b] k2 pt2) X.env = pure none := by rfl) (hs : swapsWithSole [.Tuple [.Name x px, .Name y py] kt pt] (.Tuple [a, b] k2 pt2) pos.line X.env = pure false := by rfl)
    (hfx : X.fn x = true ∨ X.env.scope.names.lookup x = some .local := by first | exact .inl rfl | exact .inr rfl | assumption) (hfy : X.fn y = true ∨ X.env.scope.names.lookup y = some .local := by first | exact .inl rfl | exact .inr rfl | assumption)
    (h1 : (assignEach [.Tuple [.Name x px, .Name y py] kt pt] X.env).map (·.2) = [assign (.Tuple [.Name x px, .Name y py] kt pt) X.env] := by rfl)
    (ha1 : (assignEach [.Name x px, .Name y py] X.env).map (·.2) = assign (.Name x px) X.env :: (assignEach [.Name y py] X.env).map (·.2) := by rfl) (ha2 : (assignEach [.Name y py] X.env).map (·.2) = assign (.Name y py) X.env :: (assignEach [] X.env).map (·.2) := by rfl)
    (hn : (assignEach [.Name x px, .Name y py] X.env).length = 2 := by rfl) (hst : (assignEach [.Name x px, .Name y py] X.env).findIdx? (·.1) = none := by rfl) :
    PS X (.Assign [.Tuple [.Name x px, .Name y py] kt pt] (.Tuple [a, b] k2 pt2) pos) (tS T W (sPar i j B)) := by
  refine PS.imp (ps_asg (pe_tup ha) (pg_tup hc (pgs_cons (pg_name hN hi hx hfx) (pgs_cons (pg_name hN hj hy hfy) pgs_nil ha2) ha1) hn hst) hs hw h1) fun E σ H ⟨δ, c, G, ρ, hs, hh, p⟩ => ?_
  refine ⟨δ, c, G, ρ, hs, hh, (PostS.andS (rel := SReps T) hs p).imp ?_⟩
  rintro v H1 ⟨ss, c1, G1, ρ1, e1, p1, h1, r1, q1⟩
  cases r1 with
  | nil => exact q1.elim
  | cons ra rb =>
    cases rb with
    | nil => exact q1.elim
    | cons rb rc =>
      cases rc with
      | cons _ _ => exact q1.elim
      | nil =>
        refine ⟨by have := sizeLine_eq; simp; omega, fun t ht => ⟨t, _, rfl, SqT.of upd_same, rfl, _, _, rfl, _, _, rfl, rfl, ?_⟩⟩
        exact q1 _ _ G1 ρ1 (.refl _) (List.prefix_refl _) (((hs.mono e1 p1).set i ra).set j rb) (h1.grow (Ex.new ht))
end
end Dn

end
section
set_option maxHeartbeats 1000000
/-! Dn28: a generator expression handed to all or any, whose element may call defs. -/
namespace Dn
open PySem PySem.Spec PyProof.Rows L2

/-- the generator's scope, over the def's names: its own name x at i, captured ones -/
structure GenOk (N : List Str) (sc scope : Scope) (x : Str) (i : Nat) : Prop where
  kind : scope.kind = .function
  co : scope.isCoroutine = false
  cell : ∀ y ∈ scope.names, y.2 ≠ .cell
  dot : scope.names.lookup (".0" : Str) = some NameKind.local
  loc : scope.names.lookup x = some .local
  ix : N[i]? = some x
  own : ∀ y ∈ scope.names, y.2 = .local → y.1 = x ∨ y.1 ∉ N
  free : ∀ y ∈ scope.names, y.2 = .free → sc.names.lookup y.1 = some .cell ∨ sc.names.lookup y.1 = some .free
def genB (N : List Str) (sc scope : Scope) (x : Str) (i : Nat) : Bool :=
  decide (scope.kind = .function) && !scope.isCoroutine && (scope.names.all fun y => !decide (y.2 = .cell) && (!decide (y.2 = .local) || decide (y.1 = x) || !decide (y.1 ∈ N)) && (!decide (y.2 = .free) || decide (sc.names.lookup y.1 = some .cell) || decide (sc.names.lookup y.1 = some .free)))
    && decide (scope.names.lookup (".0" : Str) = some NameKind.local) && decide (scope.names.lookup x = some .local) && decide (N[i]? = some x)
theorem genOk_by {N : List Str} {sc scope : Scope} {x : Str} {i : Nat} (h : genB N sc scope x i = true) : GenOk N sc scope x i := by
  unfold genB at h
  simp only [Bool.and_eq_true, Bool.or_eq_true, Bool.not_eq_true', decide_eq_true_eq, decide_eq_false_iff_not, List.all_eq_true] at h
  obtain ⟨⟨⟨⟨⟨h1, h2⟩, h3⟩, h4⟩, h5⟩, h6⟩ := h
  refine ⟨h1, h2, fun y hy => (h3 y hy).1.1, h4, h5, h6, fun y hy e => ?_, fun y hy e => ?_⟩
  · rcases (h3 y hy).1.2 with (z | z) | z
    · exact absurd e z
    · exact .inl z
    · exact .inr z
  · rcases (h3 y hy).2 with (z | z) | z
    · exact absurd e z
    · exact .inl z
    · exact .inr z
/-- the context of the generator's body: made at s with H known, its iterator's objects at fp -/
abbrev genCx (X : Cx) (A : Around) (s : Shared) (H : Hp) (cenv : Env) (fp : List Addr) : Cx :=
  { X with A := A, s_0 := s, H_0 := H, env := cenv, outer := X.stack, stack := cenv :: X.stack, ex := fp, fn := fun _ => false, calm := true, pn := [], xe := fun _ _ => False }
section
variable {X : Cx} {pins : List (Addr × Obj)} {σ : L2.St} {H : Hp} {s : Shared}
theorem gen_start {A : Around} {scope : Scope} {code : Value} {x : Str} {i : Nat} {fp : List Addr} {h' : Heap} {g' : Array GenState} {tk : Nat} {m : Str → Option Value} (I : Inv X pins σ H s) (ok : GenOk X.N X.env.scope scope x i) (hN : X.N.Nodup)
    (hA : A.handled = none) (hfr : A.frames = some (genEnv scope (cloFrom X.env.cells scope.names []) s.heap.objs.size code builtinsNs X.env :: X.stack)) (hfp : ∀ b ∈ fp, FpOk X pins H b ∧ b < s.heap.objs.size)
    (kp : ∀ b o, s.heap.get? b = some o → h'.get? b = some o) (hn : h'.Ns s.heap.objs.size m) (hg : AllBare g') :
    Inv (genCx X A s H (genEnv scope (cloFrom X.env.cells scope.names []) s.heap.objs.size code builtinsNs X.env) fp) [] (wipe σ [i]) H { s with heap := h', gens := g', toks := tk } := by
  have hfree : ∀ y ∈ scope.names, y.2 = .free → ∃ c, X.env.cells.lookup y.1 = some c := fun y hy e => by
    rcases ok.free y hy e with k | k
    · exact I.ok.has _ (.inl k)
    · exact I.ok.has _ (.inr k)
  have cm : ∀ {y c}, (cloFrom X.env.cells scope.names []).lookup y = some c → X.env.cells.lookup y = some c := fun {y c} e => by
    rcases cloFrom_mem (PySem.mem_of_lookup e) with hm | ⟨h1, h2⟩
    · cases hm
    · obtain ⟨c1, hc⟩ := hfree _ h1 rfl
      have hc : X.env.cells.lookup y = some c1 := hc
      have e2 : c = c1 := by
        rw [h2, hc] <;> rfl
      rw [e2]
      exact hc
  have look : ∀ {y}, scope.names.lookup y = some .free → ∃ c, (cloFrom X.env.cells scope.names []).lookup y = some c := fun {y} hl =>
    mem_lookup (cloFrom_has (cells := X.env.cells) (acc := []) (PySem.mem_of_lookup hl))
  refine ⟨⟨I.ok.mod, ok.kind, I.ok.glob, rfl, Nat.le_refl _, fun y z c e1 e2 => I.ok.inj y z c (cm e1) (cm e2), fun y hy => ?_, fun y c z _ => ?_, fun _ => hA, hfr, .inr ⟨rfl, rfl⟩, fun b hb => ⟨Nat.ne_of_lt (hfp b hb).2, fun y c e => (hfp b hb).1.2.2.2.2.1 y c (cm e)⟩,
      I.bs, Nat.le_trans I.ok.bsz I.sz, fun b o e hb => ?_, fun b hb z => ?_, I.stack, I.stkFree⟩,
    rfl, hg, Un.kept kp, ⟨m, hn, fun j y v e1 e2 e3 => ?_⟩, fun y c e => ?_, I.hok.fresh (Nat.le_refl _), fun y c e => I.freeC y c (cm e), fun p hp => absurd (show p ∈ ([] : List (Addr × Obj)) ++ [] from hp) (by simp), I.hok.kept kp, by rw [wipe_length]; exact I.len⟩
  · have hy : scope.names.lookup y = some .cell ∨ scope.names.lookup y = some .free := hy
    rcases hy with hy | hy
    · exact absurd rfl (ok.cell _ (PySem.mem_of_lookup hy))
    · exact look hy
  · have z : false = true := z
    cases z
  · rcases (hfp b hb).1.2.2.2.1 with z | z
    · exact I.ok.noex b o e z
    · exact absurd (Nat.lt_of_lt_of_le (Heap.lt_size e) (Nat.le_trans I.ok.bsz z)) (Nat.lt_irrefl _)
  · rcases List.mem_cons.mp (I.stkSub b z) with z | z
    · exact (hfp b hb).1.2.1 z
    · exact (hfp b hb).1.2.2.1 z
  · obtain ⟨e2, hne⟩ := wipe_some e2
    have e3 : Vis scope y := e3
    rcases e3 with k | k | k
    · rcases ok.own _ (PySem.mem_of_lookup k) rfl with z | z
      · have z : y = x := z
        subst z
        exact absurd (List.mem_singleton.mpr (nodup_ix hN e1 ok.ix)) hne
      · exact absurd (List.mem_of_getElem? e1) z
    · exact absurd rfl (ok.cell _ (PySem.mem_of_lookup k))
    · obtain ⟨m', hn', hl⟩ := I.loc
      have hvis : Vis X.env.scope y := (ok.free _ (PySem.mem_of_lookup k) rfl).elim (fun k => .inr (.inl k)) (fun k => .inr (.inr k))
      obtain ⟨w', r, q⟩ := hl j y v e1 e2 hvis
      obtain ⟨c2, h2⟩ := look k
      refine ⟨w', r, .inr ⟨.inr k, c2, h2, ?_⟩⟩
      have c1 := cm h2
      rcases q with ⟨k', _⟩ | ⟨_, c3, e', z⟩
      · have k' : X.env.scope.names.lookup y = some .local := k'
        rcases ok.free _ (PySem.mem_of_lookup k) rfl with k2 | k2 <;> rw [show X.env.scope.names.lookup y = _ from k2] at k' <;> cases k'
      · rw [c1] at e'
        cases e'
        exact z.keeps kp
  · obtain ⟨w', z⟩ := I.cell y c (cm e)
    exact ⟨w', z.keeps kp⟩
theorem _root_.L2.Inv.regen {g' : Array GenState} (I : Inv X pins σ H s) (h : AllBare g') : Inv X pins σ H { s with gens := g' } :=
  ⟨I.ok, I.os, h, I.base, I.loc, I.cell, I.free, I.freeC, I.pin, I.hok, I.len⟩
theorem bare_set {s : Shared} {g : Nat} {x : GenState} (h : AllBare s.gens) (hx : x.bare = true) : AllBare (s.setGen g x).gens := by
  intro y hy
  have hy : y ∈ s.gens.setIfInBounds g x := hy
  rcases Array.mem_or_eq_of_mem_setIfInBounds hy with z | z
  · exact h y z
  · rw [z]; exact hx
end

/-! ### the generator's run -/
section
variable {Z : Cx} {a it C : Addr} {go : Obj} {fp : List Addr} {tn : Nat → Heap → Prop} {i N : Nat} {σw : L2.St} {al : Bool} {J : It} {g : TG} {te : TE} {W : Nat → Hp → Prop} {Qd : Bool → Hp → Prop}
structure GSt (Z : Cx) (a : Addr) (go : Obj) (σw : L2.St) (fp : List Addr) (tn : Nat → Heap → Prop) (j : Nat) (H : Hp) (s : Shared) : Prop where
  inv : Inv Z [(a, go)] σw H s
  tn : tn j s.heap
  fp : ∀ b ∈ fp, H b = none
theorem GSt.regen {j : Nat} {H : Hp} {s : Shared} {g' : Array GenState} (x : GSt Z a go σw fp tn j H s) (h : AllBare g') : GSt Z a go σw fp tn j H { s with gens := g' } := ⟨x.inv.regen h, x.tn, x.fp⟩
/-- what each turn asks -/
def Gw (al : Bool) (J : It) (g : TG) (te : TE) (σw : L2.St) (vs : List Nat) (N : Nat) (W : Nat → Hp → Prop) (Qd : Bool → Hp → Prop) : Prop := ∀ j H, W j H →
  (J.stop j H ∧ Qd al H) ∨ (j < N ∧ J.go j H ∧ ∀ x H', J.yld j H x H' → g x σw H' fun σ2 H2 => wipe σ2 vs = σw ∧ te σ2 H2 fun y H3 => ∃ b, y = .bl b ∧ if b = al then W (j + 1) H3 else Qd b H3)
def GYd (Z : Cx) (a : Addr) (go : Obj) (σw : L2.St) (fp : List Addr) (tn : Nat → Heap → Prop) (al : Bool) (N : Nat) (W : Nat → Hp → Prop) (Qd : Bool → Hp → Prop) : Protocol := fun n s₀ v s kap =>
  ∃ b j H, v = .bool b ∧ n + (j + 1) = N ∧ GSt Z a go σw fp tn (j + 1) H s ∧ if b = al then W (j + 1) H ∧ ∀ s'', GSt Z a go σw fp tn (j + 1) H s'' → kap (.send .none) s'' else Qd b H
def GRd (Z : Cx) (a : Addr) (go : Obj) (σw : L2.St) (al : Bool) (Qd : Bool → Hp → Prop) : GenEnd := fun n s₀ r s₁ => r = .ok .next ∧ ∃ H, Inv Z [(a, go)] σw H s₁ ∧ Qd al H
theorem _root_.L2.Inv.wiped {X : Cx} {pins : List (Addr × Obj)} {σ : L2.St} {H : Hp} {s : Shared} (I : Inv X pins σ H s) (vs : List Nat) : Inv X pins (wipe σ vs) H s :=
  ⟨I.ok, I.os, I.bare, I.base, let ⟨m, hn, hl⟩ := I.loc; ⟨m, hn, fun i x v e1 e2 e3 => hl i x v e1 (wipe_some e2).1 e3⟩, I.cell, I.free, I.freeC, I.pin, I.hok, by rw [wipe_length]; exact I.len⟩
theorem gen_loop {A : Around} {elt iter tg : Expr} {scope : Scope} {pos : Pos} {vs : List Nat}
    (hA : A.over (.compLoop (.GeneratorExp elt [⟨tg, iter, [], 0⟩] scope pos) 0 (.ref it) .none Z.env) [] = Z.A) (hc : Z.calm = true) (hxe : Z.xe = fun _ _ => False) (hco : Z.env.scope.isCoroutine = false)
    (T : Turn Z.prog Z.w Z.K tg J fp it tn) (hfp : ∀ {H' : Hp}, (∀ b ∈ fp, H' b = none) → ∀ b ∈ fp, FpOk Z [(a, go)] H' b) (hg : PG Z tg g) (he : PE Z elt te) (hw : Gw al J g te σw vs N W Qd) :
    ∀ (k j : Nat) (s₀ s : Shared) (H : Hp), k + j = N → GSt Z a go σw fp tn j H s → W j H →
      Seg (model Z.prog Z.w) A (GRd Z a go σw al Qd) (GYd Z a go σw fp tn al N W Qd) k s₀ (.compLoop (.GeneratorExp elt [⟨tg, iter, [], 0⟩] scope pos) 0 (.ref it) .none Z.env)
        ((model Z.prog Z.w).den (.compLoop (.GeneratorExp elt [⟨tg, iter, [], 0⟩] scope pos) 0 (.ref it) .none Z.env)) [] s := by
  have no : ∀ {P : Prop} {e : Value} {s' : Shared}, Z.xe e s' → P := fun {P e s'} z => by rw [hxe] at z; exact False.elim z
  have stop : ∀ (k j : Nat) (s₀ s : Shared) (H : Hp), GSt Z a go σw fp tn j H s → J.stop j H → Qd al H →
      Seg (model Z.prog Z.w) A (GRd Z a go σw al Qd) (GYd Z a go σw fp tn al N W Qd) k s₀ (.compLoop (.GeneratorExp elt [⟨tg, iter, [], 0⟩] scope pos) 0 (.ref it) .none Z.env)
        ((model Z.prog Z.w).den (.compLoop (.GeneratorExp elt [⟨tg, iter, [], 0⟩] scope pos) 0 (.ref it) .none Z.env)) [] s := by
    intro k j s₀ s H st hs hq
    show Seg _ A _ _ _ s₀ _ ((compTurn (.GeneratorExp elt [⟨tg, iter, [], 0⟩] scope pos) 0 (.ref it) .none Z.env).onRaise (leaving Z.env)) [] s
    rw [compTurn_gen, Sem.onRaise_eq_wrap]
    refine seg_bind_wrap (wpAny_standAt ?_)
    refine seg_bind_wrap ?_
    rw [hA]
    refine wpAny_mono (T.done Z rfl rfl rfl hc j _ s σw H Z.xe st.inv (hfp st.fp) st.tn hs) (fun r s1 h1 => ?_) fun e s1 z => no z
    obtain ⟨rfl, I1⟩ := h1
    exact seg_end (.ok .next) ⟨rfl, H, I1, hq⟩
  intro k
  induction k with
  | zero =>
    intro j s₀ s H hk st w
    rcases hw j H w with ⟨h1, h2⟩ | ⟨h1, _⟩
    · exact stop 0 j s₀ s H st h1 h2
    · omega
  | succ k ih =>
    intro j s₀ s H hk st w
    rcases hw j H w with ⟨h1, h2⟩ | ⟨hlt, go_, step⟩
    · exact stop (k + 1) j s₀ s H st h1 h2
    show Seg _ A _ _ _ s₀ _ ((compTurn (.GeneratorExp elt [⟨tg, iter, [], 0⟩] scope pos) 0 (.ref it) .none Z.env).onRaise (leaving Z.env)) [] s
    rw [compTurn_gen, Sem.onRaise_eq_wrap]
    refine seg_bind_wrap (wpAny_standAt ?_)
    refine seg_bind_wrap ?_
    rw [hA]
    refine wpAny_mono (T.item Z rfl rfl rfl hc j _ s σw H Z.xe st.inv (hfp st.fp) st.tn go_) (fun r s1 h1 => ?_) fun e s1 z => no z
    obtain ⟨u, rfl, h1⟩ := h1
    refine seg_bind_wrap ?_
    rw [hA]
    refine wpAny_mono h1 (fun _ s2 h2 => ?_) fun e s1 z => no z
    obtain ⟨x, H2, I2, r2, y2, tn2, fr2⟩ := h2
    have I2' := I2.pinned (hfp fr2) (T.obj _ _ tn2)
    refine seg_bind_wrap ?_
    rw [hA]
    refine wpAny_mono (hg.run _ s2 σw H2 x u _ I2' r2 (step x H2 y2)) (fun _ s3 h3 => ?_) fun e s1 z => no z
    obtain ⟨σ3, H3, I3, hwp, q3⟩ := h3
    simp only [List.forIn_nil]
    refine seg_bind_wrap (wpAny_pure ?_)
    simp only [if_true]
    have hy : ∀ v, yieldOut Z.env v = yieldValue v := fun v => by simp only [yieldOut, hco, Bool.false_eq_true, if_false]
    simp only [hy]
    rw [Sem.bind_eq_wrap', Sem.bind_eq_wrap', Sem.wrap_wrap, Sem.wrap_wrap]
    refine seg_wrap ?_
    rw [hA]
    refine wpAny_mono (he.run _ s3 σ3 H3 _ I3 q3) (fun y s4 h4 => ?_) fun e s1 z => no z
    obtain ⟨v4, H4, I4, r4, b, rfl, q4⟩ := h4
    obtain rfl : y = .bool b := r4
    have I4' : Inv Z [(a, go)] σw H4 s4 := by rw [← hwp]; exact I4.unpinned.wiped vs
    have st4 : GSt Z a go σw fp tn (j + 1) H4 s4 := ⟨I4', T.keep _ _ _ tn2 fun b hb o e => (I4.pin (b, o) (List.mem_append_right _ (List.mem_append_right _ (mem_pinsAt hb e)))).1, fun b hb => by
      obtain ⟨o, e, d⟩ := T.obj _ _ tn2 b hb
      exact (I4.pin (b, o) (List.mem_append_right _ (List.mem_append_right _ (mem_pinsAt hb e)))).2.1⟩
    refine seg_at (seg_yield rfl rfl rfl ⟨b, j, H4, rfl, by omega, st4, ?_⟩)
    by_cases hb : b = al
    · rw [if_pos hb] at q4 ⊢
      refine ⟨q4, fun s'' st'' => ?_⟩
      exact seg_again rfl (ih (j + 1) s'' s'' H4 (by omega) st'' q4)
    · rw [if_neg hb] at q4 ⊢
      exact q4
/-- ready to be asked for item j -/
structure GAt (Z : Cx) (A : Around) (a : Addr) (go : Obj) (gi : Nat) (σw : L2.St) (fp : List Addr) (tn : Nat → Heap → Prop) (al : Bool) (N : Nat) (W : Nat → Hp → Prop) (Qd : Bool → Hp → Prop) (j : Nat) (H : Hp) (s : Shared) : Prop where
  st : GSt Z a go σw fp tn j H s
  w : W j H
  run : ∃ gs, s.gens[gi]? = some gs ∧ ∀ s'', GSt Z a go σw fp tn j H s'' → gs.Goes (model Z.prog Z.w) A (GRd Z a go σw al Qd) (GYd Z a go σw fp tn al N W Qd) (N - j) (.send .none) s''
theorem gen_next {A : Around} {gi j : Nat} {H : Hp} {s : Shared} {E : Value → Shared → Prop} (hh : A.handled = none) (hroom : A.depth < recursionLimit) (hgo : ∃ nm qn, go.cls = .type "generator" ∧ go.data = .fields #[.int gi 0, nm, qn] ∧ go.slots = #[])
    (h : GAt Z A.in1 a go gi σw fp tn al N W Qd j H s) : wpAny (model Z.prog Z.w) A (pyNext (.ref a)) (fun r s' => (r = none ∧ ∃ H', Inv Z [(a, go)] σw H' s' ∧ Qd al H') ∨
      ∃ b j' H', r = some (.bool b) ∧ if b = al then j < N ∧ j' = j + 1 ∧ GAt Z A.in1 a go gi σw fp tn al N W Qd j' H' s' else Inv Z [(a, go)] σw H' s' ∧ Qd b H') E s := by
  obtain ⟨st, w, gs, hgs, run⟩ := h
  have lt : gi + 1 ≤ s.gens.size := (Array.getElem?_eq_some_iff.mp hgs).1
  refine GenW.wpAny_gsz lt ?_
  obtain ⟨nm, qn, c1, c2, c3⟩ := hgo
  have hp := (st.inv.pin (a, go) (List.mem_append_right _ List.mem_cons_self)).1
  refine wpAny_pyNext_genexpQ (n := N - j) (P := fun n s₀ s₁ => ∃ H, Inv Z [(a, go)] σw H s₁ ∧ Qd al H) (Y := GYd Z a go σw fp tn al N W Qd) hh st.inv.nolimit hroom ⟨go, nm, qn, hp, c1, c2, c3⟩ hgs (run _ (st.regen (bare_set st.inv.bare rfl))) (fun v s₁ gs' hb hv hsz => ?_) fun s₁ hp h' hk _ => ?_
  · obtain ⟨b, j', H', rfl, hn, st', q⟩ := hv
    have st2 : GSt Z a go σw fp tn (j' + 1) H' (s₁.setGen gi gs') := st'.regen (bare_set st'.inv.bare hb)
    by_cases hba : b = al
    · rw [if_pos hba] at q
      obtain ⟨w', kap⟩ := q
      cases hm : N - j with
      | zero =>
        rw [hm] at kap
        exact (kap _ st').elim
      | succ m =>
        rw [hm] at kap hn
        have ej : j' = j := by omega
        subst ej
        refine .inr ⟨b, j' + 1, H', rfl, ?_⟩
        rw [if_pos hba]
        refine ⟨by omega, rfl, st2, w', gs', ?_, fun s'' st'' => ?_⟩
        · have : gi < s₁.gens.size := by
            rw [GenW.setGen_size] at hsz
            exact hsz
          show (s₁.gens.setIfInBounds gi gs')[gi]? = some gs'
          rw [Array.getElem?_setIfInBounds_self_of_lt this]
        · have e : N - (j' + 1) = m := by omega
          rw [e]
          exact kap s'' st''
    · refine .inr ⟨b, 0, H', rfl, ?_⟩
      rw [if_neg hba] at q ⊢
      exact ⟨st2.inv, q⟩
  · obtain ⟨H', I', q⟩ := hp
    refine .inl ⟨rfl, H', ?_, q⟩
    have I2 : Inv Z [(a, go)] σw H' (s₁.setGen gi .finished) := I'.regen (bare_set I'.bare rfl)
    exact I2.kept (t' := s₁.toks) hk
end
end Dn

end
section
set_option maxHeartbeats 1000000
/-! Dn29: all, any of a generator: the consumer, the making. -/
namespace Dn
open PySem PySem.Spec PyProof.Rows L2

section
variable {Z : Cx} {a : Addr} {go : Obj} {fp : List Addr} {tn : Nat → Heap → Prop} {N : Nat} {σw : L2.St} {W : Nat → Hp → Prop} {Qd : Bool → Hp → Prop}
theorem loop_all {A : Around} {gi : Nat} {R : Result → Shared → Prop} (hh : A.handled = none) (hroom : A.in1.depth < recursionLimit) (hgo : ∃ nm qn, go.cls = .type "generator" ∧ go.data = .fields #[.int gi 0, nm, qn] ∧ go.slots = #[])
    (hR : ∀ b s' H', Inv Z [(a, go)] σw H' s' → Qd b H' → R (.ok (.ret (.bool b))) s') : ∀ (k j : Nat) (s : Shared) (H : Hp), N - j = k → GAt Z A.in1.in1 a go gi σw fp tn true N W Qd j H s →
      codeAny (model Z.prog Z.w) A (.builtin "all.loop" ⟨[.ref a], []⟩) R s := by
  intro k
  induction k with
  | zero =>
    intro j s H hk h
    refine codeAny_builtin F.entry_all_loop ?_
    rw [Around.under_plainId F.plain_all_loop _]
    show wpAny _ A.in1 (pyNext (.ref a) >>= _) _ _ s
    refine wpAny_bind (wpAny_mono (gen_next (E := fun _ _ => False) hh hroom hgo h) (fun r s' h' => ?_) fun _ _ e => e.elim)
    rcases h' with ⟨rfl, H', I', q⟩ | ⟨b, j', H', rfl, q⟩
    · exact wpAny_bind (wpAny_rule (wpAny_pure (hR true s' H' I' q)))
    · cases b with
      | true =>
        rw [if_pos rfl] at q
        have := q.1
        omega
      | false =>
        rw [if_neg Bool.false_ne_true] at q
        refine wpAny_bind (wpAny_holding (wpAny_truthy_bool ?_))
        refine wpAny_bind (wpAny_letGo ?_)
        simp only [Bool.false_eq_true, if_false]
        exact wpAny_bind (wpAny_rule (wpAny_pure (hR false s' H' q.1 q.2)))
  | succ k ih =>
    intro j s H hk h
    refine codeAny_builtin F.entry_all_loop ?_
    rw [Around.under_plainId F.plain_all_loop _]
    show wpAny _ A.in1 (pyNext (.ref a) >>= _) _ _ s
    refine wpAny_bind (wpAny_mono (gen_next (E := fun _ _ => False) hh hroom hgo h) (fun r s' h' => ?_) fun _ _ e => e.elim)
    rcases h' with ⟨rfl, H', I', q⟩ | ⟨b, j', H', rfl, q⟩
    · exact wpAny_bind (wpAny_rule (wpAny_pure (hR true s' H' I' q)))
    · cases b with
      | true =>
        rw [if_pos rfl] at q
        obtain ⟨hlt, rfl, h2⟩ := q
        refine wpAny_bind (wpAny_holding (wpAny_truthy_bool ?_))
        refine wpAny_bind (wpAny_letGo ?_)
        simp only [if_true]
        exact wpAny_pure ⟨plainId_quiet F.plain_all_loop _, ih (j + 1) s' H' (by omega) h2⟩
      | false =>
        rw [if_neg Bool.false_ne_true] at q
        refine wpAny_bind (wpAny_holding (wpAny_truthy_bool ?_))
        refine wpAny_bind (wpAny_letGo ?_)
        simp only [Bool.false_eq_true, if_false]
        exact wpAny_bind (wpAny_rule (wpAny_pure (hR false s' H' q.1 q.2)))
theorem loop_any {A : Around} {gi : Nat} {R : Result → Shared → Prop} (hh : A.handled = none) (hroom : A.in1.depth < recursionLimit) (hgo : ∃ nm qn, go.cls = .type "generator" ∧ go.data = .fields #[.int gi 0, nm, qn] ∧ go.slots = #[])
    (hR : ∀ b s' H', Inv Z [(a, go)] σw H' s' → Qd b H' → R (.ok (.ret (.bool b))) s') : ∀ (k j : Nat) (s : Shared) (H : Hp), N - j = k → GAt Z A.in1.in1 a go gi σw fp tn false N W Qd j H s →
      codeAny (model Z.prog Z.w) A (.builtin "any.loop" ⟨[.ref a], []⟩) R s := by
  intro k
  induction k with
  | zero =>
    intro j s H hk h
    refine codeAny_builtin F.entry_any_loop ?_
    rw [Around.under_plainId F.plain_any_loop _]
    show wpAny _ A.in1 (pyNext (.ref a) >>= _) _ _ s
    refine wpAny_bind (wpAny_mono (gen_next (E := fun _ _ => False) hh hroom hgo h) (fun r s' h' => ?_) fun _ _ e => e.elim)
    rcases h' with ⟨rfl, H', I', q⟩ | ⟨b, j', H', rfl, q⟩
    · exact wpAny_bind (wpAny_rule (wpAny_pure (hR false s' H' I' q)))
    · cases b with
      | false =>
        rw [if_pos rfl] at q
        have := q.1
        omega
      | true =>
        rw [if_neg Bool.false_ne_true.symm] at q
        refine wpAny_bind (wpAny_holding (wpAny_truthy_bool ?_))
        refine wpAny_bind (wpAny_letGo ?_)
        simp only [if_true]
        exact wpAny_bind (wpAny_rule (wpAny_pure (hR true s' H' q.1 q.2)))
  | succ k ih =>
    intro j s H hk h
    refine codeAny_builtin F.entry_any_loop ?_
    rw [Around.under_plainId F.plain_any_loop _]
    show wpAny _ A.in1 (pyNext (.ref a) >>= _) _ _ s
    refine wpAny_bind (wpAny_mono (gen_next (E := fun _ _ => False) hh hroom hgo h) (fun r s' h' => ?_) fun _ _ e => e.elim)
    rcases h' with ⟨rfl, H', I', q⟩ | ⟨b, j', H', rfl, q⟩
    · exact wpAny_bind (wpAny_rule (wpAny_pure (hR false s' H' I' q)))
    · cases b with
      | false =>
        rw [if_pos rfl] at q
        obtain ⟨hlt, rfl, h2⟩ := q
        refine wpAny_bind (wpAny_holding (wpAny_truthy_bool ?_))
        refine wpAny_bind (wpAny_letGo ?_)
        simp only [Bool.false_eq_true, if_false]
        exact wpAny_pure ⟨plainId_quiet F.plain_any_loop _, ih (j + 1) s' H' (by omega) h2⟩
      | true =>
        rw [if_neg Bool.false_ne_true.symm] at q
        refine wpAny_bind (wpAny_holding (wpAny_truthy_bool ?_))
        refine wpAny_bind (wpAny_letGo ?_)
        simp only [if_true]
        exact wpAny_bind (wpAny_rule (wpAny_pure (hR true s' H' q.1 q.2)))
end

/-! ### the making -/
/-- the around of the generator's frame -/
abbrev genAr (X : Cx) (elt iter tg : Expr) (scope : Scope) (pos : Pos) (it : Addr) (cenv : Env) : Around := X.A.in1.in1.over (.compLoop (.GeneratorExp elt [⟨tg, iter, [], 0⟩] scope pos) 0 (.ref it) .none cenv) []
/-- the context of the element: a generator over the frame of X -/
abbrev genZ (X : Cx) (elt iter tg : Expr) (scope : Scope) (pos : Pos) (it : Addr) (s : Shared) (H : Hp) (code : Value) (fp : List Addr) : Cx :=
  genCx X (genAr X elt iter tg scope pos it (genEnv scope (cloFrom X.env.cells scope.names []) s.heap.objs.size code builtinsNs X.env)) s H (genEnv scope (cloFrom X.env.cells scope.names []) s.heap.objs.size code builtinsNs X.env) fp
theorem genAr_room {X : Cx} {elt iter tg : Expr} {scope : Scope} {pos : Pos} {it : Addr} {cenv : Env} {k : Nat} (hr : Room (k + 1) X.A) : Room k (genAr X elt iter tg scope pos it cenv) :=
  ⟨hr.hd, by have := hr.dp; show X.A.depth + 1 + 3 * k + 5 < _; omega, by have := hr.un; show X.A.units + 1 + 1 + 3 + 16 * k + 200 < _; omega⟩
theorem genAr_frames {X : Cx} {elt iter tg : Expr} {scope : Scope} {pos : Pos} {it : Addr} {C : Addr} {cl : List (Str × Addr)} {code : Value} (h : X.A.frames = some X.stack) :
    (genAr X elt iter tg scope pos it (genEnv scope cl C code builtinsNs X.env)).frames = some (genEnv scope cl C code builtinsNs X.env :: X.stack) := by
  show pushEnvs (Code.envs (.compLoop (.GeneratorExp elt [⟨tg, iter, [], 0⟩] scope pos) 0 (.ref it) .none (genEnv scope cl C code builtinsNs X.env))) (pushEnvs (envsOf []) X.A.frames) = _
  rw [h] <;> rfl
section
variable {Z : Cx} {a it : Addr} {go : Obj} {fp : List Addr} {tn : Nat → Heap → Prop} {i N : Nat} {σw : L2.St} {al : Bool} {J : It} {g : TG} {te : TE} {W : Nat → Hp → Prop} {Qd : Bool → Hp → Prop}
theorem gen_begin {A : Around} {elt iter tg : Expr} {scope : Scope} {pos : Pos} {vs : List Nat}
    (hA : A.over (.compLoop (.GeneratorExp elt [⟨tg, iter, [], 0⟩] scope pos) 0 (.ref it) .none Z.env) [] = Z.A) (hc : Z.calm = true) (hxe : Z.xe = fun _ _ => False) (hco : Z.env.scope.isCoroutine = false)
    (T : Turn Z.prog Z.w Z.K tg J fp it tn) (hfp : ∀ {H' : Hp}, (∀ b ∈ fp, H' b = none) → ∀ b ∈ fp, FpOk Z [(a, go)] H' b) (hg : PG Z tg g) (he : PE Z elt te) (hw : Gw al J g te σw vs N W Qd) {s₀ s : Shared} {H : Hp} (st : GSt Z a go σw fp tn 0 H s) (w : W 0 H) :
    Seg (model Z.prog Z.w) A (GRd Z a go σw al Qd) (GYd Z a go σw fp tn al N W Qd) N s₀ (.compStart (.GeneratorExp elt [⟨tg, iter, [], 0⟩] scope pos) 0 (.ref it) .none Z.env)
      ((model Z.prog Z.w).den (.compStart (.GeneratorExp elt [⟨tg, iter, [], 0⟩] scope pos) 0 (.ref it) .none Z.env)) [] s := by
  have loop := gen_loop hA hc hxe hco T hfp hg he hw N 0 s₀ s H (by omega) st w
  show Seg _ A _ _ _ s₀ _ ((compStart (.GeneratorExp elt [⟨tg, iter, [], 0⟩] scope pos) 0 (.ref it) .none Z.env).onRaise (leaving Z.env)) [] s
  unfold compStart
  rw [Sem.onRaise_eq_wrap]
  show Seg _ A _ _ _ s₀ _ ((ask >>= _).wrap _ _ _ _) [] s
  refine seg_bind_wrap (wpAny_askSetting ?_)
  split
  · exact seg_again rfl loop
  · first
      | exact seg_bind_wrap (wpAny_rule (seg_bind_wrap (wpAny_standAt (seg_bind_wrap (T.self _ 0 s _ _ st.tn (seg_again rfl loop))))))
      | (refine seg_bind_wrap (wpAny_rule ?_); show Seg _ A _ _ _ s₀ _ ((standAt iter.pos >>= _).wrap _ _ _ _) [] s; exact seg_bind_wrap (wpAny_standAt (seg_bind_wrap (T.self _ 0 s _ _ st.tn (seg_again rfl loop)))))
end
theorem clo_sub {X : Cx} {scope : Scope} (hfree : ∀ y ∈ scope.names, y.2 = .free → ∃ c, X.env.cells.lookup y.1 = some c) {y : Str} {c : Addr} (e : (cloFrom X.env.cells scope.names []).lookup y = some c) : X.env.cells.lookup y = some c := by
  rcases cloFrom_mem (PySem.mem_of_lookup e) with hm | ⟨h1, h2⟩
  · cases hm
  · obtain ⟨c1, hc⟩ := hfree _ h1 rfl
    have hc : X.env.cells.lookup y = some c1 := hc
    have e2 : c = c1 := by
      rw [h2, hc] <;> rfl
    rw [e2]
    exact hc
section
variable {X : Cx} {pins : List (Addr × Obj)} {σ : L2.St} {H : Hp} {s : Shared} {c P : Addr} {elt iter : Expr} {x : Str} {i k : Nat} {px gpos : Pos} {scope : Scope} {al : Bool} {g : TG} {te : TE} {ti : TI}
/-- what is wanted of the walked thing -/
def tGen (al : Bool) (P : Addr) (i : Nat) (g : TG) (te : TE) (ti : TI) : TE := fun σ H Q => ti σ H fun J H1 => GxR.TabG H1 P ∧ ∃ (N : Nat) (W : Nat → Hp → Prop), (∀ H2, GxR.Tabbed P H1 H2 → W 0 H2) ∧ Gw al J g te (wipe σ [i]) [i] N W fun b H => Q (.bl b) H
/-- the generator stands ready at a -/
def GReady (X : Cx) (pins : List (Addr × Obj)) (σ : L2.St) (i : Nat) (al : Bool) (Qd : Bool → Hp → Prop) (a : Addr) (s5 : Shared) : Prop :=
  ∃ (Z : Cx) (go : Obj) (gi : Nat) (fp : List Addr) (tn : Nat → Heap → Prop) (N : Nat) (W : Nat → Hp → Prop) (H2 : Hp), Z.prog = X.prog ∧ Z.w = X.w ∧ GAt Z X.A.in1.in1 a go gi (wipe σ [i]) fp tn al N W Qd 0 H2 s5 ∧
    (∃ nm qn, go.cls = .type "generator" ∧ go.data = .fields #[.int gi 0, nm, qn] ∧ go.slots = #[]) ∧ ∀ s' H', Inv Z [(a, go)] (wipe σ [i]) H' s' → Inv X pins σ H' s'
theorem gen_make {Qd : Bool → Hp → Prop} {Q' : Value → Shared → Prop} (hr : Room (k + 1) X.A) (TB : GxR.TabB X.base X.mg c P) (hcode : X.env.code = .ref c) (ok : GenOk X.N X.env.scope scope x i) (hN : X.N.Nodup)
    (hi : PI X (.Name x px) iter ti) (hs : ∀ v, genFold iter X.env v = pure v)
    (hg : ∀ (it : Addr) (s : Shared) (H : Hp) (code : Value) (fp : List Addr), Room k (genZ X elt iter (.Name x px) scope gpos it s H code fp).A → PG (genZ X elt iter (.Name x px) scope gpos it s H code fp) (.Name x px) g)
    (he : ∀ (it : Addr) (s : Shared) (H : Hp) (code : Value) (fp : List Addr), Room k (genZ X elt iter (.Name x px) scope gpos it s H code fp).A → PE (genZ X elt iter (.Name x px) scope gpos it s H code fp) elt te)
    (I : Inv X pins σ H s) (h : ti σ H fun J H1 => GxR.TabG H1 P ∧ ∃ (N : Nat) (W : Nat → Hp → Prop), (∀ H2, GxR.Tabbed P H1 H2 → W 0 H2) ∧ Gw al J g te (wipe σ [i]) [i] N W Qd)
    (hQ : ∀ a s5, GReady X pins σ i al Qd a s5 → Q' (.ref a) s5) :
    wpAny (model X.prog X.w) X.A (eval (.GeneratorExp elt [⟨.Name x px, iter, [], 0⟩] scope gpos) X.env) Q' X.xe s := by
  have hfree : ∀ y ∈ scope.names, y.2 = .free → ∃ c, X.env.cells.lookup y.1 = some c := fun y hy e => by
    rcases ok.free y hy e with k | k
    · exact I.ok.has _ (.inl k)
    · exact I.ok.has _ (.inr k)
  refine wpAny_GeneratorExp_make ok.co (closure_ok hfree) ok.cell ok.dot ok.kind (by have := hr.dp; omega) ?_ hs
  refine thn (hi.run pins s σ H _ I h) fun v s1 h1 => thn h1 fun itv s2 h2 => ?_
  obtain ⟨it, fp, tn, J, H1, rfl, I1, T, htn, hfp, ⟨ps, hP, ht⟩, N, W, w0, step⟩ := h2
  refine ⟨I1.nolimit, ?_⟩
  have hPs : s2.heap.get? P = some { cls := .none, data := .fields ps } := I1.hok P _ hP
  have cd : PySem.W.CodeHd s2.heap c P := TB.code.keeps fun b u e => I1.bk b u e
  have nP : ∀ b ∈ fp, b ≠ P := fun b hb z => by
    have := (hfp b hb).1
    rw [z, hP] at this
    cases this
  have cont : ∀ (code : Value) (h3 : Heap) (tk : Nat) (ps' : Array Value), Heap.ExtBut P s2.heap h3 → s2.heap.objs.size ≤ h3.objs.size → h3.get? P = some { cls := .none, data := .fields ps' } → (∃ more, ps' = ps ++ more) → TriplesOk ps'.toList →
      wpAny (model X.prog X.w) X.A (builtinsFor X.env.globals X.env.builtins) (fun bi s₄ =>
        ∀ h', h'.Ns s₄.heap.objs.size (fun y => if y = ".0" then some (.ref it) else none) → Heap.SameBut s₄.heap.objs.size (s₄.heap.push { cls := .type "frame", data := .dict #[] }) h' →
          Q' (.ref h'.objs.size) { s₄ with
            gens := s₄.gens.push (.fresh (.compStart (.GeneratorExp elt [⟨.Name x px, iter, [], 0⟩] scope gpos) 0 (.ref it) .none (genEnv scope (cloFrom X.env.cells scope.names []) s₄.heap.objs.size code bi X.env))),
            toks := s₄.toks + 1 + 1 + 1,
            heap := h'.push { cls := .type "generator", data := .fields #[.int s₄.gens.size 0, .str "<genexpr>" (s₄.toks + 1), .str (X.env.qual ++ "<genexpr>") (s₄.toks + 1 + 1)] } }) X.xe { s2 with heap := h3, toks := tk } := by
    intro code h3 tk ps' hx hsz hP3 hmore ht3
    obtain ⟨bm, ob, e1, e2, e3, e4, e5, e6, e7, e8⟩ := TB.bm
    have keep3 : ∀ b u, b ≠ P → s2.heap.get? b = some u → h3.get? b = some u := fun b u hb e => hx b u hb e
    refine wpAny_builtinsFor (m := X.mg) (by rw [I1.ok.glob]; exact (I1.mod.glob.keeps I1.bk).extBut hx TB.gP) e1 e2 (keep3 _ _ e4 (I1.bk _ _ e5)) e6 e7 e8 ?_
    intro h' hn' hs'
    obtain ⟨more, em⟩ := hmore
    have I4 := GxR.inv_tab (more := more) (h' := h3) (g' := s2.gens) (d' := s2.drawn) (t' := tk) I1 hP keep3 (by rw [← em]; exact hP3) I1.bare
    have I4 : Inv X pins σ (upd H1 P (.tbl (ps ++ more))) { s2 with heap := h3, toks := tk } := I4
    have hfp2 : ∀ b ∈ fp, (upd H1 P (.tbl (ps ++ more))) b = none := fun b hb => by rw [upd_ne (nP b hb)]; exact (hfp b hb).1
    have hlt : ∀ b ∈ fp, b < h3.objs.size := fun b hb => by
      obtain ⟨o, e, _⟩ := T.obj _ _ htn b hb
      exact Nat.lt_of_lt_of_le (Heap.lt_size e) hsz
    have hsz' : h'.objs.size = h3.objs.size + 1 := by rw [hs'.1, Heap.size_push]
    have keep' : ∀ b o, h3.get? b = some o → h'.get? b = some o := fun b o e => hs'.extBut b o (Nat.ne_of_lt (Heap.lt_size e)) (Heap.get?_push_of_some _ e)
    have keep5 : ∀ b o, h3.get? b = some o → (h'.push { cls := .type "generator", data := .fields #[.int s2.gens.size 0, .str "<genexpr>" (tk + 1), .str (X.env.qual ++ "<genexpr>") (tk + 1 + 1)] }).get? b = some o :=
      fun b o e => Heap.get?_push_of_some _ (keep' b o e)
    have stk : ∀ b, b ∈ frs X.stack → b = X.env.locals ∨ b ∈ X.fs := fun b hb => List.mem_cons.mp (I4.stkSub b hb)
    have IZ := gen_start (A := genAr X elt iter (.Name x px) scope gpos it (genEnv scope (cloFrom X.env.cells scope.names []) h3.objs.size code builtinsNs X.env)) (code := code) (fp := fp)
      (h' := h'.push { cls := .type "generator", data := .fields #[.int s2.gens.size 0, .str "<genexpr>" (tk + 1), .str (X.env.qual ++ "<genexpr>") (tk + 1 + 1)] })
      (g' := s2.gens.push (.fresh (.compStart (.GeneratorExp elt [⟨.Name x px, iter, [], 0⟩] scope gpos) 0 (.ref it) .none (genEnv scope (cloFrom X.env.cells scope.names []) h3.objs.size code builtinsNs X.env)))) (tk := tk + 1 + 1 + 1)
      I4 ok hN hr.hd (genAr_frames I1.ok.frames) (fun b hb => ⟨⟨hfp2 b hb, (hfp b hb).2⟩, hlt b hb⟩) keep5 (hn'.push _) (I4.bare.push rfl)
    have hH2a : (upd H1 P (.tbl (ps ++ more))) h'.objs.size = none := I4.hok.fresh (by show h3.objs.size ≤ h'.objs.size; omega)
    have IZ2 := IZ.pins_of (pins' := [(h'.objs.size, { cls := .type "generator", data := .fields #[.int s2.gens.size 0, .str "<genexpr>" (tk + 1), .str (X.env.qual ++ "<genexpr>") (tk + 1 + 1)] })]) (fun p hp => by
      have e : p = (h'.objs.size, { cls := .type "generator", data := .fields #[.int s2.gens.size 0, .str "<genexpr>" (tk + 1), .str (X.env.qual ++ "<genexpr>") (tk + 1 + 1)] }) := by simpa using hp
      subst e
      refine ⟨Heap.get?_push_size _ rfl, hH2a, Nat.ne_of_gt (show h3.objs.size < h'.objs.size by omega), fun z => ?_, fun v z => by cases z⟩
      rcases stk _ z with z | z
      · have := I4.lt
        have l2 : X.env.locals < h3.objs.size := this
        have z2 : h'.objs.size = X.env.locals := z
        have l3 : h'.objs.size < h3.objs.size := z2.symm ▸ l2
        rw [hsz'] at l3
        exact absurd l3 (Nat.not_lt.mpr (Nat.le_succ _))
      · exact I4.nofs (a := h'.objs.size) (by show h3.objs.size ≤ h'.objs.size; omega) z)
    have hW : W 0 (upd H1 P (.tbl (ps ++ more))) := w0 _ ⟨⟨ps ++ more, upd_same, by rw [← em]; exact ht3⟩, fun b hb => upd_ne hb⟩
    refine hQ _ _ ⟨genZ X elt iter (.Name x px) scope gpos it { s2 with heap := h3, toks := tk } (upd H1 P (.tbl (ps ++ more))) code fp, _, s2.gens.size, fp, tn, N, W, _, rfl, rfl, ⟨⟨IZ2, ?_, hfp2⟩, hW, _, Array.getElem?_push_size .., fun s'' st'' => ⟨rfl, ?_⟩⟩,
      ⟨_, _, rfl, rfl, rfl⟩, fun s' H' I' => ?_⟩
    · exact T.keep _ _ _ htn fun b hb o e => keep5 b o (keep3 b o (nP b hb) e)
    · refine gen_begin (Z := genZ X elt iter (.Name x px) scope gpos it { s2 with heap := h3, toks := tk } (upd H1 P (.tbl (ps ++ more))) code fp) rfl rfl rfl ok.co T (fun {H'} hn b hb => ?_) (hg _ _ _ _ _ (genAr_room hr)) (he _ _ _ _ _ (genAr_room hr)) step st'' hW
      · obtain ⟨f0, f1, f2, f3, f4, f5⟩ := hfp b hb
        refine ⟨hn b hb, Nat.ne_of_lt (hlt b hb), fun z => (stk b z).elim f1 f2, .inl hb, fun y cc e => f4 y cc (clo_sub hfree e), fun p hp => ?_⟩
        rcases List.mem_cons.mp (show p ∈ [] ++ [_] from hp) with e | e
        · rw [e]
          have := hlt b hb
          exact Nat.ne_of_gt (show b < h'.objs.size by rw [hsz']; exact Nat.lt_succ_of_lt this)
        · cases e
    · exact I4.call' (ch := fp) I'.os I'.base I'.hok I'.bare fun b hb => let ⟨_, f1, _, f3, f4, f5⟩ := hfp b hb; ⟨f3, f1, f4, f5⟩
  cases hf : codeAmong gpos ps.toList with
  | none =>
    refine wpAny_genexprCodeX hcode (cd.code hPs ht) (cd.tab hPs) hf fun c' h' tk hx hge hlt hco' _ htab' _ => ?_
    obtain ⟨o1, vs, f1, tf, fl, tg, inF, tx, tt, op, _, _, _, _, _, _, _, _, _, htr, _⟩ := hco'
    exact cont _ h' tk _ hx (Nat.le_trans hge (Nat.le_of_lt hlt)) htab'.2 ⟨_, rfl⟩ htr
  | some cv =>
    refine wpAny_genexprCode_hit hcode (cd.code hPs ht) hf ?_
    exact cont cv s2.heap s2.toks ps (Heap.ExtBut.refl _ _) (Nat.le_refl _) hPs ⟨#[], by simp⟩ ht
theorem pe_gAll {p pos : Pos} (hr : Room (k + 1) X.A) (hgl : Gl X "all") (hm : X.mg "all" = none) (TB : GxR.TabB X.base X.mg c P) (hcode : X.env.code = .ref c) (ok : GenOk X.N X.env.scope scope x i) (hN : X.N.Nodup)
    (hi : PI X (.Name x px) iter ti) (hs : ∀ v, genFold iter X.env v = pure v)
    (hg : ∀ (it : Addr) (s : Shared) (H : Hp) (code : Value) (fp : List Addr), Room k (genZ X elt iter (.Name x px) scope gpos it s H code fp).A → PG (genZ X elt iter (.Name x px) scope gpos it s H code fp) (.Name x px) g)
    (he : ∀ (it : Addr) (s : Shared) (H : Hp) (code : Value) (fp : List Addr), Room k (genZ X elt iter (.Name x px) scope gpos it s H code fp).A → PE (genZ X elt iter (.Name x px) scope gpos it s H code fp) elt te)
    (hst : starEach [.GeneratorExp elt [⟨.Name x px, iter, [], 0⟩] scope gpos] X.env = (false, eval (.GeneratorExp elt [⟨.Name x px, iter, [], 0⟩] scope gpos) X.env) :: starEach [] X.env := by rfl) :
    PE X (.Call (.Name "all" p) [.GeneratorExp elt [⟨.Name x px, iter, [], 0⟩] scope gpos] [] pos) (tGen true P i g te ti) := by
  refine ⟨fun pins s σ H Q I h => ?_⟩
  refine wpAny_Call_Name_kw (ld_blt I hgl hm (by decide +kernel : bootBuiltins "all" = some (.builtin "all")) ?_)
  refine PyProof.Rows.callWith_builtin1 ?_ hst (by rfl)
  rw [hst]
  show wpAny _ _ (spliced ((false, eval (.GeneratorExp elt [⟨.Name x px, iter, [], 0⟩] scope gpos) X.env) :: backTo pos (starEach [] X.env))) _ _ s
  refine Calls.spliced_cons (gen_make hr TB hcode ok hN hi hs hg he I h fun a s5 hG => ?_)
  obtain ⟨Z, go, gi, fp, tn, N, W, H2, hzp, hzw, hat, hgo, back⟩ := hG
  refine Calls.spliced_nil ?_
  refine call_function_tree F.kind_all F.plain_all F.entry_all (F.args_all1 _) ?_
  unfold Builtin.«all»
  refine wpAny_bind (m := oneArg "all" _) (wpAny_pure ?_)
  have hp := (hat.st.inv.pin (a, go) (List.mem_append_right _ List.mem_cons_self)).1
  refine wpAny_bind (wpAny_pyIter_gen (g := gi) (let ⟨nm, qn, c1, c2, c3⟩ := hgo; ⟨go, nm, qn, hp, c1, c2, c3⟩) ?_)
  refine wpAny_pure ⟨plainId_quiet F.plain_all_loop _, ?_⟩
  rw [← hzp, ← hzw]
  exact loop_all hr.hd (by have := hr.dp; show X.A.depth < _; omega) hgo (fun b s' H' I' q => ⟨.bl b, H', back s' H' I', rfl, q⟩) N 0 s5 H2 rfl hat
theorem pe_gAny {p pos : Pos} (hr : Room (k + 1) X.A) (hgl : Gl X "any") (hm : X.mg "any" = none) (TB : GxR.TabB X.base X.mg c P) (hcode : X.env.code = .ref c) (ok : GenOk X.N X.env.scope scope x i) (hN : X.N.Nodup)
    (hi : PI X (.Name x px) iter ti) (hs : ∀ v, genFold iter X.env v = pure v)
    (hg : ∀ (it : Addr) (s : Shared) (H : Hp) (code : Value) (fp : List Addr), Room k (genZ X elt iter (.Name x px) scope gpos it s H code fp).A → PG (genZ X elt iter (.Name x px) scope gpos it s H code fp) (.Name x px) g)
    (he : ∀ (it : Addr) (s : Shared) (H : Hp) (code : Value) (fp : List Addr), Room k (genZ X elt iter (.Name x px) scope gpos it s H code fp).A → PE (genZ X elt iter (.Name x px) scope gpos it s H code fp) elt te)
    (hst : starEach [.GeneratorExp elt [⟨.Name x px, iter, [], 0⟩] scope gpos] X.env = (false, eval (.GeneratorExp elt [⟨.Name x px, iter, [], 0⟩] scope gpos) X.env) :: starEach [] X.env := by rfl) :
    PE X (.Call (.Name "any" p) [.GeneratorExp elt [⟨.Name x px, iter, [], 0⟩] scope gpos] [] pos) (tGen false P i g te ti) := by
  refine ⟨fun pins s σ H Q I h => ?_⟩
  refine wpAny_Call_Name_kw (ld_blt I hgl hm (by decide +kernel : bootBuiltins "any" = some (.builtin "any")) ?_)
  refine PyProof.Rows.callWith_builtin1 ?_ hst (by rfl)
  rw [hst]
  show wpAny _ _ (spliced ((false, eval (.GeneratorExp elt [⟨.Name x px, iter, [], 0⟩] scope gpos) X.env) :: backTo pos (starEach [] X.env))) _ _ s
  refine Calls.spliced_cons (gen_make hr TB hcode ok hN hi hs hg he I h fun a s5 hG => ?_)
  obtain ⟨Z, go, gi, fp, tn, N, W, H2, hzp, hzw, hat, hgo, back⟩ := hG
  refine Calls.spliced_nil ?_
  refine call_function_tree F.kind_any F.plain_any F.entry_any (F.args_any1 _) ?_
  unfold Builtin.«any»
  refine wpAny_bind (m := oneArg "any" _) (wpAny_pure ?_)
  have hp := (hat.st.inv.pin (a, go) (List.mem_append_right _ List.mem_cons_self)).1
  refine wpAny_bind (wpAny_pyIter_gen (g := gi) (let ⟨nm, qn, c1, c2, c3⟩ := hgo; ⟨go, nm, qn, hp, c1, c2, c3⟩) ?_)
  refine wpAny_pure ⟨plainId_quiet F.plain_any_loop _, ?_⟩
  rw [← hzp, ← hzw]
  exact loop_any hr.hd (by have := hr.dp; show X.A.depth < _; omega) hgo (fun b s' H' I' q => ⟨.bl b, H', back s' H' I', rfl, q⟩) N 0 s5 H2 rfl hat
end

/-! ### over data -/
def gstep (al : Bool) (k : Cs → R S) : S → Cs → R S := fun s c => (asB s c).bindN fun b c => if b = al then k c else .ok (.d (.bl b)) c
def gloop (al : Bool) (g : GT) (A : M) (δ : Sl) : List S → Cs → R S
  | [], c => .ok (.d (.bl al)) c
  | d :: ds, c => match g d c δ with
    | none => .bad
    | some δ1 => (A δ1 c).bindN (gstep al (gloop al g A δ ds))
def gloopC (n : Nat) (al : Bool) (g : GT) (A : M) (δ : Sl) : Nat → Nat → Cs → R S
  | 0, _, _ => .bad
  | f + 1, i, c => match cellL n c with
    | some xs => match xs[i]? with
      | none => .ok (.d (.bl al)) c
      | some d => match g d c δ with
        | none => .bad
        | some δ1 => (A δ1 c).bindN (gstep al (gloopC n al g A δ f (i + 1)))
    | none => .bad
def gloopI (al : Bool) (g : GT) (A : M) (δ : Sl) (s : Src) (c : Cs) : R S := match s with
  | .xs l => gloop al g A δ l c
  | .cell n => match cellL n c with
    | some xs => gloopC n al g A δ (xs.length + 1) 0 c
    | none => .bad
/-- the def's table is the j-th, it stands in cell j -/
def hasTb (j : Nat) (c : Cs) : Bool := match c[j]? with
  | some (.tb k) => k == j
  | _ => false
def mGen (al : Bool) (j : Nat) (I : MI) (g : GT) (A : M) (vs : List Nat) : M := fun δ c => (I δ c).bind fun xs c => if hasTb j c = true then gloopI al g A (wipeD δ vs) xs c else .bad
theorem RelH.tab {T : Tb} {H : Hp} {c : Cs} {G : Hp} {ρ : List Addr} {j : Nat} (r : RelH T H c G ρ) (h : hasTb j c = true) : GxR.TabG H (T.tb j) ∧ ∀ H2, GxR.Tabbed (T.tb j) H H2 → RelH T H2 c G ρ := by
  unfold hasTb at h
  cases hc : c[j]? with
  | none => rw [hc] at h; cases h
  | some x =>
    rw [hc] at h
    cases x with
    | tb k =>
      have h : (k == j) = true := h
      have e : k = j := by simpa using h
      subst e
      have hj : k < ρ.length := by rw [r.len]; exact (List.getElem?_eq_some_iff.mp hc).1
      have hp : ρ[k]? = some ρ[k] := List.getElem?_eq_getElem hj
      obtain ⟨g0, e0, ps, a, b⟩ := r.at_ k _ _ hp hc
      rw [e0] at a g0
      refine ⟨⟨ps, a, b⟩, fun H2 ⟨⟨ps2, a2, b2⟩, k2⟩ => ⟨fun p o e => ?_, r.len, r.nd, fun i p x hi hx => ?_⟩⟩
      · rw [k2 p (fun z => by rw [z, g0] at e; cases e)]
        exact r.ex p o e
      · obtain ⟨g1, ok⟩ := r.at_ i p x hi hx
        refine ⟨g1, ?_⟩
        by_cases hpk : p = T.tb k
        · have e1 : i = k := by
            exact (List.getElem?_inj (List.getElem?_eq_some_iff.mp hi).1 r.nd).mp (by rw [hi, hp, e0, hpk])
          subst e1
          rw [hc] at hx
          cases hx
          exact ⟨hpk, ps2, by rw [hpk]; exact a2, b2⟩
        · exact ok.keep (.refl _) (k2 p hpk) (List.prefix_refl _)
    | _ => cases h
section
variable {X : Cx} {T : Tb} {W : WX} {I : MI} {g : GT} {A : M} {i j : Nat}
theorem gstep_ok {al : Bool} {kf : Cs → R S} {s : S} {v : V} {c : Cs} {G H : Hp} {ρ : List Addr} {Go : Hp} {ρo : List Addr} {σ : L2.St} {Q : VK} {N : Hp → Prop} (hh : RelH T H c G ρ) (r : SRep T G ρ s v) (eg : Ex Go G) (pr : ρo <+: ρ)
    (p : Post (SRep T) T W σ Go ρo (gstep al kf s c) Q) (hk : Post (SRep T) T W σ Go ρo (kf c) Q → N H) : ∃ b, v = .bl b ∧ if b = al then N H else Q (.bl b) H := by
  cases s with
  | c n => exact p.elim
  | x _ _ => exact p.elim
  | d dd =>
    cases dd with
    | bl b =>
      refine ⟨b, SRep.bl_inv r, ?_⟩
      have p : Post (SRep T) T W σ Go ρo (if b = al then kf c else .ok (.d (.bl b)) c) Q := p
      by_cases hb : b = al
      · rw [if_pos hb] at p ⊢
        exact hk p
      · rw [if_neg hb] at p ⊢
        exact p _ H G ρ eg pr hh SRep.bl
    | _ => exact p.elim
theorem tD_gen {al : Bool} {σ : L2.St} {H : Hp} {Q : VK} (h : tD T W (mGen al j I g A [i]) σ H Q) : tGen al (T.tb j) i (tGv T g [i]) (tD T W0 A) (tI T W I) σ H Q := by
  obtain ⟨δ, c, G, ρ, hs, hh, p⟩ := h
  refine ⟨δ, c, G, ρ, hs, hh, (Post.bind (rel := relI T) p).imp ?_⟩
  rintro J H1 ⟨src, c1, G1, ρ1, e1, p1, h1, wk0, q1⟩
  by_cases ht : hasTb j c1 = true
  · rw [if_pos ht] at q1
    obtain ⟨tg, tk⟩ := h1.tab ht
    cases src with
    | xs xs =>
      obtain ⟨wk, hlen⟩ := wk0
      refine ⟨tg, xs.length, fun k H => k ≤ xs.length ∧ ∃ c G ρ', Ex G1 G ∧ ρ1 <+: ρ' ∧ RelH T H c G ρ' ∧ Post (SRep T) T W σ G1 ρ1 (gloop al g A (wipeD δ [i]) (xs.drop k) c) Q,
        fun H2 hT => ⟨Nat.zero_le _, c1, G1, ρ1, .refl _, List.prefix_refl _, tk H2 hT, by rw [List.drop_zero]; exact q1⟩, ?_⟩
      rintro k H ⟨hk, c, G, ρ', e2, p2, h2, q2⟩
      by_cases hlt : k < xs.length
      · refine .inr ⟨hlt, wk.go k H (e2.trans h2.ex) hlt, fun x H' y => ?_⟩
        obtain ⟨G3, st, rx⟩ := wk.yld k H G ρ' x H' e2 p2 h2.ex y xs[k] (List.getElem?_eq_getElem hlt)
        rw [List.drop_eq_getElem_cons hlt] at q2
        unfold gloop at q2
        cases hg : g xs[k] c (wipeD δ [i]) with
        | none => simp only [hg] at q2; exact q2.elim
        | some δ1 =>
          simp only [hg] at q2
          refine ⟨xs[k], wipeD δ [i], c, G3, ρ', δ1, h2.step st, rx, ((((hs.mono e1 p1).wipe [i]).mono e2 p2).mono st.g (List.prefix_refl _)), hg, fun σ2 s2 w2 => ⟨w2.trans wipe_wipe, ?_⟩⟩
          refine ⟨δ1, c, G3, ρ', s2, h2.step st, (Post.bindN (rel := SRep T) q2).imp ?_⟩
          rintro v H3 ⟨s, c3, G4, ρ4, e4, p4, h4, r4, q4⟩
          exact gstep_ok (N := fun H => k + 1 ≤ xs.length ∧ ∃ c G ρ', Ex G1 G ∧ ρ1 <+: ρ' ∧ RelH T H c G ρ' ∧ Post (SRep T) T W σ G1 ρ1 (gloop al g A (wipeD δ [i]) (xs.drop (k + 1)) c) Q) h4 r4 ((e2.trans st.g).trans e4) (p2.trans p4) q4 fun z => ⟨hlt, c3, G4, ρ4, (e2.trans st.g).trans e4, p2.trans p4, h4, z⟩
      · have e : k = xs.length := by omega
        subst e
        rw [List.drop_length] at q2
        exact .inl ⟨wk.stop _ H (e2.trans h2.ex) (Nat.le_refl _), q2 _ H G ρ' e2 p2 h2 SRep.bl⟩
    | cell n =>
      obtain ⟨q, hq, rfl⟩ := wk0
      unfold gloopI at q1
      cases hcc : cellL n c1 with
      | none => simp only [hcc] at q1; exact q1.elim
      | some xs0 =>
        simp only [hcc] at q1
        refine ⟨tg, xs0.length + 1, fun k H => k ≤ xs0.length + 1 ∧ ∃ c G ρ', Ex G1 G ∧ ρ1 <+: ρ' ∧ RelH T H c G ρ' ∧ Post (SRep T) T W σ G1 ρ1 (gloopC n al g A (wipeD δ [i]) (xs0.length + 1 - k) k c) Q,
          fun H2 hT => ⟨Nat.zero_le _, c1, G1, ρ1, .refl _, List.prefix_refl _, tk H2 hT, q1⟩, ?_⟩
        rintro k H ⟨hk, c, G, ρ', e2, p2, h2, q2⟩
        cases hf : xs0.length + 1 - k with
        | zero => rw [hf] at q2; exact q2.elim
        | succ f =>
          rw [hf] at q2
          unfold gloopC at q2
          cases hc : cellL n c with
          | none => simp only [hc] at q2; exact q2.elim
          | some xs =>
            simp only [hc] at q2
            obtain ⟨us, ho, hl, rr⟩ := cellL_rep h2 (pre_get p2 hq) hc
            cases hx : xs[k]? with
            | none =>
              simp only [hx] at q2
              exact .inl ⟨⟨us, SqL.of ho, by rw [rr.length]; exact List.getElem?_eq_none_iff.mp hx⟩, q2 _ H G ρ' e2 p2 h2 SRep.bl⟩
            | some d =>
              simp only [hx] at q2
              obtain ⟨u, hu, ru⟩ := rr.get hx
              refine .inr ⟨by omega, ⟨us, u, SqL.of ho, hu⟩, fun x H' y => ?_⟩
              obtain ⟨rfl, y⟩ := y
              have ex := y us (SqL.of ho)
              rw [hu] at ex
              cases ex
              cases hg : g d c (wipeD δ [i]) with
              | none => simp only [hg] at q2; exact q2.elim
              | some δ1 =>
                simp only [hg] at q2
                refine ⟨d, wipeD δ [i], c, G, ρ', δ1, h2, ru, (((hs.mono e1 p1).wipe [i]).mono e2 p2), hg, fun σ2 s2 w2 => ⟨w2.trans wipe_wipe, ?_⟩⟩
                refine ⟨δ1, c, G, ρ', s2, h2, (Post.bindN (rel := SRep T) q2).imp ?_⟩
                rintro v H3 ⟨s, c3, G4, ρ4, e4, p4, h4, r4, q4⟩
                have ef : xs0.length + 1 - (k + 1) = f := by omega
                exact gstep_ok (N := fun H => k + 1 ≤ xs0.length + 1 ∧ ∃ c G ρ', Ex G1 G ∧ ρ1 <+: ρ' ∧ RelH T H c G ρ' ∧ Post (SRep T) T W σ G1 ρ1 (gloopC n al g A (wipeD δ [i]) (xs0.length + 1 - (k + 1)) (k + 1) c) Q) h4 r4 (e2.trans e4) (p2.trans p4) q4 fun z => ⟨by omega, c3, G4, ρ4, e2.trans e4, p2.trans p4, h4, (congrArg (fun f => Post (SRep T) T W σ G1 ρ1 (gloopC n al g A (wipeD δ [i]) f (k + 1) c3) Q) ef).mpr z⟩
  · rw [if_neg ht] at q1
    exact q1.elim
variable {c : Addr} {elt iter : Expr} {x : Str} {k : Nat} {p px gpos pos : Pos} {scope : Scope}
theorem dn_gAll (hr : Room (k + 1) X.A) (hgl : Gl X "all") (hm : X.mg "all" = none) (TB : ∃ c, X.env.code = .ref c ∧ GxR.TabB X.base X.mg c (T.tb j)) (ok : genB X.N X.env.scope scope x i = true) (hN : X.N.Nodup)
    (hi : PI X (.Name x px) iter (tI T W I))
    (hg : ∀ (it : Addr) (s : Shared) (H : Hp) (code : Value) (fp : List Addr), Room k (genZ X elt iter (.Name x px) scope gpos it s H code fp).A → PG (genZ X elt iter (.Name x px) scope gpos it s H code fp) (.Name x px) (tGv T g [i]))
    (he : ∀ (it : Addr) (s : Shared) (H : Hp) (code : Value) (fp : List Addr), Room k (genZ X elt iter (.Name x px) scope gpos it s H code fp).A → PE (genZ X elt iter (.Name x px) scope gpos it s H code fp) elt (tD T W0 A))
    (hs : ∀ v, genFold iter X.env v = pure v := by intro _; rfl)
    (hst : starEach [.GeneratorExp elt [⟨.Name x px, iter, [], 0⟩] scope gpos] X.env = (false, eval (.GeneratorExp elt [⟨.Name x px, iter, [], 0⟩] scope gpos) X.env) :: starEach [] X.env := by rfl) :
    PE X (.Call (.Name "all" p) [.GeneratorExp elt [⟨.Name x px, iter, [], 0⟩] scope gpos] [] pos) (tD T W (mGen true j I g A [i])) := by
  obtain ⟨c, hc, TB⟩ := TB
  exact PE.imp (pe_gAll hr hgl hm TB hc (genOk_by ok) hN hi hs hg he hst) fun _ _ _ h => tD_gen h
theorem dn_gAny (hr : Room (k + 1) X.A) (hgl : Gl X "any") (hm : X.mg "any" = none) (TB : ∃ c, X.env.code = .ref c ∧ GxR.TabB X.base X.mg c (T.tb j)) (ok : genB X.N X.env.scope scope x i = true) (hN : X.N.Nodup)
    (hi : PI X (.Name x px) iter (tI T W I))
    (hg : ∀ (it : Addr) (s : Shared) (H : Hp) (code : Value) (fp : List Addr), Room k (genZ X elt iter (.Name x px) scope gpos it s H code fp).A → PG (genZ X elt iter (.Name x px) scope gpos it s H code fp) (.Name x px) (tGv T g [i]))
    (he : ∀ (it : Addr) (s : Shared) (H : Hp) (code : Value) (fp : List Addr), Room k (genZ X elt iter (.Name x px) scope gpos it s H code fp).A → PE (genZ X elt iter (.Name x px) scope gpos it s H code fp) elt (tD T W0 A))
    (hs : ∀ v, genFold iter X.env v = pure v := by intro _; rfl)
    (hst : starEach [.GeneratorExp elt [⟨.Name x px, iter, [], 0⟩] scope gpos] X.env = (false, eval (.GeneratorExp elt [⟨.Name x px, iter, [], 0⟩] scope gpos) X.env) :: starEach [] X.env := by rfl) :
    PE X (.Call (.Name "any" p) [.GeneratorExp elt [⟨.Name x px, iter, [], 0⟩] scope gpos] [] pos) (tD T W (mGen false j I g A [i])) := by
  obtain ⟨c, hc, TB⟩ := TB
  exact PE.imp (pe_gAny hr hgl hm TB hc (genOk_by ok) hN hi hs hg he hst) fun _ _ _ h => tD_gen h
end
end Dn

end
section
set_option maxHeartbeats 1000000
/-! Dn30: own operators; defs whose code makes generators; the end of a law with tables. -/
namespace Dn
open PySem PySem.Spec PyProof.Rows L2
/-! ### own operators -/
/-- an object's operator: with an object of the same class, or an int -/
def okR (k : Nat) : S → Bool
  | .d (.obj j _) => j == k
  | .d (.int _) => true
  | _ => false
def opO (tbl : List (Nat × (List S → Cs → R S))) (g : S → S → Cs → R S) (x y : S) (c : Cs) : R S := match x with
  | .d (.obj k xs) => match look tbl k with
    | some fn => if okR k y = true then (fn [.d (.obj k xs), y] c).bindN fun s c => .ok s c else .bad
    | none => .bad
  | x => g x y c
def unO (tbl : List (Nat × (List S → Cs → R S))) (g : S → Cs → R S) (x : S) (c : Cs) : R S := match x with
  | .d (.obj k xs) => match look tbl k with
    | some fn => (fn [.d (.obj k xs)] c).bindN fun s c => .ok s c
    | none => .bad
  | x => g x c
structure OpAt (K : PySem.W.Frag) (T : Tb) (k : Nat) (op : Operator) : Prop where
  first : PySem.W.selfFirst K (T.cl k) = true
  r : ∃ rc, PySem.W.findIn K (.ref (T.cl k)) (PySem.dunderR op.info.2) = some rc ∧ (rc = none ∨ ∃ g : Addr, rc = some (.ref g))
  l1 : ∃ fo, PySem.W.findIn K (.type "int") (PySem.dunder op.info.2) = some fo
  l2 : ∃ ro, PySem.W.findIn K (.type "int") (PySem.dunderR op.info.2) = some ro
  sub : PySem.W.subIn K (.type "int") (.ref (T.cl k)) = some false
inductive OpsAt (K : PySem.W.Frag) (T : Tb) (op : Operator) : List (Nat × (List S → Cs → R S)) → Prop
  | nil : OpsAt K T op []
  | cons {c : Nat} {fn : List S → Cs → R S} {l : List (Nat × (List S → Cs → R S))} : OpAt K T c op → OpsAt K T op l → OpsAt K T op ((c, fn) :: l)
theorem OpsAt.get {K : PySem.W.Frag} {T : Tb} {op : Operator} {l : List (Nat × (List S → Cs → R S))} (h : OpsAt K T op l) {c : Nat} {fn : List S → Cs → R S} (hm : (c, fn) ∈ l) : OpAt K T c op := by
  induction h with
  | nil => cases hm
  | cons a _ ih =>
    rcases List.mem_cons.mp hm with z | z
    · cases z; exact a
    · exact ih z
def rOwn (T : Tb) (tbl : List (Nat × (List S → Cs → R S))) : R2 := fun v u H Q => ∃ k fn xs, look tbl k = some fn ∧ Rep T H (.obj k xs) v ∧ ((∃ ys, Rep T H (.obj k ys) u) ∨ ∃ i, u = .int i) ∧ spD T fn [v, u] H Q fun _ _ _ => False
def rOwn1 (T : Tb) (tbl : List (Nat × (List S → Cs → R S))) : V → Hp → VK → Prop := fun v H Q => ∃ k fn xs, look tbl k = some fn ∧ Rep T H (.obj k xs) v ∧ spD T fn [v] H Q fun _ _ _ => False
section
variable {X : Cx} {T : Tb} {W : WX} {a b : Expr} {A B : M} {pos : Pos} {tbl : List (Nat × (List S → Cs → R S))} {n : Nat} {op : Operator}
theorem cmpBack_of {pins : List (Addr × Obj)} {σ : L2.St} {Q : VK} {u : Value} {s' : Shared} (h : EP X pins σ Q u s') : PySem.W.CmpBack (EP X pins σ Q) u s' := by
  cases u with
  | notImplemented =>
    obtain ⟨v, H', I, r, q⟩ := h
    cases v <;> first | (obtain ⟨_, z⟩ := r; cases z; done) | (cases r; done)
  | _ => exact h
theorem run_own {fn : List S → Cs → R S} {m : Str} {j k : Nat} {pins : List (Addr × Obj)} {σ : L2.St} {H : Hp} {s : Shared} {Q : VK} {us : List Value} {vs : List V} (M : MethAt X.prog X.w X.K X.mg X.base T m k j fn) (hr : Room j X.A)
    (I : Inv X pins σ H s) (r : Vals vs us) (h : spD T fn vs H Q fun _ _ _ => False) : ∃ f, Meth X.K (T.cl k) m f ∧ wpAny (model X.prog X.w) X.A (call (.ref f) us) (EP X pins σ Q) X.xe s := by
  obtain ⟨f, fd, ps, F, hm, hc, _, hb⟩ := M
  refine ⟨f, hm, ?_⟩
  have hl := F.len _ _ _ _ h
  have bb := hb s us I.kIn (by rw [List.append_nil, ← r.length]; exact hl)
  rw [List.append_nil] at bb
  refine wpAny_call (codeAny_mono (F.run X.A X.stack s H ⟨us, []⟩ us vs _ _ hr I.env0 bb r h) fun fl s' hq => ?_)
  cases fl with
  | error e =>
    obtain ⟨_, _, _, _, _, _, _, _, _, _, _, _, z⟩ := hq
    exact z.elim
  | ok fl =>
    cases fl with
    | ret w => exact I.after hq
    | next => exact False.elim hq
    | brk => exact False.elim hq
    | cont => exact False.elim hq
theorem rep_inst {pins : List (Addr × Obj)} {σ : L2.St} {H : Hp} {s : Shared} {k : Nat} {xs : List D} {v : V} (I : Inv X pins σ H s) (h : Rep T H (.obj k xs) v) : ∃ a dx od, v = .ref a ∧ PySem.W.InstAt s.heap a (PySem.W.instObj (T.cl k) dx) (T.cl k) (some od) := by
  obtain ⟨p, dx, fv, rfl, e, _⟩ := h.obj_inv
  obtain ⟨mA, J, _⟩ := ins_get I.hok e
  obtain ⟨od, J, _⟩ := J.look
  exact ⟨p, dx, od, rfl, J⟩
theorem op_own (hM : MethsAt X.prog X.w X.K X.mg X.base T (PySem.dunder op.info.2) n tbl) (hO : OpsAt X.K T op tbl) (hr : Room n X.A) : OpR X (binaryOp op) (rOwn T tbl) := by
  intro pins s σ H x y v u Q I rv ru h
  obtain ⟨k, fn, xs, hl, hx, hy, sp⟩ := h
  have hmem := look_mem hl
  obtain ⟨j, hj, M⟩ := hM.get hmem
  have O := hO.get hmem
  obtain ⟨f, hm, run⟩ := run_own (vs := [x, y]) (us := [v, u]) M (hr.mono hj) I (.cons rv (.cons ru .nil)) sp
  obtain ⟨ax, dx, od, rfl, J⟩ := rep_inst I hx
  obtain rfl : v = Value.ref ax := rv
  obtain ⟨m, hF⟩ := I.fr
  rcases hy with ⟨ys, hy⟩ | ⟨i, rfl⟩
  · obtain ⟨ay, dy, od2, rfl, J2⟩ := rep_inst I hy
    obtain rfl : u = Value.ref ay := ru
    exact PySem.W.binop_K hF I.ok.mod.kin J J2.type O.first hm.at_ hm.fn (wpAny_mono run (fun _ _ z => cmpBack_of z) fun _ _ z => z)
  · obtain ⟨t, rfl⟩ := ru
    obtain ⟨rc, h1, h2⟩ := O.r
    obtain ⟨fo, h3⟩ := O.l1
    obtain ⟨ro, h4⟩ := O.l2
    exact PySem.W.ksp_binT (T := "int") hF I.ok.mod.kin J rfl O.first hm.at_ hm.fn h1 h2 h3 h4 O.sub (wpAny_mono run (fun _ _ z => cmpBack_of z) fun _ _ z => z)
theorem un_own (hM : MethsAt X.prog X.w X.K X.mg X.base T "__neg__" n tbl) (hr : Room n X.A) : UnR X (unaryOp .USub) (rOwn1 T tbl) := by
  intro pins s σ H x v Q I rv h
  obtain ⟨k, fn, xs, hl, hx, sp⟩ := h
  have hmem := look_mem hl
  obtain ⟨j, hj, M⟩ := hM.get hmem
  obtain ⟨f, hm, run⟩ := run_own (vs := [x]) (us := [v]) M (hr.mono hj) I (.cons rv .nil) sp
  obtain ⟨ax, dx, od, rfl, J⟩ := rep_inst I hx
  obtain rfl : v = Value.ref ax := rv
  obtain ⟨m, hF⟩ := I.fr
  exact PySem.W.ksp_neg hF I.ok.mod.kin J hm.at_ hm.fn run
theorem postF_bindN {σ : L2.St} {G : Hp} {ρ : List Addr} {r : R S} {Q : VK} (p : Post (SRep T) T W σ G ρ (r.bindN fun s c => .ok s c) Q) : PostF T G ρ r Q fun _ _ _ => False := by
  cases r with
  | ok s c => exact fun v H' G' ρ' e p' rh rs => p v H' G' ρ' e p' rh rs
  | ex k xs c => exact p.elim
  | bad => exact p
theorem prim_opO {g : S → S → Cs → R S} {r : R2} (hp : Prim2 T g r) : Prim2 T (opO tbl g) (fun x y H Q => rOwn T tbl x y H Q ∨ r x y H Q) := by
  intro W σ G ρ H c x y v u Q hh rx ry p
  unfold opO at p
  split at p
  · rename_i k xs
    cases hl : look tbl k with
    | none => simp only [hl] at p; exact p.elim
    | some fn =>
      simp only [hl] at p
      by_cases hk : okR k y = true
      · rw [if_pos hk] at p
        refine .inl ⟨k, fn, xs, hl, Rep.mono hh.ex _ _ rx, ?_, [.d (.obj k xs), y], c, G, ρ, .cons rx (.cons ry .nil), hh, postF_bindN p⟩
        unfold okR at hk
        split at hk
        · rename_i j ys
          have : j = k := by simpa using hk
          subst this
          exact .inl ⟨ys, Rep.mono hh.ex _ _ ry⟩
        · exact .inr ⟨_, SRep.int_inv ry⟩
        · cases hk
      · rw [if_neg hk] at p; exact p.elim
  · exact .inr (hp W σ G ρ H c _ y v u Q hh rx ry p)
theorem prim_unO {g : S → Cs → R S} {r : V → Hp → VK → Prop} (hp : Prim1 T g r) : Prim1 T (unO tbl g) (fun x H Q => rOwn1 T tbl x H Q ∨ r x H Q) := by
  intro W σ G ρ H c x v Q hh rx p
  unfold unO at p
  split at p
  · rename_i k xs
    cases hl : look tbl k with
    | none => simp only [hl] at p; exact p.elim
    | some fn =>
      simp only [hl] at p
      exact .inl ⟨k, fn, xs, hl, Rep.mono hh.ex _ _ rx, [.d (.obj k xs)], c, G, ρ, .cons rx .nil, hh, postF_bindN p⟩
  · exact .inr (hp W σ G ρ H c _ v Q hh rx p)
theorem dn_addO (hM : MethsAt X.prog X.w X.K X.mg X.base T "__add__" n tbl) (hO : OpsAt X.K T .Add tbl) (hr : Room n X.A) (hT : X.K = T.K) (ha : PE X a (tD T W A)) (hb : PE X b (tD T W B)) : PE X (.BinOp a .Add b pos) (tD T W (mBin (opO tbl (lift2 addD)) A B)) :=
  dn_op ((op_own hM hO hr).or (r' := rAll T.K) (by rw [← hT]; exact op_addA)) (prim_opO (prim2 fresh_add)) ha hb
theorem dn_subO (hM : MethsAt X.prog X.w X.K X.mg X.base T "__sub__" n tbl) (hO : OpsAt X.K T .Sub tbl) (hr : Room n X.A) (ha : PE X a (tD T W A)) (hb : PE X b (tD T W B)) : PE X (.BinOp a .Sub b pos) (tD T W (mBin (opO tbl (lift2 subD)) A B)) :=
  dn_op ((op_own hM hO hr).or op_sub) (prim_opO (prim2 fresh_sub)) ha hb
theorem dn_mulO (hM : MethsAt X.prog X.w X.K X.mg X.base T "__mul__" n tbl) (hO : OpsAt X.K T .Mult tbl) (hr : Room n X.A) (ha : PE X a (tD T W A)) (hb : PE X b (tD T W B)) : PE X (.BinOp a .Mult b pos) (tD T W (mBin (opO tbl (lift2 mulD)) A B)) :=
  dn_op ((op_own hM hO hr).or (op_mulW.or op_rep)) (prim_opO (prim2 fresh_mul)) ha hb
theorem un_or {f : Value → Sem Value} {r r' : V → Hp → VK → Prop} (h : UnR X f r) (k : UnR X f r') : UnR X f (fun x H Q => r x H Q ∨ r' x H Q) := fun pins s σ H x v Q I rv q => q.elim (h pins s σ H x v Q I rv) (k pins s σ H x v Q I rv)
theorem dn_negO (hM : MethsAt X.prog X.w X.K X.mg X.base T "__neg__" n tbl) (hr : Room n X.A) (ha : PE X a (tD T W A)) : PE X (.UnaryOp .USub a pos) (tD T W (mUn (unO tbl (lift1 negD)) A)) :=
  dn_un (un_or (un_own hM hr) un_neg) (prim_unO (prim1 fresh_neg)) ha
end

/-! ### defs whose code makes generators or lambdas: the code's table is known -/
section
variable {P : Program} {w : World} {K : PySem.W.Frag} {mg : Str → Option Value} {base : Heap} {T : Tb} {k : Nat}
def DefAtC (K : PySem.W.Frag) (mg : Str → Option Value) (x : Str) (st : Stmt) (ps : List Str) (c : Addr) : Prop :=
  ∃ f fd, Fun K x x st f fd ∧ mg x = some (.ref f) ∧ PySem.W.keepIn K (.ref f) = true ∧ Binds K fd ps [] ∧ fd.code = .ref c
/-- the code and table of def number j -/
abbrev TabA (base : Heap) (mg : Str → Option Value) (T : Tb) (j : Nat) : Prop := GxR.TabB base mg (T.tb (1000 + j)) (T.tb j)
theorem fn_atC {ext : Nat → RS → R S} (X : ExitOk T ext) {x : Str} {st : Stmt} {N ps : List Str} {body : MS} {j : Nat} (D : DefAtC K mg x st ps (T.tb (1000 + j))) (TB : TabA base mg T j) (S : FnScope N ps (defScope st))
    (hbody : ∀ (f : Addr) (cdv : Value) (A : Around) (outer : List Env) (s : Shared) (H : Hp) (E : XK), (∃ c, cdv = .ref c ∧ GxR.TabB base mg c (T.tb j)) → Room k (A.deeper (envOfC x (defScope st) s.heap.objs.size f cdv)) → Takes (cxOf (L2.CX P w) P w K mg base N x (defScope st) f cdv A outer s H E) (fun cls d _ H => E cls d H) →
      PSs (cxOf (L2.CX P w) P w K mg base N x (defScope st) f cdv A outer s H E) (defBody st) (tS T (fun cls d _ H => E cls d H) body)) : FnAt P w K mg base T x (k + 1) (fnE ext ps.length N.length body) := by
  obtain ⟨f, fd, F, hm, hk, hb, hc⟩ := D
  refine ⟨f, fd, ps, ?_, hm, hk, hb⟩
  obtain ⟨oc, od, kV, doc, pm, an, cdv, ct, osl, rfl, lk, hcd⟩ := F.ex
  have hc : cdv = .ref (T.tb (1000 + j)) := hc
  refine fn_of lk hcd S ?_ ?_
  · rintro vs H Q E ⟨ss, c, G, ρ, rs, rh, p⟩
    rw [rs.length]
    unfold fnE at p
    by_cases h : ss.length = ps.length
    · exact h
    · rw [if_neg h] at p; exact p.elim
  · rintro A outer s H vs Q E hr ⟨ss, c, G, ρ, rs, rh, p⟩
    refine ⟨_, hbody f cdv A outer s H E ⟨_, hc, TB⟩ hr cx_takes, ?_⟩
    unfold fnE at p
    by_cases h : ss.length = ps.length
    · rw [if_pos h] at p
      refine ⟨_, c, G, ρ, rs.start h, rh, ?_⟩
      rw [← rh.len] at p
      exact X.ok p
    · rw [if_neg h] at p; exact p.elim
theorem exG (kp : Bool) : ExitOk T (exitR kp) := ⟨exit_ok⟩
/-! ### the end -/
/-- what the head says of the tables of the module's defs -/
def TabsOf (q : Program) (mg : Str → Option Value) (h : Heap) : Prop := ∀ d ∈ recsOf q, ∃ a o fd c P, mg d.name = some (.ref a) ∧ h.get? a = some o ∧ o.data = .func fd ∧ fd.code = .ref c ∧ h.IsCode c P #[] ∧ h.TableAt c P #[]
structure TabIs (K : PySem.W.Frag) (h : Heap) (c P : Addr) : Prop where
  tab : h.get? P = some { cls := .none, data := .fields #[] }
  none : K.lookup P = none
  code : PySem.W.CodeHd h c P
theorem tab_is {q : Program} {h : Heap} {x : Str} {f c P : Addr} {oc : Value} {od : Option Addr} {fd : FuncData} {osl : Array (Option Value)} {vs : List Value} (KX : K.In h) (TS : TabsOf q mg h) (hx : ((recsOf q).any fun e => e.name == x) = true) (hm : mg x = some (.ref f))
    (l : K.lookup f = some ⟨oc, od, .func fd, osl⟩) (hc : fd.code = .ref c) (rc : PySem.W.recIn K c "code" = some vs) (vx : vs[11]? = some (.ref P)) (nt : PySem.W.typeIn K (.ref P) = none) : TabIs K h c P := by
  obtain ⟨dL, hmem, hn⟩ := List.any_eq_true.mp hx
  obtain ⟨a, o, fd', c', P', h1, h2, h3, h4, h5, h6⟩ := TS dL hmem
  rw [beq_iff_eq.mp hn, hm] at h1
  cases h1
  have g1 := KX _ _ l
  rw [g1] at h2
  cases h2
  cases h3
  rw [hc] at h4
  cases h4
  obtain ⟨d2, sl2, g2⟩ := PySem.W.rec_of KX rc
  have cd := PySem.W.CodeHd.of h5 h6
  obtain ⟨⟨o2, vs2, e1, e2, e3, e4⟩, hP⟩ := id h6
  rw [g2] at e1
  cases e1
  cases e3
  have e5 : vs[11]? = some (.ref P') := by simpa using e4
  rw [vx] at e5
  cases e5
  refine ⟨hP, ?_, cd⟩
  have nt : (K.lookup P).map (·.cls) = none := nt
  cases hl : K.lookup P with
  | none => rfl
  | some o => rw [hl] at nt; cases nt
def tbs (n : Nat) : Cs := (List.range n).map CC.tb
def LawTrueT (n : Nat) (d : List S → Cs → R S) : Prop := ∀ ns : List Int, ns.length ≤ 63 → (∀ z ∈ ns, Builtin.Int.intBits z ≤ 1048576) → d [.d (.scr ns)] (tbs n) = .ok (.d (.bl true)) (tbs n)
def spLawT (T : Tb) (n : Nat) : Sp := fun vs H Q _ => ∃ (a : Addr) (ns : List Int), vs = [.ref a] ∧ SqL T.K H a (ns.map V.int) ∧ ns.length ≤ 63 ∧ (∀ z ∈ ns, Builtin.Int.intBits z ≤ 1048576) ∧ (∀ j, j < n → H (T.tb j) = some (.tbl #[])) ∧ ((List.range n).map T.tb).Nodup ∧ ∀ H', Q (.bl true) H'
theorem law_endT {CX : CXT} {n : Nat} {f : Addr} {fd : FuncData} {ps : List Str} {d : List S → Cs → R S} (hd : LawTrueT n d) (F : FnOk P w K mg base CX k f fd ps (spD T d)) : FnOk P w K mg base CX k f fd ps (spLawT T n) := by
  refine F.imp fun vs H Q E h => ?_
  obtain ⟨a, ns, rfl, hS, hl, hb, ht, nd, q⟩ := h
  have mem : ∀ b, b ∈ (List.range n).map T.tb → ∃ j, j < n ∧ T.tb j = b := fun b hb => by
    obtain ⟨j, hj, e⟩ := List.mem_map.mp hb
    exact ⟨j, List.mem_range.mp hj, e⟩
  have sc : SqL T.K (fun b => if b ∈ (List.range n).map T.tb then none else H b) a (ns.map V.int) := by
    rcases hS with hS | hS
    · have na : a ∉ (List.range n).map T.tb := fun z => by
        obtain ⟨j, hj, e⟩ := mem a z
        have := ht j hj
        rw [e] at this
        rcases hS with h | ⟨o, h⟩
        · rw [h] at this; cases this
        · rw [h] at this; cases this
      refine .inl ?_
      rcases hS with h | ⟨o, h⟩
      · exact .inl ((if_neg na).trans h)
      · exact .inr ⟨o, (if_neg na).trans h⟩
    · exact .inr hS
  refine ⟨[.d (.scr ns)], tbs n, fun b => if b ∈ (List.range n).map T.tb then none else H b, (List.range n).map T.tb, .cons (Rep.scr sc (Nat.le_trans hl (by decide))) .nil, ⟨fun b o e => ?_, by simp [tbs], nd, fun i p x hp hx => ?_⟩, ?_⟩
  · by_cases hb : b ∈ (List.range n).map T.tb
    · have e : (if b ∈ (List.range n).map T.tb then none else H b) = some o := e
      rw [if_pos hb] at e; cases e
    · have e : (if b ∈ (List.range n).map T.tb then none else H b) = some o := e
      rw [if_neg hb] at e; exact e
  · have hi : i < n := by
      have := (List.getElem?_eq_some_iff.mp hp).1
      simpa using this
    have e1 : p = T.tb i := by
      rw [List.getElem?_map, List.getElem?_range hi] at hp
      exact (Option.some.inj hp).symm
    have e2 : x = .tb i := by
      unfold tbs at hx
      rw [List.getElem?_map, List.getElem?_range hi] at hx
      exact (Option.some.inj hx).symm
    subst e1 e2
    refine ⟨if_pos (List.mem_map.mpr ⟨i, List.mem_range.mpr hi, rfl⟩), rfl, #[], ht i hi, trivial⟩
  · rw [hd ns hl hb]
    intro v H' G' ρ' eg pr rh rv
    have : v = .bl true := SRep.bl_inv rv
    subst this
    exact q H'
theorem walkDT {l : PySem.W.OpenLaw} {q : Program} {loose : List Str} {XP : (Str → Option Value) → Heap → Prop} {YP : World → Heap → Prop} {d : DefRec} {K : Params → PySem.W.Frag} {x : Str} (hk : k ≤ 60) (hn : l.most = some 63) (hdf : d.params.defaults = [])
    (hY : ∀ (w : World) (h : Heap), YP w h → (K w.params).In h)
    (F : ∀ (w : World) (mg : Str → Option Value) (fa : Addr) (h : Heap), (K w.params).In h → h.Ns mainGlobals mg → mg d.name = some (.ref fa) → TabsOf q mg h →
      ∃ (fd : FuncData) (n : Nat) (T : Tb), T.K = K w.params ∧ (∀ j, j < n → TabIs (K w.params) h (T.tb (1000 + j)) (T.tb j)) ∧ ((List.range n).map T.tb).Nodup ∧ (∀ (s : Shared) (u : Value), BindsTo s fd ⟨[u], []⟩ [(x, u)]) ∧
        ∀ base : Heap, (K w.params).In base → base.Ns mainGlobals mg → (∀ j, j < n → TabA base mg T j) → FnOk l.prog w (K w.params) mg base (L2.CX l.prog w) k fa fd [x] (spLawT T n)) :
    PySem.W.WalkO q loose XP YP l.row.toRowW d [] (fun f vs => PySem.call f vs) := by
  have hr : Room k callerA := (⟨rfl, by decide, by decide⟩ : Room 60 callerA).mono hk
  refine Att.attach_callB hn hdf fun w s₀ s₁ mg mb fa o pm cd doc a vs ns G Y ho hd hcd hmg hobj hints hlen hbits hg => ?_
  have KX := hY w _ Y
  obtain ⟨fd, n, T, hT, tis, nd, hb, hF⟩ := F w mg fa _ KX G.T.g hmg G.T.tab
  have idx : ∀ p ∈ (List.range n).map (fun j => (T.tb (1000 + j), T.tb j)), ∃ j, j < n ∧ (T.tb (1000 + j), T.tb j) = p := fun p hp => by
    obtain ⟨j, hj, e⟩ := List.mem_map.mp hp
    exact ⟨j, List.mem_range.mp hj, e⟩
  refine LamX.law_callTs (cs := (List.range n).map (fun j => (T.tb (1000 + j), T.tb j))) (sp := spLawT T n) (k := k) (CX := L2.CX l.prog w) KX G.T.g G.T.b G.T.builtins G.T.nolimit hg (fun p hp => ?_) (fun p hp => ?_) (fun p hp => ?_) G.T.bmain hobj hints (Nat.le_trans hlen (by decide)) hr (fun base h1 h2 h3 => ?_) hb (fun H hH hS => ?_) fun _ _ _ ⟨_, _, _, _, _, _, _, _, _, _, _, _, z⟩ => z
  · obtain ⟨j, hj, rfl⟩ := idx p hp; exact (tis j hj).tab
  · obtain ⟨j, hj, rfl⟩ := idx p hp; exact (tis j hj).none
  · obtain ⟨j, hj, rfl⟩ := idx p hp; exact (tis j hj).code
  · exact hF base h1 h2 fun j hj => let t := h3 _ (List.mem_map.mpr ⟨j, List.mem_range.mpr hj, rfl⟩); ⟨t.code, t.bm, t.gP⟩
  · exact ⟨a, ns, rfl, by rw [hT]; exact hS, hlen, hbits, fun j hj => hH _ (List.mem_map.mpr ⟨j, List.mem_range.mpr hj, rfl⟩), nd, fun _ => rfl⟩
def tbOfT (K : PySem.W.Frag) (cl : List Addr) (fl : List (List Str)) (ts cs : List Addr) : Tb := ⟨K, fun n => cl.getD n 0, fun n => fl.getD n [], none, fun j => if j < 1000 then ts.getD j 0 else cs.getD (j - 1000) 0⟩
end
end Dn

end
section
set_option maxHeartbeats 1000000
/-! Dn31: comprehensions whose items are cells; list(x) as a cell; append, clear where items are cells. -/
namespace Dn
open PySem PySem.Spec PyProof.Rows L2
/-! ### the list that is built moves behind its items -/
def lowS (k : Nat) : S → S
  | .c j => .c (if k < j then j - 1 else j)
  | s => s
def lowCC (k : Nat) : CC → CC
  | .lS xs => .lS (xs.map (lowS k))
  | .tS xs => .tS (xs.map (lowS k))
  | x => x
def isRef (k : Nat) : S → Bool
  | .c j => j == k
  | .x _ _ => true
  | _ => false
def noRef (k : Nat) : CC → Bool
  | .lS xs => xs.all fun s => !isRef k s
  | .tS xs => xs.all fun s => !isRef k s
  | _ => true
def rotL {α : Type} (k : Nat) (l : List α) (f : α → α) (x : α) : List α := l.take k ++ (l.drop (k + 1)).map f ++ [x]
theorem rotL_lt {α : Type} {k i : Nat} {l : List α} {f : α → α} {x : α} (h : i < k) (hk : k < l.length) : (rotL k l f x)[i]? = l[i]? := by
  unfold rotL
  rw [List.getElem?_append_left (by simp; omega), List.getElem?_append_left (by simp; omega), List.getElem?_take, if_pos h]
theorem rotL_mid {α : Type} {k i : Nat} {l : List α} {f : α → α} {x : α} (h : k ≤ i) (hi : i + 1 < l.length) : (rotL k l f x)[i]? = l[i + 1]?.map f := by
  unfold rotL
  rw [List.getElem?_append_left (by simp; omega), List.getElem?_append_right (by simp; omega)]
  simp only [List.getElem?_map, List.getElem?_drop, List.length_take]
  congr 2
  omega
theorem rotL_len {α : Type} {k : Nat} {l : List α} {f : α → α} {x : α} (hk : k < l.length) : (rotL k l f x).length = l.length := by
  unfold rotL
  simp
  omega
theorem rotL_last {α : Type} {k i : Nat} {l : List α} {f : α → α} {x : α} (hk : k < l.length) (h : i + 1 = l.length) : (rotL k l f x)[i]? = some x := by
  unfold rotL
  rw [List.getElem?_append_right (by simp; omega)]
  have e : i - (List.take k l ++ List.map f (List.drop (k + 1) l)).length = 0 := by simp; omega
  rw [e]
  rfl
section
variable {T : Tb} {G H : Hp} {ρ : List Addr} {c : Cs}
theorem CReps.low {G : Hp} {ρ ρ' : List Addr} {k : Nat} (h : ∀ j p, j ≠ k → ρ[j]? = some p → ρ'[if k < j then j - 1 else j]? = some p) {xs : List S} {vs : List V} (r : CReps T G ρ xs vs) (n : (xs.all fun s => !isRef k s) = true) : CReps T G ρ' (xs.map (lowS k)) vs := by
  induction r with
  | nil => exact .nil
  | @cons s ss v vs a _ ih =>
    rw [List.all_cons, Bool.and_eq_true] at n
    refine .cons ?_ (ih n.2)
    cases s with
    | d x => exact a
    | x _ _ => exact a.elim
    | c j =>
      obtain ⟨p, hp, rfl⟩ := a
      have hj : j ≠ k := fun z => by
        have := n.1
        unfold isRef at this
        simp [z] at this
      exact ⟨p, h j p hj hp, rfl⟩
theorem RelH.rot {k : Nat} {x : CC} {D0 : Addr} (r : RelH T H c G ρ) (hk : c[k]? = some x) (hD : ρ[k]? = some D0) (hn : ((c.drop (k + 1)).all (noRef k)) = true) : RelH T H (rotL k c (lowCC k) x) G (rotL k ρ id D0) := by
  have lc : k < c.length := (List.getElem?_eq_some_iff.mp hk).1
  have lr : k < ρ.length := (List.getElem?_eq_some_iff.mp hD).1
  refine ⟨r.ex, by rw [rotL_len lc, rotL_len lr]; exact r.len, ?_, fun i p y hp hy => ?_⟩
  · have e : ρ = ρ.take k ++ D0 :: ρ.drop (k + 1) := by
      have e2 := (List.getElem?_eq_some_iff.mp hD).2
      rw [← e2, ← List.drop_eq_getElem_cons lr, List.take_append_drop]
    have pm : (rotL k ρ id D0).Perm ρ := by
      unfold rotL
      rw [List.map_id]
      conv => rhs; rw [e]
      rw [List.append_assoc]
      exact List.Perm.append_left _ (List.perm_append_comm.trans (List.Perm.refl _))
    exact pm.nodup_iff.mpr r.nd
  · have li : i < ρ.length := by
      have := (List.getElem?_eq_some_iff.mp hp).1
      rwa [rotL_len lr] at this
    have lci : i < c.length := by rw [← r.len]; exact li
    by_cases h1 : i < k
    · rw [rotL_lt h1 lr] at hp
      rw [rotL_lt h1 lc] at hy
      obtain ⟨g, ok⟩ := r.at_ i p y hp hy
      refine ⟨g, ?_⟩
      have e : (rotL k ρ id D0).take i = ρ.take i := by
        unfold rotL
        rw [List.append_assoc, List.take_append_of_le_length (by simp; omega), List.take_take]
        congr 1
        omega
      rw [e]
      exact ok
    · by_cases h2 : i + 1 < ρ.length
      · have hc2 : i + 1 < c.length := by rw [← r.len]; exact h2
        rw [rotL_mid (by omega) h2, Option.map_id] at hp
        rw [rotL_mid (by omega) hc2] at hy
        have hp : ρ[i + 1]? = some p := hp
        cases hz : c[i + 1]? with
        | none => rw [hz] at hy; cases hy
        | some z =>
          rw [hz] at hy
          have hy : lowCC k z = y := Option.some.inj hy
          subst hy
          obtain ⟨g, ok⟩ := r.at_ (i + 1) p z hp hz
          refine ⟨g, ?_⟩
          have nz : noRef k z = true := by
            refine List.all_eq_true.mp hn z ?_
            refine List.mem_of_getElem? (i := i - k) ?_
            rw [List.getElem?_drop]
            have : k + 1 + (i - k) = i + 1 := by omega
            rw [this]
            exact hz
          have mv : ∀ j p, j ≠ k → (ρ.take (i + 1))[j]? = some p → ((rotL k ρ id D0).take i)[if k < j then j - 1 else j]? = some p := fun j p hj e => by
            have lj : j < i + 1 := by
              have := (List.getElem?_eq_some_iff.mp e).1
              simp at this
              omega
            rw [List.getElem?_take, if_pos lj] at e
            by_cases hkj : k < j
            · rw [if_pos hkj, List.getElem?_take, if_pos (by omega), rotL_mid (by omega) (by omega)]
              have : j - 1 + 1 = j := by omega
              rw [this, e]
              rfl
            · rw [if_neg hkj, List.getElem?_take, if_pos (by omega), rotL_lt (by omega) lr]
              exact e
          cases z with
          | lst xs => exact ok
          | dct xs => exact ok
          | obj _ xs => exact ok
          | tb j => exact ok
          | lS xs =>
            obtain ⟨vs, a, b, q⟩ := ok
            exact ⟨vs, a, by simpa using b, q.low mv nz⟩
          | tS xs =>
            obtain ⟨vs, a, b, q⟩ := ok
            exact ⟨vs, a, by simpa using b, q.low mv nz⟩
      · have e : i + 1 = ρ.length := by omega
        rw [rotL_last lr e] at hp
        rw [rotL_last lc (by rw [← r.len]; exact e)] at hy
        have hp : D0 = p := Option.some.inj hp
        have hy : x = y := Option.some.inj hy
        subst hp hy
        obtain ⟨g, ok⟩ := r.at_ k D0 x hD hk
        refine ⟨g, ok.keep (.refl _) rfl ?_⟩
        unfold rotL
        rw [List.append_assoc, List.take_append]
        have e3 : List.take i (List.take k ρ) = List.take k ρ := by
          rw [List.take_take]
          congr 1
          omega
        rw [e3]
        exact List.prefix_append _ _
end
/-- a new item: the list, cell k, moves to the end -/
def pushS (k : Nat) (s : S) (c : Cs) : R Nat := match c[k]? with
  | some (.lS acc) => if acc.length < sizeLine ∧ isRef k s = false ∧ ((c.drop (k + 1)).all (noRef k)) = true then .ok (c.length - 1) ((rotL k c (lowCC k) (.lS acc)).set (c.length - 1) (.lS (acc ++ [lowS k s]))) else .bad
  | _ => .bad
def cloopS (g : GT) (C : MT) (A : M) (δ : Sl) : List S → Nat → Cs → R Nat
  | [], k, c => .ok k c
  | d :: ds, k, c => match g d c δ with
    | none => .bad
    | some δ1 => (C δ1 c).bindN fun b c => if b = true then (A δ1 c).bindN fun s c => (pushS k s c).bindN fun k c => cloopS g C A δ ds k c else if c.length = k + 1 then cloopS g C A δ ds k c else .bad
def mCompS (I : MI) (g : GT) (C : MT) (A : M) (vs : List Nat) : M := fun δ c => (I δ c).bind fun src c => match src with
  | .xs l => (cloopS g C A (wipeD δ vs) l c.length (c ++ [.lS []])).bindN fun k c2 => .ok (.c k) c2
  | _ => .bad
section
variable {X : Cx} {T : Tb} {W : WX} {a b o e : Expr} {es : List Expr} {A B : M} {pos p apos : Pos}
theorem pushS_ok {D0 : Addr} {k : Nat} {s : S} {y : V} {c : Cs} {G H : Hp} {ρ : List Addr} {Go : Hp} {ρo : List Addr} {σ : L2.St} {Q : VK} {f : Nat → Cs → R S} {N : Hp → Prop} (hh : RelH T H c G ρ) (hD : ρ[k]? = some D0) (rs : SRep T G ρ s y) (p : Post (SRep T) T W σ Go ρo ((pushS k s c).bindN f) Q)
    (kk : ∀ H' k' c' ρ', (∀ n, n ≤ k → ρ.take n <+: ρ') → ρ'[k']? = some D0 → k' + 1 = ρ'.length → k ≤ k' → RelH T H' c' G ρ' → Post (SRep T) T W σ Go ρo (f k' c') Q → N H') : ∃ acc, H D0 = some (.lst acc) ∧ acc.length < sizeLine ∧ N (upd H D0 (.lst (acc ++ [y]))) := by
  unfold pushS at p
  cases hc : c[k]? with
  | none => simp only [hc] at p; exact p.elim
  | some cc =>
    cases cc with
    | lS acc =>
      simp only [hc] at p
      by_cases hl : acc.length < sizeLine ∧ isRef k s = false ∧ ((c.drop (k + 1)).all (noRef k)) = true
      · rw [if_pos hl] at p
        obtain ⟨g, vs, ho, hl2, rr⟩ := hh.at_ k D0 _ hD hc
        have lr : k < ρ.length := (List.getElem?_eq_some_iff.mp hD).1
        have r2 := hh.rot hc hD hl.2.2
        have hlast : (rotL k ρ id D0)[c.length - 1]? = some D0 := rotL_last lr (by rw [hh.len] at lr ⊢; omega)
        have len2 : (rotL k ρ id D0).length = ρ.length := rotL_len lr
        refine ⟨vs, ho, by rw [rr.length]; exact hl.1, kk _ (c.length - 1) _ (rotL k ρ id D0) (fun n hn => ?_) hlast (by rw [len2, hh.len]; have := hh.len; omega) (by have := hh.len; omega) (r2.cell (x := .lS (acc ++ [lowS k s])) hlast fun H' hH' _ => ?_) p⟩
        · unfold rotL
          rw [List.append_assoc]
          exact ((List.take_prefix_take_left hn)).trans (List.prefix_append _ _)
        · refine ⟨_, hH', by rw [List.length_append]; simp; omega, ?_⟩
          have e1 : (rotL k ρ id D0).take (c.length - 1) = ρ.take k ++ ρ.drop (k + 1) := by
            unfold rotL
            rw [List.map_id, List.take_left']
            simp
            have := hh.len
            omega
          have old : CReps T G ((rotL k ρ id D0).take (c.length - 1)) acc vs := rr.mono (.refl _) (by rw [e1]; exact List.prefix_append _ _)
          have new : CRep T G ((rotL k ρ id D0).take (c.length - 1)) (lowS k s) y := by
            cases s with
            | d x => exact rs
            | x _ _ => exact absurd hl.2.1 (by simp [isRef])
            | c j =>
              obtain ⟨q, hq, rfl⟩ := rs
              have hj : j ≠ k := fun z => by
                have := hl.2.1
                simp [isRef, z] at this
              have lj := (List.getElem?_eq_some_iff.mp hq).1
              refine ⟨q, ?_, rfl⟩
              rw [e1]
              by_cases hkj : k < j
              · rw [if_pos hkj, List.getElem?_append_right (by simp; omega), List.getElem?_drop]
                have : k + 1 + (j - 1 - (ρ.take k).length) = j := by simp; omega
                rw [this]
                exact hq
              · rw [if_neg hkj, List.getElem?_append_left (by simp; omega), List.getElem?_take, if_pos (by omega)]
                exact hq
          have app : ∀ {xs : List S} {us : List V}, CReps T G ((rotL k ρ id D0).take (c.length - 1)) xs us → CReps T G ((rotL k ρ id D0).take (c.length - 1)) (xs ++ [lowS k s]) (us ++ [y]) := by
            intro xs us r
            induction r with
            | nil => exact .cons new .nil
            | cons a _ ih => exact .cons a ih
          exact app old
      · rw [if_neg hl] at p; exact p.elim
    | _ => simp only [hc] at p; exact p.elim
variable {elt tg iter : Expr} {ifs : List Expr} {scope : Scope} {own : List (Str × Nat)} {I : MI} {g : GT} {C : MT}
theorem tD_compS {vs : List Nat} {σ : L2.St} {H : Hp} {Q : VK} (h : tD T W (mCompS I g C A vs) σ H Q) : tLc (tI T W I) (tGv T g vs) (tDT T W0 C) (tD T W0 A) vs σ H Q := by
  obtain ⟨δ, c, G, ρ, hs, hh, p⟩ := h
  refine ⟨δ, c, G, ρ, hs, hh, (Post.bind (rel := relI T) p).imp ?_⟩
  rintro J H1 ⟨src, c1, G1, ρ1, e1, p1, h1, wk0, q1⟩ D0 hD0
  cases src with
  | cell n => exact q1.elim
  | xs xs =>
    obtain ⟨wk, hlen⟩ := wk0
    have hn : RelH T (upd H1 D0 (.lst [])) (c1 ++ [.lS []]) G1 (ρ1 ++ [D0]) := h1.newCell hD0 fun H' hH' => ⟨[], hH', Nat.zero_le _, .nil⟩
    have q1 : Post (SRep T) T W σ G1 ρ1 ((cloopS g C A (wipeD δ vs) xs c1.length (c1 ++ [.lS []])).bindN fun k c2 => .ok (.c k) c2) Q := q1
    have hsw := (hs.mono e1 p1).wipe vs
    refine ⟨fun i m H => m = xs.length - i ∧ i ≤ xs.length ∧ ∃ c G ρ' k, Ex G1 G ∧ ρ1 <+: ρ' ∧ ρ1.length ≤ k ∧ ρ'[k]? = some D0 ∧ k + 1 = ρ'.length ∧ RelH T H c G ρ' ∧ Post (SRep T) T W σ G1 ρ1 ((cloopS g C A (wipeD δ vs) (xs.drop i) k c).bindN fun k c2 => .ok (.c k) c2) Q,
      ⟨xs.length, by simp, Nat.zero_le _, c1 ++ [.lS []], G1, ρ1 ++ [D0], c1.length, .refl _, List.prefix_append _ _, by rw [h1.len]; exact Nat.le_refl _, by rw [← h1.len]; simp, by simp [h1.len], hn, by rw [List.drop_zero]; exact q1⟩, ?_⟩
    rintro i m H ⟨rfl, hi, c, G, ρ', k, e2, p2, lk, hD, hk, h2, q2⟩
    by_cases hlt : i < xs.length
    · refine .inr ⟨wk.go i H (e2.trans h2.ex) hlt, fun H' => i + 1 ≤ xs.length ∧ ∃ c G ρ' k, Ex G1 G ∧ ρ1 <+: ρ' ∧ ρ1.length ≤ k ∧ ρ'[k]? = some D0 ∧ k + 1 = ρ'.length ∧ RelH T H' c G ρ' ∧ Post (SRep T) T W σ G1 ρ1 ((cloopS g C A (wipeD δ vs) (xs.drop (i + 1)) k c).bindN fun k c2 => .ok (.c k) c2) Q,
        fun H' ⟨z1, z2⟩ => ⟨xs.length - (i + 1), by omega, rfl, z1, z2⟩, fun x H' y => ?_⟩
      obtain ⟨G3, st, rx⟩ := wk.yld i H G ρ' x H' e2 p2 h2.ex y xs[i] (List.getElem?_eq_getElem hlt)
      rw [List.drop_eq_getElem_cons hlt] at q2
      unfold cloopS at q2
      cases hg : g xs[i] c (wipeD δ vs) with
      | none => simp only [hg] at q2; exact q2.elim
      | some δ1 =>
        simp only [hg] at q2
        rw [bindN_assoc] at q2
        refine ⟨xs[i], wipeD δ vs, c, G3, ρ', δ1, h2.step st, rx, (hsw.mono e2 p2).mono st.g (List.prefix_refl _), hg, fun σ2 s2 w2 => ⟨w2.trans wipe_wipe, ?_⟩⟩
        refine ⟨δ1, c, G3, ρ', s2, h2.step st, (Post.bindN (rel := relB) q2).imp ?_⟩
        rintro v H3 ⟨kb, c3, G4, ρ4, e4, p4, h4, r4, q4⟩
        have r4 : v = kb := r4
        subst r4
        have hD4 := pre_get p4 hD
        cases v with
        | false =>
          have q4 : Post (SRep T) T W σ G1 ρ1 ((if c3.length = k + 1 then cloopS g C A (wipeD δ vs) (List.drop (i + 1) xs) k c3 else .bad).bindN fun k c2 => .ok (.c k) c2) Q := q4
          by_cases hl : c3.length = k + 1
          · rw [if_pos hl] at q4
            exact ⟨hlt, c3, G4, ρ4, k, (e2.trans st.g).trans e4, p2.trans p4, lk, hD4, by rw [h4.len]; exact hl.symm, h4, q4⟩
          · rw [if_neg hl] at q4; exact q4.elim
        | true =>
          have q4 : Post (SRep T) T W σ G1 ρ1 (((A δ1 c3).bindN fun s c => (pushS k s c).bindN fun k c => cloopS g C A (wipeD δ vs) (List.drop (i + 1) xs) k c).bindN fun k c2 => .ok (.c k) c2) Q := q4
          rw [bindN_assoc] at q4
          refine ⟨δ1, c3, G4, ρ4, s2.mono e4 p4, h4, (Post.bindN (rel := SRep T) q4).imp ?_⟩
          rintro y H5 ⟨s, c5, G5, ρ5, e5, p5, h5, r5, q5⟩
          rw [bindN_assoc] at q5
          refine pushS_ok (N := fun H' => i + 1 ≤ xs.length ∧ ∃ c G ρ' k, Ex G1 G ∧ ρ1 <+: ρ' ∧ ρ1.length ≤ k ∧ ρ'[k]? = some D0 ∧ k + 1 = ρ'.length ∧ RelH T H' c G ρ' ∧ Post (SRep T) T W σ G1 ρ1 ((cloopS g C A (wipeD δ vs) (xs.drop (i + 1)) k c).bindN fun k c2 => .ok (.c k) c2) Q) h5 (pre_get p5 hD4) r5 q5 fun H' k' c' ρ'' tk hd hk' lk' rh q' => ⟨hlt, c', G5, ρ'', k', ((e2.trans st.g).trans e4).trans e5, ?_, Nat.le_trans lk lk', hd, hk', rh, q'⟩
          have := tk ρ1.length lk
          rwa [show ρ5.take ρ1.length = ρ1 from by
            obtain ⟨t, rfl⟩ := (p2.trans p4).trans p5
            exact List.take_left] at this
    · have e : i = xs.length := by omega
      subst e
      rw [List.drop_length] at q2
      exact .inl ⟨wk.stop _ H (e2.trans h2.ex) (Nat.le_refl _), q2 _ H G ρ' e2 p2 h2 ⟨D0, hD, rfl⟩⟩
theorem dn_compS (hc : X.calm = true) (hN : X.N.Nodup) (hi : PI X tg iter (tI T W I)) (ok : BlkOk X.N X.env.scope scope own)
    (hg : ∀ (s : Shared) (H : Hp) (C : Addr) (cl : List (Str × Addr)) (fp : List Addr), PG (X.blk s H scope (compEnvC scope cl C X.env) fp) tg (tGv T g (own.map (·.2)))) (ht : ∀ (s : Shared) (H : Hp) (C0 : Addr) (cl : List (Str × Addr)) (fp : List Addr), PTs (X.blk s H scope (compEnvC scope cl C0 X.env) fp) ifs (tDT T W0 C))
    (he : ∀ (s : Shared) (H : Hp) (C : Addr) (cl : List (Str × Addr)) (fp : List Addr), PE (X.blk s H scope (compEnvC scope cl C X.env) fp) elt (tD T W0 A)) (hs : ∀ x, foldedSetIterable iter X.env x = pure x := by intro _; rfl) :
    PE X (.ListComp elt [⟨tg, iter, ifs, 0⟩] scope pos) (tD T W (mCompS I g C A (own.map (·.2)))) :=
  PE.imp (pe_lc hc hN hi ok hg ht he hs) fun _ _ _ h => tD_compS h
theorem ds_setCompS {i : Nat} {y : Str} {py spos : Pos} (hc : X.calm = true) (hN : X.N.Nodup) (hy : X.N[i]? = some y) (hyl : X.env.scope.names.lookup y = some .local)
    (hsw : swapsWith (.ListComp elt [⟨tg, iter, ifs, 0⟩] scope pos) (some (.Name y py)) spos.line X.env = pure true) (hi : PI X tg iter (tI T W I)) (ok : BlkOk X.N X.env.scope scope own)
    (hg : ∀ (s : Shared) (H : Hp) (C : Addr) (cl : List (Str × Addr)) (fp : List Addr), PG (X.blk s H scope (compEnvC scope cl C X.env) fp) tg (tGv T g (own.map (·.2)))) (ht : ∀ (s : Shared) (H : Hp) (C0 : Addr) (cl : List (Str × Addr)) (fp : List Addr), PTs (X.blk s H scope (compEnvC scope cl C0 X.env) fp) ifs (tDT T W0 C))
    (he : ∀ (s : Shared) (H : Hp) (C : Addr) (cl : List (Str × Addr)) (fp : List Addr), PE (X.blk s H scope (compEnvC scope cl C X.env) fp) elt (tD T W0 A)) (hs : ∀ x, foldedSetIterable iter X.env x = pure x := by intro _; rfl) :
    PS X (.Assign [.Name y py] (.ListComp elt [⟨tg, iter, ifs, 0⟩] scope pos) spos) (tS T W (sSet i (mCompS I g C A (own.map (·.2))))) :=
  PS.imp (ps_setLc hc hN hy hyl hsw hi ok hg ht he hs) fun _ _ _ h => tS_setR (fun _ _ _ h => tD_compS h) h
end
/-! ### list(x), sorted(x) as cells -/
section
variable {X : Cx} {T : Tb} {W : WX} {a b o e : Expr} {es : List Expr} {A : M} {pos p apos : Pos} {B : MA}
def seqS (s : S) (c : Cs) : Option (List S) := match s with
  | .d (.scr ns) => some (ns.map fun n => .d (.int n))
  | .d (.lst xs) => some (xs.map S.d)
  | .d (.tup xs) => some (xs.map S.d)
  | .c n => match c[n]? with
    | some (.lst xs) => some (xs.map S.d)
    | some (.lS xs) => some xs
    | some (.tS xs) => some xs
    | _ => none
  | _ => none
theorem seqS_rep {H : Hp} {c : Cs} {G : Hp} {ρ : List Addr} {s : S} {ss : List S} {v : V} (hh : RelH T H c G ρ) (r : SRep T G ρ s v) (h : seqS s c = some ss) : ∃ p vs, v = .ref p ∧ (SqL T.K H p vs ∨ SqT T.K H p vs) ∧ ss.length ≤ sizeLine ∧ SReps T G ρ ss vs := by
  unfold seqS at h
  cases s with
  | x _ _ => cases h
  | d d =>
    cases d with
    | lst ds =>
      cases h
      obtain ⟨p, vs, rfl, sq, l, rr⟩ := Rep.lst_inv (show Rep T G (.lst ds) v from r)
      exact ⟨p, vs, rfl, .inl (SqL.of (hh.ex _ _ sq)), by simpa using l, .ofD rr⟩
    | tup ds =>
      cases h
      obtain ⟨p, vs, rfl, sq, l, rr⟩ := Rep.tup_inv (show Rep T G (.tup ds) v from r)
      exact ⟨p, vs, rfl, .inr (SqT.of (hh.ex _ _ sq)), by simpa using l, .ofD rr⟩
    | scr ns =>
      cases h
      obtain ⟨p, rfl, sq, l⟩ := Rep.scr_inv (show Rep T G (.scr ns) v from r)
      refine ⟨p, _, rfl, .inl (ex_l hh.ex sq), by simpa using l, ?_⟩
      have := SReps.ofD (T := T) (ρ := ρ) (Reps.map_int (T := T) (G := G) ns)
      rw [List.map_map] at this
      exact this
    | _ => cases h
  | c n =>
    obtain ⟨p, hp, rfl⟩ := r
    cases hc : c[n]? with
    | none => simp only [hc] at h; cases h
    | some cc =>
      cases cc with
      | lst xs =>
        simp only [hc] at h; cases h
        obtain ⟨_, vs, a, b, cr⟩ := hh.at_ n p _ hp hc
        exact ⟨p, vs, rfl, .inl (SqL.of a), by simpa using b, .ofD cr⟩
      | lS xs =>
        simp only [hc] at h; cases h
        obtain ⟨_, vs, a, b, cr⟩ := hh.at_ n p _ hp hc
        exact ⟨p, vs, rfl, .inl (SqL.of a), b, (SReps.ofC cr).mono (.refl _) (List.take_prefix _ _)⟩
      | tS xs =>
        simp only [hc] at h; cases h
        obtain ⟨_, vs, a, b, cr⟩ := hh.at_ n p _ hp hc
        exact ⟨p, vs, rfl, .inr (SqT.of a), b, (SReps.ofC cr).mono (.refl _) (List.take_prefix _ _)⟩
      | _ => simp only [hc] at h; cases h
def cellOf (ss : List S) : Option CC := match datas ss with
  | some ds => some (.lst ds)
  | none => if noXs ss = true then some (.lS ss) else none
def newL (ss : List S) (c : Cs) : R S := match cellOf ss with
  | some x => if ss.length ≤ sizeLine then .ok (.c c.length) (c ++ [x]) else .bad
  | none => .bad
theorem datas_len : ∀ {ss : List S} {ds : List D}, datas ss = some ds → ds.length = ss.length
  | [], ds, h => by cases h; rfl
  | .d x :: r, ds, h => by
    unfold datas at h
    cases h2 : datas r with
    | none => rw [h2] at h; cases h
    | some q => rw [h2] at h; cases h; simp [datas_len h2]
  | .c _ :: r, ds, h => by unfold datas at h; cases h
  | .x _ _ :: r, ds, h => by unfold datas at h; cases h
theorem newL_ok {H : Hp} {c : Cs} {G : Hp} {ρ : List Addr} {ss : List S} {vs : List V} {σ : L2.St} {Q : VK} (hh : RelH T H c G ρ) (r : SReps T G ρ ss vs) (p : Post (SRep T) T W σ G ρ (newL ss c) Q) {l : Addr} (hl : H l = none) : Q (.ref l) (upd H l (.lst vs)) := by
  unfold newL cellOf at p
  cases hd : datas ss with
  | some ds =>
    simp only [hd] at p
    by_cases hs : ss.length ≤ sizeLine
    · rw [if_pos hs] at p
      have h2 := hh.newCell (x := .lst ds) (ob := .lst vs) hl (fun H' hH' => ⟨vs, hH', by rw [datas_len hd]; exact hs, datas_reps r hd⟩)
      exact p _ _ G (ρ ++ [l]) (.refl _) (List.prefix_append _ _) h2 ⟨l, by rw [← hh.len]; simp, rfl⟩
    · rw [if_neg hs] at p; exact p.elim
  | none =>
    simp only [hd] at p
    by_cases hn : noXs ss = true
    · simp only [hn, if_true] at p
      by_cases hs : ss.length ≤ sizeLine
      · rw [if_pos hs] at p
        have h2 := hh.newCell (x := .lS ss) (ob := .lst vs) hl (fun H' hH' => ⟨vs, hH', hs, noXs_reps hn r⟩)
        exact p _ _ G (ρ ++ [l]) (.refl _) (List.prefix_append _ _) h2 ⟨l, by rw [← hh.len]; simp, rfl⟩
      · rw [if_neg hs] at p; exact p.elim
    · simp only [hn] at p; exact p.elim
def listK : List S → Cs → R S
  | [s], c => match seqS s c with
    | some ss => newL ss c
    | none => .bad
  | _, _ => .bad
theorem prim_listK : PrimN T listK (fun xs H Q => ∃ p ys, xs = [.ref p] ∧ (SqL T.K H p ys ∨ SqT T.K H p ys) ∧ ∀ l, H l = none → Q (.ref l) (upd H l (.lst ys))) := by
  intro W σ G ρ H c ss vs Q hh rs p
  unfold listK at p
  split at p
  · rename_i s
    obtain ⟨v, rfl, r⟩ := rs.one
    cases h : seqS s c with
    | none => simp only [h] at p; exact p.elim
    | some xs =>
      simp only [h] at p
      obtain ⟨q, us, rfl, sq, l, rr⟩ := seqS_rep hh r h
      exact ⟨q, us, rfl, sq, fun l hl => newL_ok hh rr p hl⟩
  · exact p.elim
theorem dn_listK (hT : X.K = T.K) (hg : Gl X "list") (hm : X.mg "list" = none) (ha : PA X (e :: es) (tDA T W B)) (he : starEach (e :: es) X.env = (false, eval e X.env) :: starEach es X.env := by rfl) (hpl : (backTo pos (starEach es X.env)).any (·.1) = false := by rfl) : PE X (.Call (.Name "list" p) (e :: es) [] pos) (tD T W (mBlt listK B)) :=
  dn_callTy (by have := call_list_of (X := X); rw [hT] at this; exact this) prim_listK hg hm (by decide +kernel) ha (by decide) (by decide) he hpl
def sortedK : List S → Cs → R S
  | [s], c => match deref s c with
    | some (.lst xs) => if sortOk xs = true then .ok (.c c.length) (c ++ [.lst (sortL xs)]) else .bad
    | _ => .bad
  | _, _ => .bad
theorem prim_sortedK : PrimN T sortedK (rSrt T) := by
  intro W σ G ρ H c ss vs Q hh rs p
  unfold sortedK at p
  split at p
  · rename_i s
    obtain ⟨v, rfl, r⟩ := rs.one
    cases h : deref s c with
    | none => simp only [h] at p; exact p.elim
    | some d =>
      cases d with
      | lst xs =>
        simp only [h] at p
        by_cases ok : sortOk xs = true
        · rw [if_pos ok] at p
          obtain ⟨q, us, rfl, sq, l, rr⟩ := (show ∃ p vs, v = .ref p ∧ H p = some (.lst vs) ∧ xs.length ≤ sizeLine ∧ Reps T G xs vs from deref_view hh r h)
          refine ⟨G, q, us, xs, rfl, hh.ex, sq, rr, ok, l, fun t ws ht hr => ?_⟩
          have h2 := hh.newCell (x := .lst (sortL xs)) (ob := .lst ws) ht (fun H' hH' => ⟨ws, hH', by rw [sortL_merge, List.length_mergeSort]; exact l, hr⟩)
          exact p _ _ G (ρ ++ [t]) (.refl _) (List.prefix_append _ _) h2 ⟨t, by rw [← hh.len]; simp, rfl⟩
        · rw [if_neg ok] at p; exact p.elim
      | _ => simp only [h] at p; exact p.elim
  · exact p.elim
theorem dn_sortedK {k : Nat} (hT : X.K = T.K) (hr : Room k X.A) (hg : Gl X "sorted") (hm : X.mg "sorted" = none) (ha : PA X (e :: es) (tDA T W B)) (he : starEach (e :: es) X.env = (false, eval e X.env) :: starEach es X.env := by rfl) (hpl : (backTo pos (starEach es X.env)).any (·.1) = false := by rfl) : PE X (.Call (.Name "sorted" p) (e :: es) [] pos) (tD T W (mBlt sortedK B)) :=
  dn_callB (cr_srt hT hr.units) prim_sortedK hg hm (by decide +kernel) ha (by decide) (by decide) he hpl
/-! ### len of a list with cells -/
def lenX (g : List D → Option D) (ss : List S) (c : Cs) : R S := match ss with
  | [.c n] => match c[n]? with
    | some (.lS xs) => .ok (.d (.int xs.length)) c
    | some (.tS xs) => .ok (.d (.int xs.length)) c
    | _ => liftN g [.c n] c
  | ss => liftN g ss c
theorem prim_lenX {g : List D → Option D} {r : List V → Hp → VK → Prop} (h : FreshN T g r) (hr : ∀ p ys H Q, (SqL T.K H p ys ∨ SqT T.K H p ys) → Q (.int ys.length) H → r [.ref p] H Q) : PrimN T (lenX g) r := by
  intro W σ G ρ H c ss vs Q hh rs p
  unfold lenX at p
  have old := primN h W σ G ρ H c ss vs Q hh rs
  split at p
  · rename_i n
    obtain ⟨v, rfl, r1⟩ := rs.one
    obtain ⟨q, hq, rfl⟩ := r1
    cases hc : c[n]? with
    | none => simp only [hc] at p; exact old p
    | some cc =>
      cases cc with
      | lS xs =>
        simp only [hc] at p
        obtain ⟨_, vs, a, _, cr⟩ := hh.at_ n q _ hq hc
        refine hr q vs H Q (.inl (SqL.of a)) ?_
        rw [cr.length]
        exact p _ H G ρ (.refl _) (List.prefix_refl _) hh SRep.int
      | tS xs =>
        simp only [hc] at p
        obtain ⟨_, vs, a, _, cr⟩ := hh.at_ n q _ hq hc
        refine hr q vs H Q (.inr (SqT.of a)) ?_
        rw [cr.length]
        exact p _ H G ρ (.refl _) (List.prefix_refl _) hh SRep.int
      | lst _ => simp only [hc] at p; exact old p
      | dct _ => simp only [hc] at p; exact old p
      | obj _ _ => simp only [hc] at p; exact old p
      | tb _ => simp only [hc] at p; exact old p
  · exact old p
theorem dn_lenX (hT : X.K = T.K) (hg : Gl X "len") (hm : X.mg "len" = none) (ha : PA X (e :: es) (tDA T W B)) (he : starEach (e :: es) X.env = (false, eval e X.env) :: starEach es X.env := by rfl) (hpl : (backTo pos (starEach es X.env)).any (·.1) = false := by rfl) : PE X (.Call (.Name "len" p) (e :: es) [] pos) (tD T W (mBlt (lenX lenD) B)) :=
  dn_callB (by have := (call_len_seq (X := X)).or call_len_str; rw [hT] at this; exact this) (prim_lenX fresh_len fun p ys H Q h q => .inl ⟨p, ys, rfl, h, q⟩) hg hm PySem.boot_len ha (by decide) (by decide) he hpl
theorem dn_lenXO {k : Nat} {tbl : List (Nat × (Nat × (List S → Cs → R S)))} (hT : X.K = T.K) (hr : Room (k + 1) X.A) (hM : LensAt X.prog X.w X.K X.mg X.base T k tbl) (hg : Gl X "len") (hm : X.mg "len" = none) (ha : PA X (e :: es) (tDA T W B)) (he : starEach (e :: es) X.env = (false, eval e X.env) :: starEach es X.env := by rfl) (hpl : (backTo pos (starEach es X.env)).any (·.1) = false := by rfl) : PE X (.Call (.Name "len" p) (e :: es) [] pos) (tD T W (mBlt (lenX (lenO tbl)) B)) :=
  dn_callB (by have := ((call_len_seq (X := X)).or call_len_str).or (call_lenO hr hM); rw [hT] at this; exact this) (prim_lenX (fresh_lenO fun c nf fn h => let ⟨_, _, _, q⟩ := hM.get h; q) fun p ys H Q h q => .inl (.inl ⟨p, ys, rfl, h, q⟩)) hg hm PySem.boot_len ha (by decide) (by decide) he hpl
/-! ### append to a list with cells -/
def appendS (o : S) (ss : List S) (c : Cs) : R S := match o, ss with
  | .c n, [.d x] => match c[n]? with
    | some (.lst acc) => if acc.length < sizeLine then .ok (.d .non) (c.set n (.lst (acc ++ [x]))) else .bad
    | some (.lS acc) => if acc.length < sizeLine then .ok (.d .non) (c.set n (.lS (acc ++ [.d x]))) else .bad
    | _ => .bad
  | _, _ => .bad
def mAppendS (A : M) (B : MA) : M := fun δ c => (A δ c).bind fun o c => match o with
  | .c n => match cellL n c with
    | some _ => (B δ c).bind fun ss c => appendS o ss c
    | none => .bad
  | _ => .bad
theorem dn_appendS (ho : PE X o (tD T W A)) (ha : PA X (e :: es) (tDA T W B)) (h : ∀ {to : TE} {t : TA}, PE X o to → PA X (e :: es) t → PE X (.Call (.Attribute o "append" apos) (e :: es) [] pos) (tBM X.K "list" rAppend to t)) : PE X (.Call (.Attribute o "append" apos) (e :: es) [] pos) (tD T W (mAppendS A B)) := by
  refine PE.imp (h ho ha) fun σ H Q ⟨δ, c, G, ρ, hs, hh, p⟩ => ?_
  refine ⟨δ, c, G, ρ, hs, hh, (Post.bind (rel := SRep T) p).imp ?_⟩
  rintro v H1 ⟨s, c1, G1, ρ1, e1, p1, h1, r1, q1⟩
  cases s with
  | d _ => exact q1.elim
  | x _ _ => exact q1.elim
  | c n =>
    obtain ⟨pa, hpa, rfl⟩ := r1
    cases hc : cellL n c1 with
    | none => simp only [hc] at q1; exact q1.elim
    | some xs0 =>
      simp only [hc] at q1
      obtain ⟨vs0, ho0, _⟩ := cellL_rep h1 hpa hc
      refine ⟨.inl ⟨rfl, _, SqL.of ho0⟩, δ, c1, G1, ρ1, hs.mono e1 p1, h1, (Post.bind (rel := SReps T) q1).imp ?_⟩
      rintro us H2 ⟨ss, c2, G2, ρ2, e2, p2, h2, r2, q2⟩
      unfold appendS at q2
      split at q2
      · rename_i _ _ n' x heq1
        cases heq1
        obtain ⟨u, rfl, ru⟩ := r2.one
        have hpa2 := pre_get p2 hpa
        cases hc2 : c2[n]? with
        | none => simp only [hc2] at q2; exact q2.elim
        | some cc =>
          cases cc with
          | lst acc =>
            simp only [hc2] at q2
            obtain ⟨_, vs, ho2, hl, rr⟩ := h2.at_ n pa _ hpa2 hc2
            by_cases hlt : acc.length < sizeLine
            · rw [if_pos hlt] at q2
              exact ⟨pa, vs, u, rfl, rfl, ho2, by rw [rr.length]; exact hlt, q2 _ _ G2 ρ2 (.refl _) (List.prefix_refl _) (h2.cell (x := .lst (acc ++ [x])) hpa2 fun H' hH' _ => ⟨_, hH', by rw [List.length_append]; simp; omega, Reps.append rr (Reps.cons ru Reps.nil)⟩) SRep.non⟩
            · rw [if_neg hlt] at q2; exact q2.elim
          | lS acc =>
            simp only [hc2] at q2
            obtain ⟨_, vs, ho2, hl, rr⟩ := h2.at_ n pa _ hpa2 hc2
            by_cases hlt : acc.length < sizeLine
            · rw [if_pos hlt] at q2
              have app : ∀ {xs : List S} {us : List V}, CReps T G2 (ρ2.take n) xs us → CReps T G2 (ρ2.take n) (xs ++ [.d x]) (us ++ [u]) := by
                intro xs us r
                induction r with
                | nil => exact .cons ru .nil
                | cons a _ ih => exact .cons a ih
              exact ⟨pa, vs, u, rfl, rfl, ho2, by rw [rr.length]; exact hlt, q2 _ _ G2 ρ2 (.refl _) (List.prefix_refl _) (h2.cell (x := .lS (acc ++ [.d x])) hpa2 fun H' hH' _ => ⟨_, hH', by rw [List.length_append]; simp; omega, app rr⟩) SRep.non⟩
            · rw [if_neg hlt] at q2; exact q2.elim
          | _ => simp only [hc2] at q2; exact q2.elim
      · exact q2.elim
theorem dn_appS (ho : PE X o (tD T W A)) (ha : PA X (e :: es) (tDA T W B)) (hbase : attributeBase o "append" X.env (eval o X.env) = eval o X.env := by rfl)
    (hfew : ((backTo pos (starEach (e :: es) X.env)).all (fun x => !x.1) && (backToKw pos (keywordEach [] X.env)).all (fun x => x.1.isSome)
      && decide ((e :: es).length + ([] : List Keyword).length + (if ([] : List Keyword).isEmpty then 0 else 1) < 30)) = true := by rfl)
    (hline : (apos.endLine == pos.line) = true := by rfl) (hs : starEach (e :: es) X.env = (false, eval e X.env) :: starEach es X.env := by rfl) (hplain : (backTo pos (starEach es X.env)).any (·.1) = false := by rfl) :
    PE X (.Call (.Attribute o "append" apos) (e :: es) [] pos) (tD T W (mAppendS A B)) :=
  dn_appendS ho ha fun h1 h2 => pe_bm PySem.F.plainAttrs_list PySem.F.slot_list_append PySem.F.type_list_append mt_append h1 h2 hbase hfew hline hs hplain
end
/-! ### methods left with their cells -/
section
variable {P : Program} {w : World} {K : PySem.W.Frag} {mg : Str → Option Value} {base : Heap} {T : Tb} {k : Nat}
theorem meth_atE {ext : Nat → RS → R S} (X : ExitOk T ext) {c : Nat} {m qual : Str} {st : Stmt} {N ps : List Str} {body : MS} (D : MDefAt K (T.cl c) m qual st ps) (hc : Cls K (T.cl c)) (hn : m ∉ T.fl c) (S : FnScope N ps (defScope st))
    (hbody : ∀ (f : Addr) (cdv : Value) (A : Around) (outer : List Env) (s : Shared) (H : Hp) (E : XK), Room k (A.deeper (envOfC qual (defScope st) s.heap.objs.size f cdv)) → Takes (cxOf (L2.CX P w) P w K mg base N qual (defScope st) f cdv A outer s H E) (fun cls d _ H => E cls d H) →
      PSs (cxOf (L2.CX P w) P w K mg base N qual (defScope st) f cdv A outer s H E) (defBody st) (tS T (fun cls d _ H => E cls d H) body)) : MethAt P w K mg base T m c (k + 1) (fnE ext ps.length N.length body) := by
  obtain ⟨f, fd, F, hm, hb⟩ := D
  exact ⟨f, fd, ps, fn_okE X F S hbody, hm, hc, hn, hb⟩
end
end Dn

end
section
set_option maxHeartbeats 1000000
/-! Dn32: an own == with anything on the right. -/
namespace Dn
open PySem PySem.Spec PyProof.Rows L2
def eqG (tbl : List (Nat × (List S → Cs → R S))) (kd : Kinds) (f : Nat) (s t : S) (c : Cs) : R S := match s with
  | .d (.obj k xs) => match look tbl k with
    | some fn => match topD t c with
      | some d => if kd.ask d = some true then (fn [.d (.obj k xs), t] c).bindN fun r c => (asB r c).bindN fun b c => .ok (.d (.bl b)) c else .bad
      | none => .bad
    | none => .bad
  | s => eqY tbl f false s t c
/-- no class below the k-th one has an own say first -/
inductive NotFirst (K : PySem.W.Frag) (T : Tb) (kd : Kinds) : List (Nat × (List S → Cs → R S)) → Prop
  | nil : NotFirst K T kd []
  | cons {c : Nat} {fn : List S → Cs → R S} {l : List (Nat × (List S → Cs → R S))} : KindsOk K T (fun t => some (PySem.W.notFirst K (T.cl c) t)) kd → NotFirst K T kd l → NotFirst K T kd ((c, fn) :: l)
theorem NotFirst.get {K : PySem.W.Frag} {T : Tb} {kd : Kinds} {l : List (Nat × (List S → Cs → R S))} (h : NotFirst K T kd l) {c : Nat} {fn : List S → Cs → R S} (hm : (c, fn) ∈ l) : KindsOk K T (fun t => some (PySem.W.notFirst K (T.cl c) t)) kd := by
  induction h with
  | nil => cases hm
  | cons a _ ih =>
    rcases List.mem_cons.mp hm with z | z
    · cases z; exact a
    · exact ih z
section
variable {X : Cx} {T : Tb} {W : WX} {a b : Expr} {A B : M} {pos : Pos} {tbl : List (Nat × (List S → Cs → R S))} {kd : Kinds} {n f : Nat}
def rEqG (X : Cx) (T : Tb) (tbl : List (Nat × (List S → Cs → R S))) : R2 := fun v u H Q => ∃ k fn xs t, look tbl k = some fn ∧ Rep T H (.obj k xs) v ∧ TyX X.K H u t ∧ PySem.W.notFirst X.K (T.cl k) t = true ∧ spD T fn [v, u] H (fun r H' => ∃ b, r = .bl b ∧ Q (.bl b) H') fun _ _ _ => False
theorem op_eqG (hM : MethsAt X.prog X.w X.K X.mg X.base T "__eq__" n tbl) (hr : Room n X.A) : OpR X (compareOp .Eq) (rEqG X T tbl) := by
  intro pins s σ H x y v u Q I rv ru h
  obtain ⟨k, fn, xs, t, hl, hx, ty, nf, sp⟩ := h
  obtain ⟨j, hj, M⟩ := hM.get (look_mem hl)
  obtain ⟨g, hm, run⟩ := run_own (vs := [x, y]) (us := [v, u]) M (hr.mono hj) I (.cons rv (.cons ru .nil)) sp
  obtain ⟨ax, dx, od, rfl, J⟩ := rep_inst I hx
  obtain rfl : v = Value.ref ax := rv
  obtain ⟨m, hF⟩ := I.fr
  obtain ⟨P, kt, hP, _⟩ := kit_of I ru ty
  show wpAny (model X.prog X.w) X.A (richCompare .Eq (.ref ax) u) (EP X pins σ Q) X.xe s
  refine PySem.W.cmp_K (op := .Eq) (tb := t) hr.units0 hF I.ok.mod.kin J (kt.ty _ _ I.kIn hP) nf hm.at_ hm.fn (wpAny_mono run (fun w s' z => ?_) fun _ _ z => z)
  obtain ⟨z0, H', I', rz, b, rfl, q⟩ := z
  exact cmpBack_of ⟨.bl b, H', I', rz, q⟩
theorem prim_eqG (hM : MethsAt X.prog X.w X.K X.mg X.base T "__eq__" n tbl) (hN : NotFirst X.K T kd tbl) (hT : X.K = T.K) (hr : Room (n + f + 1) X.A) : Prim2 T (eqG tbl kd f) (fun x y H Q => rEqG X T tbl x y H Q ∨ rSem X (compareOp (cmpOf false)) x y H Q) := by
  intro W σ G ρ H c x y v u Q hh rx ry p
  unfold eqG at p
  split at p
  · rename_i k xs
    cases hl : look tbl k with
    | none => simp only [hl] at p; exact p.elim
    | some fn =>
      simp only [hl] at p
      cases ht : topD y c with
      | none => simp only [ht] at p; exact p.elim
      | some d =>
        simp only [ht] at p
        by_cases hk : kd.ask d = some true
        · rw [if_pos hk] at p
          obtain ⟨t, ty, nf⟩ := top_ty (hN.get (look_mem hl)) hh ry ht hk
          refine .inl ⟨k, fn, xs, t, hl, Rep.mono hh.ex _ _ rx, ty, Option.some.inj nf, [.d (.obj k xs), y], c, G, ρ, .cons rx (.cons ry .nil), hh, ?_⟩
          cases hf : fn [.d (.obj k xs), y] c with
          | bad => rw [hf] at p; exact p.elim
          | ex _ _ _ => rw [hf] at p; exact p.elim
          | ok s c' =>
            rw [hf] at p
            have p : Post (SRep T) T W σ G ρ ((asB s c').bindN fun b c => .ok (.d (.bl b)) c) Q := p
            cases s with
            | c n => exact p.elim
            | x _ _ => exact p.elim
            | d x =>
              cases x with
              | bl b =>
                intro v' H' G' ρ' e pr rh rs
                exact ⟨b, SRep.bl_inv rs, p _ H' G' ρ' e pr rh SRep.bl⟩
              | _ => exact p.elim
        · rw [if_neg hk] at p; exact p.elim
  · exact .inr (prim_eqY hM hT hr W σ G ρ H c _ y v u Q hh rx ry p)
variable (hM : MethsAt X.prog X.w X.K X.mg X.base T "__eq__" n tbl) (hN : NotFirst X.K T kd tbl) (hT : X.K = T.K) (hr : Room (n + f + 1) X.A) (ha : PE X a (tD T W A)) (hb : PE X b (tD T W B))
include hM hN hT hr ha hb
theorem dn_eqG : PE X (.Compare a [.Eq] [b] pos) (tD T W (mBin (eqG tbl kd f) A B)) := dn_cmp (OpR.or (op_eqG hM (hr.mono (by omega))) (op_sem (f := compareOp (cmpOf false)))) (prim_eqG hM hN hT hr) ha hb (nomark _)
theorem dt_eqG : PT X (.Compare a [.Eq] [b] pos) (tDT T W (mTB (mBin (eqG tbl kd f) A B))) := dt_cmp (OpR.or (op_eqG hM (hr.mono (by omega))) (op_sem (f := compareOp (cmpOf false)))) (prim_eqG hM hN hT hr) ha hb (nomark _)
end
end Dn

end
section
set_option maxHeartbeats 1000000
/-! Dn33: an expression that uses data alone: the cells are hidden while it is evaluated. -/
namespace Dn
open PySem PySem.Spec PyProof.Rows L2
/-! ### hiding lists and dicts -/
def hid (l : List Addr) (H : Hp) : Hp := fun b => if b ∈ l then none else H b
theorem hid_in {l : List Addr} {H : Hp} {b : Addr} (h : b ∈ l) : hid l H b = none := if_pos h
theorem hid_out {l : List Addr} {H : Hp} {b : Addr} (h : b ∉ l) : hid l H b = H b := if_neg h
def isLD (o : HO) : Prop := (∃ xs, o = .lst xs) ∨ ∃ kvs, o = .dK kvs
/-- what was hidden comes back -/
def back (l : List Addr) (H H' : Hp) : Hp := fun b => if b ∈ l then H b else H' b
theorem back_in {l : List Addr} {H H' : Hp} {b : Addr} (h : b ∈ l) : back l H H' b = H b := if_pos h
theorem back_out {l : List Addr} {H H' : Hp} {b : Addr} (h : b ∉ l) : back l H H' b = H' b := if_neg h
def pinsOf (l : List Addr) (h : Heap) : List (Addr × Obj) := pinsAt l h
section
variable {X : Cx} {pins : List (Addr × Obj)} {σ : L2.St} {H H' : Hp} {s s' : Shared} {l : List Addr}
theorem ld_obj (I : Inv X pins σ H s) {b : Addr} {o : HO} (e : H b = some o) (k : isLD o) : ∃ ob, s.heap.get? b = some ob ∧ ∀ v, ob.data ≠ .cell v := by
  have q := I.hok b o e
  rcases k with ⟨xs, rfl⟩ | ⟨kvs, rfl⟩
  · obtain ⟨_, its, n, _, g⟩ := q
    exact ⟨_, g, fun v z => by cases z⟩
  · obtain ⟨_, _, vs, _, ob, es, ep, g, _, d, _⟩ := q
    exact ⟨ob, g, fun v z => by rw [d] at z; cases z⟩
theorem Inv.hide (I : Inv X pins σ H s) (hl : ∀ b ∈ l, ∃ o, H b = some o ∧ isLD o) : L2.Inv X (pins ++ pinsAt l s.heap) σ (hid l H) s := by
  have ne : ∀ {b o}, H b = some o → ¬ isLD o → b ∉ l := fun {b o} e n z => by
    obtain ⟨o', e', k⟩ := hl b z
    rw [e] at e'; cases e'
    exact n k
  have le : ∀ {b}, H b = none → hid l H b = none := fun {b} e => by
    unfold hid
    split
    · rfl
    · exact e
  have I1 : L2.Inv X pins σ (hid l H) s := by
    refine ⟨I.ok, I.os, I.bare, ⟨I.base.keep, I.base.slot, fun b o q n hx => le (I.base.free b o q n hx), I.base.there, fun b xs q => ?_, fun b o u q => ?_, fun b ps q => ?_⟩, I.loc, I.cell, le I.free, fun x c e => le (I.freeC x c e), fun p hp => let ⟨a, b, c⟩ := I.pin p hp; ⟨a, le b, c⟩, fun b o e => ?_, I.len⟩
    · have := I.base.tups b xs q
      rw [hid_out (ne this (by rintro (⟨_, z⟩ | ⟨_, z⟩) <;> cases z))]; exact this
    · have := I.base.frzs b o u q
      rw [hid_out (ne this (by rintro (⟨_, z⟩ | ⟨_, z⟩) <;> cases z))]; exact this
    · obtain ⟨m, this⟩ := I.base.tbls b ps q
      exact ⟨m, by rw [hid_out (ne this (by rintro (⟨_, z⟩ | ⟨_, z⟩) <;> cases z))]; exact this⟩
    · by_cases hb : b ∈ l
      · rw [hid_in hb] at e; cases e
      · rw [hid_out hb] at e
        exact (I.hok b o e).stay (fun _ _ _ q => q) (fun d q => by rw [hid_out (ne q (by rintro (⟨_, z⟩ | ⟨_, z⟩) <;> cases z))]; exact q) fun d xs q => by rw [hid_out (ne q (by rintro (⟨_, z⟩ | ⟨_, z⟩) <;> cases z))]; exact q
  refine I1.pins_of fun p hp => (List.mem_append.mp hp).elim (fun z => I1.pin p (List.mem_append_right _ z)) fun z => ?_
  obtain ⟨hb, e⟩ := of_pinsAt z
  obtain ⟨o, ho, k⟩ := hl p.1 hb
  obtain ⟨ob, g, d⟩ := ld_obj I ho k
  rw [e] at g
  cases g
  refine ⟨e, hid_in hb, fun z => ?_, fun z => ?_, d⟩
  · rw [z, I.free] at ho; cases ho
  · have : H p.1 = none := by
      rcases I.ok.stk with q | ⟨q, _⟩
      · exact I.stkFree p.1 (by rw [q]; exact z)
      · refine I.stkFree p.1 ?_
        rw [q]
        unfold frs
        rw [List.filterMap_cons]
        split
        · exact z
        · exact List.mem_cons_of_mem _ z
    rw [ho] at this; cases this
theorem Inv.unhide (I : Inv X pins σ H s) (hl : ∀ b ∈ l, ∃ o, H b = some o ∧ isLD o) (J : L2.Inv X (pins ++ pinsAt l s.heap) σ H' s') : L2.Inv X pins σ (back l H H') s' ∧ ∀ b ∈ l, H' b = none := by
  have gone : ∀ b ∈ l, H' b = none := fun b hb => by
    obtain ⟨o, ho, k⟩ := hl b hb
    obtain ⟨ob, g, _⟩ := ld_obj I ho k
    exact (J.pin (b, ob) (List.mem_append_right _ (List.mem_append_right _ (mem_pinsAt hb g)))).2.1
  have kept : ∀ b ∈ l, ∀ o, s.heap.get? b = some o → s'.heap.get? b = some o := fun b hb o e => (J.pin (b, o) (List.mem_append_right _ (List.mem_append_right _ (mem_pinsAt hb e)))).1
  have nl : ∀ {b o}, H' b = some o → b ∉ l := fun {b o} e z => by rw [gone b z] at e; cases e
  have up : ∀ {b o}, H' b = some o → back l H H' b = some o := fun {b o} e => by rw [back_out (nl e)]; exact e
  refine ⟨⟨J.ok, J.os, J.bare, ⟨J.base.keep, J.base.slot, fun b o q n hx => ?_, J.base.there, fun b xs q => up (J.base.tups b xs q), fun b o u q => up (J.base.frzs b o u q), fun b ps q => let ⟨m, z⟩ := J.base.tbls b ps q; ⟨m, up z⟩⟩, J.loc, J.cell, ?_, fun x c e => ?_, fun p hp => ?_, fun b o e => ?_, J.len⟩, gone⟩
  · by_cases hb : b ∈ l
    · rw [back_in hb]; exact I.base.free b o q n hx
    · rw [back_out hb]; exact J.base.free b o q n hx
  · by_cases hb : X.env.locals ∈ l
    · rw [back_in hb]; exact I.free
    · rw [back_out hb]; exact J.free
  · by_cases hb : c ∈ l
    · rw [back_in hb]; exact I.freeC x c e
    · rw [back_out hb]; exact J.freeC x c e
  · have hp2 : p ∈ X.pn ++ (pins ++ pinsAt l s.heap) := (List.mem_append.mp hp).elim (fun z => List.mem_append_left _ z) fun z => List.mem_append_right _ (List.mem_append_left _ z)
    obtain ⟨a, b, c⟩ := J.pin p hp2
    refine ⟨a, ?_, c⟩
    by_cases hb : p.1 ∈ l
    · rw [back_in hb]; exact (I.pin p hp).2.1
    · rw [back_out hb]; exact b
  · by_cases hb : b ∈ l
    · rw [back_in hb] at e
      obtain ⟨o', ho, k⟩ := hl b hb
      rw [e] at ho; cases ho
      have q := I.hok b o e
      rcases k with ⟨xs, rfl⟩ | ⟨kvs, rfl⟩
      · obtain ⟨z, its, n, r, g⟩ := q
        exact ⟨z, its, n, r, kept b hb _ g⟩
      · obtain ⟨z, y, vs, r, ob, es, ep, g, c⟩ := q
        exact ⟨z, y, vs, r, ob, es, ep, kept b hb _ g, c⟩
    · rw [back_out hb] at e
      exact (J.hok b o e).stay (fun _ _ _ q => q) (fun d q => up q) fun d xs q => up q
end
/-! ### an expression over data -/
def dataSl (δ : Sl) : Sl := δ.map fun o => match o with
  | some (.d x) => some (.d x)
  | _ => none
def isTb : CC → Nat → Bool
  | .tb k, j => k == j
  | _, _ => false
/-- the first n cells are the tables -/
def tbsOk : Nat → Cs → Bool
  | 0, _ => true
  | n + 1, c => tbsOk n c && (match c[n]? with
    | some x => isTb x n
    | none => false)
def canHide : CC → Bool
  | .lst _ => true
  | .lS _ => true
  | .dct _ => true
  | _ => false
/-- A over data and tables alone; its result is data -/
def mP (n : Nat) (A : M) : M := fun δ c => if (tbsOk n c && (c.drop n).all canHide) = true then (match A (dataSl δ) (tbs n) with
  | .ok (.d x) c' => if tbsOk n c' = true then .ok (.d x) c else .bad
  | _ => .bad) else .bad
theorem tbsOk_get : ∀ {n : Nat} {c : Cs}, tbsOk n c = true → ∀ j, j < n → c[j]? = some (.tb j)
  | 0, _, _, j, hj => absurd hj (Nat.not_lt_zero _)
  | n + 1, c, h, j, hj => by
    unfold tbsOk at h
    rw [Bool.and_eq_true] at h
    by_cases e : j < n
    · exact tbsOk_get h.1 j e
    · have e : j = n := by omega
      subst e
      have h2 := h.2
      cases hc : c[j]? with
      | none => rw [hc] at h2; cases h2
      | some x =>
        rw [hc] at h2
        have h2 : isTb x j = true := h2
        cases x with
        | tb k =>
          have h2 : (k == j) = true := h2
          have : k = j := by simpa using h2
          subst this
          rfl
        | _ => cases h2
theorem tbsOk_take {n : Nat} {c : Cs} (h : tbsOk n c = true) : c.take n = tbs n ∧ n ≤ c.length := by
  have hl : n ≤ c.length := by
    rcases Nat.lt_or_ge c.length n with z | z
    · have := tbsOk_get h c.length z
      rw [List.getElem?_eq_none (Nat.le_refl _)] at this; cases this
    · exact z
  refine ⟨List.ext_getElem? fun i => ?_, hl⟩
  by_cases hi : i < n
  · rw [List.getElem?_take, if_pos hi, tbsOk_get h i hi]
    unfold tbs
    rw [List.getElem?_map, List.getElem?_range hi]
    rfl
  · rw [List.getElem?_eq_none (by simp; omega), List.getElem?_eq_none (by simp [tbs]; omega)]
section
variable {X : Cx} {T : Tb} {W : WX} {e : Expr} {A : M}
theorem dataSl_rel {G : Hp} {ρ ρ' : List Addr} {σ : L2.St} {δ : Sl} (hs : RelS T G ρ σ δ) : RelS T G ρ' σ (dataSl δ) := by
  refine ⟨by unfold dataSl; rw [List.length_map]; exact hs.len, fun i s e => ?_⟩
  unfold dataSl at e
  rw [List.getElem?_map] at e
  cases h : δ[i]? with
  | none => rw [h] at e; cases e
  | some o =>
    rw [h] at e
    cases o with
    | none => cases e
    | some z =>
      cases z with
      | d x =>
        cases e
        obtain ⟨v, a, b⟩ := hs.at_ i (.d x) h
        exact ⟨v, a, b⟩
      | c _ => cases e
      | x _ _ => cases e
theorem dn_pure {n : Nat} (he : PE X e (tD T W0 A)) : PE X e (tD T W (mP n A)) := by
  refine ⟨fun pins s σ H Q I ⟨δ, c, G, ρ, hs, hh, p⟩ => ?_⟩
  unfold mP at p
  by_cases ht : (tbsOk n c && (c.drop n).all canHide) = true
  · rw [if_pos ht] at p
    rw [Bool.and_eq_true] at ht
    obtain ⟨ht, hc⟩ := ht
    obtain ⟨ct, hn⟩ := tbsOk_take ht
    have hl : ∀ b ∈ ρ.drop n, ∃ o, H b = some o ∧ isLD o := fun b hb => by
      obtain ⟨i, hi⟩ := List.getElem?_of_mem hb
      rw [List.getElem?_drop] at hi
      have li := (List.getElem?_eq_some_iff.mp hi).1
      rw [hh.len] at li
      have hx : c[n + i]? = some c[n + i] := List.getElem?_eq_getElem li
      obtain ⟨_, ok⟩ := hh.at_ (n + i) b _ hi hx
      have can : canHide c[n + i] = true := List.all_eq_true.mp hc _ (List.mem_of_getElem? (i := i) (by rw [List.getElem?_drop]; exact hx))
      revert ok can
      cases c[n + i] with
      | lst xs => exact fun ⟨vs, a, _⟩ _ => ⟨_, a, .inl ⟨_, rfl⟩⟩
      | lS xs => exact fun ⟨vs, a, _⟩ _ => ⟨_, a, .inl ⟨_, rfl⟩⟩
      | dct xs => exact fun ⟨kv, a, _⟩ _ => ⟨_, a, .inr ⟨_, rfl⟩⟩
      | obj _ _ => exact fun _ z => by cases z
      | tS _ => exact fun _ z => by cases z
      | tb _ => exact fun _ z => by cases z
    have Gout : ∀ b ∈ ρ.drop n, G b = none := fun b hb => by
      obtain ⟨i, hi⟩ := List.getElem?_of_mem hb
      rw [List.getElem?_drop] at hi
      have li := (List.getElem?_eq_some_iff.mp hi).1
      rw [hh.len] at li
      exact (hh.at_ (n + i) b _ hi (List.getElem?_eq_getElem li)).1
    have tout : ∀ i b, i < n → ρ[i]? = some b → b ∉ ρ.drop n := fun i b hi e z => by
      obtain ⟨j, hj⟩ := List.getElem?_of_mem z
      rw [List.getElem?_drop] at hj
      have := (List.getElem?_inj (List.getElem?_eq_some_iff.mp e).1 hh.nd).mp (e.trans hj.symm)
      omega
    have I1 := Inv.hide I hl
    have h1 : RelH T (hid (ρ.drop n) H) (tbs n) G (ρ.take n) := by
      refine ⟨fun b o eb => ?_, by rw [List.length_take, hh.len]; simp [tbs]; omega, hh.nd.sublist (List.take_sublist _ _), fun i b x hi hx => ?_⟩
      · rw [hid_out (fun z => by rw [Gout b z] at eb; cases eb)]; exact hh.ex b o eb
      · have li : i < n := by
          have := (List.getElem?_eq_some_iff.mp hi).1
          rw [List.length_take] at this
          omega
        rw [List.getElem?_take, if_pos li] at hi
        rw [← ct, List.getElem?_take, if_pos li] at hx
        obtain ⟨g, ok⟩ := hh.at_ i b x hi hx
        have e1 := tbsOk_get ht i li
        rw [e1] at hx
        cases hx
        obtain ⟨q1, ps, q2, q3⟩ := ok
        exact ⟨g, q1, ps, by rw [hid_out (tout i b li hi)]; exact q2, q3⟩
    refine wpAny_mono (he.run (pins ++ pinsAt (ρ.drop n) s.heap) s σ (hid (ρ.drop n) H) (fun v H' => ∃ x c' G' ρ', A (dataSl δ) (tbs n) = .ok (.d x) c' ∧ Ex G G' ∧ ρ.take n <+: ρ' ∧ RelH T H' c' G' ρ' ∧ Rep T G' x v) I1 ⟨dataSl δ, tbs n, G, ρ.take n, dataSl_rel hs, h1, ?_⟩) (fun u s' z => ?_) fun _ _ z => z
    · cases hA : A (dataSl δ) (tbs n) with
      | bad => rw [hA] at p; exact p.elim
      | ex _ _ _ => rw [hA] at p; exact p.elim
      | ok a c' =>
        rw [hA] at p
        cases a with
        | c _ => exact p.elim
        | x _ _ => exact p.elim
        | d x => exact fun v H' G' ρ' eg pr rh rs => ⟨x, c', G', ρ', rfl, eg, pr, rh, rs⟩
    · obtain ⟨v, H', J, rv, x, c', G', ρ', hA, eg, pr, rh, rx⟩ := z
      rw [hA] at p
      have p : Post (SRep T) T W σ G ρ (if tbsOk n c' = true then .ok (.d x) c else .bad) Q := p
      by_cases ht' : tbsOk n c' = true
      · rw [if_pos ht'] at p
        obtain ⟨K, gone⟩ := Inv.unhide I hl J
        have Gout' : ∀ b ∈ ρ.drop n, G' b = none := fun b hb => rh.ex.back (gone b hb)
        refine ⟨v, back (ρ.drop n) H H', K, rv, p v _ G' ρ eg (List.prefix_refl _) ⟨fun b o eb => ?_, hh.len, hh.nd, fun i b y hi hy => ?_⟩ rx⟩
        · rw [back_out (fun z => by rw [Gout' b z] at eb; cases eb)]; exact rh.ex b o eb
        · by_cases li : i < n
          · have hi' : ρ'[i]? = some b := pre_get pr (by rw [List.getElem?_take, if_pos li]; exact hi)
            have e1 := tbsOk_get ht i li
            rw [e1] at hy
            cases hy
            obtain ⟨g, q1, ps, q2, q3⟩ := rh.at_ i b _ hi' (tbsOk_get ht' i li)
            exact ⟨g, q1, ps, by rw [back_out (tout i b li hi)]; exact q2, q3⟩
          · have hb : b ∈ ρ.drop n := List.mem_of_getElem? (i := i - n) (by rw [List.getElem?_drop]; have : n + (i - n) = i := by omega
                                                                            rw [this]; exact hi)
            obtain ⟨g, ok⟩ := hh.at_ i b y hi hy
            exact ⟨Gout' b hb, ok.keep eg (back_in hb) (List.prefix_refl _)⟩
      · rw [if_neg ht'] at p; exact p.elim
  · rw [if_neg ht] at p; exact p.elim
def mPT (n : Nat) (C : MT) : MT := fun δ c => if (tbsOk n c && (c.drop n).all canHide) = true then (match C (dataSl δ) (tbs n) with
  | .ok b c' => if tbsOk n c' = true then .ok b c else .bad
  | _ => .bad) else .bad
theorem dt_pure {n : Nat} {C : MT} (he : PT X e (tDT T W0 C)) : PT X e (tDT T W (mPT n C)) := by
  refine ⟨fun pins s σ H Q I ⟨δ, c, G, ρ, hs, hh, p⟩ => ?_⟩
  unfold mPT at p
  by_cases ht : (tbsOk n c && (c.drop n).all canHide) = true
  · rw [if_pos ht] at p
    rw [Bool.and_eq_true] at ht
    obtain ⟨ht, hc⟩ := ht
    obtain ⟨ct, hn⟩ := tbsOk_take ht
    have hl : ∀ b ∈ ρ.drop n, ∃ o, H b = some o ∧ isLD o := fun b hb => by
      obtain ⟨i, hi⟩ := List.getElem?_of_mem hb
      rw [List.getElem?_drop] at hi
      have li := (List.getElem?_eq_some_iff.mp hi).1
      rw [hh.len] at li
      have hx : c[n + i]? = some c[n + i] := List.getElem?_eq_getElem li
      obtain ⟨_, ok⟩ := hh.at_ (n + i) b _ hi hx
      have can : canHide c[n + i] = true := List.all_eq_true.mp hc _ (List.mem_of_getElem? (i := i) (by rw [List.getElem?_drop]; exact hx))
      revert ok can
      cases c[n + i] with
      | lst xs => exact fun ⟨vs, a, _⟩ _ => ⟨_, a, .inl ⟨_, rfl⟩⟩
      | lS xs => exact fun ⟨vs, a, _⟩ _ => ⟨_, a, .inl ⟨_, rfl⟩⟩
      | dct xs => exact fun ⟨kv, a, _⟩ _ => ⟨_, a, .inr ⟨_, rfl⟩⟩
      | obj _ _ => exact fun _ z => by cases z
      | tS _ => exact fun _ z => by cases z
      | tb _ => exact fun _ z => by cases z
    have Gout : ∀ b ∈ ρ.drop n, G b = none := fun b hb => by
      obtain ⟨i, hi⟩ := List.getElem?_of_mem hb
      rw [List.getElem?_drop] at hi
      have li := (List.getElem?_eq_some_iff.mp hi).1
      rw [hh.len] at li
      exact (hh.at_ (n + i) b _ hi (List.getElem?_eq_getElem li)).1
    have tout : ∀ i b, i < n → ρ[i]? = some b → b ∉ ρ.drop n := fun i b hi e z => by
      obtain ⟨j, hj⟩ := List.getElem?_of_mem z
      rw [List.getElem?_drop] at hj
      have := (List.getElem?_inj (List.getElem?_eq_some_iff.mp e).1 hh.nd).mp (e.trans hj.symm)
      omega
    have I1 := Inv.hide I hl
    have h1 : RelH T (hid (ρ.drop n) H) (tbs n) G (ρ.take n) := by
      refine ⟨fun b o eb => ?_, by rw [List.length_take, hh.len]; simp [tbs]; omega, hh.nd.sublist (List.take_sublist _ _), fun i b x hi hx => ?_⟩
      · rw [hid_out (fun z => by rw [Gout b z] at eb; cases eb)]; exact hh.ex b o eb
      · have li : i < n := by
          have := (List.getElem?_eq_some_iff.mp hi).1
          rw [List.length_take] at this
          omega
        rw [List.getElem?_take, if_pos li] at hi
        rw [← ct, List.getElem?_take, if_pos li] at hx
        obtain ⟨g, ok⟩ := hh.at_ i b x hi hx
        have e1 := tbsOk_get ht i li
        rw [e1] at hx
        cases hx
        obtain ⟨q1, ps, q2, q3⟩ := ok
        exact ⟨g, q1, ps, by rw [hid_out (tout i b li hi)]; exact q2, q3⟩
    refine wpAny_mono (he.run (pins ++ pinsAt (ρ.drop n) s.heap) s σ (hid (ρ.drop n) H) (fun v H' => ∃ c' G' ρ', C (dataSl δ) (tbs n) = .ok v c' ∧ Ex G G' ∧ ρ.take n <+: ρ' ∧ RelH T H' c' G' ρ') I1 ⟨dataSl δ, tbs n, G, ρ.take n, dataSl_rel hs, h1, ?_⟩) (fun u s' z => ?_) fun _ _ z => z
    · cases hA : C (dataSl δ) (tbs n) with
      | bad => rw [hA] at p; exact p.elim
      | ex _ _ _ => rw [hA] at p; exact p.elim
      | ok a c' => exact fun v H' G' ρ' eg pr rh rs => ⟨c', G', ρ', by rw [show v = a from rs], eg, pr, rh⟩
    · obtain ⟨H', J, c', G', ρ', hA, eg, pr, rh⟩ := z
      rw [hA] at p
      have p : Post relB T W σ G ρ (if tbsOk n c' = true then .ok u c else .bad) Q := p
      by_cases ht' : tbsOk n c' = true
      · rw [if_pos ht'] at p
        obtain ⟨K, gone⟩ := Inv.unhide I hl J
        have Gout' : ∀ b ∈ ρ.drop n, G' b = none := fun b hb => rh.ex.back (gone b hb)
        refine ⟨back (ρ.drop n) H H', K, p u _ G' ρ eg (List.prefix_refl _) ⟨fun b o eb => ?_, hh.len, hh.nd, fun i b y hi hy => ?_⟩ rfl⟩
        · rw [back_out (fun z => by rw [Gout' b z] at eb; cases eb)]; exact rh.ex b o eb
        · by_cases li : i < n
          · have hi' : ρ'[i]? = some b := pre_get pr (by rw [List.getElem?_take, if_pos li]; exact hi)
            have e1 := tbsOk_get ht i li
            rw [e1] at hy
            cases hy
            obtain ⟨g, q1, ps, q2, q3⟩ := rh.at_ i b _ hi' (tbsOk_get ht' i li)
            exact ⟨g, q1, ps, by rw [back_out (tout i b li hi)]; exact q2, q3⟩
          · have hb : b ∈ ρ.drop n := List.mem_of_getElem? (i := i - n) (by rw [List.getElem?_drop]; have : n + (i - n) = i := by omega
                                                                            rw [this]; exact hi)
            obtain ⟨g, ok⟩ := hh.at_ i b y hi hy
            exact ⟨Gout' b hb, ok.keep eg (back_in hb) (List.prefix_refl _)⟩
      · rw [if_neg ht'] at p; exact p.elim
  · rw [if_neg ht] at p; exact p.elim
end
end Dn

end
section
/-! Dn34: how the functions are computed (rules for the plain laws). -/
namespace Dn
open PySem
section
variable {δ : Sl} {c : Cs}
theorem fnG_eq {kp : Bool} {np n : Nat} {b : MS} {ss : List S} (h : ss.length = np) : fnG kp np n b ss c = exitR kp c.length (b (ss.map some ++ List.replicate (n - np) none) c) := if_pos h
@[simp] theorem ex_rt {kp : Bool} {x : D} : exitR kp c.length (.rt (.d x) c) = .ok (.d x) c := by simp [exitR]
@[simp] theorem ex_nx {kp : Bool} {δ : Sl} : exitR kp c.length (.nx δ c) = .ok (.d .non) c := by simp [exitR]
@[simp] theorem ex_ex {kp : Bool} {δ : Sl} {k : Nat} {xs : List D} : exitR kp c.length (.ex k xs δ c) = .ex k xs c := by simp [exitR]
@[simp] theorem bind_ok {α β : Type} {a : α} {f : α → Cs → R β} : (R.ok a c).bind f = f a c := rfl
@[simp] theorem bind_ex {α β : Type} {k : Nat} {xs : List D} {f : α → Cs → R β} : (R.ex k xs c : R α).bind f = .ex k xs c := rfl
@[simp] theorem bindN_ok {α β : Type} {a : α} {f : α → Cs → R β} : (R.ok a c).bindN f = f a c := rfl
@[simp] theorem andS_ok {α : Type} {a : α} {f : α → Cs → RS} : (R.ok a c).andS δ f = f a c := rfl
@[simp] theorem andS_ex {α : Type} {k : Nat} {xs : List D} {f : α → Cs → RS} : (R.ex k xs c : R α).andS δ f = .ex k xs δ c := rfl
@[simp] theorem asB_bl {b : Bool} : asB (.d (.bl b)) c = .ok b c := rfl
theorem seq_nx {m m' : MS} {δ' : Sl} {c' : Cs} (h : m δ c = .nx δ' c') : sSeq m m' δ c = m' δ' c' := by unfold sSeq; rw [h]
theorem seq_rt {m m' : MS} {s : S} {c' : Cs} (h : m δ c = .rt s c') : sSeq m m' δ c = .rt s c' := by unfold sSeq; rw [h]
theorem seq_ex {m m' : MS} {k : Nat} {xs : List D} {δ' : Sl} {c' : Cs} (h : m δ c = .ex k xs δ' c') : sSeq m m' δ c = .ex k xs δ' c' := by unfold sSeq; rw [h]
theorem if_t {C : MT} {m m' : MS} {c' : Cs} (h : C δ c = .ok true c') : sIf C m m' δ c = m δ c' := by unfold sIf; rw [h]; rfl
theorem if_f {C : MT} {m m' : MS} {c' : Cs} (h : C δ c = .ok false c') : sIf C m m' δ c = m' δ c' := by unfold sIf; rw [h]; rfl
theorem seq_go {m m' : MS} {δ' : Sl} {c' : Cs} {r : RS} (h : m δ c = .nx δ' c') (k : m' δ' c' = r) : sSeq m m' δ c = r := (seq_nx h).trans k
theorem if_no {C : MT} {m : MS} (h : C δ c = .ok false c) : sIf C m sNil δ c = .nx δ c := if_f h
theorem fn_rt {kp : Bool} {np n : Nat} {b : MS} {ss : List S} {x : D} (h : ss.length = np) (k : b (ss.map some ++ List.replicate (n - np) none) c = .rt (.d x) c) : fnG kp np n b ss c = .ok (.d x) c := by rw [fnG_eq h, k, ex_rt]
theorem fn_nx {kp : Bool} {np n : Nat} {b : MS} {ss : List S} {δ' : Sl} (h : ss.length = np) (k : b (ss.map some ++ List.replicate (n - np) none) c = .nx δ' c) : fnG kp np n b ss c = .ok (.d .non) c := by rw [fnG_eq h, k, ex_nx]
theorem ret_ok {A : M} {s : S} {c' : Cs} (h : A δ c = .ok s c') : sRet A δ c = .rt s c' := by unfold sRet; rw [h]; rfl
theorem set_ok {i : Nat} {A : M} {s : S} {c' : Cs} (h : A δ c = .ok s c') : sSet i A δ c = .nx (δ.set i (some s)) c' := by unfold sSet; rw [h]; rfl
theorem expr_ok {A : M} {s : S} {c' : Cs} (h : A δ c = .ok s c') : sExpr A δ c = .nx δ c' := by unfold sExpr; rw [h]; rfl
theorem tb_ok {A : M} {b : Bool} {c' : Cs} (h : A δ c = .ok (.d (.bl b)) c') : mTB A δ c = .ok b c' := by unfold mTB; rw [h]; rfl
theorem tnot_ok {A : MT} {b : Bool} {c' : Cs} (h : A δ c = .ok b c') : mtNot A δ c = .ok (!b) c' := by unfold mtNot; rw [h]; rfl
theorem tor_no {A B : MT} {c' : Cs} {r : R Bool} (h : A δ c = .ok false c') (k : B δ c' = r) : mtOr A B δ c = r := by unfold mtOr; rw [h]; exact k
theorem tor_yes {A B : MT} {c' : Cs} (h : A δ c = .ok true c') : mtOr A B δ c = .ok true c' := by unfold mtOr; rw [h]; rfl
theorem tand_yes {A B : MT} {c' : Cs} {r : R Bool} (h : A δ c = .ok true c') (k : B δ c' = r) : mtAnd A B δ c = r := by unfold mtAnd; rw [h]; exact k
theorem tand_no {A B : MT} {c' : Cs} (h : A δ c = .ok false c') : mtAnd A B δ c = .ok false c' := by unfold mtAnd; rw [h]; rfl
theorem and_yes {A B : M} {c' : Cs} {r : R S} (h : A δ c = .ok (.d (.bl true)) c') (k : B δ c' = r) : mAnd A B δ c = r := by unfold mAnd; rw [h]; exact k
theorem and_no {A B : M} {c' : Cs} (h : A δ c = .ok (.d (.bl false)) c') : mAnd A B δ c = .ok (.d (.bl false)) c' := by unfold mAnd; rw [h]; rfl
theorem a1 {A : M} {s : S} {c' : Cs} (h : A δ c = .ok s c') : mCons A mNil δ c = .ok [s] c' := by unfold mCons; rw [h]; rfl
theorem a2 {A : M} {B : MA} {s : S} {ss : List S} {c' c'' : Cs} (h : A δ c = .ok s c') (k : B δ c' = .ok ss c'') : mCons A B δ c = .ok (s :: ss) c'' := by unfold mCons; rw [h]; simp only [bind_ok]; rw [k]; rfl
theorem blt {f : List S → Cs → R S} {A : MA} {ss : List S} {c' : Cs} {r : R S} (h : A δ c = .ok ss c') (k : f ss c' = r) : mBlt f A δ c = r := by unfold mBlt; rw [h]; exact k
theorem bin {f : S → S → Cs → R S} {A B : M} {x y : S} {c' c'' : Cs} {r : R S} (h : A δ c = .ok x c') (k : B δ c' = .ok y c'') (e : f x y c'' = r) : mBin f A B δ c = r := by unfold mBin; rw [h]; simp only [bind_ok]; rw [k]; exact e
theorem l2 {g : D → D → Option D} {x y d : D} (h : g x y = some d) : lift2 g (.d x) (.d y) c = .ok (.d d) c := by simp [lift2, deref, h]
theorem lN1 {g : List D → Option D} {x d : D} (h : g [x] = some d) : liftN g [.d x] c = .ok (.d d) c := by simp [liftN, derefs, deref, h]
theorem lX1 {g : List D → Option D} {x d : D} (h : g [x] = some d) : lenX g [.d x] c = .ok (.d d) c := lN1 h
theorem vr {i : Nat} {s : S} (h : δ[i]? = some (some s)) : mVar i δ c = .ok s c := by unfold mVar; rw [h]
theorem isi {k : Kinds} {A : M} {x : D} {b : Bool} {c' : Cs} (h : A δ c = .ok (.d x) c') (e : k.ask x = some b) : mIsi k A δ c = .ok (.d (.bl b)) c' := by unfold mIsi; rw [h]; simp [askD, topD, deref, e]
theorem attr {tbl : List (Nat × Nat)} {A : M} {k i : Nat} {xs : List D} {x : D} {c' : Cs} (h : A δ c = .ok (.d (.obj k xs)) c') (e : look tbl k = some i) (e2 : xs[i]? = some x) : mAttr tbl A δ c = .ok (.d x) c' := by unfold mAttr; rw [h]; simp [deref, e, e2]
theorem meth {tbl : List (Nat × (List S → Cs → R S))} {A : M} {B : MA} {fn : List S → Cs → R S} {k : Nat} {xs : List D} {ss : List S} {c' c'' : Cs} {r : R S} (h : A δ c = .ok (.d (.obj k xs)) c') (e : look tbl k = some fn) (h2 : B δ c' = .ok ss c'') (h3 : fn (.d (.obj k xs) :: ss) c'' = r) : mMeth tbl A B δ c = r := by
  unfold mMeth; rw [h]; simp only [bind_ok, deref, e]; rw [h2]; exact h3
theorem seqI {A : M} {s : S} {xs : Src} {c' : Cs} (h : A δ c = .ok s c') (e : items s c' = .ok xs c') : iSeq A δ c = .ok xs c' := by unfold iSeq; rw [h]; exact e
/-- a comprehension whose parts change nothing -/
theorem push_at {acc : List D} {x : D} (hl : acc.length < PySem.sizeLine) : push c.length (.d x) (c ++ [.lst acc]) = .ok () (c ++ [.lst (acc ++ [x])]) := by
  have e0 : (c ++ [CC.lst acc])[c.length]? = some (CC.lst acc) := by simp
  unfold push
  simp only [e0]
  rw [if_pos hl]
  simp
theorem cloop_map {α : Type} {g : GT} {C : MT} {A : M} {δ : Sl} {q : α → S} {p : α → Bool} {f : α → D} : ∀ (ys : List α) (acc : List D), (∀ y ∈ ys, ∀ acc, ∃ δ1, g (q y) (c ++ [.lst acc]) δ = some δ1 ∧ (C δ1 (c ++ [.lst acc]) = .ok (p y) (c ++ [.lst acc]) ∧ (p y = true → A δ1 (c ++ [.lst acc]) = .ok (.d (f y)) (c ++ [.lst acc])))) → acc.length + ys.length ≤ PySem.sizeLine →
    cloop g C (fun δ1 c1 => (A δ1 c1).bindN (push c.length)) δ (ys.map q) (c ++ [.lst acc]) = .ok () (c ++ [.lst (acc ++ (ys.filter p).map f)])
  | [], acc, _, _ => by simp [cloop]
  | d :: ds, acc, h, hl => by
    obtain ⟨δ1, h1, h3, h4⟩ := h d List.mem_cons_self acc
    simp only [List.length_cons] at hl
    simp only [List.map_cons]
    unfold cloop
    rw [h1]
    simp only [h3, bindN_ok]
    by_cases hp : p d = true
    · rw [if_pos hp, h4 hp]
      simp only [bindN_ok, push_at (show acc.length < PySem.sizeLine by omega)]
      rw [cloop_map ds (acc ++ [f d]) (fun x hx => h x (List.mem_cons_of_mem _ hx)) (by simp; omega)]
      rw [List.filter_cons_of_pos hp]
      simp
    · rw [if_neg hp, cloop_map ds acc (fun x hx => h x (List.mem_cons_of_mem _ hx)) (by omega), List.filter_cons_of_neg hp]
theorem compF {α : Type} {I : MI} {g : GT} {C : MT} {A : M} {vs : List Nat} (ys : List α) (q : α → S) (p : α → Bool) (f : α → D) (hI : I δ c = .ok (.xs (ys.map q)) c) (hl : ys.length ≤ PySem.sizeLine)
    (h : ∀ y ∈ ys, ∀ acc, ∃ δ1, g (q y) (c ++ [.lst acc]) (wipeD δ vs) = some δ1 ∧ (C δ1 (c ++ [.lst acc]) = .ok (p y) (c ++ [.lst acc]) ∧ (p y = true → A δ1 (c ++ [.lst acc]) = .ok (.d (f y)) (c ++ [.lst acc])))) : mComp I g C A vs δ c = .ok (.d (.lst ((ys.filter p).map f))) c := by
  unfold mComp
  rw [hI]
  simp only [bind_ok, cloopI]
  rw [cloop_map ys [] h (by simpa using hl)]
  simp [finC]
theorem compM {α : Type} {I : MI} {g : GT} {A : M} {vs : List Nat} (ys : List α) (q : α → S) (f : α → D) (hI : I δ c = .ok (.xs (ys.map q)) c) (hl : ys.length ≤ PySem.sizeLine)
    (h : ∀ y ∈ ys, ∀ acc, ∃ δ1, g (q y) (c ++ [.lst acc]) (wipeD δ vs) = some δ1 ∧ A δ1 (c ++ [.lst acc]) = .ok (.d (f y)) (c ++ [.lst acc])) : mComp I g mtYes A vs δ c = .ok (.d (.lst (ys.map f))) c := by
  rw [compF ys q (fun _ => true) f hI hl fun d hd acc => ?_]
  · rw [List.filter_eq_self.mpr (fun _ _ => rfl)]
  · obtain ⟨δ1, h1, h2⟩ := h d hd acc
    exact ⟨δ1, h1, rfl, fun _ => h2⟩
/-- over a list that is a cell (read again at each turn, unchanged) -/
theorem cloopC_map {α : Type} {n : Nat} {g : GT} {A : M} {δ : Sl} {q : α → S} {f : α → D} {all : List α} (hn : ∀ acc, cellL n (c ++ [.lst acc]) = some (all.map q)) : ∀ (ys : List α) (i : Nat) (acc : List D), all.drop i = ys → (∀ y ∈ all, ∀ acc, ∃ δ1, g (q y) (c ++ [.lst acc]) δ = some δ1 ∧ A δ1 (c ++ [.lst acc]) = .ok (.d (f y)) (c ++ [.lst acc])) → acc.length + ys.length ≤ PySem.sizeLine →
    cloopC n g mtYes (fun δ1 c1 => (A δ1 c1).bindN (push c.length)) δ (ys.length + 1) i (c ++ [.lst acc]) = .ok () (c ++ [.lst (acc ++ ys.map f)])
  | [], i, acc, e, h, _ => by
    have hi : all.length ≤ i := List.drop_eq_nil_iff.mp e
    unfold cloopC
    simp only [hn acc]
    rw [List.getElem?_eq_none (by simpa using hi)]
    simp
  | y :: ys, i, acc, e, h, hl => by
    simp only [List.length_cons] at hl
    have hi : all[i]? = some y := by
      have := congrArg List.head? e
      rwa [List.head?_drop] at this
    have hm : y ∈ all := List.mem_of_getElem? hi
    obtain ⟨δ1, h1, h2⟩ := h y hm acc
    unfold cloopC
    have e1 : (all.map q)[i]? = some (q y) := by rw [List.getElem?_map, hi]; rfl
    simp only [hn acc, e1, h1]
    have ey : ∀ (δ : Sl) (c : Cs), mtYes δ c = .ok true c := fun _ _ => rfl
    simp only [ey, bindN_ok, if_true, h2, push_at (show acc.length < PySem.sizeLine by omega)]
    rw [List.length_cons, cloopC_map hn ys (i + 1) (acc ++ [f y]) (by rw [← List.drop_drop, e]; rfl) h (by simp; omega)]
    simp
theorem compMC {α : Type} {n : Nat} {I : MI} {g : GT} {A : M} {vs : List Nat} (ys : List α) (q : α → S) (f : α → D) (hI : I δ c = .ok (.cell n) c) (hn : ∀ acc, cellL n (c ++ [.lst acc]) = some (ys.map q)) (hl : ys.length ≤ PySem.sizeLine)
    (h : ∀ y ∈ ys, ∀ acc, ∃ δ1, g (q y) (c ++ [.lst acc]) (wipeD δ vs) = some δ1 ∧ A δ1 (c ++ [.lst acc]) = .ok (.d (f y)) (c ++ [.lst acc])) : mComp I g mtYes A vs δ c = .ok (.d (.lst (ys.map f))) c := by
  unfold mComp
  rw [hI]
  simp only [bind_ok, cloopI, hn, List.length_map]
  rw [cloopC_map hn ys 0 [] rfl h (by simpa using hl)]
  simp [finC]
theorem cellL_app {n : Nat} {x : CC} {xs : List S} (h : cellL n c = some xs) : cellL n (c ++ [x]) = some xs := by
  unfold cellL at h ⊢
  cases hc : c[n]? with
  | none => rw [hc] at h; cases h
  | some y =>
    rw [List.getElem?_append_left (List.getElem?_eq_some_iff.mp hc).1, hc]
    rw [hc] at h
    exact h
/-! ### all, any of a generator -/
theorem gloop_all {α : Type} {g : GT} {A : M} {δ : Sl} {q : α → S} {p : α → Bool} (al : Bool) : ∀ (ys : List α), (∀ y ∈ ys, ∃ δ1, g (q y) c δ = some δ1 ∧ A δ1 c = .ok (.d (.bl (p y))) c) → gloop al g A δ (ys.map q) c = .ok (.d (.bl (if al then ys.all p else ys.any p))) c
  | [], _ => by cases al <;> rfl
  | y :: ys, h => by
    obtain ⟨δ1, h1, h2⟩ := h y List.mem_cons_self
    have ih := gloop_all al ys fun x hx => h x (List.mem_cons_of_mem _ hx)
    simp only [List.map_cons]
    unfold gloop
    rw [h1]
    simp only [h2, bindN_ok, gstep, asB_bl]
    rw [ih]
    cases al <;> cases hp : p y <;> simp [hp]
theorem gloopC_all {α : Type} {n : Nat} {g : GT} {A : M} {δ : Sl} {q : α → S} {p : α → Bool} (al : Bool) {all : List α} (hn : cellL n c = some (all.map q)) (h : ∀ y ∈ all, ∃ δ1, g (q y) c δ = some δ1 ∧ A δ1 c = .ok (.d (.bl (p y))) c) : ∀ (ys : List α) (i : Nat), all.drop i = ys → gloopC n al g A δ (ys.length + 1) i c = .ok (.d (.bl (if al then ys.all p else ys.any p))) c
  | [], i, e => by
    have hi : all.length ≤ i := List.drop_eq_nil_iff.mp e
    unfold gloopC
    simp only [hn]
    rw [List.getElem?_eq_none (by simpa using hi)]
    cases al <;> rfl
  | y :: ys, i, e => by
    have hi : all[i]? = some y := by
      have := congrArg List.head? e
      rwa [List.head?_drop] at this
    obtain ⟨δ1, h1, h2⟩ := h y (List.mem_of_getElem? hi)
    have ih := gloopC_all al hn h ys (i + 1) (by rw [← List.drop_drop, e]; rfl)
    unfold gloopC
    have e1 : (all.map q)[i]? = some (q y) := by rw [List.getElem?_map, hi]; rfl
    simp only [hn, e1, h1, h2, bindN_ok, gstep, asB_bl]
    rw [List.length_cons, ih]
    cases al <;> cases hp : p y <;> simp [hp]
theorem gen_ok {α : Type} {al : Bool} {j : Nat} {I : MI} {g : GT} {A : M} {vs : List Nat} (ys : List α) (q : α → S) (p : α → Bool) (hI : I δ c = .ok (.xs (ys.map q)) c) (ht : hasTb j c = true)
    (h : ∀ y ∈ ys, ∃ δ1, g (q y) c (wipeD δ vs) = some δ1 ∧ A δ1 c = .ok (.d (.bl (p y))) c) : mGen al j I g A vs δ c = .ok (.d (.bl (if al then ys.all p else ys.any p))) c := by
  unfold mGen
  rw [hI]
  simp only [bind_ok]
  rw [if_pos ht]
  exact gloop_all al ys h
theorem genC_ok {α : Type} {al : Bool} {j n : Nat} {I : MI} {g : GT} {A : M} {vs : List Nat} (ys : List α) (q : α → S) (p : α → Bool) (hI : I δ c = .ok (.cell n) c) (hn : cellL n c = some (ys.map q)) (ht : hasTb j c = true)
    (h : ∀ y ∈ ys, ∃ δ1, g (q y) c (wipeD δ vs) = some δ1 ∧ A δ1 c = .ok (.d (.bl (p y))) c) : mGen al j I g A vs δ c = .ok (.d (.bl (if al then ys.all p else ys.any p))) c := by
  unfold mGen
  rw [hI]
  simp only [bind_ok]
  rw [if_pos ht]
  unfold gloopI
  simp only [hn, List.length_map]
  exact gloopC_all al hn h ys 0 rfl
theorem hasTb_app {j : Nat} {x : Cs} (h : hasTb j c = true) : hasTb j (c ++ x) = true := by
  unfold hasTb at h ⊢
  cases hc : c[j]? with
  | none => rw [hc] at h; cases h
  | some y => rw [List.getElem?_append_left (List.getElem?_eq_some_iff.mp hc).1, hc]; rw [hc] at h; exact h
/-! ### expressions over data -/
theorem pure_ok {n : Nat} {A : M} {x : D} {c' : Cs} (ht : (tbsOk n c && (c.drop n).all canHide) = true) (h : A (dataSl δ) (tbs n) = .ok (.d x) c') (h2 : tbsOk n c' = true) : mP n A δ c = .ok (.d x) c := by
  unfold mP
  rw [if_pos ht, h]
  exact if_pos h2
/-- what a closed expression is -/
def valP (n : Nat) (r : R S) : Option D := match r with
  | .ok (.d x) c' => if tbsOk n c' = true then some x else none
  | _ => none
theorem pure_val {n : Nat} {A : M} {x : D} (ht : (tbsOk n c && (c.drop n).all canHide) = true) (h : valP n (A (dataSl δ) (tbs n)) = some x) : mP n A δ c = .ok (.d x) c := by
  cases hA : A (dataSl δ) (tbs n) with
  | bad => rw [hA] at h; cases h
  | ex _ _ _ => rw [hA] at h; cases h
  | ok s c' =>
    rw [hA] at h
    cases s with
    | c _ => cases h
    | x _ _ => cases h
    | d x' =>
      have h : (if tbsOk n c' = true then some x' else none) = some x := h
      by_cases h2 : tbsOk n c' = true
      · rw [if_pos h2] at h
        cases h
        exact pure_ok ht hA h2
      · rw [if_neg h2] at h
        cases h
def valPT (n : Nat) (r : R Bool) : Option Bool := match r with
  | .ok b c' => if tbsOk n c' = true then some b else none
  | _ => none
theorem pure_bt {n : Nat} {C : MT} {b : Bool} (ht : (tbsOk n c && (c.drop n).all canHide) = true) (h : valPT n (C (dataSl δ) (tbs n)) = some b) : mPT n C δ c = .ok b c := by
  unfold mPT
  rw [if_pos ht]
  cases hA : C (dataSl δ) (tbs n) with
  | bad => rw [hA] at h; cases h
  | ex _ _ _ => rw [hA] at h; cases h
  | ok b' c' =>
    rw [hA] at h
    have h : (if tbsOk n c' = true then some b' else none) = some b := h
    by_cases h2 : tbsOk n c' = true
    · rw [if_pos h2] at h
      cases h
      exact if_pos h2
    · rw [if_neg h2] at h
      cases h
def isTrueD : Option D → Bool
  | some (.bl true) => true
  | _ => false
def isFalseD : Option D → Bool
  | some (.bl false) => true
  | _ => false
theorem isTrueD_eq {o : Option D} (h : isTrueD o = true) : o = some (.bl true) := by
  unfold isTrueD at h
  split at h
  · rfl
  · cases h
theorem isFalseD_eq {o : Option D} (h : isFalseD o = true) : o = some (.bl false) := by
  unfold isFalseD at h
  split at h
  · rfl
  · cases h
theorem pure_t {n : Nat} {A : M} (ht : (tbsOk n c && (c.drop n).all canHide) = true) (h : isTrueD (valP n (A (dataSl δ) (tbs n))) = true) : mP n A δ c = .ok (.d (.bl true)) c := pure_val ht (isTrueD_eq h)
theorem pure_f {n : Nat} {A : M} (ht : (tbsOk n c && (c.drop n).all canHide) = true) (h : isFalseD (valP n (A (dataSl δ) (tbs n))) = true) : mP n A δ c = .ok (.d (.bl false)) c := pure_val ht (isFalseD_eq h)
end
section
variable {δ : Sl} {c : Cs}
theorem expr_ex {A : M} {k : Nat} {xs : List D} {c' : Cs} (h : A δ c = .ex k xs c') : sExpr A δ c = .ex k xs δ c' := by unfold sExpr; rw [h]; rfl
theorem fn_ex {kp : Bool} {np n : Nat} {b : MS} {ss : List S} {k : Nat} {xs : List D} {δ' : Sl} (h : ss.length = np) (e : b (ss.map some ++ List.replicate (n - np) none) c = .ex k xs δ' c) : fnG kp np n b ss c = .ex k xs c := by rw [fnG_eq h, e, ex_ex]
theorem ret_ex {A : M} {k : Nat} {xs : List D} {c' : Cs} (h : A δ c = .ex k xs c') : sRet A δ c = .ex k xs δ c' := by unfold sRet; rw [h]; rfl
theorem mif_t {C : MT} {A B : M} {c' : Cs} {r : R S} (h : C δ c = .ok true c') (k : A δ c' = r) : mIf C A B δ c = r := by unfold mIf; rw [h]; exact k
theorem mif_f {C : MT} {A B : M} {c' : Cs} {r : R S} (h : C δ c = .ok false c') (k : B δ c' = r) : mIf C A B δ c = r := by unfold mIf; rw [h]; exact k
theorem loop_inv {α : Type} {g : GT} {B : MS} (q : α → S) (J : List α → Sl → Cs → Prop) (all : List α) (hs : ∀ done y rest δ c, all = done ++ y :: rest → J done δ c → ∃ δ1 δ2 c2, g (q y) c δ = some δ1 ∧ B δ1 c = .nx δ2 c2 ∧ J (done ++ [y]) δ2 c2) :
    ∀ (ys done : List α) (δ : Sl) (c : Cs), all = done ++ ys → J done δ c → ∃ δ' c', loop g B (ys.map q) δ c = .nx δ' c' ∧ J all δ' c'
  | [], done, δ, c, e, h => ⟨δ, c, rfl, by rw [e]; simpa using h⟩
  | y :: ys, done, δ, c, e, h => by
    obtain ⟨δ1, δ2, c2, h1, h2, h3⟩ := hs done y ys δ c e h
    obtain ⟨δ', c', e', k⟩ := loop_inv q J all hs ys (done ++ [y]) δ2 c2 (by rw [e]; simp) h3
    refine ⟨δ', c', ?_, k⟩
    simp only [List.map_cons]
    unfold loop
    rw [h1]
    simp only
    rw [h2]
    exact e'
theorem for_inv {α : Type} {I : MI} {g : GT} {B : MS} (ys : List α) (q : α → S) (J : List α → Sl → Cs → Prop) {c1 : Cs} (hI : I δ c = .ok (.xs (ys.map q)) c1) (h0 : J [] δ c1) (hs : ∀ done y rest δ c, ys = done ++ y :: rest → J done δ c → ∃ δ1 δ2 c2, g (q y) c δ = some δ1 ∧ B δ1 c = .nx δ2 c2 ∧ J (done ++ [y]) δ2 c2) :
    ∃ δ' c', sFor I g B δ c = .nx δ' c' ∧ J ys δ' c' := by
  obtain ⟨δ', c', e, k⟩ := loop_inv q J ys hs ys [] δ c1 rfl h0
  refine ⟨δ', c', ?_, k⟩
  unfold sFor
  rw [hI]
  exact e
def sI (i : Int) : S := .d (.int i)
theorem rng_ok {A : MA} {j : Int} {c' : Cs} (h : A δ c = .ok [.d (.int j)] c') (h1 : j ≤ 16777216) (h2 : -(2 ^ 62) ≤ j) : iRng A δ c = .ok (.xs ((List.range j.toNat).map fun (i : Nat) => sI i)) c' := by
  unfold iRng
  rw [h]
  simp only [bind_ok, rng1]
  rw [if_pos ⟨h1, h2⟩]
  unfold rngL sI
  rw [List.map_map]
  congr 3
  funext i
  simp
theorem app_ok {A : M} {B : MA} {acc : List D} {x : D} (hA : A δ (c ++ [.lst acc]) = .ok (.c c.length) (c ++ [.lst acc])) (hB : B δ (c ++ [.lst acc]) = .ok [.d x] (c ++ [.lst acc])) (hl : acc.length < sizeLine) : mAppend A B δ (c ++ [.lst acc]) = .ok (.d .non) (c ++ [.lst (acc ++ [x])]) := by
  have e0 : (c ++ [CC.lst acc])[c.length]? = some (CC.lst acc) := by simp
  unfold mAppend
  rw [hA]
  simp only [bind_ok, e0]
  rw [hB]
  simp only [bind_ok, appendC, e0]
  rw [if_pos hl]
  simp
end
theorem log_lt {i : Int} {k : Nat} (h0 : 0 ≤ i) (h : i < 2 ^ k) (hk : 0 < k) : i.natAbs.log2 < k := by
  by_cases z : i.natAbs = 0
  · rw [z]; simpa using hk
  · rw [Nat.log2_lt z]
    have : (i.natAbs : Int) = i := Int.natAbs_of_nonneg h0
    have e : ((2 ^ k : Nat) : Int) = 2 ^ k := by simp
    omega
section
variable {c : Cs} {δ : Sl} {n : Nat}
theorem ix_cell {xs : List D} {A B : M} {i : Int} {x : D} (hn : c[n]? = some (.lst xs)) (hA : A δ c = .ok (.c n) c) (hB : B δ c = .ok (.d (.int i)) c) (e : ixD (.lst xs) (.int i) = some x) : mBin (lift2 ixD) A B δ c = .ok (.d x) c :=
  bin hA hB (by simp [lift2, deref, hn, e])
theorem set_cell {xs ys : List D} {A I V : M} {i : Int} {j : Nat} {x : D} (hn : c[n]? = some (.lst xs)) (hV : V δ c = .ok (.d x) c) (hA : A δ c = .ok (.c n) c) (hI : I δ c = .ok (.d (.int i)) c) (e : L2.ixN xs.length i = some j) (e2 : xs.set j x = ys) : sSetIx A I V δ c = .nx δ (c.set n (.lst ys)) := by
  unfold sSetIx
  rw [hV]
  simp only [andS_ok]
  rw [hA]
  simp only [andS_ok]
  rw [hI]
  simp only [andS_ok, setC, hn, e, e2]
theorem fn_rs {kp : Bool} {np m : Nat} {b : MS} {ss : List S} {c' : Cs} {x : D} (h : ss.length = np) (hl : c'.length = c.length) (k : b (ss.map some ++ List.replicate (m - np) none) c = .rt (.d x) c') : fnG kp np m b ss c = .ok (.d x) c' := by
  rw [fnG_eq h, k]
  simp [exitR, ← hl]
end
theorem bls_const {α : Type} (l : List α) (b : Bool) : bls? (l.map fun _ => D.bl b) = some (l.map fun _ => b) := by
  induction l with
  | nil => rfl
  | cons x r ih => simp [bls?, ih]
theorem bls_map {α : Type} (l : List α) (f : α → Bool) : bls? (l.map fun x => D.bl (f x)) = some (l.map f) := by
  induction l with
  | nil => rfl
  | cons x r ih => simp [bls?, ih]
theorem small_size {n : Nat} (h : n ≤ 1000) : n ≤ sizeLine := Nat.le_trans h (by decide)
theorem atI_nat {α : Type} {xs : List α} {n : Nat} (h : n < xs.length) : L2.atI xs (n : Int) = some xs[n] := by
  have h1 : ((n : Nat) : Int) < ((xs.length : Nat) : Int) := by omega
  simp [L2.atI, L2.ixN, h1, h]
theorem fld_ok {δ : Sl} {c : Cs} {tbl : List (Nat × Nat)} {A V : M} {k i : Nat} {xs ys : List D} {x : D} (hV : V δ (c ++ [.obj k xs]) = .ok (.d x) (c ++ [.obj k xs])) (hA : A δ (c ++ [.obj k xs]) = .ok (.c c.length) (c ++ [.obj k xs])) (e : look tbl k = some i) (e2 : setF i x xs = some ys) :
    sFldSet tbl A V δ (c ++ [.obj k xs]) = .nx δ (c ++ [.obj k ys]) := by
  unfold sFldSet
  rw [hV]
  simp only [andS_ok]
  rw [hA]
  simp only [andS_ok]
  have e0 : (c ++ [CC.obj k xs])[c.length]? = some (CC.obj k xs) := by simp
  simp only [e0, e, e2]
  simp
theorem fn_to {kp : Bool} {np n : Nat} {b : MS} {ss : List S} {c c' : Cs} {δ' : Sl} (h : ss.length = np) (k : b (ss.map some ++ List.replicate (n - np) none) c = .nx δ' c') (hl : c'.length = c.length) : fnG kp np n b ss c = .ok (.d .non) c' := by
  rw [fnG_eq h, k]
  simp [exitR, ← hl]
end Dn

end
section
/-! Dn35: closed evaluation: data compared sign by sign. -/
namespace Dn
open PySem
mutual
def beqD : D → D → Bool
  | .non, .non => true
  | .bl a, .bl b => a == b
  | .int a, .int b => decide (a = b)
  | .str a, .str b => decide (a = b)
  | .lst a, .lst b => beqDs a b
  | .tup a, .tup b => beqDs a b
  | .obj c a, .obj e b => decide (c = e) && beqDs a b
  | .scr a, .scr b => decide (a = b)
  | .dct k a, .dct l b => decide (k = l) && beqDs a b
  | _, _ => false
def beqDs : List D → List D → Bool
  | [], [] => true
  | x :: xs, y :: ys => beqD x y && beqDs xs ys
  | _, _ => false
end
mutual
theorem beqD_eq : ∀ {x y : D}, beqD x y = true → x = y
  | .non, y, h => by cases y <;> first | rfl | (unfold beqD at h; cases h)
  | .bl a, y, h => by
    cases y with
    | bl b => unfold beqD at h; rw [beq_iff_eq.mp h]
    | _ => unfold beqD at h; cases h
  | .int a, y, h => by
    cases y with
    | int b => unfold beqD at h; rw [of_decide_eq_true h]
    | _ => unfold beqD at h; cases h
  | .str a, y, h => by
    cases y with
    | str b => unfold beqD at h; rw [of_decide_eq_true h]
    | _ => unfold beqD at h; cases h
  | .lst a, y, h => by
    cases y with
    | lst b => unfold beqD at h; rw [beqDs_eq h]
    | _ => unfold beqD at h; cases h
  | .tup a, y, h => by
    cases y with
    | tup b => unfold beqD at h; rw [beqDs_eq h]
    | _ => unfold beqD at h; cases h
  | .obj c a, y, h => by
    cases y with
    | obj e b => unfold beqD at h; rw [Bool.and_eq_true] at h; rw [of_decide_eq_true h.1, beqDs_eq h.2]
    | _ => unfold beqD at h; cases h
  | .scr a, y, h => by
    cases y with
    | scr b => unfold beqD at h; rw [of_decide_eq_true h]
    | _ => unfold beqD at h; cases h
  | .dct k a, y, h => by
    cases y with
    | dct l b => unfold beqD at h; rw [Bool.and_eq_true] at h; rw [of_decide_eq_true h.1, beqDs_eq h.2]
    | _ => unfold beqD at h; cases h
theorem beqDs_eq : ∀ {x y : List D}, beqDs x y = true → x = y
  | [], y, h => by
    cases y with
    | nil => rfl
    | cons _ _ => unfold beqDs at h; cases h
  | x :: xs, y, h => by
    cases y with
    | nil => unfold beqDs at h; cases h
    | cons y ys => unfold beqDs at h; rw [Bool.and_eq_true] at h; rw [beqD_eq h.1, beqDs_eq h.2]
end
def isTbs : Nat → Nat → Cs → Bool
  | _, 0, [] => true
  | i, n + 1, .tb k :: r => decide (k = i) && isTbs (i + 1) n r
  | _, _, _ => false
theorem isTbs_eq : ∀ {n i : Nat} {c : Cs}, isTbs i n c = true → c = (List.range' i n).map CC.tb
  | 0, i, [], _ => rfl
  | 0, i, _ :: _, h => by unfold isTbs at h; cases h
  | n + 1, i, [], h => by unfold isTbs at h; cases h
  | n + 1, i, x :: r, h => by
    cases x with
    | tb k =>
      unfold isTbs at h
      rw [Bool.and_eq_true] at h
      rw [of_decide_eq_true h.1, isTbs_eq h.2]
      rfl
    | _ => unfold isTbs at h; cases h
/-- r is the data d, and nothing but the tables -/
def isV (n : Nat) (d : D) (r : R S) : Bool := match r with
  | .ok (.d x) c => beqD x d && isTbs 0 n c
  | _ => false
theorem isV_eq {n : Nat} {d : D} {r : R S} (h : isV n d r = true) : r = .ok (.d d) (tbs n) := by
  unfold isV at h
  split at h
  · rw [Bool.and_eq_true] at h
    rw [beqD_eq h.1, isTbs_eq h.2]
    unfold tbs
    rw [List.range_eq_range']
  · cases h
/-- r is the truth value b -/
def isB2 (n : Nat) (b : Bool) (r : R Bool) : Bool := match r with
  | .ok x c => (x == b) && isTbs 0 n c
  | _ => false
theorem isB2_eq {n : Nat} {b : Bool} {r : R Bool} (h : isB2 n b r = true) : r = .ok b (tbs n) := by
  unfold isB2 at h
  split at h
  · rw [Bool.and_eq_true] at h
    rw [beq_iff_eq.mp h.1, isTbs_eq h.2]
    unfold tbs
    rw [List.range_eq_range']
  · cases h
theorem tbsOk_app : ∀ {n : Nat} {x y : Cs}, tbsOk n x = true → tbsOk n (x ++ y) = true
  | 0, _, _, _ => rfl
  | n + 1, x, y, h => by
    unfold tbsOk at h ⊢
    rw [Bool.and_eq_true] at h ⊢
    refine ⟨tbsOk_app h.1, ?_⟩
    cases hc : x[n]? with
    | none => rw [hc] at h; exact absurd h.2 (by simp)
    | some z => rw [List.getElem?_append_left (List.getElem?_eq_some_iff.mp hc).1, hc]; rw [hc] at h; exact h.2
theorem tbsOk_of : ∀ {n : Nat} {c : Cs}, (∀ j, j < n → c[j]? = some (.tb j)) → tbsOk n c = true
  | 0, _, _ => rfl
  | n + 1, c, h => by
    unfold tbsOk
    rw [Bool.and_eq_true]
    refine ⟨tbsOk_of fun j hj => h j (by omega), ?_⟩
    rw [h n (by omega)]
    exact beq_self_eq_true n
theorem tbsOk_tbs (n : Nat) : tbsOk n (tbs n) = true := tbsOk_of fun j hj => by
  unfold tbs
  rw [List.getElem?_map, List.getElem?_range hj]
  rfl
/-- tables, then lists and dicts -/
def Junk (n : Nat) (c : Cs) : Prop := (tbsOk n c && (c.drop n).all canHide) = true
theorem Junk.app {n : Nat} {c : Cs} {x : CC} (h : Junk n c) (hx : canHide x = true) : Junk n (c ++ [x]) := by
  unfold Junk at h ⊢
  rw [Bool.and_eq_true] at h ⊢
  have hn := (tbsOk_take h.1).2
  refine ⟨tbsOk_app h.1, ?_⟩
  rw [List.drop_append_of_le_length hn, List.all_append, h.2]
  simp [hx]
theorem Junk.set {n k : Nat} {c : Cs} {x : CC} (h : Junk n c) (hk : n ≤ k) (hx : canHide x = true) : Junk n (c.set k x) := by
  unfold Junk at h ⊢
  rw [Bool.and_eq_true] at h ⊢
  refine ⟨tbsOk_of fun j hj => ?_, ?_⟩
  · rw [List.getElem?_set_ne (by omega)]
    exact tbsOk_get h.1 j hj
  · rw [List.all_eq_true]
    intro y hy
    obtain ⟨i, hi⟩ := List.getElem?_of_mem hy
    rw [List.getElem?_drop] at hi
    by_cases e : k = n + i
    · have hl : k < c.length := by
        have := (List.getElem?_eq_some_iff.mp hi).1
        rw [List.length_set] at this
        omega
      rw [← e, List.getElem?_set_self hl] at hi
      cases hi
      exact hx
    · rw [List.getElem?_set_ne e] at hi
      exact List.all_eq_true.mp h.2 y (List.mem_of_getElem? (i := i) (by rw [List.getElem?_drop]; exact hi))
theorem Junk.tbs (n : Nat) : Junk n (tbs n) := by
  unfold Junk
  rw [tbsOk_tbs, List.drop_eq_nil_of_le (by simp [Dn.tbs])]
  rfl
section
variable {δ : Sl} {c : Cs}
theorem pure_v {n : Nat} {A : M} {d : D} (ht : Junk n c) (h : A (dataSl δ) (tbs n) = .ok (.d d) (tbs n)) : mP n A δ c = .ok (.d d) c := pure_ok ht h (tbsOk_tbs n)
theorem pure_b {n : Nat} {C : MT} {b : Bool} (ht : Junk n c) (h : C (dataSl δ) (tbs n) = .ok b (tbs n)) : mPT n C δ c = .ok b c := by
  refine pure_bt ht ?_
  rw [h]
  exact if_pos (tbsOk_tbs n)
theorem tand_t {A B : MT} {c' c'' : Cs} {b : Bool} (h : A δ c = .ok true c') (k : B δ c' = .ok b c'') : mtAnd A B δ c = .ok b c'' := by unfold mtAnd; rw [h]; exact k
end
end Dn

end
section
/-! Dn36: rules for the plain laws: two fors, comprehensions of new lists. -/
namespace Dn
open PySem
section
variable {δ : Sl} {c : Cs}
theorem cloop2_map {α β : Type} {g g1 : GT} {I1 : MI} {A : M} {vs1 : List Nat} {q : α → S} {zs : α → List β} {q1 : β → S} {f : α → β → D} : ∀ (ys : List α) (acc : List D),
    (∀ y ∈ ys, ∃ δ1, (∀ acc, g (q y) (c ++ [.lst acc]) δ = some δ1) ∧ (∀ acc, I1 δ1 (c ++ [.lst acc]) = .ok (.xs ((zs y).map q1)) (c ++ [.lst acc])) ∧ ∀ z ∈ zs y, ∃ δ2, (∀ acc, g1 (q1 z) (c ++ [.lst acc]) (wipeD δ1 vs1) = some δ2) ∧ ∀ acc, A δ2 (c ++ [.lst acc]) = .ok (.d (f y z)) (c ++ [.lst acc])) → acc.length + (ys.flatMap fun y => (zs y).map (f y)).length ≤ sizeLine →
    cloop g mtYes (fun δ1 c1 => (I1 δ1 c1).bindN fun ys c1 => cloopI g1 mtYes (fun δ2 c2 => (A δ2 c2).bindN (push c.length)) (wipeD δ1 vs1) ys c1) δ (ys.map q) (c ++ [.lst acc]) = .ok () (c ++ [.lst (acc ++ ys.flatMap fun y => (zs y).map (f y))])
  | [], acc, _, _ => by simp [cloop]
  | y :: ys, acc, h, hl => by
    obtain ⟨δ1, h1, h2, h3⟩ := h y List.mem_cons_self
    simp only [List.flatMap_cons, List.length_append, List.length_map] at hl
    simp only [List.map_cons]
    unfold cloop
    rw [h1]
    have ey : ∀ (δ : Sl) (c : Cs), mtYes δ c = .ok true c := fun _ _ => rfl
    simp only [ey, bindN_ok, if_true, h2, cloopI]
    have e := cloop_map (c := c) (g := g1) (C := mtYes) (A := A) (δ := wipeD δ1 vs1) (q := q1) (p := fun _ => true) (f := f y) (zs y) acc (fun z hz acc => let ⟨δ2, a, b⟩ := h3 z hz; ⟨δ2, a acc, rfl, fun _ => b acc⟩) (by omega)
    rw [List.filter_eq_self.mpr (fun _ _ => rfl)] at e
    rw [e]
    simp only [bindN_ok]
    have ih := cloop2_map (g := g) (g1 := g1) (I1 := I1) (A := A) (vs1 := vs1) (q := q) (zs := zs) (q1 := q1) (f := f) ys (acc ++ (zs y).map (f y)) (fun x hx => h x (List.mem_cons_of_mem _ hx)) (by rw [List.length_append, List.length_map]; omega)
    simp only [cloopI] at ih
    rw [ih, List.flatMap_cons, List.append_assoc]
theorem comp2M {α β : Type} {I I1 : MI} {g g1 : GT} {A : M} {vs vs1 : List Nat} (ys : List α) (q : α → S) (zs : α → List β) (q1 : β → S) (f : α → β → D) (hI : I δ c = .ok (.xs (ys.map q)) c) (hl : (ys.flatMap fun y => (zs y).map (f y)).length ≤ sizeLine)
    (h : ∀ y ∈ ys, ∃ δ1, (∀ acc, g (q y) (c ++ [.lst acc]) (wipeD δ vs) = some δ1) ∧ (∀ acc, I1 δ1 (c ++ [.lst acc]) = .ok (.xs ((zs y).map q1)) (c ++ [.lst acc])) ∧ ∀ z ∈ zs y, ∃ δ2, (∀ acc, g1 (q1 z) (c ++ [.lst acc]) (wipeD δ1 vs1) = some δ2) ∧ ∀ acc, A δ2 (c ++ [.lst acc]) = .ok (.d (f y z)) (c ++ [.lst acc])) :
    mComp2 I g mtYes I1 g1 mtYes A vs vs1 δ c = .ok (.d (.lst (ys.flatMap fun y => (zs y).map (f y)))) c := by
  unfold mComp2
  rw [hI]
  simp only [bind_ok, cloopI]
  have := cloop2_map (g := g) (g1 := g1) (I1 := I1) (A := A) (vs1 := vs1) (δ := wipeD δ vs) (q := q) (zs := zs) (q1 := q1) (f := f) ys [] h (by simpa using hl)
  simp only [cloopI] at this
  rw [this]
  simp [finC]
/-- each item of the comprehension is a new list -/
theorem cloopS_new {α : Type} {g : GT} {A : M} {q : α → S} {f : α → List D} : ∀ (ys : List α) (e : Cs) (acc : List S), (∀ y ∈ ys, ∀ c, ∃ δ1, g (q y) c δ = some δ1 ∧ A δ1 c = .ok (.c c.length) (c ++ [.lst (f y)])) → acc.length + ys.length ≤ sizeLine →
    cloopS g mtYes A δ (ys.map q) e.length (e ++ [.lS acc]) = .ok (e.length + ys.length) (e ++ ys.map (fun y => CC.lst (f y)) ++ [.lS (acc ++ (List.range' e.length ys.length).map S.c)])
  | [], e, acc, _, _ => by simp [cloopS]
  | y :: ys, e, acc, h, hl => by
    simp only [List.length_cons] at hl
    obtain ⟨δ1, h1, h2⟩ := h y List.mem_cons_self (e ++ [.lS acc])
    simp only [List.map_cons]
    unfold cloopS
    rw [h1]
    have ey : ∀ (δ : Sl) (c : Cs), mtYes δ c = .ok true c := fun _ _ => rfl
    simp only [ey, bindN_ok, if_true, h2]
    have e0 : (e ++ [CC.lS acc] ++ [CC.lst (f y)])[e.length]? = some (CC.lS acc) := by
      rw [List.append_assoc, List.getElem?_append_right (Nat.le_refl _)]
      simp
    have ed : (e ++ [CC.lS acc] ++ [CC.lst (f y)]).drop (e.length + 1) = [.lst (f y)] := by
      have : e.length + 1 = (e ++ [CC.lS acc]).length := by simp
      rw [this, List.drop_left]
    have et : (e ++ [CC.lS acc] ++ [CC.lst (f y)]).take e.length = e := by rw [List.append_assoc, List.take_left]
    have ep : pushS e.length (.c (e ++ [CC.lS acc]).length) (e ++ [CC.lS acc] ++ [.lst (f y)]) = .ok (e ++ [CC.lst (f y)]).length (e ++ [.lst (f y)] ++ [.lS (acc ++ [.c e.length])]) := by
      unfold pushS
      simp only [e0, ed]
      rw [if_pos ⟨by omega, by simp [isRef], rfl⟩]
      have r : rotL e.length (e ++ [CC.lS acc] ++ [CC.lst (f y)]) (lowCC e.length) (.lS acc) = e ++ [.lst (f y)] ++ [.lS acc] := by
        unfold rotL
        rw [et, ed]
        rfl
      rw [r]
      have l1 : (e ++ [CC.lS acc] ++ [CC.lst (f y)]).length - 1 = (e ++ [CC.lst (f y)]).length := by simp
      rw [l1, List.set_append_right _ _ (Nat.le_refl _)]
      simp [lowS]
    rw [ep]
    simp only [bindN_ok]
    have ih := cloopS_new ys (e ++ [CC.lst (f y)]) (acc ++ [.c e.length]) (fun z hz => h z (List.mem_cons_of_mem _ hz)) (by simp; omega)
    rw [ih]
    simp [List.range'_succ, Nat.add_comm, Nat.add_left_comm]
theorem compS_new {α : Type} {I : MI} {g : GT} {A : M} {vs : List Nat} (ys : List α) (q : α → S) (f : α → List D) (hI : I δ c = .ok (.xs (ys.map q)) c) (hl : ys.length ≤ sizeLine) (h : ∀ y ∈ ys, ∀ c, ∃ δ1, g (q y) c (wipeD δ vs) = some δ1 ∧ A δ1 c = .ok (.c c.length) (c ++ [.lst (f y)])) :
    mCompS I g mtYes A vs δ c = .ok (.c (c.length + ys.length)) (c ++ ys.map (fun y => CC.lst (f y)) ++ [.lS ((List.range' c.length ys.length).map S.c)]) := by
  unfold mCompS
  rw [hI]
  simp only [bind_ok]
  rw [cloopS_new ys c [] h (by simpa using hl)]
  simp
theorem datas_map : ∀ (xs : List D), datas (xs.map S.d) = some xs
  | [] => rfl
  | x :: r => by simp [datas, datas_map r]
theorem listK_d {xs : List D} (h : xs.length ≤ sizeLine) : listK [.d (.lst xs)] c = .ok (.c c.length) (c ++ [.lst xs]) ∧ listK [.d (.tup xs)] c = .ok (.c c.length) (c ++ [.lst xs]) := by
  have : newL (xs.map S.d) c = .ok (.c c.length) (c ++ [.lst xs]) := by
    unfold newL cellOf
    rw [datas_map]
    simp only
    rw [if_pos (by simpa using h)]
  exact ⟨this, this⟩
theorem par_ok {i j : Nat} {B : MA} {x y : S} {c' : Cs} (h : B δ c = .ok [x, y] c') : sPar i j B δ c = .nx ((δ.set i (some x)).set j (some y)) c' := by
  unfold sPar
  rw [h]
  rfl
theorem appS_ok {A : M} {B : MA} {n : Nat} {x : D} {c1 : Cs} {acc : List D} (hA : A δ c = .ok (.c n) c1) (hn : c1[n]? = some (.lst acc)) (hB : B δ c1 = .ok [.d x] c1) (hl : acc.length < sizeLine) : mAppendS A B δ c = .ok (.d .non) (c1.set n (.lst (acc ++ [x]))) := by
  unfold mAppendS
  rw [hA]
  simp only [bind_ok, cellL, hn]
  rw [hB]
  simp only [bind_ok, appendS, hn]
  rw [if_pos hl]
theorem appS_okS {A : M} {B : MA} {n : Nat} {x : D} {c1 : Cs} {acc : List S} (hA : A δ c = .ok (.c n) c1) (hn : c1[n]? = some (.lS acc)) (hB : B δ c1 = .ok [.d x] c1) (hl : acc.length < sizeLine) : mAppendS A B δ c = .ok (.d .non) (c1.set n (.lS (acc ++ [.d x]))) := by
  unfold mAppendS
  rw [hA]
  simp only [bind_ok, cellL, hn]
  rw [hB]
  simp only [bind_ok, appendS, hn]
  rw [if_pos hl]
theorem clear_ok {A : M} {n : Nat} {x : CC} {c1 : Cs} (hA : A δ c = .ok (.c n) c1) (hn : c1[n]? = some x) (hx : (∃ a, x = .lst a) ∨ ∃ a, x = .lS a) : mClear A δ c = .ok (.d .non) (c1.set n (.lst [])) := by
  unfold mClear
  rw [hA]
  simp only [bind_ok, clearC, hn]
  rcases hx with ⟨a, rfl⟩ | ⟨a, rfl⟩ <;> rfl
/-- what a def that tells its lists as cells answers -/
theorem fnA_rt {np n : Nat} {b : MS} {ss : List S} {k : Nat} {c' : Cs} (h : ss.length = np) (e : b (ss.map some ++ List.replicate (n - np) none) c = .rt (.c k) c') : fnE exitA np n b ss c = .ok (.c k) c' := by
  unfold fnE
  rw [if_pos h, e]
  rfl
theorem Junk.apps {n : Nat} : ∀ {x : List CC} {c : Cs}, Junk n c → (∀ y ∈ x, canHide y = true) → Junk n (c ++ x)
  | [], c, h, _ => by simpa using h
  | y :: x, c, h, k => by
    have := Junk.apps (x := x) (h.app (k y List.mem_cons_self)) (fun z hz => k z (List.mem_cons_of_mem _ hz))
    rwa [List.append_assoc] at this
theorem Junk.len {n : Nat} {c : Cs} (h : Junk n c) : n ≤ c.length := by
  unfold Junk at h
  rw [Bool.and_eq_true] at h
  exact (tbsOk_take h.1).2
theorem Junk.take {n : Nat} {c : Cs} (h : Junk n c) : c.take n = Dn.tbs n := by
  unfold Junk at h
  rw [Bool.and_eq_true] at h
  exact (tbsOk_take h.1).1
end
end Dn

end
section
set_option maxHeartbeats 1000000
/-! Dn37: an own class asked with !=: what its own == says, the other way round. -/
namespace Dn
open PySem PySem.Spec PyProof.Rows L2
section
open PySem.W
variable {prog : Program} {w : World} {A : Around} {E : Value → Shared → Prop} {s : Shared} {K : Frag} {x C f L : Addr} {h₀ : Heap} {m : Str → Option Value} {ox : Obj} {od : Option Obj} {b tb : Value}
theorem bound_bi {M : Model} {args : List Value} {id : String} {name : Str} {Q : Option Value → Shared → Prop} (X : K.In s.heap) (I : InstAt s.heap x ox C od) (hs : findIn K (.ref C) name = some (some (.builtin id))) (hb : ∀ v, bindSpecial (.builtin id) v = pure (.builtin id, [v]))
    (h : wpAny M A (call (.builtin id) (.ref x :: args)) (fun v => Q (some v)) E s) : wpAny M A (callSpecialIfBound? (.ref x) name args) Q E s := by
  simp only [callSpecialIfBound?, bindSpecialIfBound?]
  refine wpAny_holding (wpAny_bind (wpAny_bind (wpAny_bind (I.type.here ((looks_findIn X hs).here ?_)))))
  simp only [hb]
  refine wpAny_bind (wpAny_askSetting (wpAny_ite ?_))
  have fin : wpAny M A (call (.builtin id) ([.ref x] ++ args) >>= fun v => pure (some v)) Q E s := wpAny_bind (wpAny_mono h (fun v s' q => wpAny_pure q) fun _ _ q => q)
  split
  · exact wpAny_bind (wpAny_pure (wpAny_pure fin))
  · exact wpAny_tryCatch (wpAny_bind (wpAny_pure (wpAny_pure fin)))
theorem check_bi {M : Model} {id n : String} {rest : List Value} {Q : Unit → Shared → Prop} (X : K.In s.heap) (I : InstAt s.heap x ox C od) (hk : builtinKind id = some .slot) (hs : splitId id = some ("object", n)) (ha : argsOk id ⟨.ref x :: rest, []⟩) (hm : mroIn K C (.type "object") = some true) (hq : Q () s) :
    wpAny M A (checkBuiltinCall id ⟨.ref x :: rest, []⟩) Q E s := by
  simp only [checkBuiltinCall, hk, hs]
  refine wpAny_bind ?_
  unfold isInstance
  refine wpAny_bind (I.type.here ((looks_mroIn X hm).here ?_))
  simp only [Bool.not_true, Bool.false_eq_true, if_false]
  cases hsig : Manifest.signature? id with
  | none => exact wpAny_pure hq
  | some sig =>
    simp only [argsOk, hsig] at ha
    have h2 : Bind.checkArgs id sig ⟨.ref x :: rest, []⟩ = pure () := ha
    show wpAny M A (Bind.checkArgs id sig ⟨.ref x :: rest, []⟩) Q E _
    rw [h2]
    exact wpAny_pure hq
def NeBk (Q : Value → Shared → Prop) (v : Value) (s' : Shared) : Prop := ∃ b, v = .bool b ∧ Q (.bool (!b)) s'
theorem ne_K {Q : Value → Shared → Prop} (hu : A.units + 1 < cLine) (F : Fr h₀ L s.heap m) (X₀ : K.In h₀) (I : InstAt s.heap x ox C od) (hb : Looks (model prog w) s.heap (typeOf b) tb) (hn : notFirst K C tb = true)
    (hne : findIn K (.ref C) "__ne__" = some (some (.builtin "object.__ne__"))) (hm : mroIn K C (.type "object") = some true)
    (hs : findIn K (.ref C) "__eq__" = some (some (.ref f))) (hf : isFn K (.ref f) = true)
    (h : wpAny (model prog w) A.in1 (call (.ref f) [.ref x, b]) (NeBk Q) E s) : wpAny (model prog w) A (richCompare .NotEq (.ref x) b) Q E s := by
  have X := X₀.keeps F.keep
  have entry : wpAny (model prog w) A.in1 (Builtin.«object.__ne__» ⟨[.ref x, b], []⟩) (fun r s' => ∃ b, r = .done (.ret (.bool (!b))) ∧ Q (.bool (!b)) s') E s := by
    unfold Builtin.«object.__ne__»
    repeat (first
      | with_reducible refine wpAny_cRoomFor (by exact hu) ?_
      | (refine wpAny_bind (m := callSpecialIfBound? (.ref x) (Str.ofString "__eq__") [b]) (ifBound_K X I hs hf (wpAny_mono h (fun v s' hv => by
          obtain ⟨r, rfl, hq⟩ := hv
          repeat (first | exact ⟨_, rfl, hq⟩ | exact wpAny_pure ⟨_, rfl, hq⟩ | (refine wpAny_bind (m := truthy (.bool _)) (wpAny_truthy_bool ?_)) | wp_step)) fun _ _ e => e)))
      | wp_step)
  have one : wpAny (model prog w) A (tryCompare (.ref x) "__ne__" b) (fun r s' => ∃ v, r = some v ∧ Q v s') E s := by
    unfold tryCompare
    refine wpAny_bind (bound_bi X I hne PySem.F.cmp_object.ne.bind (wpAny_call (codeAny_call_builtin PySem.F.cmp_object.ne.plain PySem.F.cmpEntry_ne (check_bi X I PySem.F.cmpKind_ne PySem.F.cmpSplit_ne (PySem.F.cmpArgs_ne _ _) hm (wpAny_mono entry (fun v s' hv => ?_) fun _ _ e => e)))))
    obtain ⟨r, rfl, hq⟩ := hv
    exact wpAny_pure ⟨_, rfl, hq⟩
  unfold richCompare
  simp only [oneThing_ref]
  refine wpAny_holding (wpAny_bind (wpAny_cRoomFor (Nat.lt_of_succ_lt hu) ?_))
  refine wpAny_bind (I.type.here (wpAny_bind (hb.here ?_)))
  split
  · rename_i q
    have e : subIn K tb (.ref C) = some false := by
      rcases Bool.or_eq_true_iff.mp hn with e | e
      · rw [beq_iff_eq.mp e] at q; simp at q
      · exact beq_iff_eq.mp e
    refine wpAny_bind ((looks_subIn X e).here ?_)
    simp only [Bool.false_eq_true, if_false]
    refine wpAny_bind (wpAny_mono one (fun r s' z => ?_) fun _ _ e => e)
    obtain ⟨v, rfl, hq⟩ := z
    exact wpAny_pure hq
  · refine wpAny_bind (wpAny_pure ?_)
    simp only [Bool.false_eq_true, if_false]
    refine wpAny_bind (wpAny_mono one (fun r s' z => ?_) fun _ _ e => e)
    obtain ⟨v, rfl, hq⟩ := z
    exact wpAny_pure hq
end
section
variable {X : Cx} {T : Tb} {W : WX} {a b : Expr} {A B : M} {pos : Pos} {tbl : List (Nat × (List S → Cs → R S))} {kd : Kinds} {n f : Nat}
theorem run_ownA {fn : List S → Cs → R S} {m : Str} {j k : Nat} {Ar : Around} {pins : List (Addr × Obj)} {σ : L2.St} {H : Hp} {s : Shared} {Q : VK} {us : List Value} {vs : List V} (M : MethAt X.prog X.w X.K X.mg X.base T m k j fn) (sb : Sub X j Ar)
    (I : Inv X pins σ H s) (r : Vals vs us) (h : spD T fn vs H Q fun _ _ _ => False) : ∃ f, Meth X.K (T.cl k) m f ∧ wpAny (model X.prog X.w) Ar (call (.ref f) us) (EP X pins σ Q) X.xe s := by
  obtain ⟨f, fd, ps, F, hm, hc, _, hb⟩ := M
  refine ⟨f, hm, ?_⟩
  have hl := F.len _ _ _ _ h
  have bb := hb s us I.kIn (by rw [List.append_nil, ← r.length]; exact hl)
  rw [List.append_nil] at bb
  have e0 : Env0 X.prog X.w X.K X.mg X.base Ar X.stack s H := by
    have e := I.env0
    exact ⟨by rw [sb.fr]; exact e.frames, e.mod, e.bs, e.bsz, e.funs, e.frf, e.hok, e.bare⟩
  refine wpAny_call (codeAny_mono (F.run Ar X.stack s H ⟨us, []⟩ us vs _ _ sb.room e0 bb r h) fun fl s' hq => ?_)
  cases fl with
  | error e =>
    obtain ⟨_, _, _, _, _, _, _, _, _, _, _, _, z⟩ := hq
    exact z.elim
  | ok fl =>
    cases fl with
    | ret w => exact I.after hq
    | next => exact False.elim hq
    | brk => exact False.elim hq
    | cont => exact False.elim hq
/-- the classes leave != to their == -/
inductive NeOk (K : PySem.W.Frag) (T : Tb) : List (Nat × (List S → Cs → R S)) → Prop
  | nil : NeOk K T []
  | cons {c : Nat} {fn : List S → Cs → R S} {l : List (Nat × (List S → Cs → R S))} : PySem.W.findIn K (.ref (T.cl c)) "__ne__" = some (some (.builtin "object.__ne__")) → PySem.W.mroIn K (T.cl c) (.type "object") = some true → NeOk K T l → NeOk K T ((c, fn) :: l)
theorem NeOk.get {K : PySem.W.Frag} {T : Tb} {l : List (Nat × (List S → Cs → R S))} (h : NeOk K T l) {c : Nat} {fn : List S → Cs → R S} (hm : (c, fn) ∈ l) : PySem.W.findIn K (.ref (T.cl c)) "__ne__" = some (some (.builtin "object.__ne__")) ∧ PySem.W.mroIn K (T.cl c) (.type "object") = some true := by
  induction h with
  | nil => cases hm
  | cons a b _ ih =>
    rcases List.mem_cons.mp hm with z | z
    · cases z; exact ⟨a, b⟩
    · exact ih z
def rNeG (X : Cx) (T : Tb) (tbl : List (Nat × (List S → Cs → R S))) : R2 := fun v u H Q => ∃ k fn xs t, look tbl k = some fn ∧ Rep T H (.obj k xs) v ∧ TyX X.K H u t ∧ PySem.W.notFirst X.K (T.cl k) t = true ∧ spD T fn [v, u] H (fun r H' => ∃ b, r = .bl b ∧ Q (.bl (!b)) H') fun _ _ _ => False
theorem op_neG (hM : MethsAt X.prog X.w X.K X.mg X.base T "__eq__" n tbl) (hO : NeOk X.K T tbl) (hr : Room (n + 1) X.A) : OpR X (compareOp .NotEq) (rNeG X T tbl) := by
  intro pins s σ H x y v u Q I rv ru h
  obtain ⟨k, fn, xs, t, hl, hx, ty, nf, sp⟩ := h
  obtain ⟨j, hj, M⟩ := hM.get (look_mem hl)
  have sb : Sub X j X.A.in1 := Sub.in1 ⟨hr.mono (by omega), rfl⟩
  obtain ⟨g, hm, run⟩ := run_ownA (vs := [x, y]) (us := [v, u]) M sb I (.cons rv (.cons ru .nil)) sp
  obtain ⟨ax, dx, od, rfl, J⟩ := rep_inst I hx
  obtain rfl : v = Value.ref ax := rv
  obtain ⟨m, hF⟩ := I.fr
  obtain ⟨P, kt, hP, _⟩ := kit_of I ru ty
  obtain ⟨ne1, ne2⟩ := hO.get (look_mem hl)
  show wpAny (model X.prog X.w) X.A (richCompare .NotEq (.ref ax) u) (EP X pins σ Q) X.xe s
  refine ne_K (tb := t) (by have := hr.un; omega) hF I.ok.mod.kin J (kt.ty _ _ I.kIn hP) nf ne1 ne2 hm.at_ hm.fn (wpAny_mono run (fun w s' z => ?_) fun _ _ z => z)
  obtain ⟨z0, H', I', rz, b, rfl, q⟩ := z
  obtain rfl : w = .bool b := rz
  exact ⟨b, rfl, .bl (!b), H', I', rfl, q⟩
def neG (tbl : List (Nat × (List S → Cs → R S))) (kd : Kinds) (f : Nat) (s t : S) (c : Cs) : R S := match s with
  | .d (.obj k xs) => match look tbl k with
    | some fn => match topD t c with
      | some d => if kd.ask d = some true then (fn [.d (.obj k xs), t] c).bindN fun r c => (asB r c).bindN fun b c => .ok (.d (.bl (!b))) c else .bad
      | none => .bad
    | none => .bad
  | s => eqY tbl f true s t c
theorem prim_neG (hM : MethsAt X.prog X.w X.K X.mg X.base T "__eq__" n tbl) (hN : NotFirst X.K T kd tbl) (hT : X.K = T.K) (hr : Room (n + f + 1) X.A) : Prim2 T (neG tbl kd f) (fun x y H Q => rNeG X T tbl x y H Q ∨ rSem X (compareOp (cmpOf true)) x y H Q) := by
  intro W σ G ρ H c x y v u Q hh rx ry p
  unfold neG at p
  split at p
  · rename_i k xs
    cases hl : look tbl k with
    | none => simp only [hl] at p; exact p.elim
    | some fn =>
      simp only [hl] at p
      cases ht : topD y c with
      | none => simp only [ht] at p; exact p.elim
      | some d =>
        simp only [ht] at p
        by_cases hk : kd.ask d = some true
        · rw [if_pos hk] at p
          obtain ⟨t, ty, nf⟩ := top_ty (hN.get (look_mem hl)) hh ry ht hk
          refine .inl ⟨k, fn, xs, t, hl, Rep.mono hh.ex _ _ rx, ty, Option.some.inj nf, [.d (.obj k xs), y], c, G, ρ, .cons rx (.cons ry .nil), hh, ?_⟩
          cases hf : fn [.d (.obj k xs), y] c with
          | bad => rw [hf] at p; exact p.elim
          | ex _ _ _ => rw [hf] at p; exact p.elim
          | ok s c' =>
            rw [hf] at p
            have p : Post (SRep T) T W σ G ρ ((asB s c').bindN fun b c => .ok (.d (.bl (!b))) c) Q := p
            cases s with
            | c n => exact p.elim
            | x _ _ => exact p.elim
            | d x =>
              cases x with
              | bl b =>
                intro v' H' G' ρ' e pr rh rs
                exact ⟨b, SRep.bl_inv rs, p _ H' G' ρ' e pr rh SRep.bl⟩
              | _ => exact p.elim
        · rw [if_neg hk] at p; exact p.elim
  · exact .inr (prim_eqY hM hT hr W σ G ρ H c _ y v u Q hh rx ry p)
variable (hM : MethsAt X.prog X.w X.K X.mg X.base T "__eq__" n tbl) (hN : NotFirst X.K T kd tbl) (hO : NeOk X.K T tbl) (hT : X.K = T.K) (hr : Room (n + f + 1) X.A) (ha : PE X a (tD T W A)) (hb : PE X b (tD T W B))
include hM hN hO hT hr ha hb
theorem dn_neG : PE X (.Compare a [.NotEq] [b] pos) (tD T W (mBin (neG tbl kd f) A B)) := dn_cmp (OpR.or (op_neG hM hO (hr.mono (by omega))) (op_sem (f := compareOp (cmpOf true)))) (prim_neG hM hN hT hr) ha hb (nomark _)
theorem dt_neG : PT X (.Compare a [.NotEq] [b] pos) (tDT T W (mTB (mBin (neG tbl kd f) A B))) := dt_cmp (OpR.or (op_neG hM hO (hr.mono (by omega))) (op_sem (f := compareOp (cmpOf true)))) (prim_neG hM hN hT hr) ha hb (nomark _)
end
end Dn

end
/-! what the defs of law_k17_webs_told compute, printed by gen.py -/
namespace Dn
def f__bottom : List (Nat × Nat) := [(1, 1)]
def f__top : List (Nat × Nat) := [(1, 0)]
def f_heard_lots : List (Nat × Nat) := [(0, 1)]
def f_marks : List (Nat × Nat) := [(2, 0)]
def f_seats : List (Nat × Nat) := [(2, 1), (0, 0)]
def f_states : List (Nat × Nat) := [(2, 2)]
def f_table : List (Nat × Nat) := [(2, 3)]
def k_Ratio : Kinds := kAll false false false false false false false [(1, true), (2, false), (0, false)]
def k_Telling : Kinds := kAll false false false false false false false [(1, false), (2, true), (0, false)]
def k_Web : Kinds := kAll false false false false false false false [(1, false), (2, false), (0, true)]
def k_bool : Kinds := kAll false true false false false false false [(1, false), (2, false), (0, false)]
def k_int : Kinds := kAll false true true false false false false [(1, false), (2, false), (0, false)]
def k_int_Ratio : Kinds := kAll false true true false false false false [(1, true), (2, false), (0, false)]
def k_list : Kinds := kAll false false false false true false false [(1, false), (2, false), (0, false)]
def k_list_tuple : Kinds := kAll false false false false true true false [(1, false), (2, false), (0, false)]
def kEq : Kinds := kAll true true true true true true true [(1, true), (2, true), (0, true)]
abbrev nT : Nat := 1
def b_is_number : MS := (sSeq (sIf (mTB (mIsi k_bool (mVar 0))) (sRet (mC (.bl false))) sNil) (sRet (mIsi k_int_Ratio (mVar 0))))
def d_is_number : List S → Cs → R S := fnG false 1 1 b_is_number
def b_parts_of : MS := (sSeq (sIf (mTB (mIsi k_Ratio (mVar 0))) (sRet (mTup (mCons (mProp 1 0 (mVar 0)) (mCons (mProp 1 1 (mVar 0)) mNil)))) sNil) (sRet (mTup (mCons (mVar 0) (mCons (mC (.int 1)) mNil)))))
def d_parts_of : List S → Cs → R S := fnG false 1 1 b_parts_of
def b_Ratio_eq : MS := (sSeq (sIf (mtNot (mTB (mBlt d_is_number (mCons (mVar 1) mNil)))) (sRet (mC (.bl false))) sNil) (sSeq (sAsg (gtTup (gtCons (gtName 2) (gtCons (gtName 3) gtNil))) (mBlt d_parts_of (mCons (mVar 1) mNil))) (sRet (mAnd (mBin (lift2 (eqP false)) (mAttr f__top (mVar 0)) (mVar 2)) (mBin (lift2 (eqP false)) (mAttr f__bottom (mVar 0)) (mVar 3))))))
def d_Ratio_eq : List S → Cs → R S := fnG false 2 4 b_Ratio_eq
def b_Telling_eq : MS := (sRet (mAnd (mIsi k_Telling (mVar 1)) (mAnd (mBin (lift2 (eqP false)) (mAttr f_marks (mVar 0)) (mAttr f_marks (mVar 1))) (mBin (lift2 (eqP false)) (mAttr f_table (mVar 0)) (mAttr f_table (mVar 1))))))
def d_Telling_eq : List S → Cs → R S := fnG false 2 2 b_Telling_eq
def b_Web_eq : MS := (sRet (mAnd (mIsi k_Web (mVar 1)) (mAnd (mBin (lift2 (eqP false)) (mAttr f_seats (mVar 0)) (mAttr f_seats (mVar 1))) (mBin (lift2 (eqP false)) (mAttr f_heard_lots (mVar 0)) (mAttr f_heard_lots (mVar 1))))))
def d_Web_eq : List S → Cs → R S := fnG false 2 2 b_Web_eq
def eqs : List (Nat × (List S → Cs → R S)) := [(1, d_Ratio_eq), (2, d_Telling_eq), (0, d_Web_eq)]
def b_law_all_lots : MS := (sSeq (sSet 1 (mLst (mCons (mLst mNil) mNil))) (sSeq (sFor (iSeq (mRev (mLstRng (mVar 0)))) (gtName 2) (sSet 1 (mBin (lift2 addD) (mBin (lift2 addD) (mLst (mCons (mLst mNil) mNil)) (mComp (iSeq (mVar 1)) (gtName 3) mtYes (mBin (lift2 addD) (mLst (mCons (mVar 2) mNil)) (mVar 3)) [3])) (mComp (iSeq (mVar 1)) (gtName 3) (mTB (mBin (eqY eqs 4 true) (mVar 3) (mLst mNil))) (mVar 3) [3])))) (sRet (mVar 1))))
def d_law_all_lots : List S → Cs → R S := fnG false 1 4 b_law_all_lots
def b_all_lots : MS := (sSeq (sSet 1 (mCell (mCons (mLst mNil) mNil))) (sSeq (sFor (iRng (mCons (mVar 0) mNil)) (gtName 2) (sExpr (mExtend (mVar 1) (mCons (mComp (iSeq (mBlt (liftN listD) (mCons (mVar 1) mNil))) (gtName 3) mtYes (mLst (mStarC (mVar 3) (mCons (mVar 2) mNil))) [3]) mNil)))) (sRet (mBlt (liftN sortedD) (mCons (mVar 1) mNil)))))
def d_all_lots : List S → Cs → R S := fnG false 1 4 b_all_lots
def b_is_integer : MS := (sRet (mAnd (mIsi k_int (mVar 0)) (mNot (mIsi k_bool (mVar 0)))))
def d_is_integer : List S → Cs → R S := fnG false 1 1 b_is_integer
def b_is_place : MS := (sRet (mAnd (mBlt d_is_integer (mCons (mVar 0) mNil)) (mChain (lift2 leD) (lift2 ltD) (mC (.int 0)) (mVar 0) (mVar 1))))
def d_is_place : List S → Cs → R S := fnG false 2 2 b_is_place
def b_is_many : MS := (sRet (mAnd (mBlt d_is_place (mCons (mVar 0) (mCons (mBin (lift2 addD) (mC (.int 3)) (mC (.int 1))) mNil))) (mBin (lift2 gtD) (mVar 0) (mC (.int 0)))))
def d_is_many : List S → Cs → R S := fnG false 1 1 b_is_many
def b_Web_len : MS := (sRet (mBlt (lenX lenD) (mCons (mAttr f_heard_lots (mVar 0)) mNil)))
def d_Web_len : List S → Cs → R S := fnG false 1 1 b_Web_len
def lens : List (Nat × (Nat × (List S → Cs → R S))) := [(0, 2, d_Web_len)]
def b_is_lot : MS := (sSeq (sIf (mtOr (mtNot (mTB (mIsi k_list_tuple (mVar 0)))) (mtNot (mTB (mBlt (liftN allD) (mCons (mComp (iSeq (mVar 0)) (gtName 2) mtYes (mBlt d_is_place (mCons (mVar 2) (mCons (mVar 1) mNil))) [2]) mNil))))) (sRet (mC (.bl false))) sNil) (sRet (mBlt (liftN allD) (mCons (mComp (iRng (mCons (mBin (lift2 subD) (mBlt (lenX (lenO lens)) (mCons (mVar 0) mNil)) (mC (.int 1))) mNil)) (gtName 3) mtYes (mBin (lift2 ltD) (mBin (lift2 ixD) (mVar 0) (mVar 3)) (mBin (lift2 ixD) (mVar 0) (mBin (lift2 addD) (mVar 3) (mC (.int 1))))) [3]) mNil))))
def d_is_lot : List S → Cs → R S := fnG false 2 4 b_is_lot
def b_are_lots : MS := (sSeq (sIf (mtOr (mtNot (mTB (mIsi k_list_tuple (mVar 0)))) (mtNot (mTB (mChain (lift2 leD) (lift2 leD) (mC (.int 1)) (mBlt (lenX (lenO lens)) (mCons (mVar 0) mNil)) (mC (.int 3)))))) (sRet (mC (.bl false))) sNil) (sRet (mBlt (liftN allD) (mCons (mComp (iSeq (mVar 0)) (gtName 2) mtYes (mBlt d_is_lot (mCons (mVar 2) (mCons (mVar 1) mNil))) [2]) mNil))))
def d_are_lots : List S → Cs → R S := fnG false 2 3 b_are_lots
def b_Web_init : MS := (sSeq (sIf (mtNot (mTB (mBlt d_is_many (mCons (mVar 1) mNil)))) (sRaise1 27 (mVar 1)) sNil) (sSeq (sIf (mtNot (mTB (mBlt d_are_lots (mCons (mVar 2) (mCons (mVar 1) mNil))))) (sRaise1 26 (mVar 2)) sNil) (sSeq (sFldSet f_seats (mVar 0) (mVar 1)) (sFldSet f_heard_lots (mVar 0) (mBlt (liftN tupleD) (mCons (mComp (iSeq (mVar 2)) (gtName 3) mtYes (mBlt (liftN tupleD) (mCons (mVar 3) mNil)) [3]) mNil))))))
def d_Web_init : List S → Cs → R S := fnG false 3 4 b_Web_init
def b_all_webs : MS := (sSeq (sIf (mtNot (mTB (mBlt d_is_many (mCons (mVar 0) mNil)))) (sRaise1 27 (mVar 0)) sNil) (sSeq (sIf (mtNot (mTB (mBlt d_is_many (mCons (mVar 1) mNil)))) (sRaise1 27 (mVar 1)) sNil) (sSeq (sSet 2 (mLst (mCons (mLst mNil) mNil))) (sSeq (sFor (iRng (mCons (mVar 1) mNil)) (gtName 3) (sSet 2 (mComp2 (iSeq (mVar 2)) (gtName 4) mtYes (iSeq (mP nT (mBlt d_all_lots (mCons (mVar 0) mNil)))) (gtName 5) mtYes (mLst (mStarC (mVar 4) (mCons (mVar 5) mNil))) [4, 5] [5]))) (sRet (mComp (iSeq (mVar 2)) (gtName 4) mtYes (mMake 0 2 d_Web_init (mCons (mVar 0) (mCons (mVar 4) mNil))) [4]))))))
def d_all_webs : List S → Cs → R S := fnG true 2 6 b_all_webs
def bA_all_webs : MS := (sSeq (sIf (mtNot (mTB (mBlt d_is_many (mCons (mVar 0) mNil)))) (sRaise1 27 (mVar 0)) sNil) (sSeq (sIf (mtNot (mTB (mBlt d_is_many (mCons (mVar 1) mNil)))) (sRaise1 27 (mVar 1)) sNil) (sSeq (sSet 2 (mLst (mCons (mLst mNil) mNil))) (sSeq (sFor (iRng (mCons (mVar 1) mNil)) (gtName 3) (sSet 2 (mComp2 (iSeq (mVar 2)) (gtName 4) mtYes (iSeq (mP nT (mBlt d_all_lots (mCons (mVar 0) mNil)))) (gtName 5) mtYes (mLst (mStarC (mVar 4) (mCons (mVar 5) mNil))) [4, 5] [5]))) (sRet (mCompK (iSeq (mVar 2)) (gtName 4) mtYes (mMake 0 2 d_Web_init (mCons (mVar 0) (mCons (mVar 4) mNil))) [4]))))))
def dA_all_webs : List S → Cs → R S := fnE exitA 2 6 bA_all_webs
def b_Web_lots : MS := (sRet (mComp (iSeq (mAttr f_heard_lots (mVar 0))) (gtName 1) mtYes (mBlt (liftN listD) (mCons (mVar 1) mNil)) [1]))
def d_Web_lots : List S → Cs → R S := fnG false 1 2 b_Web_lots
def bA_Web_lots : MS := (sRet (mCompS (iSeq (mAttr f_heard_lots (mVar 0))) (gtName 1) mtYes (mBlt listK (mCons (mVar 1) mNil)) [1]))
def dA_Web_lots : List S → Cs → R S := fnE exitA 1 2 bA_Web_lots
def t_lots : List (Nat × (List S → Cs → R S)) := [(0, d_Web_lots)]
def tA_lots : List (Nat × (List S → Cs → R S)) := [(0, dA_Web_lots)]
def b_law_all_right : MS := (sSeq (sSet 2 (mLst (mCons (mLst mNil) mNil))) (sSeq (sFor (iRng (mCons (mVar 1) mNil)) (gtName 3) (sSeq (sSet 4 (mLst mNil)) (sSeq (sFor (iSeq (mVar 2)) (gtName 5) (sSet 4 (mBin (lift2 addD) (mVar 4) (mComp (iSeq (mP nT (mBlt d_law_all_lots (mCons (mVar 0) mNil)))) (gtName 7) mtYes (mBin (lift2 addD) (mVar 5) (mLst (mCons (mVar 7) mNil))) [7])))) (sSet 2 (mVar 4))))) (sSeq (sSet 6 (mBlt dA_all_webs (mCons (mVar 0) (mCons (mVar 1) mNil)))) (sSeq (sIf (mtOr (mtNot (mTB (mIsi k_list (mVar 6)))) (mTB (mBin (eqY eqs 4 true) (mComp (iSeq (mVar 6)) (gtName 8) mtYes (mMeth t_lots (mVar 8) mNil) [8]) (mVar 2)))) (sRet (mC (.bl false))) sNil) (sSeq (sIf (mTB (mBin (eqY eqs 4 true) (mComp (iSeq (mVar 6)) (gtName 8) (mtOr (mTB (mBin (eqY eqs 4 true) (mAttr f_seats (mVar 8)) (mVar 0))) (mTB (mBin (eqY eqs 4 true) (mBlt (lenX (lenO lens)) (mCons (mVar 8) mNil)) (mVar 1)))) (mVar 8) [8]) (mLst mNil))) (sRet (mC (.bl false))) sNil) (sSeq (sExpr (mClear (mVar 6))) (sRet (mBin (eqG eqs kEq 4) (mBlt (lenX (lenO lens)) (mCons (mBlt d_all_webs (mCons (mVar 0) (mCons (mVar 1) mNil))) mNil)) (mBlt (lenX (lenO lens)) (mCons (mVar 2) mNil))))))))))
def d_law_all_right : List S → Cs → R S := fnG false 2 9 b_law_all_right
def b_law_box : MS := (sSeq (sSet 2 (mBin (lift2 modD) (mBlt (liftN intD) (mCons (mBin (lift2 addD) (mBlt (liftN sumD) (mCons (mVar 0) mNil)) (mBlt (lenX (lenO lens)) (mCons (mVar 0) mNil))) mNil)) (mC (.int 1000003)))) (sRet (mCell (mCons (mIf (mTB (mBin (lift2 ltD) (mVar 1) (mBlt (lenX (lenO lens)) (mCons (mVar 0) mNil)))) (mBlt (liftN absD) (mCons (mBlt (liftN intD) (mCons (mBin (lift2 ixD) (mVar 0) (mVar 1)) mNil)) mNil)) (mC (.int 0))) (mCons (mC (.int 0)) (mCons (mBin (lift2 addD) (mBin (lift2 addD) (mBin (lift2 mulD) (mC (.int 40591)) (mVar 1)) (mC (.int 911))) (mVar 2)) mNil))))))
def d_law_box : List S → Cs → R S := fnG true 2 3 b_law_box
def b_law_take : MS := (sSeq (sIf (mTB (mBin (lift2 geD) (mBin (lift2 ixD) (mVar 0) (mC (.int 0))) (mBin (lift2 powD) (mC (.int 10)) (mC (.int 18))))) (sSeq (sSet 2 (mBin (lift2 modD) (mBlt (liftN intD) (mCons (mBin (lift2 ixD) (mVar 0) (mC (.int 0))) mNil)) (mVar 1))) (sSeq (sSetIx (mVar 0) (mC (.int 0)) (mBin (lift2 fdivD) (mBin (lift2 ixD) (mVar 0) (mC (.int 0))) (mVar 1))) (sRet (mVar 2)))) sNil) (sSeq (sSetIx (mVar 0) (mC (.int 1)) (mBin (lift2 addD) (mBin (lift2 ixD) (mVar 0) (mC (.int 1))) (mC (.int 1)))) (sSeq (sSet 3 (mBin (lift2 modD) (mBin (lift2 powD) (mBlt (liftN intD) (mCons (mBin (lift2 addD) (mBin (lift2 addD) (mBin (lift2 mulD) (mBin (lift2 addD) (mBin (lift2 ixD) (mVar 0) (mC (.int 0))) (mC (.int 7))) (mC (.int 69069))) (mBin (lift2 mulD) (mBin (lift2 ixD) (mVar 0) (mC (.int 1))) (mC (.int 40801)))) (mBin (lift2 ixD) (mVar 0) (mC (.int 2)))) mNil)) (mC (.int 3))) (mC (.int 2147483647)))) (sSeq (sSet 3 (mBin (lift2 modD) (mBin (lift2 powD) (mBlt (liftN intD) (mCons (mBin (lift2 addD) (mVar 3) (mBin (lift2 mulD) (mBin (lift2 ixD) (mVar 0) (mC (.int 1))) (mC (.int 17389)))) mNil)) (mC (.int 3))) (mC (.int 2147483399)))) (sRet (mBin (lift2 modD) (mBlt (liftN intD) (mCons (mBin (lift2 fdivD) (mVar 3) (mC (.int 64))) mNil)) (mVar 1)))))))
def d_law_take : List S → Cs → R S := fnG false 2 4 b_law_take
def b_law_lots : MS := (sSeq (sSet 3 (mCell mNil)) (sSeq (sFor (iRng (mCons (mVar 2) mNil)) (gtName 4) (sSeq (sSet 5 (mBlt d_law_take (mCons (mVar 0) (mCons (mC (.int 6)) mNil)))) (sSeq (sSet 6 (mComp (iRng (mCons (mVar 1) mNil)) (gtName 7) (mTB (mBin (eqG eqs kEq 4) (mBlt d_law_take (mCons (mVar 0) (mCons (mC (.int 2)) mNil))) (mC (.int 0)))) (mVar 7) [7])) (sExpr (mAppend (mVar 3) (mCons (mIf (mTB (mBin (eqG eqs kEq 4) (mVar 5) (mC (.int 0)))) (mLstRng (mVar 1)) (mIf (mTB (mBin (eqG eqs kEq 4) (mVar 5) (mC (.int 1)))) (mLst mNil) (mVar 6))) mNil)))))) (sRet (mVar 3))))
def d_law_lots : List S → Cs → R S := fnG false 3 8 b_law_lots
def b_Ratio_init : MS := (sSeq (sIf (mTB (mBin (lift2 (eqP false)) (mVar 2) (mC (.int 0)))) (sRaise0 13) sNil) (sSeq (sSet 3 (mBlt (liftN gcdD) (mCons (mVar 1) (mCons (mVar 2) mNil)))) (sSeq (sIf (mTB (mBin (lift2 ltD) (mVar 2) (mC (.int 0)))) (sSet 3 (mUn (lift1 negD) (mVar 3))) sNil) (sSeq (sFldSet f__top (mVar 0) (mBin (lift2 fdivD) (mVar 1) (mVar 3))) (sFldSet f__bottom (mVar 0) (mBin (lift2 fdivD) (mVar 2) (mVar 3)))))))
def d_Ratio_init : List S → Cs → R S := fnG false 3 4 b_Ratio_init
def b_as_ratio : MS := (sSeq (sIf (mtNot (mTB (mBlt d_is_number (mCons (mVar 0) mNil)))) (sRaise1 20 (mVar 0)) sNil) (sRet (mIf (mTB (mIsi k_Ratio (mVar 0))) (mVar 0) (mMake 1 2 d_Ratio_init (mDfl (mCons (mVar 0) mNil) 1)))))
def d_as_ratio : List S → Cs → R S := fnG false 1 1 b_as_ratio
def b_Ratio_below : MS := (sSeq (sAsg (gtTup (gtCons (gtName 2) (gtCons (gtName 3) gtNil))) (mBlt d_parts_of (mCons (mVar 1) mNil))) (sRet (mBin (lift2 ltD) (mBin (lift2 mulD) (mAttr f__top (mVar 0)) (mVar 3)) (mBin (lift2 mulD) (mVar 2) (mAttr f__bottom (mVar 0))))))
def d_Ratio_below : List S → Cs → R S := fnG false 2 4 b_Ratio_below
def t_below : List (Nat × (List S → Cs → R S)) := [(1, d_Ratio_below)]
def b_is_share_list : MS := (sSeq (sIf (mtOr (mtNot (mTB (mIsi k_list_tuple (mVar 0)))) (mtNot (mTB (mGen true 0 (iSeq (mVar 0)) (gtName 1) (mBlt d_is_number (mCons (mVar 1) mNil)) [1])))) (sRet (mC (.bl false))) sNil) (sRet (mNot (mGen false 0 (iSeq (mVar 0)) (gtName 1) (mMeth t_below (mBlt d_as_ratio (mCons (mVar 1) mNil)) (mCons (mC (.int 0)) mNil)) [1]))))
def d_is_share_list : List S → Cs → R S := fnE (exitR false) 1 2 b_is_share_list
def b_Ratio_add : MS := (sSeq (sAsg (gtTup (gtCons (gtName 2) (gtCons (gtName 3) gtNil))) (mBlt d_parts_of (mCons (mVar 1) mNil))) (sRet (mMake 1 2 d_Ratio_init (mCons (mBin (lift2 addD) (mBin (lift2 mulD) (mAttr f__top (mVar 0)) (mVar 3)) (mBin (lift2 mulD) (mVar 2) (mAttr f__bottom (mVar 0)))) (mCons (mBin (lift2 mulD) (mAttr f__bottom (mVar 0)) (mVar 3)) mNil)))))
def d_Ratio_add : List S → Cs → R S := fnG false 2 4 b_Ratio_add
def ops_add : List (Nat × (List S → Cs → R S)) := [(1, d_Ratio_add)]
def b_total : MS := (sSeq (sSet 1 (mMake 1 2 d_Ratio_init (mDfl (mCons (mC (.int 0)) mNil) 1))) (sSeq (sFor (iSeq (mVar 0)) (gtName 2) (sSet 1 (mBin (opO ops_add (lift2 addD)) (mVar 1) (mVar 2)))) (sRet (mVar 1))))
def d_total : List S → Cs → R S := fnG false 1 3 b_total
def b_are_chances : MS := (sRet (mAnd (mBlt d_is_share_list (mCons (mVar 0) mNil)) (mBin (eqG eqs kEq 4) (mBlt d_total (mCons (mVar 0) mNil)) (mC (.int 1)))))
def d_are_chances : List S → Cs → R S := fnG false 1 1 b_are_chances
def b_are_lines : MS := (sSeq (sIf (mtNot (mTB (mIsi k_list_tuple (mVar 0)))) (sRet (mC (.bl false))) sNil) (sRet (mBlt (liftN allD) (mCons (mComp (iSeq (mVar 0)) (gtName 2) mtYes (mAnd (mBlt d_are_chances (mCons (mVar 2) mNil)) (mBin (lift2 (eqP false)) (mBlt (lenX (lenO lens)) (mCons (mVar 2) mNil)) (mVar 1))) [2]) mNil))))
def d_are_lines : List S → Cs → R S := fnG false 2 3 b_are_lines
def b_product_of : MS := (sSeq (sSet 1 (mC (.int 1))) (sSeq (sFor (iSeq (mVar 0)) (gtName 2) (sSet 1 (mBin (lift2 mulD) (mVar 1) (mVar 2)))) (sRet (mVar 1))))
def d_product_of : List S → Cs → R S := fnG false 1 3 b_product_of
def b_are_marks : MS := (sSeq (sIf (mtOr (mtNot (mTB (mIsi k_list_tuple (mVar 0)))) (mtNot (mTB (mChain (lift2 leD) (lift2 leD) (mC (.int 1)) (mBlt (lenX (lenO lens)) (mCons (mVar 0) mNil)) (mC (.int 3)))))) (sRet (mC (.bl false))) sNil) (sSeq (sIf (mtNot (mTB (mBlt (liftN allD) (mCons (mComp (iSeq (mVar 0)) (gtName 1) mtYes (mAnd (mBlt d_is_integer (mCons (mVar 1) mNil)) (mChain (lift2 leD) (lift2 leD) (mC (.int 1)) (mVar 1) (mC (.int 64)))) [1]) mNil)))) (sRet (mC (.bl false))) sNil) (sRet (mBin (lift2 leD) (mBlt d_product_of (mCons (mVar 0) mNil)) (mC (.int 64))))))
def d_are_marks : List S → Cs → R S := fnG false 1 2 b_are_marks
def b_Telling_init : MS := (sSeq (sIf (mtNot (mTB (mBlt d_are_marks (mCons (mVar 1) mNil)))) (sRaise1 21 (mVar 1)) sNil) (sSeq (sIf (mtOr (mtNot (mTB (mBlt d_are_lines (mCons (mVar 2) (mCons (mBlt d_product_of (mCons (mVar 1) mNil)) mNil))))) (mtNot (mTB (mChain (lift2 leD) (lift2 leD) (mC (.int 1)) (mBlt (lenX (lenO lens)) (mCons (mVar 2) mNil)) (mC (.int 4)))))) (sRaise1 22 (mVar 2)) sNil) (sSeq (sFldSet f_marks (mVar 0) (mBlt (liftN tupleD) (mCons (mVar 1) mNil))) (sSeq (sFldSet f_seats (mVar 0) (mBlt (lenX lenD) (mCons (mAttr f_marks (mVar 0)) mNil))) (sSeq (sFldSet f_states (mVar 0) (mBlt (lenX (lenO lens)) (mCons (mVar 2) mNil))) (sFldSet f_table (mVar 0) (mComp (iSeq (mVar 2)) (gtName 3) mtYes (mComp (iSeq (mVar 3)) (gtName 4) mtYes (mBlt d_as_ratio (mCons (mVar 4) mNil)) [4]) [3])))))))
def d_Telling_init : List S → Cs → R S := fnG false 3 5 b_Telling_init
def b_law_equal_right : MS := (sSeq (sSet 4 (mP nT (mMake 0 2 d_Web_init (mCons (mVar 2) (mCons (mBlt (liftN tupleD) (mCons (mComp (iSeq (mVar 3)) (gtName 8) mtYes (mBlt (liftN tupleD) (mCons (mVar 8) mNil)) [8]) mNil)) mNil))))) (sSeq (sIf (mPT nT (mtOr (mtNot (mTB (mBin (eqG eqs kEq 4) (mVar 4) (mVar 1)))) (mtOr (mtNot (mTB (mBin (eqG eqs kEq 4) (mVar 1) (mVar 4)))) (mtOr (mTB (mBin (eqG eqs kEq 4) (mVar 1) (mVar 3))) (mtOr (mTB (mBin (eqG eqs kEq 4) (mVar 1) (mVar 2))) (mTB (mBin (eqG eqs kEq 4) (mVar 1) (mC (.str "web"))))))))) (sRet (mC (.bl false))) sNil) (sSeq (sPar 5 6 (mCons (mP nT (mMake 2 4 d_Telling_init (mCons (mBin (lift2 mulD) (mLst (mCons (mC (.int 1)) mNil)) (mVar 2)) (mCons (mLst (mCons (mLst (mCons (mC (.int 1)) mNil)) mNil)) mNil)))) (mCons (mP nT (mMake 1 2 d_Ratio_init (mDfl (mCons (mVar 2) mNil) 1))) mNil))) (sSeq (sIf (mPT nT (mtOr (mTB (mBin (eqG eqs kEq 4) (mVar 1) (mVar 5))) (mtOr (mTB (mBin (eqG eqs kEq 4) (mVar 5) (mVar 1))) (mtOr (mTB (mBin (eqG eqs kEq 4) (mVar 1) (mVar 6))) (mtOr (mTB (mBin (eqG eqs kEq 4) (mVar 6) (mVar 1))) (mtOr (mTB (mBin (eqG eqs kEq 4) (mVar 5) (mVar 6))) (mTB (mBin (eqG eqs kEq 4) (mVar 6) (mVar 5))))))))) (sRet (mC (.bl false))) sNil) (sSeq (sSet 7 (mBlt d_law_lots (mCons (mVar 0) (mCons (mVar 2) (mCons (mBlt (lenX (lenO lens)) (mCons (mVar 3) mNil)) mNil))))) (sSeq (sIf (mPT nT (mTB (mBin (eqY eqs 4 true) (mBin (eqG eqs kEq 4) (mMake 0 2 d_Web_init (mCons (mVar 2) (mCons (mVar 7) mNil))) (mVar 1)) (mBin (eqG eqs kEq 4) (mVar 7) (mVar 3))))) (sRet (mC (.bl false))) sNil) (sSeq (sIf (mPT nT (mtAnd (mTB (mBin (lift2 ltD) (mBlt (lenX (lenO lens)) (mCons (mVar 3) mNil)) (mC (.int 3)))) (mTB (mBin (eqG eqs kEq 4) (mMake 0 2 d_Web_init (mCons (mVar 2) (mCons (mBin (lift2 addD) (mVar 3) (mLst (mCons (mLst mNil) mNil))) mNil))) (mVar 1))))) (sRet (mC (.bl false))) sNil) (sRet (mP nT (mOr (mBin (eqG eqs kEq 4) (mVar 2) (mC (.int 3))) (mNot (mBin (eqG eqs kEq 4) (mMake 0 2 d_Web_init (mCons (mBin (lift2 addD) (mVar 2) (mC (.int 1))) (mCons (mVar 3) mNil))) (mVar 1)))))))))))))
def d_law_equal_right : List S → Cs → R S := fnG false 4 9 b_law_equal_right
def b_law_links : MS := (sSeq (sSet 1 (mLst mNil)) (sSeq (sFor (iRng (mCons (mBlt (lenX (lenO lens)) (mCons (mVar 0) mNil)) mNil)) (gtName 2) (sSet 1 (mBin (lift2 addD) (mVar 1) (mComp (iSeq (mBin (lift2 ixD) (mVar 0) (mVar 2))) (gtName 3) mtYes (mTup (mCons (mVar 3) (mCons (mVar 2) mNil))) [3])))) (sRet (mBlt (liftN sortedD) (mCons (mVar 1) mNil)))))
def d_law_links : List S → Cs → R S := fnG false 1 4 b_law_links
def b_Web_links : MS := (sRet (mBlt (liftN sortedD) (mCons (mComp2 (iEnum' (mCons (mAttr f_heard_lots (mVar 0)) mNil)) (gtTup (gtCons (gtName 1) (gtCons (gtName 2) gtNil))) mtYes (iSeq (mVar 2)) (gtName 3) mtYes (mTup (mCons (mVar 3) (mCons (mVar 1) mNil))) [1, 2, 3] [3]) mNil)))
def d_Web_links : List S → Cs → R S := fnG false 1 4 b_Web_links
def bA_Web_links : MS := (sRet (mBlt sortedK (mCons (mComp2 (iEnum' (mCons (mAttr f_heard_lots (mVar 0)) mNil)) (gtTup (gtCons (gtName 1) (gtCons (gtName 2) gtNil))) mtYes (iSeq (mVar 2)) (gtName 3) mtYes (mTup (mCons (mVar 3) (mCons (mVar 1) mNil))) [1, 2, 3] [3]) mNil)))
def dA_Web_links : List S → Cs → R S := fnE exitA 1 4 bA_Web_links
def t_links : List (Nat × (List S → Cs → R S)) := [(0, d_Web_links)]
def tA_links : List (Nat × (List S → Cs → R S)) := [(0, dA_Web_links)]
def b_law_right : MS := (sSeq (sIf (mtOr (mTB (mBin (eqY eqs 4 true) (mAttr f_seats (mVar 0)) (mVar 1))) (mtOr (mTB (mBin (eqY eqs 4 true) (mBlt (lenX (lenO lens)) (mCons (mVar 0) mNil)) (mBlt (lenX (lenO lens)) (mCons (mVar 2) mNil)))) (mTB (mBin (eqY eqs 4 true) (mMeth t_lots (mVar 0) mNil) (mVar 2))))) (sRet (mC (.bl false))) sNil) (sRet (mBin (eqG eqs kEq 4) (mMeth t_links (mVar 0) mNil) (mBlt d_law_links (mCons (mVar 2) mNil)))))
def d_law_right : List S → Cs → R S := fnG false 3 3 b_law_right
def b_full_web : MS := (sSeq (sIf (mtNot (mTB (mBlt d_is_many (mCons (mVar 0) mNil)))) (sRaise1 27 (mVar 0)) sNil) (sSeq (sIf (mtNot (mTB (mBlt d_is_many (mCons (mVar 1) mNil)))) (sRaise1 27 (mVar 1)) sNil) (sRet (mMake 0 2 d_Web_init (mCons (mVar 0) (mCons (mComp (iRng (mCons (mVar 1) mNil)) (gtName 2) mtYes (mLstRng (mVar 0)) [2]) mNil))))))
def d_full_web : List S → Cs → R S := fnG false 2 3 b_full_web
def b_own_web : MS := (sSeq (sIf (mtNot (mTB (mBlt d_is_many (mCons (mVar 0) mNil)))) (sRaise1 27 (mVar 0)) sNil) (sRet (mMake 0 2 d_Web_init (mCons (mVar 0) (mCons (mComp (iRng (mCons (mVar 0) mNil)) (gtName 1) mtYes (mLst (mCons (mVar 1) mNil)) [1]) mNil)))))
def d_own_web : List S → Cs → R S := fnG false 1 2 b_own_web
def b_time_web : MS := (sSeq (sIf (mtNot (mTB (mBlt d_is_many (mCons (mVar 0) mNil)))) (sRaise1 27 (mVar 0)) sNil) (sRet (mMake 0 2 d_Web_init (mCons (mVar 0) (mCons (mComp (iRng (mCons (mVar 0) mNil)) (gtName 1) mtYes (mLstRng (mBin (lift2 addD) (mVar 1) (mC (.int 1)))) [1]) mNil)))))
def d_time_web : List S → Cs → R S := fnG false 1 2 b_time_web
def b_law_named_right : MS := (sSeq (sIf (mtNot (mTB (mBlt d_law_right (mCons (mBlt d_own_web (mCons (mVar 0) mNil)) (mCons (mVar 0) (mCons (mComp (iRng (mCons (mVar 0) mNil)) (gtName 2) mtYes (mLst (mCons (mVar 2) mNil)) [2]) mNil)))))) (sRet (mC (.bl false))) sNil) (sSeq (sIf (mtNot (mTB (mBlt d_law_right (mCons (mBlt d_full_web (mCons (mVar 0) (mCons (mVar 1) mNil))) (mCons (mVar 0) (mCons (mComp (iRng (mCons (mVar 1) mNil)) (gtName 3) mtYes (mLstRng (mVar 0)) [3]) mNil)))))) (sRet (mC (.bl false))) sNil) (sRet (mBlt d_law_right (mCons (mBlt d_time_web (mCons (mVar 0) mNil)) (mCons (mVar 0) (mCons (mComp (iRng (mCons (mVar 0) mNil)) (gtName 2) mtYes (mLstRng (mBin (lift2 addD) (mVar 2) (mC (.int 1)))) [2]) mNil)))))))
def d_law_named_right : List S → Cs → R S := fnG false 2 4 b_law_named_right
def b_law : MS := (sSeq (sFor (iRng (mCons (mBlt (liftN max2D) (mCons (mC (.int 2)) (mCons (mBlt (liftN min2D) (mCons (mC (.int 3)) (mCons (mBlt (lenX (lenO lens)) (mCons (mVar 0) mNil)) mNil))) mNil))) mNil)) (gtName 1) (sSeq (sSet 2 (mBlt d_law_box (mCons (mVar 0) (mCons (mVar 1) mNil)))) (sSeq (sPar 3 4 (mCons (mBin (lift2 addD) (mC (.int 1)) (mBlt d_law_take (mCons (mVar 2) (mCons (mC (.int 3)) mNil)))) (mCons (mBin (lift2 addD) (mC (.int 1)) (mBlt d_law_take (mCons (mVar 2) (mCons (mC (.int 3)) mNil)))) mNil))) (sSeq (sSet 5 (mBlt d_law_lots (mCons (mVar 2) (mCons (mVar 3) (mCons (mVar 4) mNil))))) (sSeq (sSet 6 (mCompS (iSeq (mVar 5)) (gtName 8) mtYes (mBlt listK (mCons (mVar 8) mNil)) [8])) (sSeq (sSet 7 (mMake 0 2 d_Web_init (mCons (mVar 3) (mCons (mVar 6) mNil)))) (sSeq (sExpr (mAppendS (mBin ixS (mVar 6) (mC (.int 0))) (mCons (mC (.int 9)) mNil))) (sSeq (sExpr (mAppendS (mVar 6) (mCons (mC .non) mNil))) (sSeq (sIf (mtOr (mPT nT (mtNot (mTB (mBlt d_law_right (mCons (mVar 7) (mCons (mVar 3) (mCons (mVar 5) mNil))))))) (mtNot (mTB (mBlt d_law_equal_right (mCons (mVar 2) (mCons (mVar 7) (mCons (mVar 3) (mCons (mVar 5) mNil)))))))) (sRet (mC (.bl false))) sNil) (sSeq (sExpr (mAppendS (mBin ixS (mMeth tA_lots (mVar 7) mNil) (mC (.int 0))) (mCons (mC (.int 7)) mNil))) (sSeq (sExpr (mClear (mMeth tA_lots (mVar 7) mNil))) (sSeq (sExpr (mAppendS (mMeth tA_links (mVar 7) mNil) (mCons (mC .non) mNil))) (sSeq (sIf (mPT nT (mtOr (mtNot (mTB (mBlt d_law_right (mCons (mVar 7) (mCons (mVar 3) (mCons (mVar 5) mNil)))))) (mtNot (mTB (mBlt d_law_named_right (mCons (mVar 3) (mCons (mVar 4) mNil))))))) (sRet (mC (.bl false))) sNil) (sIf (mPT nT (mtAnd (mTB (mBin (eqG eqs kEq 4) (mVar 1) (mC (.int 0)))) (mtNot (mTB (mBlt d_law_all_right (mCons (mVar 3) (mCons (mVar 4) mNil))))))) (sRet (mC (.bl false))) sNil)))))))))))))) (sRet (mC (.bl true))))
def d_law : List S → Cs → R S := fnG false 1 9 b_law
end Dn

section
/-! K17_1: draws, the box, lots that are drawn. -/
namespace Dn
open PySem
def lotT (l : List Int) : D := .tup (l.map D.int)
def lotL (l : List Int) : D := .lst (l.map D.int)
def wb (s : Int) (ls : List (List Int)) : D := .obj 0 [.int s, .tup (ls.map lotT)]
structure LotOk (s : Int) (l : List Int) : Prop where
  pl : ∀ x ∈ l, 0 ≤ x ∧ x < s
  so : l.Pairwise (· < ·)
theorem short_of {a b : Int} : ∀ {l : List Int}, (∀ x ∈ l, a ≤ x ∧ x < b) → l.Pairwise (· < ·) → a ≤ b → (l.length : Int) ≤ b - a
  | [], _, _, h => by simp; omega
  | x :: r, h, k, hab => by
    obtain ⟨k1, k2⟩ := List.pairwise_cons.mp k
    have hx := h x List.mem_cons_self
    have := short_of (a := x + 1) (b := b) (l := r) (fun y hy => ⟨by have := k1 y hy; omega, (h y (List.mem_cons_of_mem _ hy)).2⟩) k2 (by omega)
    simp only [List.length_cons]; omega
theorem LotOk.len {s : Int} {l : List Int} (h : LotOk s l) (hs : s < 4) : l.length ≤ 3 := by
  by_cases h0 : 0 ≤ s
  · have := short_of h.pl h.so h0; omega
  · cases l with
    | nil => simp
    | cons x r => have := h.pl x List.mem_cons_self; omega
structure WOk (s : Int) (ls : List (List Int)) : Prop where
  lo : 0 < s
  hi : s < 4
  l1 : 1 ≤ ls.length
  l3 : ls.length ≤ 3
  ok : ∀ l ∈ ls, LotOk s l
/-- the box behind at most N draws -/
def BxOk (N : Nat) (xs : List D) : Prop := ∃ a b d : Int, xs = [.int a, .int b, .int d] ∧ 0 ≤ a ∧ 0 ≤ b ∧ b ≤ N ∧ 0 ≤ d ∧ d ≤ 1000000000
theorem BxOk.mono {N M : Nat} {xs : List D} (h : BxOk N xs) (k : N ≤ M) : BxOk M xs := by
  obtain ⟨a, b, d, e, h1, h2, h3, h4, h5⟩ := h
  exact ⟨a, b, d, e, h1, h2, by omega, h4, h5⟩
section
variable {c : Cs} {δ : Sl} {n : Nat}
theorem eqY_plain {neg : Bool} {x y : D} (hx : x.ok 60 = true) (hy : y.ok 60 = true) : eqY eqs 4 neg (.d x) (.d y) c = .ok (.d (.bl (if neg then !eqD x y else eqD x y))) c := by
  simp only [eqY, deref, hx, hy, Bool.and_self, if_true]
theorem eqG_plain {x y : D} (hx : x.ok 60 = true) (hy : y.ok 60 = true) : eqG eqs kEq 4 (.d x) (.d y) c = .ok (.d (.bl (eqD x y))) c := by
  have e : eqG eqs kEq 4 (.d x) (.d y) c = eqY eqs 4 false (.d x) (.d y) c := by
    cases x <;> first | rfl | (unfold D.ok at hx; cases hx)
  rw [e, eqY_plain hx hy]
  rfl
theorem eqG_int (a b : Int) : eqG eqs kEq 4 (.d (.int a)) (.d (.int b)) c = .ok (.d (.bl (a == b))) c := by
  rw [eqG_plain (by simp [D.ok]) (by simp [D.ok])]
  simp [eqD]
theorem rngN_ok {A : MA} {j : Nat} {c' : Cs} (h : A δ c = .ok [.d (.int j)] c') (h1 : j ≤ 1000) : iRng A δ c = .ok (.xs ((List.range j).map fun (i : Nat) => sI i)) c' := by
  have := rng_ok h (by omega) (by omega)
  simpa using this
theorem take_ok {xs : List D} {N : Nat} {m : Int} (hn : c[n]? = some (.lst xs)) (hx : BxOk N xs) (hN : N ≤ 1000000) (hm : 1 ≤ m ∧ m ≤ 1000) :
    ∃ v xs', d_law_take [.c n, .d (.int m)] c = .ok (.d (.int v)) (c.set n (.lst xs')) ∧ 0 ≤ v ∧ v < m ∧ BxOk (N + 1) xs' := by
  obtain ⟨a, b, d, rfl, ha, hb, hbN, hd, hd9⟩ := hx
  have hm0 : m ≠ 0 := by omega
  have hdiv : divOk m = true := by
    have : m.natAbs.log2 < 10 := log_lt (by omega) (Int.lt_of_le_of_lt hm.2 (by decide)) (by decide)
    have : m.natAbs.log2 < 9000 := by omega
    simp [divOk, hm0, this]
  have e18 : powD (.int 10) (.int 18) = some (.int 1000000000000000000) := by
    have : powOk 10 18 = true := by decide +kernel
    simp only [powD, this, if_true]
    rfl
  have i0 : ixD (.lst [.int a, .int b, .int d]) (.int 0) = some (.int a) := rfl
  have i1 : ixD (.lst [.int a, .int b, .int d]) (.int 1) = some (.int b) := rfl
  have hnl : n < c.length := (List.getElem?_eq_some_iff.mp hn).1
  by_cases hbig : (1000000000000000000 : Int) ≤ a
  · refine ⟨a.fmod m, [.int (a.fdiv m), .int b, .int d], fn_rs rfl (by simp) (seq_rt ((if_t (c' := c) (tb_ok (bin (ix_cell hn (vr rfl) rfl i0) (bin rfl rfl (l2 e18)) (l2 (by simp [geD, cmpD, hbig]))))).trans (seq_go (set_ok (bin (blt (a1 (ix_cell hn (vr rfl) rfl i0)) (lN1 rfl)) (vr rfl) (l2 (show modD (.int a) (.int m) = some (.int (a.fmod m)) from if_pos hm0)))) (seq_go (set_cell hn (bin (ix_cell hn (vr rfl) rfl i0) (vr rfl) (l2 (show fdivD (.int a) (.int m) = some (.int (a.fdiv m)) from if_pos hdiv))) (vr rfl) rfl rfl rfl) (ret_ok (vr rfl)))))), ?_, ?_, ?_⟩
    · exact Int.fmod_nonneg_of_pos _ (by omega)
    · exact Int.fmod_lt_of_pos _ (by omega)
    · exact ⟨_, b, d, rfl, by rw [Int.fdiv_eq_ediv_of_nonneg _ (by omega)]; exact Int.ediv_nonneg ha (by omega), hb, by omega, hd, hd9⟩
  · have ha' : a < 1000000000000000000 := by omega
    have lg : ∀ {i : Int}, 0 ≤ i → i < 2 ^ 100 → i.natAbs.log2 < 100 := fun h0 h => log_lt h0 h (by decide)
    have bk : ∀ {i j : Int}, 0 ≤ i → i < 2 ^ 100 → 0 ≤ j → j < 2 ^ 100 → mulD (.int i) (.int j) = some (.int (i * j)) := fun {i j} h0 h1 h2 h3 => by
      have := lg h0 h1
      have := lg h2 h3
      have e : bitsOk i j = true := by simp only [bitsOk, decide_eq_true_eq]; omega
      exact if_pos e
    have pk : ∀ {i : Int}, 0 ≤ i → i < 2 ^ 100 → powD (.int i) (.int 3) = some (.int (i ^ 3)) := fun {i} h0 h1 => by
      have := lg h0 h1
      have e : powOk i 3 = true := by simp only [powOk, decide_eq_true_eq]; omega
      exact if_pos e
    have md : ∀ {i j : Int}, j ≠ 0 → modD (.int i) (.int j) = some (.int (i.fmod j)) := fun h => if_pos h
    have d64 : ∀ i : Int, fdivD (.int i) (.int 64) = some (.int (i.fdiv 64)) := fun i => by
      have e : divOk 64 = true := by decide +kernel
      simp only [fdivD, e, if_true]
    have e100 : (2 : Int) ^ 100 = 1267650600228229401496703205376 := by decide +kernel
    obtain ⟨x1, hx1⟩ : ∃ x1, x1 = (((a + 7) * 69069 + (b + 1) * 40801 + d) ^ 3).fmod 2147483647 := ⟨_, rfl⟩
    obtain ⟨x2, hx2⟩ : ∃ x2, x2 = ((x1 + (b + 1) * 17389) ^ 3).fmod 2147483399 := ⟨_, rfl⟩
    have x1a : 0 ≤ x1 := by rw [hx1]; exact Int.fmod_nonneg_of_pos _ (by decide)
    have x1b : x1 < 2147483647 := by rw [hx1]; exact Int.fmod_lt_of_pos _ (by decide)
    have hn2 : (c.set n (.lst [.int a, .int (b + 1), .int d]))[n]? = some (.lst [.int a, .int (b + 1), .int d]) := List.getElem?_set_self hnl
    have j0 : ixD (.lst [.int a, .int (b + 1), .int d]) (.int 0) = some (.int a) := rfl
    have j1 : ixD (.lst [.int a, .int (b + 1), .int d]) (.int 1) = some (.int (b + 1)) := rfl
    have j2 : ixD (.lst [.int a, .int (b + 1), .int d]) (.int 2) = some (.int d) := rfl
    refine ⟨(x2.fdiv 64).fmod m, [.int a, .int (b + 1), .int d], fn_rs rfl (by simp) (seq_go (if_no (tb_ok (bin (ix_cell hn (vr rfl) rfl i0) (bin rfl rfl (l2 e18)) (l2 (by simp [geD, cmpD]; omega))))) (seq_go (set_cell hn (bin (ix_cell hn (vr rfl) rfl i1) rfl (l2 rfl)) (vr rfl) rfl rfl rfl) (seq_go (set_ok (bin (bin (blt (a1 (bin (bin (bin (bin (ix_cell hn2 (vr rfl) rfl j0) rfl (l2 rfl)) rfl (l2 (bk ?_ ?_ ?_ ?_))) (bin (ix_cell hn2 (vr rfl) rfl j1) rfl (l2 (bk ?_ ?_ ?_ ?_))) (l2 rfl)) (ix_cell hn2 (vr rfl) rfl j2) (l2 rfl))) (lN1 rfl)) rfl (l2 (pk ?_ ?_))) rfl (l2 (d := .int x1) ((md (by decide)).trans (by rw [hx1]))))) (seq_go (set_ok (bin (bin (blt (a1 (bin (vr rfl) (bin (ix_cell hn2 (vr rfl) rfl j1) rfl (l2 (bk ?_ ?_ ?_ ?_))) (l2 rfl))) (lN1 rfl)) rfl (l2 (pk ?_ ?_))) rfl (l2 (d := .int x2) ((md (by decide)).trans (by rw [hx2]))))) (ret_ok (bin (blt (a1 (bin (vr rfl) rfl (l2 (d64 _)))) (lN1 rfl)) (vr rfl) (l2 (md hm0)))))))), Int.fmod_nonneg_of_pos _ (by omega), Int.fmod_lt_of_pos _ (by omega), ⟨a, b + 1, d, rfl, ha, by omega, by omega, hd, hd9⟩⟩
    all_goals (try rw [e100])
    all_goals omega
/-- a comprehension whose test draws from the box: a part of the list is taken -/
theorem cloopJ {α : Type} {g : GT} {C : MT} {A : M} {δ : Sl} {q : α → S} {f : α → D} (J : Nat → Cs → Prop) : ∀ (ys : List α) (acc : List D) (N : Nat) (c1 : Cs), J N c1 → c1.length = n →
    (∀ y ∈ ys, ∃ δ1, (∀ c', g (q y) c' δ = some δ1) ∧ (∀ c', A δ1 c' = .ok (.d (f y)) c') ∧ ∀ (N : Nat) (c1 : Cs) (acc : List D), J N c1 → c1.length = n → N < 100000 → ∃ b c2, C δ1 (c1 ++ [.lst acc]) = .ok b (c2 ++ [.lst acc]) ∧ J (N + 1) c2 ∧ c2.length = n) → acc.length + ys.length ≤ sizeLine → N + ys.length < 100000 →
    ∃ (c2 : Cs) (zs : List α), cloop g C (fun δ1 c1 => (A δ1 c1).bindN (push n)) δ (ys.map q) (c1 ++ [.lst acc]) = .ok () (c2 ++ [.lst (acc ++ zs.map f)]) ∧ J (N + ys.length) c2 ∧ c2.length = n ∧ zs.Sublist ys
  | [], acc, N, c1, hJ, hl, _, _, _ => ⟨c1, [], by simp [cloop], hJ, hl, List.Sublist.refl _⟩
  | y :: ys, acc, N, c1, hJ, hl, h, hs, hN => by
    obtain ⟨δ1, h1, h2, h3⟩ := h y List.mem_cons_self
    simp only [List.length_cons] at hs hN
    obtain ⟨b, c2, e, hJ2, hl2⟩ := h3 N c1 acc hJ hl (by omega)
    simp only [List.map_cons]
    unfold cloop
    rw [h1]
    simp only
    rw [e]
    simp only [bindN_ok]
    cases b with
    | true =>
      rw [if_pos rfl, h2]
      have ep : push n (.d (f y)) (c2 ++ [.lst acc]) = .ok () (c2 ++ [.lst (acc ++ [f y])]) := by
        have e0 : (c2 ++ [CC.lst acc])[n]? = some (CC.lst acc) := by rw [← hl2]; simp
        unfold push
        simp only [e0]
        rw [if_pos (by omega), ← hl2]
        simp
      simp only [bindN_ok, ep]
      obtain ⟨c3, zs, e3, hJ3, hl3, hz⟩ := cloopJ J ys (acc ++ [f y]) (N + 1) c2 hJ2 hl2 (fun x hx => h x (List.mem_cons_of_mem _ hx)) (by simp; omega) (by omega)
      refine ⟨c3, y :: zs, by rw [e3]; simp, by rw [show N + (y :: ys).length = N + 1 + ys.length by simp; omega]; exact hJ3, hl3, hz.cons_cons _⟩
    | false =>
      rw [if_neg (by simp)]
      obtain ⟨c3, zs, e3, hJ3, hl3, hz⟩ := cloopJ J ys acc (N + 1) c2 hJ2 hl2 (fun x hx => h x (List.mem_cons_of_mem _ hx)) (by omega) (by omega)
      refine ⟨c3, zs, e3, by rw [show N + (y :: ys).length = N + 1 + ys.length by simp; omega]; exact hJ3, hl3, hz.cons _⟩
theorem compJ {α : Type} {I : MI} {g : GT} {C : MT} {A : M} {vs : List Nat} {c : Cs} (J : Nat → Cs → Prop) (ys : List α) (q : α → S) (f : α → D) {N : Nat} (hI : I δ c = .ok (.xs (ys.map q)) c) (hJ : J N c) (hl : ys.length ≤ 1000) (hN : N ≤ 50000)
    (h : ∀ y ∈ ys, ∃ δ1, (∀ c', g (q y) c' (wipeD δ vs) = some δ1) ∧ (∀ c', A δ1 c' = .ok (.d (f y)) c') ∧ ∀ (N : Nat) (c1 : Cs) (acc : List D), J N c1 → c1.length = c.length → N < 100000 → ∃ b c2, C δ1 (c1 ++ [.lst acc]) = .ok b (c2 ++ [.lst acc]) ∧ J (N + 1) c2 ∧ c2.length = c.length) :
    ∃ (c2 : Cs) (zs : List α), mComp I g C A vs δ c = .ok (.d (.lst (zs.map f))) c2 ∧ J (N + ys.length) c2 ∧ c2.length = c.length ∧ zs.Sublist ys := by
  obtain ⟨c2, zs, e, hJ2, hl2, hz⟩ := cloopJ J ys [] N c hJ rfl h (by simpa using small_size hl) (by omega)
  refine ⟨c2, zs, ?_, hJ2, hl2, hz⟩
  unfold mComp
  rw [hI]
  simp only [bind_ok, cloopI]
  rw [e]
  simp only [bindN_ok, List.nil_append, finC]
  have e0 : (c2 ++ [CC.lst (zs.map f)])[c.length]? = some (CC.lst (zs.map f)) := by rw [← hl2]; simp
  simp only [e0]
  rw [← hl2]
  simp
/-- the box stands at n, all else is as in c -/
def BxAt (c : Cs) (n N : Nat) (c1 : Cs) : Prop := ∃ xs, c1 = c.set n (.lst xs) ∧ BxOk N xs
theorem BxAt.len {N : Nat} {c1 : Cs} (h : BxAt c n N c1) : c1.length = c.length := by
  obtain ⟨xs, rfl, _⟩ := h; simp
theorem BxAt.mono {N M : Nat} {c1 : Cs} (h : BxAt c n N c1) (k : N ≤ M) : BxAt c n M c1 := by
  obtain ⟨xs, e, b⟩ := h; exact ⟨xs, e, b.mono k⟩
theorem take_at {N : Nat} {c1 e : Cs} {m : Int} (hn : n < c.length) (h : BxAt c n N c1) (hN : N ≤ 1000000) (hm : 1 ≤ m ∧ m ≤ 1000) : ∃ v c2, d_law_take [.c n, .d (.int m)] (c1 ++ e) = .ok (.d (.int v)) (c2 ++ e) ∧ 0 ≤ v ∧ v < m ∧ BxAt c n (N + 1) c2 := by
  obtain ⟨xs, rfl, hx⟩ := h
  have g : (c.set n (.lst xs) ++ e)[n]? = some (.lst xs) := by
    rw [List.getElem?_append_left (by simpa using hn), List.getElem?_set_self hn]
  obtain ⟨v, xs', e1, h1, h2, h3⟩ := take_ok g hx hN hm
  refine ⟨v, c.set n (.lst xs'), ?_, h1, h2, xs', rfl, h3⟩
  rw [e1, List.set_append_left _ _ (by simpa using hn), List.set_set]
theorem sub_lot {s : Nat} {zs : List Nat} (h : zs.Sublist (List.range s)) : LotOk s (zs.map fun (i : Nat) => (i : Int)) := by
  refine ⟨fun x hx => ?_, ?_⟩
  · obtain ⟨i, hi, rfl⟩ := List.mem_map.mp hx
    have := List.mem_range.mp (h.subset hi)
    omega
  · rw [List.pairwise_map]
    exact (List.pairwise_lt_range.sublist h).imp fun h => by omega
abbrev lotBody : MS := sSeq (sSet 5 (mBlt d_law_take (mCons (mVar 0) (mCons (mC (.int 6)) mNil)))) (sSeq (sSet 6 (mComp (iRng (mCons (mVar 1) mNil)) (gtName 7) (mTB (mBin (eqG eqs kEq 4) (mBlt d_law_take (mCons (mVar 0) (mCons (mC (.int 2)) mNil))) (mC (.int 0)))) (mVar 7) [7])) (sExpr (mAppend (mVar 3) (mCons (mIf (mTB (mBin (eqG eqs kEq 4) (mVar 5) (mC (.int 0)))) (mLstRng (mVar 1)) (mIf (mTB (mBin (eqG eqs kEq 4) (mVar 5) (mC (.int 1)))) (mLst mNil) (mVar 6))) mNil))))
abbrev ls8 (n k : Nat) (s h : Int) (x4 x5 x6 x7 : Option S) : Sl := [some (.c n), some (.d (.int s)), some (.d (.int h)), some (.c k), x4, x5, x6, x7]
theorem draw_lots {s h N : Nat} {xs : List D} (hs : 0 < s ∧ s < 4) (hh : h ≤ 3) (hn : c[n]? = some (.lst xs)) (hx : BxOk N xs) (hN : N ≤ 10000) :
    ∃ (ls : List (List Int)) (c2 : Cs), d_law_lots [.c n, .d (.int s), .d (.int h)] c = .ok (.d (.lst (ls.map lotL))) c2 ∧ ls.length = h ∧ (∀ l ∈ ls, LotOk s l) ∧ BxAt c n (N + 12) c2 := by
  have hnl : n < c.length := (List.getElem?_eq_some_iff.mp hn).1
  have b0 : BxAt c n N c := ⟨xs, by
    obtain ⟨h1, e⟩ := List.getElem?_eq_some_iff.mp hn
    rw [← e]; simp, hx⟩
  have step : ∀ (k : Nat) (c1 : Cs) (ls : List (List Int)) (x4 x5 x6 x7 : Option S), BxAt c n (N + 4 * k) c1 → ls.length = k → k ≤ 3 → (∀ l ∈ ls, LotOk s l) →
      ∃ (c2 : Cs) (l : List Int) (y5 y6 : Option S), lotBody (ls8 n c.length s h x4 x5 x6 x7) (c1 ++ [.lst (ls.map lotL)]) = .nx (ls8 n c.length s h x4 y5 y6 x7) (c2 ++ [.lst ((ls ++ [l]).map lotL)]) ∧ BxAt c n (N + 4 * (k + 1)) c2 ∧ LotOk s l := by
    intro k c1 ls x4 x5 x6 x7 hb hlen hk hok
    obtain ⟨v, c2, e1, v0, v6, hb2⟩ := take_at (e := [.lst (ls.map lotL)]) (m := 6) hnl hb (by omega) (by omega)
    have hl2 := hb2.len
    -- the comprehension
    have comp := compJ (δ := ls8 n c.length s h x4 (some (.d (.int v))) x6 x7) (c := c2 ++ [.lst (ls.map lotL)]) (I := iRng (mCons (mVar 1) mNil)) (g := gtName 7) (C := mTB (mBin (eqG eqs kEq 4) (mBlt d_law_take (mCons (mVar 0) (mCons (mC (.int 2)) mNil))) (mC (.int 0)))) (A := mVar 7) (vs := [7])
      (fun M c3 => ∃ c4, c3 = c4 ++ [.lst (ls.map lotL)] ∧ BxAt c n M c4) (List.range s) (fun (i : Nat) => sI i) (fun (i : Nat) => D.int (i : Int)) (N := N + 4 * k + 1) (rngN_ok (a1 (vr rfl)) (by omega)) ⟨c2, rfl, hb2⟩ (by simp; omega) (by omega) (by
        intro i _
        refine ⟨_, fun _ => rfl, fun c' => vr rfl, ?_⟩
        rintro M c3 acc ⟨c4, rfl, hb4⟩ hl hM
        obtain ⟨w, c5, e5, w0, w2, hb5⟩ := take_at (e := [.lst (ls.map lotL), .lst acc]) (m := 2) hnl hb4 (by omega) (by omega)
        refine ⟨w == 0, c5 ++ [.lst (ls.map lotL)], ?_, ⟨c5, rfl, hb5⟩, by simp [hb5.len, hl2]⟩
        refine tb_ok (bin (blt (a2 (vr rfl) (a1 rfl)) (c' := c4 ++ [.lst (ls.map lotL)] ++ [.lst acc]) (r := .ok (.d (.int w)) (c5 ++ [.lst (ls.map lotL)] ++ [.lst acc])) ?_) rfl (eqG_int _ _))
        rw [List.append_assoc, List.append_assoc]
        exact e5)
    obtain ⟨c3, zs, e3, ⟨c4, rfl, hb4⟩, hl3, hz⟩ := comp
    have hl4 := hb4.len
    have hb4' : BxAt c n (N + 4 * (k + 1)) c4 := hb4.mono (by simp; omega)
    have acc_lt : (ls.map lotL).length < sizeLine := by simp [hlen]; exact Nat.lt_of_le_of_lt hk (by decide)
    have iv : ∀ (b : Int) (c : Cs), mTB (mBin (eqG eqs kEq 4) (mVar 5) (mC (.int b))) (ls8 n c.length s h x4 (some (.d (.int v))) (some (.d (.lst (zs.map fun (i : Nat) => D.int (i : Int))))) x7) c = .ok (v == b) c := fun b c => tb_ok (bin (vr rfl) rfl (eqG_int _ _))
    have fin : ∀ (l : List Int), (∀ c', mIf (mTB (mBin (eqG eqs kEq 4) (mVar 5) (mC (.int 0)))) (mLstRng (mVar 1)) (mIf (mTB (mBin (eqG eqs kEq 4) (mVar 5) (mC (.int 1)))) (mLst mNil) (mVar 6)) (ls8 n c.length s h x4 (some (.d (.int v))) (some (.d (.lst (zs.map fun (i : Nat) => D.int (i : Int))))) x7) c' = .ok (.d (lotL l)) c') → LotOk s l →
        ∃ (c2 : Cs) (l : List Int) (y5 y6 : Option S), lotBody (ls8 n c.length s h x4 x5 x6 x7) (c1 ++ [.lst (ls.map lotL)]) = .nx (ls8 n c.length s h x4 y5 y6 x7) (c2 ++ [.lst ((ls ++ [l]).map lotL)]) ∧ BxAt c n (N + 4 * (k + 1)) c2 ∧ LotOk s l := by
      intro l hl hok
      refine ⟨c4, l, some (.d (.int v)), some (.d (.lst (zs.map fun (i : Nat) => D.int (i : Int)))), seq_go (set_ok (blt (a2 (vr rfl) (a1 rfl)) e1)) (seq_go (set_ok e3) (expr_ok (s := .d .non) ?_)), hb4', hok⟩
      have := app_ok (c := c4) (δ := ls8 n c.length s h x4 (some (.d (.int v))) (some (.d (.lst (zs.map fun (i : Nat) => D.int (i : Int))))) x7) (A := mVar 3) (acc := ls.map lotL) (x := lotL l) (by rw [hl4]; exact vr rfl) (a1 (hl _)) acc_lt
      rw [List.map_append]
      exact this
    by_cases hv0 : v = 0
    · refine fin ((List.range s).map fun (i : Nat) => (i : Int)) (fun c' => mif_t (c' := c') ((tb_ok (bin (vr rfl) rfl (eqG_int _ _))).trans (by simp [hv0])) ?_) (sub_lot (List.Sublist.refl _))
      unfold mLstRng
      rw [show mVar 1 _ c' = .ok (.d (.int s)) c' from vr rfl]
      simp only [bind_ok, lstRng]
      rw [if_pos (by omega)]
      simp [lotL, rngL]
    · by_cases hv1 : v = 1
      · exact fin [] (fun c' => mif_f (c' := c') ((tb_ok (bin (vr rfl) rfl (eqG_int _ _))).trans (by simp [hv0])) (mif_t (c' := c') ((tb_ok (bin (vr rfl) rfl (eqG_int _ _))).trans (by simp [hv1])) rfl)) ⟨fun x hx => by simp at hx, List.Pairwise.nil⟩
      · exact fin (zs.map fun (i : Nat) => (i : Int)) (fun c' => mif_f (c' := c') ((tb_ok (bin (vr rfl) rfl (eqG_int _ _))).trans (by simp [hv0])) (mif_f (c' := c') ((tb_ok (bin (vr rfl) rfl (eqG_int _ _))).trans (by simp [hv1])) ((vr (s := .d (.lst (zs.map fun (i : Nat) => D.int (i : Int)))) rfl).trans (by simp [lotL, List.map_map])))) (sub_lot hz)
  obtain ⟨δ', c', e, ls, c1, x4, x5, x6, x7, rfl, rfl, hlen, hok, hb⟩ := for_inv (δ := ls8 n c.length s h none none none none) (c := c ++ [.lst []]) (I := iRng (mCons (mVar 2) mNil)) (g := gtName 4) (B := lotBody) (List.range h) (fun (i : Nat) => sI i)
    (fun done δ c' => ∃ ls c1 x4 x5 x6 x7, δ = ls8 n c.length s h x4 x5 x6 x7 ∧ c' = c1 ++ [.lst (ls.map lotL)] ∧ ls.length = done.length ∧ (∀ l ∈ ls, LotOk s l) ∧ BxAt c n (N + 4 * done.length) c1) (rngN_ok (a1 (vr rfl)) (by omega)) ⟨[], c, none, none, none, none, rfl, rfl, rfl, fun l hl => by simp at hl, b0⟩ (by
      rintro d y r δ c2 hy ⟨ls, c1, x4, x5, x6, x7, rfl, rfl, hlen, hok, hb⟩
      have hd : d.length + 1 ≤ h := by have := congrArg List.length hy; simp at this; omega
      obtain ⟨c3, l, y5, y6, e, hb3, hl⟩ := step d.length c1 ls (some (.d (.int y))) x5 x6 x7 hb hlen (by omega) hok
      refine ⟨_, _, _, rfl, e, ls ++ [l], c3, some (.d (.int y)), y5, y6, x7, rfl, rfl, by simp [hlen], fun m hm => ?_, by simpa using hb3⟩
      rcases List.mem_append.mp hm with z | z
      · exact hok m z
      · rw [List.mem_singleton.mp z]; exact hl)
  have hl1 := hb.len
  refine ⟨ls, c1, ?_, by simpa using hlen, hok, hb.mono (by simp; omega)⟩
  refine (fnG_eq rfl).trans ?_
  have body : b_law_lots [some (.c n), some (.d (.int s)), some (.d (.int h)), none, none, none, none, none] c = .rt (.c c.length) (c1 ++ [.lst (ls.map lotL)]) := seq_go (δ' := ls8 n c.length s h none none none none) (c' := c ++ [.lst []]) rfl (seq_go e (ret_ok (vr rfl)))
  show exitR false c.length (b_law_lots [some (.c n), some (.d (.int s)), some (.d (.int h)), none, none, none, none, none] c) = _
  rw [body]
  simp [exitR, ← hl1]
theorem box_ok {ns : List Int} {k : Nat} (hk : k ≤ 3) : ∃ xs, d_law_box [.d (.scr ns), .d (.int k)] c = .ok (.c c.length) (c ++ [.lst xs]) ∧ BxOk 0 xs := by
  obtain ⟨sp, hsp⟩ : ∃ sp : Int, sp = (ns.sum + (ns.length : Int)).fmod 1000003 := ⟨_, rfl⟩
  have s0 : 0 ≤ sp := by rw [hsp]; exact Int.fmod_nonneg_of_pos _ (by decide)
  have s1 : sp < 1000003 := by rw [hsp]; exact Int.fmod_lt_of_pos _ (by decide)
  have lnE : lenO lens [.scr ns] = some (.int ns.length) := rfl
  have mk : mulD (.int 40591) (.int (k : Int)) = some (.int (40591 * (k : Int))) := by
    have h1 : (40591 : Int).natAbs.log2 < 20 := log_lt (by decide) (by decide) (by decide)
    have h2 : ((k : Nat) : Int).natAbs.log2 < 20 := log_lt (by omega) (Int.lt_of_le_of_lt (show ((k : Nat) : Int) ≤ 3 by omega) (by decide)) (by decide)
    have e : bitsOk 40591 (k : Int) = true := by simp only [bitsOk, decide_eq_true_eq]; omega
    exact if_pos e
  have md : modD (.int (ns.sum + (ns.length : Int))) (.int 1000003) = some (.int sp) := by rw [hsp]; rfl
  have key : ∀ (a : Int), 0 ≤ a → mIf (mTB (mBin (lift2 ltD) (mVar 1) (mBlt (lenX (lenO lens)) (mCons (mVar 0) mNil)))) (mBlt (liftN absD) (mCons (mBlt (liftN intD) (mCons (mBin (lift2 ixD) (mVar 0) (mVar 1)) mNil)) mNil)) (mC (.int 0)) [some (.d (.scr ns)), some (.d (.int k)), some (.d (.int sp))] c = .ok (.d (.int a)) c →
      ∃ xs, d_law_box [.d (.scr ns), .d (.int k)] c = .ok (.c c.length) (c ++ [.lst xs]) ∧ BxOk 0 xs := by
    intro a ha e
    refine ⟨[.int a, .int 0, .int (40591 * (k : Int) + 911 + sp)], ?_, a, 0, _, rfl, ha, by omega, by omega, by omega, by omega⟩
    have body : b_law_box [some (.d (.scr ns)), some (.d (.int k)), none] c = .rt (.c c.length) (c ++ [.lst [.int a, .int 0, .int (40591 * (k : Int) + 911 + sp)]]) := by
      refine seq_go (set_ok (c' := c) (s := .d (.int sp)) (bin (blt (a1 (bin (blt (a1 (vr rfl)) (lN1 rfl)) (blt (a1 (vr rfl)) (lX1 lnE)) (l2 rfl))) (lN1 rfl)) rfl (l2 md))) (ret_ok ?_)
      exact (congrArg (fun r => R.bind r mkCell) (a2 e (a2 rfl (a1 (bin (bin (bin rfl (vr rfl) (l2 mk)) rfl (l2 rfl)) (vr rfl) (l2 rfl)))))).trans rfl
    refine (fnG_eq rfl).trans ?_
    show exitR true c.length (b_law_box [some (.d (.scr ns)), some (.d (.int k)), none] c) = _
    rw [body]
    simp [exitR]
  by_cases hlt : k < ns.length
  · refine key (if ns[k] < 0 then -ns[k] else ns[k]) (by split <;> omega) (mif_t (c' := c) ((tb_ok (bin (vr rfl) (blt (a1 (vr rfl)) (lX1 lnE)) (l2 rfl))).trans (by simp [hlt])) (blt (a1 (blt (a1 (bin (vr rfl) (vr rfl) (l2 (d := .int ns[k]) ?_))) (lN1 rfl))) (lN1 rfl)))
    have := atI_nat (xs := ns.map D.int) (n := k) (by simpa using hlt)
    rw [List.getElem_map] at this
    exact this
  · exact key 0 (by omega) (mif_f (c' := c) ((tb_ok (bin (vr rfl) (blt (a1 (vr rfl)) (lX1 lnE)) (l2 rfl))).trans (by
      have : ¬ ((k : Int) < (ns.length : Int)) := by omega
      simp [this])) rfl)
end
end Dn

end
section
/-! K17_2: all lots, all webs; a web is made of data or of cells. -/
namespace Dn
open PySem
/-! ### all of them -/
def subs : Int → Nat → List (List Int)
  | _, 0 => [[]]
  | lo, n + 1 => subs (lo + 1) n ++ (subs (lo + 1) n).map (lo :: ·)
theorem mem_subs : ∀ (n : Nat) (lo : Int) (l : List Int), (∀ x ∈ l, lo ≤ x ∧ x < lo + n) → l.Pairwise (· < ·) → l ∈ subs lo n
  | 0, lo, l, h, _ => by
    cases l with
    | nil => simp [subs]
    | cons x r => have := h x List.mem_cons_self; omega
  | n + 1, lo, l, h, k => by
    unfold subs
    rw [List.mem_append]
    cases l with
    | nil => exact .inl (mem_subs n (lo + 1) [] (fun x hx => by simp at hx) List.Pairwise.nil)
    | cons x r =>
      obtain ⟨k1, k2⟩ := List.pairwise_cons.mp k
      have hx := h x List.mem_cons_self
      by_cases e : x = lo
      · subst e
        refine .inr (List.mem_map.mpr ⟨r, mem_subs n (x + 1) r (fun y hy => ?_) k2, rfl⟩)
        have h1 := k1 y hy
        have h2 := h y (List.mem_cons_of_mem _ hy)
        omega
      · refine .inl (mem_subs n (lo + 1) (x :: r) (fun y hy => ?_) k)
        rcases List.mem_cons.mp hy with z | z
        · subst z; omega
        · have h1 := k1 y z
          have h2 := h y (List.mem_cons_of_mem _ z)
          omega
def tups {α : Type} (L : List α) : Nat → List (List α)
  | 0 => [[]]
  | n + 1 => L.flatMap fun x => (tups L n).map (x :: ·)
theorem mem_tups {α : Type} {L : List α} : ∀ {l : List α}, (∀ x ∈ l, x ∈ L) → l ∈ tups L l.length
  | [], _ => by simp [tups]
  | x :: r, h => by
    rw [List.length_cons]
    unfold tups
    rw [List.mem_flatMap]
    exact ⟨x, h x List.mem_cons_self, List.mem_map.mpr ⟨r, mem_tups fun y hy => h y (List.mem_cons_of_mem _ hy), rfl⟩⟩
def websL (s : Nat) (h : Nat) : List (List (List Int)) := tups (subs 0 s) h
theorem LotOk.mem {s : Nat} {l : List Int} (h : LotOk s l) : l ∈ subs 0 s := mem_subs s 0 l (fun x hx => by have := h.pl x hx; omega) h.so
theorem mem_webs {s : Nat} {ls : List (List Int)} (h : ∀ l ∈ ls, LotOk s l) : ls ∈ websL s ls.length := mem_tups fun l hl => (h l hl).mem
/-- all s, h, ls -/
theorem all_webs {P : Nat → List (List Int) → Bool} (c : ∀ s ∈ [1, 2, 3], ∀ h ∈ [1, 2, 3], (websL s h).all (P s) = true) {s : Nat} {ls : List (List Int)} (hs : 1 ≤ s ∧ s ≤ 3) (hh : 1 ≤ ls.length ∧ ls.length ≤ 3) (ok : ∀ l ∈ ls, LotOk s l) : P s ls = true := by
  have h1 : s ∈ [1, 2, 3] := by
    have : s = 1 ∨ s = 2 ∨ s = 3 := by omega
    rcases this with rfl | rfl | rfl <;> simp
  have h2 : ls.length ∈ [1, 2, 3] := by
    have : ls.length = 1 ∨ ls.length = 2 ∨ ls.length = 3 := by omega
    rcases this with e | e | e <;> rw [e] <;> simp
  exact List.all_eq_true.mp (c s h1 ls.length h2) ls (mem_webs ok)
/-! ### lists as data or as cells -/
/-- x holds the items ss -/
def SeqAt (c : Cs) (x : S) (ss : List S) : Prop := (∃ d ds, x = .d d ∧ (d = .lst ds ∨ d = .tup ds) ∧ ss = ds.map S.d) ∨ ∃ n, x = .c n ∧ cellL n c = some ss
theorem SeqAt.app {c : Cs} {x : S} {ss : List S} {y : CC} (h : SeqAt c x ss) : SeqAt (c ++ [y]) x ss := by
  rcases h with h | ⟨n, e, h⟩
  · exact .inl h
  · exact .inr ⟨n, e, cellL_app h⟩
theorem SeqAt.appL {c : Cs} {x : S} {ss : List S} : ∀ {ys : Cs}, SeqAt c x ss → SeqAt (c ++ ys) x ss
  | [], h => by simpa using h
  | y :: ys, h => by
    have := (h.app (y := y)).appL (ys := ys)
    rwa [List.append_assoc] at this
section
variable {δ : Sl} {c : Cs}
theorem isi_seq {i : Nat} {x : S} {ss : List S} (h : SeqAt c x ss) (hi : δ[i]? = some (some x)) : mIsi k_list_tuple (mVar i) δ c = .ok (.d (.bl true)) c := by
  unfold mIsi
  rw [vr hi]
  simp only [bind_ok, askD]
  rcases h with ⟨d, ds, rfl, e, _⟩ | ⟨n, rfl, e⟩
  · rcases e with rfl | rfl <;> rfl
  · unfold cellL at e
    unfold topD
    cases hc : c[n]? with
    | none => rw [hc] at e; cases e
    | some y =>
      cases y with
      | lst xs => simp [hc, deref]; rfl
      | lS xs => simp [hc]; rfl
      | _ => rw [hc] at e; cases e
theorem len_seq {x : S} {ss : List S} {g : List D → Option D} (hg : ∀ xs, g [.lst xs] = some (.int xs.length)) (hg2 : ∀ xs, g [.tup xs] = some (.int xs.length)) (h : SeqAt c x ss) : lenX g [x] c = .ok (.d (.int ss.length)) c := by
  rcases h with ⟨d, ds, rfl, e, rfl⟩ | ⟨n, rfl, e⟩
  · rcases e with rfl | rfl
    · rw [List.length_map]; exact lN1 (hg ds)
    · rw [List.length_map]; exact lN1 (hg2 ds)
  · unfold cellL at e
    unfold lenX
    cases hc : c[n]? with
    | none => rw [hc] at e; cases e
    | some y =>
      cases y with
      | lst xs =>
        rw [hc] at e; cases e
        simp [hc, liftN, derefs, deref, hg]
      | lS xs => rw [hc] at e; cases e; simp [hc]
      | _ => rw [hc] at e; cases e
theorem comp_seq {α : Type} {i : Nat} {x : S} {g : GT} {A : M} {vs : List Nat} {ys : List α} {q : α → S} (f : α → D) (hx : SeqAt c x (ys.map q)) (hi : δ[i]? = some (some x)) (hl : ys.length ≤ sizeLine)
    (h : ∀ y ∈ ys, ∀ acc, ∃ δ1, g (q y) (c ++ [.lst acc]) (wipeD δ vs) = some δ1 ∧ A δ1 (c ++ [.lst acc]) = .ok (.d (f y)) (c ++ [.lst acc])) : mComp (iSeq (mVar i)) g mtYes A vs δ c = .ok (.d (.lst (ys.map f))) c := by
  rcases hx with ⟨d, ds, rfl, e, e2⟩ | ⟨n, rfl, e⟩
  · refine compM ys q f ?_ hl h
    unfold iSeq
    rw [vr hi]
    simp only [bind_ok]
    rcases e with rfl | rfl <;> (unfold items; rw [e2])
  · refine compMC (n := n) ys q f ?_ (fun acc => cellL_app e) hl h
    unfold iSeq
    rw [vr hi]
    simp only [bind_ok, items, e]
/-- a list of data -/
def DatAt (c : Cs) (x : S) (ds : List D) : Prop := (∃ d, x = .d d ∧ (d = .lst ds ∨ d = .tup ds)) ∨ ∃ n, x = .c n ∧ c[n]? = some (.lst ds)
theorem DatAt.seq {x : S} {ds : List D} (h : DatAt c x ds) : SeqAt c x (ds.map S.d) := by
  rcases h with ⟨d, e, h⟩ | ⟨n, e, h⟩
  · exact .inl ⟨d, ds, e, h, rfl⟩
  · exact .inr ⟨n, e, by unfold cellL; rw [h]⟩
theorem DatAt.appL {x : S} {ds : List D} {ys : Cs} (h : DatAt c x ds) : DatAt (c ++ ys) x ds := by
  rcases h with h | ⟨n, e, h⟩
  · exact .inl h
  · exact .inr ⟨n, e, by rw [List.getElem?_append_left (List.getElem?_eq_some_iff.mp h).1]; exact h⟩
theorem ix_dat {x : S} {ds : List D} {i : Nat} {d : D} (h : DatAt c x ds) (hd : ds[i]? = some d) : lift2 ixD x (.d (.int i)) c = .ok (.d d) c := by
  have hi := (List.getElem?_eq_some_iff.mp hd).1
  have at_ : L2.atI ds (i : Int) = some d := by
    rw [atI_nat hi]
    exact (List.getElem?_eq_getElem hi).symm.trans hd
  rcases h with ⟨e, rfl, h⟩ | ⟨n, rfl, hc⟩
  · rcases h with rfl | rfl <;> exact l2 at_
  · simp [lift2, deref, hc, ixD, at_]
theorem tup_dat {x : S} {ds : List D} (h : DatAt c x ds) : liftN tupleD [x] c = .ok (.d (.tup ds)) c := by
  rcases h with ⟨e, rfl, h⟩ | ⟨n, rfl, hc⟩
  · rcases h with rfl | rfl <;> exact lN1 rfl
  · simp [liftN, derefs, deref, hc, tupleD]
end
/-! ### webs are made -/
section
variable {δ : Sl} {c : Cs}
theorem is_integer_int (i : Int) (c : Cs) : d_is_integer [.d (.int i)] c = .ok (.d (.bl true)) c := by
  refine (fnG_eq rfl).trans ?_
  simp [b_is_integer, sRet, mAnd, mIsi, mVar, mNot, askD, topD, deref, Kinds.ask, k_int, k_bool, kAll]
theorem is_place_int (i m : Int) (c : Cs) : d_is_place [.d (.int i), .d (.int m)] c = .ok (.d (.bl (decide (0 ≤ i) && decide (i < m)))) c := by
  refine (fnG_eq rfl).trans ?_
  simp [b_is_place, sRet, mAnd, mVar, mBlt, mCons, mNil, is_integer_int, mChain, mC, lift2, deref, leD, ltD, cmpD]
  by_cases h : 0 ≤ i <;> simp [h]
theorem is_many_int (i : Int) (c : Cs) : d_is_many [.d (.int i)] c = .ok (.d (.bl (decide (0 < i) && decide (i < 4)))) c := by
  refine (fnG_eq rfl).trans ?_
  simp [b_is_many, sRet, mAnd, mVar, mBlt, mCons, mNil, is_place_int, mBin, mC, lift2, deref, gtD, addD, cmpD]
  by_cases h : 0 ≤ i <;> by_cases k : i < 4 <;> simp [h, k] <;> omega
theorem all_bl {A : M} {α : Type} {xs : List α} {f : α → Bool} {c' : Cs} (h : A δ c = .ok (.d (.lst (xs.map fun x => D.bl (f x)))) c') : mBlt (liftN allD) (mCons A mNil) δ c = .ok (.d (.bl (xs.all f))) c' :=
  blt (a1 h) (lN1 (by simp [allD, bls_map]))
theorem lenO_ls (xs : List D) : lenO lens [.lst xs] = some (.int xs.length) := rfl
theorem lenO_ts (xs : List D) : lenO lens [.tup xs] = some (.int xs.length) := rfl
theorem is_lot_ok {s : Int} {l : List Int} {x : S} (hd : DatAt c x (l.map D.int)) (hl : l.length ≤ 10) (hp : ∀ x ∈ l, 0 ≤ x ∧ x < s) (hs : l.Pairwise (· < ·)) : d_is_lot [x, .d (.int s)] c = .ok (.d (.bl true)) c := by
  have hq : SeqAt c x (l.map fun i => S.d (.int i)) := by have := hd.seq; rwa [List.map_map] at this
  refine fn_rt rfl (seq_go (if_no (tor_no (tnot_ok (tb_ok (isi_seq hq rfl))) ?_)) (ret_ok ?_))
  · refine (tnot_ok (tb_ok (all_bl (xs := l) (f := fun _ => true) (comp_seq (fun _ => .bl true) hq rfl (small_size (by omega)) fun i hi acc => ⟨_, rfl, ?_⟩)))).trans (by simp)
    obtain ⟨h1, h2⟩ := hp i hi
    exact blt (a2 (vr rfl) (a1 (vr rfl))) (by rw [is_place_int]; simp [h1, h2])
  · refine (all_bl (xs := List.range (l.length - 1)) (f := fun _ => true) (compM (List.range (l.length - 1)) (fun (i : Nat) => sI i) (fun _ => .bl true) ?_ (small_size (by simp; omega)) fun i hi acc => ?_)).trans (by simp)
    · have e2 : ((l.length : Int) - 1).toNat = l.length - 1 := by omega
      have := rng_ok (δ := [some x, some (.d (.int s)), none, none]) (c := c) (A := mCons (mBin (lift2 subD) (mBlt (lenX (lenO lens)) (mCons (mVar 0) mNil)) (mC (.int 1))) mNil) (c' := c) (j := (l.length : Int) - 1) (a1 (bin (blt (a1 (vr rfl)) ((len_seq lenO_ls lenO_ts hq).trans (by rw [List.length_map]))) rfl (l2 rfl))) (by omega) (by omega)
      rw [e2] at this
      exact this
    · have hi := List.mem_range.mp hi
      have z1 : (l.map D.int)[i]? = some (.int l[i]) := by rw [List.getElem?_map, List.getElem?_eq_getElem (by omega)]; rfl
      have z2 : (l.map D.int)[i + 1]? = some (.int l[i + 1]) := by rw [List.getElem?_map, List.getElem?_eq_getElem (by omega)]; rfl
      have lt : l[i]'(by omega) < l[i + 1]'(by omega) := List.pairwise_iff_getElem.mp hs i (i + 1) _ _ (by omega)
      have a := ix_dat (hd.appL (ys := [.lst acc])) z1
      have b := ix_dat (hd.appL (ys := [.lst acc])) z2
      exact ⟨_, rfl, bin (bin (vr rfl) (vr rfl) a) (bin (vr rfl) (bin (vr rfl) rfl (l2 rfl)) (show lift2 ixD x (.d (.int ((i : Int) + 1))) _ = _ from b)) (l2 (by simp [ltD, cmpD, lt]))⟩
/-- x's items are these lots, as data or as cells -/
def LotsAt (c : Cs) (x : S) (ls : List (List Int)) : Prop := ∃ ps : List (S × List Int), ps.map (·.2) = ls ∧ SeqAt c x (ps.map (·.1)) ∧ ∀ p ∈ ps, DatAt c p.1 (p.2.map D.int)
theorem LotsAt.app {x : S} {ls : List (List Int)} {y : CC} (h : LotsAt c x ls) : LotsAt (c ++ [y]) x ls := by
  obtain ⟨ps, e, h1, h2⟩ := h
  exact ⟨ps, e, h1.app, fun p hp => (h2 p hp).appL⟩
theorem lots_data (ls : List (List Int)) : LotsAt c (.d (.lst (ls.map lotL))) ls := by
  refine ⟨ls.map fun l => (.d (lotL l), l), by rw [List.map_map]; exact List.map_id' ls, .inl ⟨_, ls.map lotL, rfl, .inl rfl, by rw [List.map_map, List.map_map]; rfl⟩, fun p hp => ?_⟩
  obtain ⟨l, _, rfl⟩ := List.mem_map.mp hp
  exact .inl ⟨_, rfl, .inl rfl⟩
theorem are_lots_ok {s : Int} {ls : List (List Int)} {x : S} (h : WOk s ls) (hx : LotsAt c x ls) : d_are_lots [x, .d (.int s)] c = .ok (.d (.bl true)) c := by
  obtain ⟨ps, rfl, h1, h2⟩ := hx
  have l1 := h.l1
  have l3 := h.l3
  rw [List.length_map] at l1 l3
  refine fn_rt rfl (seq_go (if_no (tor_no (tnot_ok (tb_ok (isi_seq h1 rfl))) ?_)) (ret_ok ?_))
  · refine (tnot_ok (tb_ok (b := true) ?_))
    have e : lenX (lenO lens) [x] c = .ok (.d (.int ps.length)) c := (len_seq lenO_ls lenO_ts h1).trans (by rw [List.length_map])
    have a1 : (1 : Int) ≤ (ps.length : Nat) := by omega
    have a2 : ((ps.length : Nat) : Int) ≤ 3 := by omega
    simp [mChain, mC, mBlt, mCons, mNil, mVar, e, lift2, deref, leD, cmpD, a1, a2]
  · refine (all_bl (xs := ps) (f := fun _ => true) (comp_seq (fun _ => .bl true) h1 rfl (small_size (by omega)) fun p hp acc => ⟨_, rfl, ?_⟩)).trans (by simp)
    have ok := h.ok p.2 (List.mem_map.mpr ⟨p, hp, rfl⟩)
    exact blt (a2 (vr rfl) (a1 (vr rfl))) (is_lot_ok (h2 p hp).appL (by have := ok.len h.hi; omega) ok.pl ok.so)
theorem make_web {c' : Cs} {s : Int} {ls : List (List Int)} {B : MA} {x : S} (h : WOk s ls) (hx : LotsAt c' x ls) (hB : B δ c = .ok [.d (.int s), x] c') : mMake 0 2 d_Web_init B δ c = .ok (.d (wb s ls)) c' := by
  have key : d_Web_init [.c c'.length, .d (.int s), x] (c' ++ [.obj 0 []]) = .ok (.d .non) (c' ++ [.obj 0 [.int s, .tup (ls.map lotT)]]) := by
    refine fn_to (δ' := [some (.c c'.length), some (.d (.int s)), some x, none]) rfl ?_ (by simp)
    · refine seq_go (if_no ((tnot_ok (tb_ok (blt (a1 (vr rfl)) (is_many_int s _)))).trans (by simp [h.lo, h.hi]))) (seq_go (if_no ((tnot_ok (tb_ok (blt (a2 (vr rfl) (a1 (vr rfl))) (are_lots_ok h hx.app)))).trans (by simp))) (seq_go (fld_ok (vr rfl) (vr rfl) rfl rfl) (fld_ok ?_ (vr rfl) rfl rfl)))
      obtain ⟨ps, rfl, h1, h2⟩ := hx.app (y := .obj 0 [.int s])
      refine blt (a1 (comp_seq (fun p => lotT p.2) h1 rfl (small_size (by have := h.l3; rw [List.length_map] at this; omega)) fun p hp acc => ⟨_, rfl, ?_⟩)) (lN1 ?_)
      · exact blt (a1 (vr rfl)) (tup_dat (h2 p hp).appL)
      · simp only [tupleD, List.map_map]
        rfl
  unfold mMake
  rw [hB]
  simp only [bind_ok]
  rw [key]
  simp [fin, wb]
end
end Dn

end
section
/-! K17_3: what is evaluated for every web. -/
namespace Dn
open PySem
abbrev eq_e1 : M := (mMake 0 2 d_Web_init (mCons (mVar 2) (mCons (mBlt (liftN tupleD) (mCons (mComp (iSeq (mVar 3)) (gtName 8) mtYes (mBlt (liftN tupleD) (mCons (mVar 8) mNil)) [8]) mNil)) mNil)))
abbrev eq_e2 : M := (mMake 2 4 d_Telling_init (mCons (mBin (lift2 mulD) (mLst (mCons (mC (.int 1)) mNil)) (mVar 2)) (mCons (mLst (mCons (mLst (mCons (mC (.int 1)) mNil)) mNil)) mNil)))
abbrev eq_e3 : M := (mMake 1 2 d_Ratio_init (mDfl (mCons (mVar 2) mNil) 1))
abbrev eq_e4 : M := (mOr (mBin (eqG eqs kEq 4) (mVar 2) (mC (.int 3))) (mNot (mBin (eqG eqs kEq 4) (mMake 0 2 d_Web_init (mCons (mBin (lift2 addD) (mVar 2) (mC (.int 1))) (mCons (mVar 3) mNil))) (mVar 1))))
abbrev eq_t1 : MT := (mtOr (mtNot (mTB (mBin (eqG eqs kEq 4) (mVar 4) (mVar 1)))) (mtOr (mtNot (mTB (mBin (eqG eqs kEq 4) (mVar 1) (mVar 4)))) (mtOr (mTB (mBin (eqG eqs kEq 4) (mVar 1) (mVar 3))) (mtOr (mTB (mBin (eqG eqs kEq 4) (mVar 1) (mVar 2))) (mTB (mBin (eqG eqs kEq 4) (mVar 1) (mC (.str "web"))))))))
abbrev eq_t2 : MT := (mtOr (mTB (mBin (eqG eqs kEq 4) (mVar 1) (mVar 5))) (mtOr (mTB (mBin (eqG eqs kEq 4) (mVar 5) (mVar 1))) (mtOr (mTB (mBin (eqG eqs kEq 4) (mVar 1) (mVar 6))) (mtOr (mTB (mBin (eqG eqs kEq 4) (mVar 6) (mVar 1))) (mtOr (mTB (mBin (eqG eqs kEq 4) (mVar 5) (mVar 6))) (mTB (mBin (eqG eqs kEq 4) (mVar 6) (mVar 5))))))))
abbrev eq_t3 : MT := (mTB (mBin (eqY eqs 4 true) (mBin (eqG eqs kEq 4) (mMake 0 2 d_Web_init (mCons (mVar 2) (mCons (mVar 7) mNil))) (mVar 1)) (mBin (eqG eqs kEq 4) (mVar 7) (mVar 3))))
abbrev eq_t4 : MT := (mtAnd (mTB (mBin (lift2 ltD) (mBlt (lenX (lenO lens)) (mCons (mVar 3) mNil)) (mC (.int 3)))) (mTB (mBin (eqG eqs kEq 4) (mMake 0 2 d_Web_init (mCons (mVar 2) (mCons (mBin (lift2 addD) (mVar 3) (mLst (mCons (mLst mNil) mNil))) mNil))) (mVar 1))))
abbrev la_t1 : MT := (mtNot (mTB (mBlt d_law_right (mCons (mVar 7) (mCons (mVar 3) (mCons (mVar 5) mNil))))))
abbrev la_t2 : MT := (mtOr (mtNot (mTB (mBlt d_law_right (mCons (mVar 7) (mCons (mVar 3) (mCons (mVar 5) mNil)))))) (mtNot (mTB (mBlt d_law_named_right (mCons (mVar 3) (mCons (mVar 4) mNil))))))
abbrev la_t3 : MT := (mtAnd (mTB (mBin (eqG eqs kEq 4) (mVar 1) (mC (.int 0)))) (mtNot (mTB (mBlt d_law_all_right (mCons (mVar 3) (mCons (mVar 4) mNil))))))
def lotsD (ls : List (List Int)) : D := .lst (ls.map lotL)
def tellD (s : Nat) : D := .obj 2 [.tup (List.replicate s (.int 1)), .int s, .int 1, .lst [.lst [.obj 1 [.int 1, .int 1]]]]
def ratD (s : Nat) : D := .obj 1 [.int s, .int 1]
abbrev slC (s : Nat) (ls : List (List Int)) : Sl := [none, some (.d (wb s ls)), some (.d (.int s)), some (.d (lotsD ls)), some (.d (wb s ls)), some (.d (tellD s)), some (.d (ratD s)), none, none]
def chkW (s : Nat) (ls : List (List Int)) : Bool := isV 1 (.bl true) (d_law_right [.d (wb s ls), .d (.int s), .d (lotsD ls)] (tbs 1))
theorem chkW_ok : ∀ s ∈ [1, 2, 3], ∀ h ∈ [1, 2, 3], (websL s h).all (chkW s) = true := by decide +kernel
def chkT (s : Nat) : Bool := isV 1 (tellD s) (mMake 2 4 d_Telling_init (mCons (mC (.lst (List.replicate s (.int 1)))) (mCons (mC (.lst [.lst [.int 1]])) mNil)) [] (tbs 1)) && isV 1 (ratD s) (mMake 1 2 d_Ratio_init (mDfl (mCons (mC (.int s)) mNil) 1) [] (tbs 1))
theorem chkT_ok : ∀ s ∈ [1, 2, 3], chkT s = true := by decide +kernel
def chkN (s h : Nat) : Bool := isV 1 (.bl true) (d_law_named_right [.d (.int s), .d (.int h)] (tbs 1))
theorem chkN_ok : ∀ s ∈ [1, 2, 3], ∀ h ∈ [1, 2, 3], chkN s h = true := by decide +kernel
end Dn

end
section
/-! K17_4: webs, tellings, ratios compared; equal_right. -/
namespace Dn
open PySem
theorem eqDs_int : ∀ (l m : List Int), eqDs (l.map D.int) (m.map D.int) = decide (l = m)
  | [], [] => by simp [eqDs]
  | [], _ :: _ => by simp [eqDs]
  | _ :: _, [] => by simp [eqDs]
  | x :: l, y :: m => by
    have ih := eqDs_int l m
    simp only [List.map_cons, eqDs, ih, eqD]
    by_cases h : x = y <;> by_cases k : l = m <;> simp [h, k]
theorem eqDs_lot : ∀ (l m : List (List Int)), eqDs (l.map lotT) (m.map lotT) = decide (l = m)
  | [], [] => by simp [eqDs]
  | [], _ :: _ => by simp [eqDs]
  | _ :: _, [] => by simp [eqDs]
  | x :: l, y :: m => by
    have ih := eqDs_lot l m
    simp only [List.map_cons, eqDs, ih, lotT, eqD, eqDs_int]
    by_cases h : x = y <;> by_cases k : l = m <;> simp [h, k]
theorem oks_int (n : Nat) (l : List Int) : oks n (l.map D.int) = true := by
  induction l with
  | nil => simp [oks]
  | cons x r ih => simp [oks, ih, D.ok]
theorem oks_lot (n : Nat) (ls : List (List Int)) : oks (n + 1) (ls.map lotT) = true := by
  induction ls with
  | nil => simp [oks]
  | cons x r ih => simp [oks, ih, lotT, D.ok, oks_int]
theorem eqP_int {neg : Bool} (x y : Int) : eqP neg (.int x) (.int y) = some (.bl (if neg then !decide (x = y) else decide (x = y))) := by
  simp [eqP, D.ok, eqD]
  cases neg <;> by_cases h : x = y <;> simp [h]
theorem eqP_lots {neg : Bool} (l m : List (List Int)) : eqP neg (.tup (l.map lotT)) (.tup (m.map lotT)) = some (.bl (if neg then !decide (l = m) else decide (l = m))) := by
  simp [eqP, D.ok, eqD, eqDs_lot, oks_lot 58]
section
variable {s t : Int} {ls ms : List (List Int)} {c : Cs}
theorem web_eq : d_Web_eq [.d (wb s ls), .d (wb t ms)] c = .ok (.d (.bl (decide (s = t) && decide (ls = ms)))) c := by
  refine fn_rt rfl (ret_ok ?_)
  refine and_yes (isi (vr rfl) rfl) ?_
  by_cases h : s = t
  · refine (and_yes (bin (attr (vr rfl) rfl rfl) (attr (vr rfl) rfl rfl) (l2 ((eqP_int s t).trans (by simp [h])))) (bin (attr (vr rfl) rfl rfl) (attr (vr rfl) rfl rfl) (l2 (eqP_lots ls ms)))).trans (by simp [h])
  · refine (and_no (bin (attr (vr rfl) rfl rfl) (attr (vr rfl) rfl rfl) (l2 ((eqP_int s t).trans (by simp [h]))))).trans (by simp [h])

theorem web_eqG : eqG eqs kEq 4 (.d (wb s ls)) (.d (wb t ms)) c = .ok (.d (.bl (decide (s = t) && decide (ls = ms)))) c := by
  show (d_Web_eq [.d (wb s ls), .d (wb t ms)] c).bindN _ = _
  rw [web_eq]
  rfl
theorem web_no {y : D} (h : k_Web.ask y = some false) (hk : kEq.ask y = some true) : eqG eqs kEq 4 (.d (wb s ls)) (.d y) c = .ok (.d (.bl false)) c := by
  have e : d_Web_eq [.d (wb s ls), .d y] c = .ok (.d (.bl false)) c := fn_rt rfl (ret_ok (and_no (isi (vr rfl) h)))
  show (if kEq.ask y = some true then (d_Web_eq [.d (wb s ls), .d y] c).bindN _ else R.bad) = _
  rw [if_pos hk, e]
  rfl
theorem tell_no {k : Nat} {y : D} (h : k_Telling.ask y = some false) (hk : kEq.ask y = some true) : eqG eqs kEq 4 (.d (tellD k)) (.d y) c = .ok (.d (.bl false)) c := by
  have e : d_Telling_eq [.d (tellD k), .d y] c = .ok (.d (.bl false)) c := fn_rt rfl (ret_ok (and_no (isi (vr rfl) h)))
  show (if kEq.ask y = some true then (d_Telling_eq [.d (tellD k), .d y] c).bindN _ else R.bad) = _
  rw [if_pos hk, e]
  rfl
theorem rat_no {k : Nat} {y : D} (h : k_bool.ask y = some false) (h2 : k_int_Ratio.ask y = some false) (hk : kEq.ask y = some true) : eqG eqs kEq 4 (.d (ratD k)) (.d y) c = .ok (.d (.bl false)) c := by
  have e0 : d_is_number [.d y] c = .ok (.d (.bl false)) c := fn_rt rfl (seq_go (if_no (tb_ok (isi (vr rfl) h))) (ret_ok (isi (vr rfl) h2)))
  have e : d_Ratio_eq [.d (ratD k), .d y] c = .ok (.d (.bl false)) c := fn_rt rfl (seq_rt ((if_t (c' := c) ((tnot_ok (tb_ok (blt (a1 (vr rfl)) e0))).trans rfl)).trans (ret_ok rfl)))
  show (if kEq.ask y = some true then (d_Ratio_eq [.d (ratD k), .d y] c).bindN _ else R.bad) = _
  rw [if_pos hk, e]
  rfl
theorem eqDs_lotL : ∀ (l m : List (List Int)), eqDs (l.map lotL) (m.map lotL) = decide (l = m)
  | [], [] => by simp [eqDs]
  | [], _ :: _ => by simp [eqDs]
  | _ :: _, [] => by simp [eqDs]
  | x :: l, y :: m => by
    have ih := eqDs_lotL l m
    simp only [List.map_cons, eqDs, ih, lotL, eqD, eqDs_int]
    by_cases h : x = y <;> by_cases k : l = m <;> simp [h, k]
theorem oks_lotL (n : Nat) (ls : List (List Int)) : oks (n + 1) (ls.map lotL) = true := by
  induction ls with
  | nil => simp [oks]
  | cons x r ih => simp [oks, ih, lotL, D.ok, oks_int]
theorem lots_eqG : eqG eqs kEq 4 (.d (lotsD ls)) (.d (lotsD ms)) c = .ok (.d (.bl (decide (ls = ms)))) c := by
  rw [eqG_plain (by simp [lotsD, D.ok, oks_lotL 58]) (by simp [lotsD, D.ok, oks_lotL 58])]
  simp [lotsD, eqD, eqDs_lotL]
end
theorem lots_tup {c : Cs} (ls : List (List Int)) : LotsAt c (.d (.tup (ls.map lotT))) ls := by
  refine ⟨ls.map fun l => (.d (lotT l), l), by rw [List.map_map]; exact List.map_id' ls, .inl ⟨_, ls.map lotT, rfl, .inr rfl, by rw [List.map_map, List.map_map]; rfl⟩, fun p hp => ?_⟩
  obtain ⟨l, _, rfl⟩ := List.mem_map.mp hp
  exact .inl ⟨_, rfl, .inr rfl⟩
section
variable {δ : Sl} {c cb : Cs} {s n N : Nat} {ls : List (List Int)}
theorem e1_ok {x0 x1 x4 x5 x6 x7 x8 : Option S} (h : WOk s ls) : eq_e1 [x0, x1, some (.d (.int s)), some (.d (lotsD ls)), x4, x5, x6, x7, x8] c = .ok (.d (wb s ls)) c := by
  refine make_web h (lots_tup ls) (a2 (vr rfl) (a1 (blt (a1 (compM (ls) (fun l => .d (lotL l)) lotT (seqI (vr rfl) ?_) (small_size (by have := h.l3; omega)) fun l hl acc => ⟨_, rfl, blt (a1 (vr rfl)) (lN1 rfl)⟩)) (lN1 rfl))))
  show R.ok (Src.xs ((ls.map lotL).map S.d)) c = _
  rw [List.map_map]
  rfl
theorem e2_ok {x0 x1 x3 x4 x5 x6 x7 x8 : Option S} (h0 : 0 < s) (h4 : s < 4) : eq_e2 [x0, x1, some (.d (.int s)), x3, x4, x5, x6, x7, x8] (tbs 1) = .ok (.d (tellD s)) (tbs 1) := by
  have hs : s = 1 ∨ s = 2 ∨ s = 3 := by omega
  have k : chkT s = true := chkT_ok s (by rcases hs with rfl | rfl | rfl <;> simp)
  unfold chkT at k
  rw [Bool.and_eq_true] at k
  refine Eq.trans ?_ (isV_eq k.1)
  show mMake 2 4 d_Telling_init _ _ _ = _
  unfold mMake
  have e : mCons (mBin (lift2 mulD) (mLst (mCons (mC (.int 1)) mNil)) (mVar 2)) (mCons (mLst (mCons (mLst (mCons (mC (.int 1)) mNil)) mNil)) mNil) [x0, x1, some (.d (.int s)), x3, x4, x5, x6, x7, x8] (tbs 1) = mCons (mC (.lst (List.replicate s (.int 1)))) (mCons (mC (.lst [.lst [.int 1]])) mNil) [] (tbs 1) := by
    rcases hs with rfl | rfl | rfl <;> rfl
  rw [e]
theorem e3_ok {x0 x1 x3 x4 x5 x6 x7 x8 : Option S} (h0 : 0 < s) (h4 : s < 4) : eq_e3 [x0, x1, some (.d (.int s)), x3, x4, x5, x6, x7, x8] (tbs 1) = .ok (.d (ratD s)) (tbs 1) := by
  have hs : s = 1 ∨ s = 2 ∨ s = 3 := by omega
  have k : chkT s = true := chkT_ok s (by rcases hs with rfl | rfl | rfl <;> simp)
  unfold chkT at k
  rw [Bool.and_eq_true] at k
  exact Eq.trans (by rfl) (isV_eq k.2)
theorem t1_ok {x0 x5 x6 x7 x8 : Option S} : eq_t1 [x0, some (.d (wb s ls)), some (.d (.int s)), some (.d (lotsD ls)), some (.d (wb s ls)), x5, x6, x7, x8] c = .ok false c := by
  have w : eqG eqs kEq 4 (.d (wb s ls)) (.d (wb s ls)) c = .ok (.d (.bl true)) c := by rw [web_eqG]; simp
  exact tor_no (tnot_ok (tb_ok (bin (vr rfl) (vr rfl) w))) (tor_no (tnot_ok (tb_ok (bin (vr rfl) (vr rfl) w))) (tor_no (tb_ok (bin (vr rfl) (vr rfl) (web_no rfl rfl))) (tor_no (tb_ok (bin (vr rfl) (vr rfl) (web_no rfl rfl))) (tb_ok (bin (vr rfl) rfl (web_no rfl rfl))))))
theorem t2_ok {x0 x2 x3 x4 x7 x8 : Option S} : eq_t2 [x0, some (.d (wb s ls)), x2, x3, x4, some (.d (tellD s)), some (.d (ratD s)), x7, x8] c = .ok false c :=
  tor_no (tb_ok (bin (vr rfl) (vr rfl) (web_no rfl rfl))) (tor_no (tb_ok (bin (vr rfl) (vr rfl) (tell_no rfl rfl))) (tor_no (tb_ok (bin (vr rfl) (vr rfl) (web_no rfl rfl))) (tor_no (tb_ok (bin (vr rfl) (vr rfl) (rat_no rfl rfl rfl))) (tor_no (tb_ok (bin (vr rfl) (vr rfl) (tell_no rfl rfl))) (tb_ok (bin (vr rfl) (vr rfl) (rat_no rfl rfl rfl)))))))
theorem t3_ok {ms : List (List Int)} {x0 x4 x5 x6 x8 : Option S} (h : WOk s ms) : eq_t3 [x0, some (.d (wb s ls)), some (.d (.int s)), some (.d (lotsD ls)), x4, x5, x6, some (.d (lotsD ms)), x8] c = .ok false c := by
  refine (tb_ok (bin (bin (make_web h (lots_data ms) (a2 (vr rfl) (a1 (vr rfl)))) (vr rfl) web_eqG) (bin (vr rfl) (vr rfl) lots_eqG) (eqY_plain rfl rfl))).trans ?_
  by_cases e : ms = ls <;> simp [e, eqD]
theorem t4_ok {x0 x4 x5 x6 x7 x8 : Option S} (h : WOk s ls) : eq_t4 [x0, some (.d (wb s ls)), some (.d (.int s)), some (.d (lotsD ls)), x4, x5, x6, x7, x8] c = .ok false c := by
  have ln : lenX (lenO lens) [.d (lotsD ls)] c = .ok (.d (.int ls.length)) c := lX1 (by show lenO lens [.lst _] = _; rw [lenO_ls, List.length_map])
  have lt : lift2 ltD (.d (.int ls.length)) (.d (.int 3)) c = .ok (.d (.bl (decide (ls.length < 3)))) c := l2 (by
    have : decide ((ls.length : Int) < 3) = decide (ls.length < 3) := by
      by_cases e : ls.length < 3
      · simp [e]; omega
      · simp [e]; omega
    simp [ltD, cmpD, this])
  by_cases e : ls.length < 3
  · have w : WOk s (ls ++ [[]]) := ⟨h.lo, h.hi, by simp, by simp; omega, fun l hl => by
      rcases List.mem_append.mp hl with z | z
      · exact h.ok l z
      · rw [List.mem_singleton.mp z]; exact ⟨fun x hx => by simp at hx, List.Pairwise.nil⟩⟩
    refine tand_t (c' := c) ((tb_ok (bin (blt (a1 (vr rfl)) ln) rfl lt)).trans (by simp [e])) ((tb_ok (bin (make_web w (lots_data _) (a2 (vr rfl) (a1 (bin (vr rfl) rfl (l2 ?_))))) (vr rfl) web_eqG)).trans ?_)
    · show addD (.lst (ls.map lotL)) (.lst [.lst []]) = some (.lst ((ls ++ [[]]).map lotL))
      rw [List.map_append]
      have : ls.length + 1 ≤ sizeLine := small_size (by omega)
      simp [addD, lotL, this]
    · have : ls ++ [[]] ≠ ls := fun z => by have := congrArg List.length z; simp at this
      simp [this]
  · exact tand_no ((tb_ok (bin (blt (a1 (vr rfl)) ln) rfl lt)).trans (by simp [e]))
theorem e4_ok {x0 x4 x5 x6 x7 x8 : Option S} (h : WOk s ls) : eq_e4 [x0, some (.d (wb s ls)), some (.d (.int s)), some (.d (lotsD ls)), x4, x5, x6, x7, x8] c = .ok (.d (.bl true)) c := by
  have h3 := h.hi
  have h0 := h.lo
  have a : mBin (eqG eqs kEq 4) (mVar 2) (mC (.int 3)) [x0, some (.d (wb s ls)), some (.d (.int s)), some (.d (lotsD ls)), x4, x5, x6, x7, x8] c = .ok (.d (.bl ((s : Int) == 3))) c := bin (vr rfl) rfl (eqG_int _ _)
  unfold eq_e4 mOr
  rw [a]
  simp only [bind_ok]
  by_cases e : s = 3
  · subst e; rfl
  · have e2 : ((s : Int) == 3) = false := by simp; omega
    rw [e2]
    have w : WOk (s + 1 : Nat) ls := ⟨by omega, by omega, h.l1, h.l3, fun l hl => ⟨fun x hx => by have := (h.ok l hl).pl x hx; omega, (h.ok l hl).so⟩⟩
    have b : mBin (eqG eqs kEq 4) (mMake 0 2 d_Web_init (mCons (mBin (lift2 addD) (mVar 2) (mC (.int 1))) (mCons (mVar 3) mNil))) (mVar 1) [x0, some (.d (wb s ls)), some (.d (.int s)), some (.d (lotsD ls)), x4, x5, x6, x7, x8] c = .ok (.d (.bl false)) c := by
      refine (bin (make_web w (lots_data _) (a2 (bin (vr rfl) rfl (l2 ?_)) (a1 (vr rfl)))) (vr rfl) web_eqG).trans ?_
      · simp [addD]
      · have : ¬ (((s + 1 : Nat) : Int) = (s : Int)) := by omega
        rw [decide_eq_false this]
        rfl
    show mNot _ _ c = _
    unfold mNot
    rw [b]
    rfl
end
end Dn

end
section
/-! K17_5: equal_right; lists handed and told. -/
namespace Dn
open PySem
def pr (p : Int × Int) : D := .tup [.int p.1, .int p.2]
/-- the links, hearer by hearer -/
def lnk (n : Nat) : List (List Int) → List (Int × Int)
  | [] => []
  | l :: r => (l.map fun x => (x, (n : Int))) ++ lnk (n + 1) r
def en (n : Nat) : List (List Int) → List (Nat × List Int)
  | [] => []
  | l :: r => (n, l) :: en (n + 1) r
theorem enum_en : ∀ (n : Nat) (ls : List (List Int)), enumL n (ls.map lotT) = (en n ls).map fun p => D.tup [.int p.1, lotT p.2]
  | _, [] => rfl
  | n, l :: r => by simp [enumL, en, enum_en (n + 1) r]
theorem en_lnk : ∀ (n : Nat) (ls : List (List Int)), ((en n ls).flatMap fun p => p.2.map fun x => pr (x, (p.1 : Int))) = (lnk n ls).map pr
  | _, [] => rfl
  | n, l :: r => by
    simp only [en, List.flatMap_cons, en_lnk (n + 1) r, lnk, List.map_append, List.map_map]
    rfl
theorem en_len : ∀ (n : Nat) (ls : List (List Int)), (en n ls).length = ls.length
  | _, [] => rfl
  | n, l :: r => by simp [en, en_len (n + 1) r]
theorem lnk_len : ∀ (n : Nat) (ls : List (List Int)), (∀ l ∈ ls, l.length ≤ 10) → (lnk n ls).length ≤ 10 * ls.length
  | _, [], _ => by simp [lnk]
  | n, l :: r, h => by
    have h1 := h l List.mem_cons_self
    have h2 := lnk_len (n + 1) r fun m hm => h m (List.mem_cons_of_mem _ hm)
    simp [lnk]; omega
theorem sort_pr (ps : List (Int × Int)) : sortOk (ps.map pr) = true := by
  have h1 : (ps.map pr).all (D.ok 50) = true := by
    rw [List.all_eq_true]; intro x hx
    obtain ⟨p, _, rfl⟩ := List.mem_map.mp hx
    rfl
  have h2 : allAlike (ps.map pr) = true := by
    unfold allAlike
    rw [List.all_eq_true]; intro x hx
    rw [List.all_eq_true]; intro y hy
    obtain ⟨p, _, rfl⟩ := List.mem_map.mp hx
    obtain ⟨q, _, rfl⟩ := List.mem_map.mp hy
    rfl
  have h3 : (ps.map pr).all (fun x => isTup1 x.py) = true := by
    rw [List.all_eq_true]; intro x hx
    obtain ⟨p, _, rfl⟩ := List.mem_map.mp hx
    rfl
  unfold sortOk
  rw [h1, h2, h3]; rfl

section
variable {δ : Sl} {c cb : Cs} {s n N : Nat} {ls : List (List Int)}
theorem equal_ok {xs : List D} (h : WOk s ls) (J : Junk 1 c) (hn1 : 1 ≤ n) (hn : c[n]? = some (.lst xs)) (hx : BxOk N xs) (hN : N ≤ 10000) : ∃ c2, d_law_equal_right [.c n, .d (wb s ls), .d (.int s), .d (lotsD ls)] c = .ok (.d (.bl true)) c2 ∧ Junk 1 c2 ∧ c2.length = c.length := by
  have h0 := h.lo
  have h4 := h.hi
  have l1 := h.l1
  have l3 := h.l3
  obtain ⟨ms, c2, e, m1, m2, b⟩ := draw_lots (c := c) (s := s) (h := ls.length) ⟨by omega, by omega⟩ l3 hn hx hN
  obtain ⟨ys, rfl, _⟩ := id b
  have J2 : Junk 1 (c.set n (.lst ys)) := J.set hn1 rfl
  have hm : WOk s ms := ⟨h0, h4, by omega, by omega, m2⟩
  have ln : lenX (lenO lens) [.d (lotsD ls)] c = .ok (.d (.int ls.length)) c := lX1 (by show lenO lens [.lst _] = _; rw [lenO_ls, List.length_map])
  refine ⟨_, fn_rs rfl (by simp) ?_, J2, by simp⟩
  exact seq_go (set_ok (pure_v J (e1_ok h))) (seq_go (if_no (pure_b J t1_ok)) (seq_go (par_ok (a2 (pure_v J (e2_ok (by omega) (by omega))) (a1 (pure_v J (e3_ok (by omega) (by omega)))))) (seq_go (if_no (pure_b J t2_ok)) (seq_go (set_ok (blt (a2 (vr rfl) (a2 (vr rfl) (a1 (blt (a1 (vr rfl)) ln)))) e)) (seq_go (if_no (pure_b J2 (t3_ok (ms := ms) hm))) (seq_go (if_no (pure_b J2 (t4_ok h))) (ret_ok (pure_v J2 (e4_ok h)))))))))
/-! ### told lists -/
theorem toldLots (h : ls.length ≤ 3) (k : ∀ l ∈ ls, l.length ≤ 10) : dA_Web_lots [.d (wb s ls)] c = .ok (.c (c.length + ls.length)) (c ++ ls.map (fun l => CC.lst (l.map D.int)) ++ [.lS ((List.range' c.length ls.length).map S.c)]) := by
  refine fnA_rt rfl (ret_ok (compS_new ls (fun l => .d (lotT l)) (fun l => l.map D.int) (seqI (attr (vr rfl) rfl rfl) ?_) (small_size (by omega)) fun l hl c' => ⟨_, rfl, blt (a1 (vr rfl)) (listK_d (by rw [List.length_map]; exact small_size (by have := k l hl; omega))).2⟩))
  show R.ok (Src.xs ((ls.map lotT).map S.d)) c = _
  rw [List.map_map]
  rfl
theorem toldLinks (h : ls.length ≤ 3) (k : ∀ l ∈ ls, l.length ≤ 10) : dA_Web_links [.d (wb s ls)] c = .ok (.c c.length) (c ++ [.lst (sortL ((lnk 0 ls).map pr))]) := by
  refine fnA_rt rfl (ret_ok (blt (a1 ((comp2M (en 0 ls) (fun p => S.d (.tup [.int p.1, lotT p.2])) (fun p => p.2) (fun i => .d (.int i)) (fun p x => pr (x, (p.1 : Int))) ?_ ?_ fun p hp => ⟨_, fun _ => rfl, fun acc => seqI (vr rfl) ?_, fun x hx => ⟨_, fun _ => rfl, fun acc => ?_⟩⟩).trans (by rw [en_lnk]))) ?_))
  · refine (congrArg (fun r => R.bind r enum1) (a1 (attr (vr rfl) rfl rfl))).trans ?_
    simp only [bind_ok, enum1, enum_en, List.map_map]
    rfl
  · rw [en_lnk, List.length_map]
    have := lnk_len 0 ls k
    exact small_size (by omega)
  · show R.ok (Src.xs ((p.2.map D.int).map S.d)) _ = _
    rw [List.map_map]
    rfl
  · exact (congrArg (fun r => R.bind r mkTup) (a2 (vr rfl) (a1 (vr rfl)))).trans rfl
  · show (if sortOk ((lnk 0 ls).map pr) = true then _ else _) = _
    rw [if_pos (sort_pr _)]
theorem lots_cells (L : Nat) : cb.length = L → LotsAt (cb ++ ls.map (fun l => CC.lst (l.map D.int)) ++ [.lS ((List.range' L ls.length).map S.c)]) (.c (L + ls.length)) ls := by
  rintro rfl
  refine ⟨(ls.zipIdx cb.length).map fun p => (.c p.2, p.1), ?_, .inr ⟨_, rfl, ?_⟩, fun p hp => ?_⟩
  · rw [List.map_map]
    exact List.zipIdx_map_fst _ _
  · have e0 : (cb ++ ls.map (fun l => CC.lst (l.map D.int)) ++ [CC.lS ((List.range' cb.length ls.length).map S.c)])[cb.length + ls.length]? = some (CC.lS ((List.range' cb.length ls.length).map S.c)) := by
      rw [List.getElem?_append_right (by simp)]
      simp
    unfold cellL
    rw [e0]
    simp only
    rw [List.map_map, ← List.zipIdx_map_snd cb.length ls, List.map_map]
    rfl
  · obtain ⟨⟨l, i⟩, hm, rfl⟩ := List.mem_map.mp hp
    obtain ⟨h1, h2⟩ := List.mem_zipIdx_iff_le_and_getElem?_sub.mp hm
    refine .inr ⟨i, rfl, ?_⟩
    have hl : i - cb.length < ls.length := (List.getElem?_eq_some_iff.mp h2).1
    rw [List.append_assoc, List.getElem?_append_right h1, List.getElem?_append_left (by simpa using hl), List.getElem?_map, h2]
    rfl
end
end Dn

end
section
/-! K17_A: all webs. -/
namespace Dn
open PySem
def AL : Nat → List (List Int)
  | 1 => [[], [0]]
  | 2 => [[], [0], [0, 1], [1]]
  | 3 => [[], [0], [0, 1], [0, 1, 2], [0, 2], [1], [1, 2], [2]]
  | _ => []
theorem AL_chk : ∀ s ∈ [1, 2, 3], (isV 1 (lotsD (AL s)) (d_law_all_lots [.d (.int s)] (tbs 1)) && isV 1 (lotsD (AL s)) (d_all_lots [.d (.int s)] (tbs 1))) = true := by decide +kernel
theorem in3 {s : Nat} (h : 0 < s) (k : s < 4) : s = 1 ∨ s = 2 ∨ s = 3 := by omega
theorem AL_eq {s : Nat} (h : 0 < s) (k : s < 4) : d_law_all_lots [.d (.int s)] (tbs 1) = .ok (.d (lotsD (AL s))) (tbs 1) ∧ d_all_lots [.d (.int s)] (tbs 1) = .ok (.d (lotsD (AL s))) (tbs 1) := by
  have := AL_chk s (by rcases in3 h k with rfl | rfl | rfl <;> simp)
  rw [Bool.and_eq_true] at this
  exact ⟨isV_eq this.1, isV_eq this.2⟩
theorem AL_ok {s : Nat} (h : 0 < s) (k : s < 4) : (AL s).length ≤ 8 ∧ ∀ l ∈ AL s, LotOk s l := by
  have key : ∀ s ∈ [1, 2, 3], ((AL s).length ≤ 8 ∧ ∀ l ∈ AL s, (∀ x ∈ l, 0 ≤ x ∧ x < (s : Int)) ∧ l.Pairwise (· < ·)) := by decide +kernel
  obtain ⟨h1, h2⟩ := key s (by rcases in3 h k with rfl | rfl | rfl <;> simp)
  exact ⟨h1, fun l hl => ⟨(h2 l hl).1, (h2 l hl).2⟩⟩
def extL (s : Nat) (ls : List (List Int)) : List (List (List Int)) := (AL s).map fun l => ls ++ [l]
def DD (s : Nat) : Nat → List (List (List Int))
  | 0 => [[]]
  | k + 1 => (DD s k).flatMap (extL s)
theorem ext_len {s : Nat} (h : 0 < s) (k : s < 4) : ∀ X : List (List (List Int)), (X.flatMap (extL s)).length ≤ 8 * X.length
  | [] => by simp
  | x :: X => by
    have := ext_len h k X
    have a : (extL s x).length ≤ 8 := by unfold extL; rw [List.length_map]; exact (AL_ok h k).1
    rw [List.flatMap_cons, List.length_append, List.length_cons]
    omega
theorem DD_len {s : Nat} (h : 0 < s) (k : s < 4) : (DD s 0).length ≤ 1 ∧ (DD s 1).length ≤ 8 ∧ (DD s 2).length ≤ 64 ∧ (DD s 3).length ≤ 512 := by
  have a0 : (DD s 0).length ≤ 1 := by simp [DD]
  have a1 : (DD s 1).length ≤ 8 := Nat.le_trans (ext_len h k (DD s 0)) (by omega)
  have a2 : (DD s 2).length ≤ 64 := Nat.le_trans (ext_len h k (DD s 1)) (by omega)
  have a3 : (DD s 3).length ≤ 512 := Nat.le_trans (ext_len h k (DD s 2)) (by omega)
  exact ⟨a0, a1, a2, a3⟩
theorem DD_small {s n : Nat} (h : 0 < s) (k : s < 4) (hn : n ≤ 3) : (DD s n).length ≤ 512 := by
  obtain ⟨a0, a1, a2, a3⟩ := DD_len h k
  have : n = 0 ∨ n = 1 ∨ n = 2 ∨ n = 3 := by omega
  rcases this with rfl | rfl | rfl | rfl <;> omega
theorem DD_small2 {s n : Nat} (h : 0 < s) (k : s < 4) (hn : n ≤ 2) : (DD s n).length ≤ 64 := by
  obtain ⟨a0, a1, a2, a3⟩ := DD_len h k
  have : n = 0 ∨ n = 1 ∨ n = 2 := by omega
  rcases this with rfl | rfl | rfl <;> omega
theorem DD_ok {s : Nat} (h : 0 < s) (k : s < 4) : ∀ (n : Nat) (ls : List (List Int)), ls ∈ DD s n → ls.length = n ∧ ∀ l ∈ ls, LotOk s l
  | 0, ls, hm => by
    simp [DD] at hm
    subst hm
    exact ⟨rfl, fun l hl => by simp at hl⟩
  | n + 1, ls, hm => by
    obtain ⟨ms, h1, h2⟩ := List.mem_flatMap.mp hm
    obtain ⟨l, h3, rfl⟩ := List.mem_map.mp h2
    obtain ⟨e, q⟩ := DD_ok h k n ms h1
    refine ⟨by simp [e], fun x hx => ?_⟩
    rcases List.mem_append.mp hx with z | z
    · exact q x z
    · rw [List.mem_singleton.mp z]; exact (AL_ok h k).2 l h3
theorem DD_W {s n : Nat} (h : 0 < s) (k : s < 4) (n0 : 0 < n) (n4 : n < 4) {ls : List (List Int)} (hm : ls ∈ DD s n) : WOk s ls := by
  obtain ⟨e, q⟩ := DD_ok h k n ls hm
  exact ⟨by omega, by omega, by omega, by omega, q⟩
/-- lists of lots -/
def lotss (X : List (List (List Int))) : D := .lst (X.map lotsD)
theorem eqDs_lots2 : ∀ (X Y : List (List (List Int))), eqDs (X.map lotsD) (Y.map lotsD) = decide (X = Y)
  | [], [] => by simp [eqDs]
  | [], _ :: _ => by simp [eqDs]
  | _ :: _, [] => by simp [eqDs]
  | x :: l, y :: m => by
    have ih := eqDs_lots2 l m
    simp only [List.map_cons, eqDs, ih, lotsD, eqD, eqDs_lotL]
    by_cases h : x = y <;> by_cases k : l = m <;> simp [h, k]
theorem oks_lots2 (n : Nat) (X : List (List (List Int))) : oks (n + 2) (X.map lotsD) = true := by
  induction X with
  | nil => simp [oks]
  | cons x r ih => simp [oks, ih, lotsD, D.ok, oks_lotL n]
section
variable {δ : Sl} {c cb : Cs} {s n : Nat} {ls : List (List Int)}
theorem compMC_filter {α : Type} {m : Nat} {g : GT} {C : MT} {A : M} {δ : Sl} {q : α → S} {all : List α} (hn : cellL m (c ++ [.lst []]) = some (all.map q)) : ∀ (ys : List α) (i : Nat), all.drop i = ys → (∀ y ∈ all, ∃ δ1, g (q y) (c ++ [.lst []]) δ = some δ1 ∧ C δ1 (c ++ [.lst []]) = .ok false (c ++ [.lst []])) →
    cloopC m g C (fun δ1 c1 => (A δ1 c1).bindN (push c.length)) δ (ys.length + 1) i (c ++ [.lst []]) = .ok () (c ++ [.lst []])
  | [], i, e, h => by
    have hi : all.length ≤ i := List.drop_eq_nil_iff.mp e
    unfold cloopC
    simp only [hn]
    rw [List.getElem?_eq_none (by simpa using hi)]
  | y :: ys, i, e, h => by
    have hi : all[i]? = some y := by
      have := congrArg List.head? e
      rwa [List.head?_drop] at this
    obtain ⟨δ1, h1, h2⟩ := h y (List.mem_of_getElem? hi)
    unfold cloopC
    have e1 : (all.map q)[i]? = some (q y) := by rw [List.getElem?_map, hi]; rfl
    simp only [hn, e1, h1, h2, bindN_ok, Bool.false_eq_true, if_false]
    exact compMC_filter hn ys (i + 1) (by rw [← List.drop_drop, e]; rfl) h
theorem compNone {α : Type} {m : Nat} {I : MI} {g : GT} {C : MT} {A : M} {vs : List Nat} (ys : List α) (q : α → S) (hI : I δ c = .ok (.cell m) c) (hn : cellL m (c ++ [.lst []]) = some (ys.map q)) (h : ∀ y ∈ ys, ∃ δ1, g (q y) (c ++ [.lst []]) (wipeD δ vs) = some δ1 ∧ C δ1 (c ++ [.lst []]) = .ok false (c ++ [.lst []])) : mComp I g C A vs δ c = .ok (.d (.lst [])) c := by
  unfold mComp
  rw [hI]
  simp only [bind_ok, cloopI, hn, List.length_map]
  rw [compMC_filter hn ys 0 rfl h]
  simp [finC]
theorem compK {α : Type} {I : MI} {g : GT} {A : M} {vs : List Nat} (ys : List α) (q : α → S) (f : α → D) (hI : I δ c = .ok (.xs (ys.map q)) c) (hl : ys.length ≤ PySem.sizeLine)
    (h : ∀ y ∈ ys, ∀ acc, ∃ δ1, g (q y) (c ++ [.lst acc]) (wipeD δ vs) = some δ1 ∧ A δ1 (c ++ [.lst acc]) = .ok (.d (f y)) (c ++ [.lst acc])) : mCompK I g mtYes A vs δ c = .ok (.c c.length) (c ++ [.lst (ys.map f)]) := by
  unfold mCompK
  rw [hI]
  simp only [bind_ok, cloopI]
  have := cloop_map (c := c) (g := g) (C := mtYes) (A := A) (δ := wipeD δ vs) (q := q) (p := fun _ => true) (f := f) ys [] (fun y hy acc => let ⟨δ1, a, b⟩ := h y hy acc; ⟨δ1, a, rfl, fun _ => b⟩) (by simpa using hl)
  rw [List.filter_eq_self.mpr (fun _ _ => rfl)] at this
  rw [this]
  simp [finK]
theorem seq_lotss {X : List (List (List Int))} {A : M} (h : A δ c = .ok (.d (lotss X)) c) : iSeq A δ c = .ok (.xs (X.map fun ls => S.d (lotsD ls))) c := by
  refine seqI h ?_
  show R.ok (Src.xs ((X.map lotsD).map S.d)) c = _
  rw [List.map_map]
  rfl
theorem seq_lots {A : M} (h : A δ c = .ok (.d (lotsD ls)) c) : iSeq A δ c = .ok (.xs (ls.map fun l => S.d (lotL l))) c := by
  refine seqI h ?_
  show R.ok (Src.xs ((ls.map lotL).map S.d)) c = _
  rw [List.map_map]
  rfl
abbrev s9 (s h : Nat) (x2 x3 x4 x5 x6 x7 x8 : Option S) : Sl := [some (.d (.int s)), some (.d (.int h)), x2, x3, x4, x5, x6, x7, x8]
abbrev inB : MS := sSet 4 (mBin (lift2 addD) (mVar 4) (mComp (iSeq (mP nT (mBlt d_law_all_lots (mCons (mVar 0) mNil)))) (gtName 7) mtYes (mBin (lift2 addD) (mVar 5) (mLst (mCons (mVar 7) mNil))) [7]))
abbrev outB : MS := sSeq (sSet 4 (mLst mNil)) (sSeq (sFor (iSeq (mVar 2)) (gtName 5) inB) (sSet 2 (mVar 4)))
theorem in_ok {Y : List (List (List Int))} {h : Nat} (J : Junk 1 c) (s0 : 0 < s) (s4 : s < 4) (hY : Y.length ≤ 600) {x2 x3 x6 x7 x8 : Option S} (hls : ls.length ≤ 10) : inB (s9 s h x2 x3 (some (.d (lotss Y))) (some (.d (lotsD ls))) x6 x7 x8) c = .nx (s9 s h x2 x3 (some (.d (lotss (Y ++ extL s ls)))) (some (.d (lotsD ls))) x6 x7 x8) c := by
  obtain ⟨a1', a2'⟩ := AL_ok s0 s4
  refine set_ok (s := .d (lotss (Y ++ extL s ls))) (bin (vr rfl) (compM (AL s) (fun l => S.d (lotL l)) (fun l => lotsD (ls ++ [l])) (seq_lots (pure_v J (blt (a1 (vr rfl)) (AL_eq s0 s4).1))) (small_size (by omega)) fun l hl acc => ⟨_, rfl, bin (vr rfl) ((congrArg (fun r => R.bind r mkLst) (a1 (vr rfl))).trans rfl) (l2 ?_)⟩) (l2 ?_))
  · show addD (.lst (ls.map lotL)) (.lst [lotL l]) = some (.lst ((ls ++ [l]).map lotL))
    have : (ls.map lotL).length + 1 ≤ sizeLine := by rw [List.length_map]; exact small_size (by omega)
    simp only [addD, List.length_singleton, this, if_true, List.map_append, List.map_cons, List.map_nil]
  · show addD (.lst (Y.map lotsD)) (.lst ((AL s).map fun l => lotsD (ls ++ [l]))) = some (.lst ((Y ++ extL s ls).map lotsD))
    have : (Y.map lotsD).length + ((AL s).map fun l => lotsD (ls ++ [l])).length ≤ sizeLine := by
      rw [List.length_map, List.length_map]; exact small_size (by omega)
    simp only [addD, this, if_true, List.map_append, extL, List.map_map]
    rfl
theorem out_ok {h m : Nat} (J : Junk 1 c) (s0 : 0 < s) (s4 : s < 4) (hm : m ≤ 2) {x3 x4 x5 x6 x7 x8 : Option S} : ∃ y4 y5, outB (s9 s h (some (.d (lotss (DD s m)))) x3 x4 x5 x6 x7 x8) c = .nx (s9 s h (some (.d (lotss (DD s (m + 1))))) x3 y4 y5 x6 x7 x8) c := by
  have hl := DD_small2 s0 s4 hm
  obtain ⟨δ', c', e, y5, rfl, rfl⟩ := for_inv (δ := s9 s h (some (.d (lotss (DD s m)))) x3 (some (.d (.lst []))) x5 x6 x7 x8) (c := c) (I := iSeq (mVar 2)) (g := gtName 5) (B := inB) (DD s m) (fun ls => S.d (lotsD ls))
    (fun done δ c' => ∃ y5, δ = s9 s h (some (.d (lotss (DD s m)))) x3 (some (.d (lotss (done.flatMap (extL s))))) y5 x6 x7 x8 ∧ c' = c) (seq_lotss (vr rfl)) ⟨x5, rfl, rfl⟩ (by
      rintro d y r δ c2 hy ⟨y5, rfl, rfl⟩
      have hd : d.length ≤ 64 := by have := congrArg List.length hy; simp at this; omega
      have he := ext_len s0 s4 d
      have hyl := (DD_ok s0 s4 m y (by rw [hy]; simp)).1
      exact ⟨_, _, _, rfl, in_ok J s0 s4 (by omega) (by omega), some (.d (lotsD y)), by rw [List.flatMap_append, List.flatMap_singleton], rfl⟩)
  exact ⟨_, _, seq_go (set_ok rfl) (seq_go e (set_ok (vr rfl)))⟩
/-- the webs that are found -/
abbrev webB : MS := sSet 2 (mComp2 (iSeq (mVar 2)) (gtName 4) mtYes (iSeq (mP nT (mBlt d_all_lots (mCons (mVar 0) mNil)))) (gtName 5) mtYes (mLst (mStarC (mVar 4) (mCons (mVar 5) mNil))) [4, 5] [5])
abbrev s6 (s h : Nat) (x2 x3 x4 x5 : Option S) : Sl := [some (.d (.int s)), some (.d (.int h)), x2, x3, x4, x5]
theorem star_lots {l : List Int} {A B : M} (hA : A δ c = .ok (.d (lotsD ls)) c) (hB : B δ c = .ok (.d (lotL l)) c) (hl : ls.length ≤ 100) : mLst (mStarC A (mCons B mNil)) δ c = .ok (.d (lotsD (ls ++ [l]))) c := by
  have e : mStarC A (mCons B mNil) δ c = .ok (((ls ++ [l]).map lotL).map S.d) c := by
    unfold mStarC
    rw [hA]
    simp only [bind_ok]
    show (mCons B mNil δ c).bind _ = _
    rw [a1 hB]
    simp
  unfold mLst
  rw [e]
  simp only [bind_ok, mkLst, datas_map]
  rw [if_pos (by rw [List.length_map]; exact small_size (by simp; omega))]
  rfl
theorem webB_ok {h m : Nat} (J : Junk 1 c) (s0 : 0 < s) (s4 : s < 4) (hm : m ≤ 2) {x3 x4 x5 : Option S} : webB (s6 s h (some (.d (lotss (DD s m)))) x3 x4 x5) c = .nx (s6 s h (some (.d (lotss (DD s (m + 1))))) x3 x4 x5) c := by
  refine set_ok ((comp2M (DD s m) (fun ls => S.d (lotsD ls)) (fun _ => AL s) (fun l => S.d (lotL l)) (fun ls l => lotsD (ls ++ [l])) (seq_lotss (vr rfl)) ?_ fun ls hls => ⟨_, fun _ => rfl, fun acc => seq_lots (pure_v (J.app rfl) (blt (a1 (vr rfl)) (AL_eq s0 s4).2)), fun l hl => ⟨_, fun _ => rfl, fun acc => star_lots (vr rfl) (vr rfl) (by have := (DD_ok s0 s4 m ls hls).1; omega)⟩⟩).trans ?_)
  · have e : ((DD s m).flatMap fun ls => (AL s).map fun l => lotsD (ls ++ [l])) = (DD s (m + 1)).map lotsD := by
      rw [DD, List.map_flatMap]
      simp only [extL, List.map_map]
      rfl
    rw [e, List.length_map]
    exact small_size (by have := DD_small (n := m + 1) s0 s4 (by omega); omega)
  · have e : ((DD s m).flatMap fun ls => (AL s).map fun l => lotsD (ls ++ [l])) = (DD s (m + 1)).map lotsD := by
      rw [DD, List.map_flatMap]
      simp only [extL, List.map_map]
      rfl
    rw [e]
    rfl
theorem found_ok {h : Nat} (J : Junk 1 c) (s0 : 0 < s) (s4 : s < 4) (h0 : 0 < h) (h4 : h < 4) : ∃ y3, sFor (iRng (mCons (mVar 1) mNil)) (gtName 3) webB (s6 s h (some (.d (.lst [.lst []]))) none none none) c = .nx (s6 s h (some (.d (lotss (DD s h)))) y3 none none) c := by
  obtain ⟨δ', c', e, y3, rfl, rfl⟩ := for_inv (δ := s6 s h (some (.d (.lst [.lst []]))) none none none) (c := c) (I := iRng (mCons (mVar 1) mNil)) (g := gtName 3) (B := webB) (List.range h) (fun (i : Nat) => sI i)
    (fun done δ c' => ∃ y3, δ = s6 s h (some (.d (lotss (DD s done.length)))) y3 none none ∧ c' = c) (rngN_ok (a1 (vr rfl)) (by omega)) ⟨none, rfl, rfl⟩ (by
      rintro d y r δ c2 hy ⟨y3, rfl, rfl⟩
      have hd : d.length + 1 ≤ h := by have := congrArg List.length hy; simp at this; omega
      exact ⟨_, _, _, rfl, webB_ok J s0 s4 (by omega), some (sI (y : Int)), by rw [List.length_append, List.length_singleton], rfl⟩)
  refine ⟨y3, ?_⟩
  rw [List.length_range] at e
  exact e
theorem many_t {i : Nat} (h0 : 0 < i) (h4 : i < 4) : d_is_many [.d (.int i)] c = .ok (.d (.bl true)) c := by
  rw [is_many_int]
  have a : decide ((0 : Int) < i) = true := by simp; omega
  have b : decide ((i : Int) < 4) = true := by simp; omega
  rw [a, b]
  rfl
theorem all_webs_ok {h : Nat} (J : Junk 1 c) (s0 : 0 < s) (s4 : s < 4) (h0 : 0 < h) (h4 : h < 4) : dA_all_webs [.d (.int s), .d (.int h)] c = .ok (.c c.length) (c ++ [.lst ((DD s h).map (wb s))]) ∧ d_all_webs [.d (.int s), .d (.int h)] c = .ok (.d (.lst ((DD s h).map (wb s)))) c := by
  obtain ⟨y3, e⟩ := found_ok J s0 s4 h0 h4
  have ds := DD_small s0 s4 (n := h) (by omega)
  have t1 : ∀ {δ : Sl}, δ[0]? = some (some (.d (.int s))) → mtNot (mTB (mBlt d_is_many (mCons (mVar 0) mNil))) δ c = .ok false c := fun hd => (tnot_ok (tb_ok (blt (a1 (vr hd)) (many_t s0 s4)))).trans rfl
  have t2 : ∀ {δ : Sl}, δ[1]? = some (some (.d (.int h))) → mtNot (mTB (mBlt d_is_many (mCons (mVar 1) mNil))) δ c = .ok false c := fun hd => (tnot_ok (tb_ok (blt (a1 (vr hd)) (many_t h0 h4)))).trans rfl
  have mk : ∀ ls ∈ DD s h, ∀ acc, ∃ δ1, gtName 4 (.d (lotsD ls)) (c ++ [.lst acc]) (wipeD (s6 s h (some (.d (lotss (DD s h)))) y3 none none) [4]) = some δ1 ∧ mMake 0 2 d_Web_init (mCons (mVar 0) (mCons (mVar 4) mNil)) δ1 (c ++ [.lst acc]) = .ok (.d (wb s ls)) (c ++ [.lst acc]) := fun ls hls acc =>
    ⟨_, rfl, make_web (DD_W s0 s4 h0 h4 hls) (lots_data ls) (a2 (vr rfl) (a1 (vr rfl)))⟩
  constructor
  · exact fnA_rt rfl (seq_go (if_no (t1 rfl)) (seq_go (if_no (t2 rfl)) (seq_go (set_ok rfl) (seq_go e (ret_ok (compK (DD s h) (fun ls => S.d (lotsD ls)) (wb s) (seq_lotss (vr rfl)) (small_size (by omega)) mk))))))
  · exact fn_rt rfl (seq_go (if_no (t1 rfl)) (seq_go (if_no (t2 rfl)) (seq_go (set_ok rfl) (seq_go e (ret_ok (compM (DD s h) (fun ls => S.d (lotsD ls)) (wb s) (seq_lotss (vr rfl)) (small_size (by omega)) mk))))))
theorem web_len {s : Int} : d_Web_len [.d (wb s ls)] c = .ok (.d (.int ls.length)) c :=
  fn_rt rfl (ret_ok (blt (a1 (attr (vr rfl) rfl rfl)) (lX1 (by simp [lenD]))))
theorem lenO_web {s : Int} (h : ls.length ≤ 3) : lenO lens [wb s ls] = some (.int ls.length) := by
  have e : d_Web_len [.d (wb s ls)] [] = .ok (.d (.int ls.length)) [] := web_len
  have hb : (0 : Int) ≤ (ls.length : Int) ∧ (ls.length : Int) < 2 ^ 63 := by omega
  unfold wb at e ⊢
  unfold lenO
  simp only [lens, look, if_true, List.length_cons, List.length_nil]
  rw [e]
  simp only
  rw [if_pos hb]
theorem web_lots {s : Int} (h : ls.length ≤ 3) : d_Web_lots [.d (wb s ls)] c = .ok (.d (lotsD ls)) c := by
  refine fn_rt rfl (ret_ok (compM ls (fun l => S.d (lotT l)) lotL (seqI (attr (vr rfl) rfl rfl) ?_) (small_size (by omega)) fun l hl acc => ⟨_, rfl, blt (a1 (vr rfl)) (lN1 rfl)⟩))
  show R.ok (Src.xs ((ls.map lotT).map S.d)) c = _
  rw [List.map_map]
  rfl
theorem lotss_ok (X : List (List (List Int))) : (lotss X).ok 60 = true := by simp [lotss, D.ok, oks_lots2 57]
theorem all_ok {h : Nat} (J : Junk 1 c) (s0 : 0 < s) (s4 : s < 4) (h0 : 0 < h) (h4 : h < 4) : d_law_all_right [.d (.int s), .d (.int h)] c = .ok (.d (.bl true)) c := by
  have ds := DD_small s0 s4 (n := h) (by omega)
  obtain ⟨δ', c', e, y3, y4, y5, rfl, rfl⟩ := for_inv (δ := s9 s h (some (.d (.lst [.lst []]))) none none none none none none) (c := c) (I := iRng (mCons (mVar 1) mNil)) (g := gtName 3) (B := outB) (List.range h) (fun (i : Nat) => sI i)
    (fun done δ c' => ∃ y3 y4 y5, δ = s9 s h (some (.d (lotss (DD s done.length)))) y3 y4 y5 none none none ∧ c' = c) (rngN_ok (a1 (vr rfl)) (by omega)) ⟨none, none, none, rfl, rfl⟩ (by
      rintro d y r δ c2 hy ⟨y3, y4, y5, rfl, rfl⟩
      have hd : d.length + 1 ≤ h := by have := congrArg List.length hy; simp at this; omega
      obtain ⟨z4, z5, e⟩ := out_ok (h := h) (m := d.length) J s0 s4 (by omega) (x3 := some (sI (y : Int))) (x4 := y4) (x5 := y5) (x6 := none) (x7 := none) (x8 := none)
      exact ⟨_, _, _, rfl, e, some (sI (y : Int)), z4, z5, by rw [List.length_append, List.length_singleton], rfl⟩)
  rw [List.length_range] at e
  have Jn : Junk 1 (c' ++ [CC.lst ((DD s h).map (wb s))]) := J.app rfl
  have Jm : Junk 1 ((c' ++ [CC.lst ((DD s h).map (wb s))]).set c'.length (.lst [])) := Jn.set J.len rfl
  have cl : ∀ acc, cellL c'.length (c' ++ [CC.lst ((DD s h).map (wb s))] ++ [.lst acc]) = some ((DD s h).map fun ls => S.d (wb s ls)) := fun acc => cellL_app (by
    unfold cellL
    have : (c' ++ [CC.lst ((DD s h).map (wb s))])[c'.length]? = some (CC.lst ((DD s h).map (wb s))) := by simp
    rw [this]
    simp only [List.map_map]
    rfl)
  have cI : ∀ {δ : Sl}, δ[6]? = some (some (.c c'.length)) → iSeq (mVar 6) δ (c' ++ [CC.lst ((DD s h).map (wb s))]) = .ok (.cell c'.length) (c' ++ [CC.lst ((DD s h).map (wb s))]) := fun hd => by
    unfold iSeq
    rw [vr hd]
    simp only [bind_ok, items]
    have : (c' ++ [CC.lst ((DD s h).map (wb s))])[c'.length]? = some (CC.lst ((DD s h).map (wb s))) := by simp
    unfold cellL
    rw [this]
  have ll : ∀ ls ∈ DD s h, ls.length = h := fun ls hm => (DD_ok s0 s4 h ls hm).1
  have body : b_law_all_right [some (.d (.int s)), some (.d (.int h)), none, none, none, none, none, none, none] c' = .rt (.d (.bl true)) ((c' ++ [CC.lst ((DD s h).map (wb s))]).set c'.length (.lst [])) := by
    refine seq_go (set_ok rfl) (seq_go e (seq_go (set_ok (blt (a2 (vr rfl) (a1 (vr rfl))) (all_webs_ok J s0 s4 h0 h4).1)) (seq_go (if_no (tor_no (c' := c' ++ [CC.lst ((DD s h).map (wb s))]) ?_ ?_)) (seq_go (if_no ?_) (seq_go (expr_ok (clear_ok (vr rfl) (x := .lst ((DD s h).map (wb s))) (by simp) (.inl ⟨_, rfl⟩))) (ret_ok ?_))))))
    · refine (tnot_ok (tb_ok (b := true) ?_)).trans rfl
      unfold mIsi
      rw [vr (s := .c c'.length) rfl]
      have : (c' ++ [CC.lst ((DD s h).map (wb s))])[c'.length]? = some (CC.lst ((DD s h).map (wb s))) := by simp
      simp only [bind_ok, askD, topD, deref, this]
      rfl
    · refine (tb_ok (bin (compMC (DD s h) (fun ls => S.d (wb s ls)) lotsD (cI rfl) cl (small_size (by omega)) fun ls hls acc => ⟨_, rfl, meth (vr rfl) rfl rfl (web_lots (by rw [ll ls hls]; omega))⟩) (vr rfl) (eqY_plain (lotss_ok (DD s h)) (lotss_ok (DD s h))))).trans ?_
      simp [lotss, eqD, eqDs_lots2]
    · refine (tb_ok (bin (compNone (DD s h) (fun ls => S.d (wb s ls)) (cI rfl) (cl []) fun ls hls => ⟨_, rfl, tor_no (c' := c' ++ [CC.lst ((DD s h).map (wb s))] ++ [.lst []]) ((tb_ok (bin (attr (vr rfl) rfl rfl) (vr rfl) (eqY_plain (x := .int s) (y := .int s) rfl rfl))).trans (by simp [eqD])) ((tb_ok (bin (blt (a1 (vr rfl)) (lX1 (lenO_web (by rw [ll ls hls]; omega)))) (vr rfl) (eqY_plain (x := .int ls.length) (y := .int h) rfl rfl))).trans (by rw [ll ls hls]; simp [eqD]))⟩) rfl (eqY_plain (x := .lst []) (y := .lst []) rfl rfl))).trans ?_
      simp [eqD, eqDs]
    · refine (bin (blt (a1 (blt (a2 (vr rfl) (a1 (vr rfl))) (all_webs_ok Jm s0 s4 h0 h4).2)) (lX1 (d := .int (DD s h).length) ?_)) (blt (a1 (vr rfl)) (lX1 (d := .int (DD s h).length) ?_)) (eqG_int _ _)).trans (by simp)
      · show lenO lens [.lst _] = _; rw [lenO_ls, List.length_map]
      · show lenO lens [.lst _] = _; rw [lenO_ls, List.length_map]
  refine (fnG_eq rfl).trans ?_
  show exitR false c'.length (b_law_all_right [some (.d (.int s)), some (.d (.int h)), none, none, none, none, none, none, none] c') = _
  rw [body]
  simp [exitR]
end
end Dn

end
section
/-! K17_6: the law of k17. -/
namespace Dn
open PySem
abbrev lawI : MI := (iRng (mCons (mBlt (liftN max2D) (mCons (mC (.int 2)) (mCons (mBlt (liftN min2D) (mCons (mC (.int 3)) (mCons (mBlt (lenX (lenO lens)) (mCons (mVar 0) mNil)) mNil))) mNil))) mNil))
abbrev st1 : MS := (sSet 2 (mBlt d_law_box (mCons (mVar 0) (mCons (mVar 1) mNil))))
abbrev st2 : MS := (sPar 3 4 (mCons (mBin (lift2 addD) (mC (.int 1)) (mBlt d_law_take (mCons (mVar 2) (mCons (mC (.int 3)) mNil)))) (mCons (mBin (lift2 addD) (mC (.int 1)) (mBlt d_law_take (mCons (mVar 2) (mCons (mC (.int 3)) mNil)))) mNil)))
abbrev st3 : MS := (sSet 5 (mBlt d_law_lots (mCons (mVar 2) (mCons (mVar 3) (mCons (mVar 4) mNil)))))
abbrev st4 : MS := (sSet 6 (mCompS (iSeq (mVar 5)) (gtName 8) mtYes (mBlt listK (mCons (mVar 8) mNil)) [8]))
abbrev st5 : MS := (sSet 7 (mMake 0 2 d_Web_init (mCons (mVar 3) (mCons (mVar 6) mNil))))
abbrev st6 : MS := (sExpr (mAppendS (mBin ixS (mVar 6) (mC (.int 0))) (mCons (mC (.int 9)) mNil)))
abbrev st7 : MS := (sExpr (mAppendS (mVar 6) (mCons (mC .non) mNil)))
abbrev st8 : MS := (sIf (mtOr (mPT nT (mtNot (mTB (mBlt d_law_right (mCons (mVar 7) (mCons (mVar 3) (mCons (mVar 5) mNil))))))) (mtNot (mTB (mBlt d_law_equal_right (mCons (mVar 2) (mCons (mVar 7) (mCons (mVar 3) (mCons (mVar 5) mNil)))))))) (sRet (mC (.bl false))) sNil)
abbrev st9 : MS := (sExpr (mAppendS (mBin ixS (mMeth tA_lots (mVar 7) mNil) (mC (.int 0))) (mCons (mC (.int 7)) mNil)))
abbrev st10 : MS := (sExpr (mClear (mMeth tA_lots (mVar 7) mNil)))
abbrev st11 : MS := (sExpr (mAppendS (mMeth tA_links (mVar 7) mNil) (mCons (mC .non) mNil)))
abbrev st12 : MS := (sIf (mPT nT (mtOr (mtNot (mTB (mBlt d_law_right (mCons (mVar 7) (mCons (mVar 3) (mCons (mVar 5) mNil)))))) (mtNot (mTB (mBlt d_law_named_right (mCons (mVar 3) (mCons (mVar 4) mNil))))))) (sRet (mC (.bl false))) sNil)
abbrev st13 : MS := (sIf (mPT nT (mtAnd (mTB (mBin (eqG eqs kEq 4) (mVar 1) (mC (.int 0)))) (mtNot (mTB (mBlt d_law_all_right (mCons (mVar 3) (mCons (mVar 4) mNil))))))) (sRet (mC (.bl false))) sNil)
abbrev turnB : MS := sSeq st1 (sSeq st2 (sSeq st3 (sSeq st4 (sSeq st5 (sSeq st6 (sSeq st7 (sSeq st8 (sSeq st9 (sSeq st10 (sSeq st11 (sSeq st12 (st13))))))))))))

section
variable {δ : Sl} {c cb : Cs} {s n N : Nat} {ls : List (List Int)} {ns : List Int}
theorem in13 (h0 : 0 < s) (h4 : s < 4) : s ∈ [1, 2, 3] := by
  have hs : s = 1 ∨ s = 2 ∨ s = 3 := by omega
  rcases hs with rfl | rfl | rfl <;> simp
theorem right_ok (h : WOk s ls) : d_law_right [.d (wb s ls), .d (.int s), .d (lotsD ls)] (tbs 1) = .ok (.d (.bl true)) (tbs 1) := by
  have h0 := h.lo
  have h4 := h.hi
  exact isV_eq (all_webs (P := chkW) chkW_ok (by omega) ⟨h.l1, h.l3⟩ h.ok)
theorem named_ok (h0 : 0 < s) (h4 : s < 4) (n0 : 0 < n) (n4 : n < 4) : d_law_named_right [.d (.int s), .d (.int n)] (tbs 1) = .ok (.d (.bl true)) (tbs 1) := isV_eq (chkN_ok s (in13 h0 h4) n (in13 n0 n4))
theorem allr_ok (h0 : 0 < s) (h4 : s < 4) (n0 : 0 < n) (n4 : n < 4) : d_law_all_right [.d (.int s), .d (.int n)] (tbs 1) = .ok (.d (.bl true)) (tbs 1) := all_ok (Junk.tbs 1) h0 h4 n0 n4
abbrev cells (ls : List (List Int)) (L : Nat) : Cs := ls.map (fun l => CC.lst (l.map D.int)) ++ [.lS ((List.range' L ls.length).map S.c)]
theorem cells_junk {L : Nat} : ∀ y ∈ cells ls L, canHide y = true := fun y hy => by
  rcases List.mem_append.mp hy with z | z
  · obtain ⟨l, _, rfl⟩ := List.mem_map.mp z; rfl
  · rw [List.mem_singleton.mp z]; rfl
theorem cells_top {L : Nat} : (cb ++ cells ls L)[cb.length + ls.length]? = some (.lS ((List.range' L ls.length).map S.c)) := by
  rw [List.getElem?_append_right (by omega)]
  have : cb.length + ls.length - cb.length = (ls.map (fun l => CC.lst (l.map D.int))).length := by simp
  rw [this, List.getElem?_append_right (Nat.le_refl _)]
  simp
theorem cells_0 {l : List Int} {L : Nat} : (cb ++ cells (l :: ls) L)[cb.length]? = some (.lst (l.map D.int)) := by
  rw [List.getElem?_append_right (Nat.le_refl _)]
  simp
theorem cells_ix {l : List Int} : ixS (.c (cb.length + (l :: ls).length)) (.d (.int 0)) (cb ++ cells (l :: ls) cb.length) = .ok (.c cb.length) (cb ++ cells (l :: ls) cb.length) := by
  have e : L2.atI ((List.range' cb.length (l :: ls).length).map S.c) (0 : Int) = some (.c cb.length) := (atI_nat (n := 0) (by simp)).trans (by simp)
  unfold ixS
  simp only [cells_top, e]
theorem if_no' {C : MT} {m : MS} {c' : Cs} (h : C δ c = .ok false c') : sIf C m sNil δ c = .nx δ c' := if_f h
theorem small_line {m : Nat} (h : m ≤ 100) : m < sizeLine := Nat.lt_of_le_of_lt h (by decide)
theorem turn_ok {k : Nat} (hk : k ≤ 3) (J : Junk 1 c) {x2 x3 x4 x5 x6 x7 x8 : Option S} : ∃ y2 y3 y4 y5 y6 y7 y8 c', turnB [some (.d (.scr ns)), some (.d (.int k)), x2, x3, x4, x5, x6, x7, x8] c = .nx [some (.d (.scr ns)), some (.d (.int k)), y2, y3, y4, y5, y6, y7, y8] c' ∧ Junk 1 c' := by
  have hc1 : 1 ≤ c.length := J.len
  obtain ⟨xs, e0, b0⟩ := box_ok (c := c) (ns := ns) hk
  have hcb : c.length < (c ++ [CC.lst xs]).length := by simp
  have hb0 : BxAt (c ++ [.lst xs]) c.length 0 (c ++ [.lst xs]) := ⟨xs, by simp, b0⟩
  obtain ⟨v, c2, e2, v0, v3, hb2⟩ := take_at (e := []) (m := 3) hcb hb0 (by omega) (by omega)
  obtain ⟨w, c3, e3, w0, w3, hb3⟩ := take_at (e := []) (m := 3) hcb hb2 (by omega) (by omega)
  simp only [List.append_nil] at e2 e3
  obtain ⟨s, rfl⟩ : ∃ s : Nat, v = (s : Int) - 1 := ⟨(v + 1).toNat, by omega⟩
  obtain ⟨h, rfl⟩ : ∃ h : Nat, w = (h : Int) - 1 := ⟨(w + 1).toNat, by omega⟩
  have s0 : 0 < s := by omega
  have s4 : s < 4 := by omega
  have h0 : 0 < h := by omega
  have h4 : h < 4 := by omega
  have a1s : lift2 addD (.d (.int 1)) (.d (.int ((s : Int) - 1))) c2 = .ok (.d (.int s)) c2 := l2 (by simp only [addD]; congr 2; omega)
  have a1h : lift2 addD (.d (.int 1)) (.d (.int ((h : Int) - 1))) c3 = .ok (.d (.int h)) c3 := l2 (by simp only [addD]; congr 2; omega)
  obtain ⟨xs3, ec3, bx3⟩ := id hb3
  have hn3 : c3[c.length]? = some (.lst xs3) := by rw [ec3, List.getElem?_set_self hcb]
  obtain ⟨ls, c4, e4, l1, lok, hb4⟩ := draw_lots (c := c3) (s := s) (h := h) ⟨s0, s4⟩ (by omega) hn3 bx3 (by omega)
  obtain ⟨xs4, ec4, bx4⟩ := id hb4
  have hl3 : c3.length = (c ++ [CC.lst xs]).length := hb3.len
  have hl4 : c4.length = c3.length := hb4.len
  have hc4 : c.length < c4.length := by rw [hl4, hl3]; exact hcb
  have hn4 : c4[c.length]? = some (.lst xs4) := by rw [ec4, List.getElem?_set_self (by rw [hl3]; exact hcb)]
  have J4 : Junk 1 c4 := by
    rw [ec4, ec3]
    exact ((J.app rfl).set hc1 rfl).set hc1 rfl
  have W : WOk s ls := ⟨by omega, by omega, by omega, by omega, lok⟩
  have lsm : ∀ l ∈ ls, l.length ≤ 10 := fun l hl => by have := (lok l hl).len (by omega); omega
  obtain ⟨l, r, rfl⟩ : ∃ l r, ls = l :: r := by
    cases ls with
    | nil => simp at l1; omega
    | cons l r => exact ⟨l, r, rfl⟩
  have ll : (l.map D.int).length < sizeLine := by rw [List.length_map]; exact small_line (by have := lsm l List.mem_cons_self; omega)
  have lr : ((List.range' c4.length (l :: r).length).map S.c).length < sizeLine := by simp only [List.length_map, List.length_range']; exact small_line (by omega)
  -- handed
  have f4 : ∀ {x6 x7 x8 : Option S}, st4 [some (.d (.scr ns)), some (.d (.int k)), some (.c c.length), some (.d (.int s)), some (.d (.int h)), some (.d (lotsD (l :: r))), x6, x7, x8] c4 = .nx [some (.d (.scr ns)), some (.d (.int k)), some (.c c.length), some (.d (.int s)), some (.d (.int h)), some (.d (lotsD (l :: r))), some (.c (c4.length + (l :: r).length)), x7, x8] (c4 ++ cells (l :: r) c4.length) := by
    intro x6 x7 x8
    refine set_ok ((compS_new (l :: r) (fun l => .d (lotL l)) (fun l => l.map D.int) (seqI (vr rfl) ?_) (small_size (by omega)) fun l hl c' => ⟨_, rfl, blt (a1 (vr rfl)) (listK_d (by rw [List.length_map]; exact small_size (by have := lsm l hl; omega))).1⟩).trans (by rw [List.append_assoc]))
    show R.ok (Src.xs (((l :: r).map lotL).map S.d)) _ = _
    rw [List.map_map]
    rfl
  have hlots : LotsAt (c4 ++ cells (l :: r) c4.length) (.c (c4.length + (l :: r).length)) (l :: r) := by
    have := lots_cells (cb := c4) (ls := l :: r) c4.length rfl
    rwa [List.append_assoc] at this
  obtain ⟨c6, hc6⟩ : ∃ c6, c6 = (c4 ++ cells (l :: r) c4.length).set c4.length (.lst (l.map D.int ++ [.int 9])) := ⟨_, rfl⟩
  have J6 : Junk 1 c6 := by rw [hc6]; exact (J4.apps cells_junk).set (by omega) rfl
  have hn6 : c6[c4.length + (l :: r).length]? = some (.lS ((List.range' c4.length (l :: r).length).map S.c)) := by
    rw [hc6, List.getElem?_set_ne (by simp only [List.length_cons]; omega)]
    exact cells_top
  obtain ⟨c7, hc7⟩ : ∃ c7, c7 = c6.set (c4.length + (l :: r).length) (.lS ((List.range' c4.length (l :: r).length).map S.c ++ [.d .non])) := ⟨_, rfl⟩
  have J7 : Junk 1 c7 := by rw [hc7]; exact J6.set (by omega) rfl
  have hn7 : c7[c.length]? = some (.lst xs4) := by
    rw [hc7, List.getElem?_set_ne (by omega), hc6, List.getElem?_set_ne (by omega), List.getElem?_append_left hc4]
    exact hn4
  obtain ⟨c8, e8, J8, _⟩ := equal_ok (N := 14) W J7 hc1 hn7 (bx4.mono (by omega)) (by omega)
  -- told
  have t8 : dA_Web_lots [.d (wb s (l :: r))] c8 = .ok (.c (c8.length + (l :: r).length)) (c8 ++ cells (l :: r) c8.length) := (toldLots (by omega) lsm).trans (by rw [List.append_assoc])
  obtain ⟨c9, hc9⟩ : ∃ c9, c9 = (c8 ++ cells (l :: r) c8.length).set c8.length (.lst (l.map D.int ++ [.int 7])) := ⟨_, rfl⟩
  have J9 : Junk 1 c9 := by rw [hc9]; exact (J8.apps cells_junk).set J8.len rfl
  have t9 : dA_Web_lots [.d (wb s (l :: r))] c9 = .ok (.c (c9.length + (l :: r).length)) (c9 ++ cells (l :: r) c9.length) := (toldLots (by omega) lsm).trans (by rw [List.append_assoc])
  obtain ⟨c10, hc10⟩ : ∃ c10, c10 = (c9 ++ cells (l :: r) c9.length).set (c9.length + (l :: r).length) (.lst []) := ⟨_, rfl⟩
  have J10 : Junk 1 c10 := by rw [hc10]; exact (J9.apps cells_junk).set (by have := J9.len; omega) rfl
  have t10 : dA_Web_links [.d (wb s (l :: r))] c10 = .ok (.c c10.length) (c10 ++ [.lst (sortL ((lnk 0 (l :: r)).map pr))]) := toldLinks (by omega) lsm
  have lk : (sortL ((lnk 0 (l :: r)).map pr)).length < sizeLine := by
    rw [sortL_merge, List.length_mergeSort, List.length_map]
    have := lnk_len 0 (l :: r) lsm
    exact small_line (by omega)
  obtain ⟨c11, hc11⟩ : ∃ c11, c11 = (c10 ++ [CC.lst (sortL ((lnk 0 (l :: r)).map pr))]).set c10.length (.lst (sortL ((lnk 0 (l :: r)).map pr) ++ [.non])) := ⟨_, rfl⟩
  have J11 : Junk 1 c11 := by rw [hc11]; exact (J10.app rfl).set J10.len rfl
  have hn11 : (c10 ++ [CC.lst (sortL ((lnk 0 (l :: r)).map pr))])[c10.length]? = some (CC.lst (sortL ((lnk 0 (l :: r)).map pr))) := by simp
  refine ⟨some (.c c.length), some (.d (.int s)), some (.d (.int h)), some (.d (lotsD (l :: r))), some (.c (c4.length + (l :: r).length)), some (.d (wb s (l :: r))), x8, c11, seq_go (set_ok (blt (a2 (vr rfl) (a1 (vr rfl))) e0)) (seq_go (par_ok (a2 (bin rfl (blt (a2 (vr rfl) (a1 rfl)) e2) a1s) (a1 (bin rfl (blt (a2 (vr rfl) (a1 rfl)) e3) a1h)))) (seq_go (set_ok (blt (a2 (vr rfl) (a2 (vr rfl) (a1 (vr rfl)))) e4)) (seq_go f4 (seq_go (set_ok (make_web W hlots (a2 (vr rfl) (a1 (vr rfl))))) (seq_go (expr_ok (appS_ok (bin (vr rfl) rfl cells_ix) cells_0 (a1 rfl) ll)) (seq_go (expr_ok (s := .d .non) (c' := c7) ?g7) (seq_go (if_no' (c' := c8) ?g8) (seq_go (expr_ok (appS_ok (bin (meth (vr rfl) rfl rfl t8) rfl cells_ix) cells_0 (a1 rfl) ll)) (seq_go (expr_ok (s := .d .non) (c' := c10) ?g10) (seq_go (expr_ok (s := .d .non) (c' := c11) ?g11) (seq_go (if_no' (c' := c11) ?g12) (if_no' ?g13)))))))))))), ?J⟩
  case g7 => rw [hc7, ← hc6]; exact appS_okS (vr rfl) hn6 (a1 rfl) lr
  case g8 =>
    exact (tor_no (pure_b J7 ((tnot_ok (tb_ok (blt (a2 (vr rfl) (a2 (vr rfl) (a1 (vr rfl)))) (right_ok W)))).trans rfl)) ((tnot_ok (tb_ok (blt (a2 (vr rfl) (a2 (vr rfl) (a2 (vr rfl) (a1 (vr rfl))))) e8))).trans rfl))
  case g10 => rw [hc10, ← hc9]; exact clear_ok (meth (vr rfl) rfl rfl t9) cells_top (.inr ⟨_, rfl⟩)
  case g11 => rw [hc11]; exact appS_ok (meth (vr rfl) rfl rfl t10) hn11 (a1 rfl) lk
  case g12 => exact (pure_b J11 (tor_no ((tnot_ok (tb_ok (blt (a2 (vr rfl) (a2 (vr rfl) (a1 (vr rfl)))) (right_ok W)))).trans rfl) ((tnot_ok (tb_ok (blt (a2 (vr rfl) (a1 (vr rfl))) (named_ok s0 s4 h0 h4)))).trans rfl)))
  case g13 =>
    refine (pure_b J11 ?_)
    have ek : mTB (mBin (eqG eqs kEq 4) (mVar 1) (mC (.int 0))) (dataSl [some (.d (.scr ns)), some (.d (.int k)), some (.c c.length), some (.d (.int s)), some (.d (.int h)), some (.d (lotsD (l :: r))), some (.c (c4.length + (l :: r).length)), some (.d (wb s (l :: r))), x8]) (tbs 1) = .ok ((k : Int) == 0) (tbs 1) := tb_ok (bin (vr rfl) rfl (eqG_int _ _))
    cases hk0 : ((k : Int) == 0) with
    | true => exact tand_t (c' := tbs 1) (ek.trans (by rw [hk0])) ((tnot_ok (tb_ok (blt (a2 (vr rfl) (a1 (vr rfl))) (allr_ok s0 s4 h0 h4)))).trans rfl)
    | false => exact tand_no (ek.trans (by rw [hk0]))
  case J => exact J11
theorem law_true' : LawTrueT nT d_law := by
  intro ns hl _
  have hI : lawI [some (.d (.scr ns)), none, none, none, none, none, none, none, none] (tbs 1) = .ok (.xs ((List.range (max 2 (min 3 ns.length))).map fun (i : Nat) => sI i)) (tbs 1) := by
    have emin : liftN min2D [.d (.int 3), .d (.int (ns.length : Int))] (tbs 1) = .ok (.d (.int ((min 3 ns.length : Nat) : Int))) (tbs 1) := by
      have : (if (ns.length : Int) < 3 then (ns.length : Int) else 3) = ((min 3 ns.length : Nat) : Int) := by
        by_cases hq : (ns.length : Int) < 3
        · rw [if_pos hq]; omega
        · rw [if_neg hq]; omega
      simp only [liftN, derefs, deref, min2D, this]
    have emax : liftN max2D [.d (.int 2), .d (.int ((min 3 ns.length : Nat) : Int))] (tbs 1) = .ok (.d (.int ((max 2 (min 3 ns.length) : Nat) : Int))) (tbs 1) := by
      have : (if ((min 3 ns.length : Nat) : Int) > 2 then ((min 3 ns.length : Nat) : Int) else 2) = ((max 2 (min 3 ns.length) : Nat) : Int) := by
        by_cases hq : ((min 3 ns.length : Nat) : Int) > 2
        · rw [if_pos hq]; omega
        · rw [if_neg hq]; omega
      simp only [liftN, derefs, deref, max2D, this]
    exact rngN_ok (a1 (blt (a2 rfl (a1 (blt (a2 rfl (a1 (blt (a1 (vr rfl)) (lX1 (g := lenO lens) (d := .int ns.length) rfl)))) emin))) emax)) (by omega)
  obtain ⟨δ', c', e, y1, y2, y3, y4, y5, y6, y7, y8, rfl, J⟩ := for_inv (δ := [some (.d (.scr ns)), none, none, none, none, none, none, none, none]) (c := tbs 1) (I := lawI) (g := gtName 1) (B := turnB) (List.range (max 2 (min 3 ns.length))) (fun (i : Nat) => sI i)
    (fun _ δ c' => ∃ y1 y2 y3 y4 y5 y6 y7 y8, δ = [some (.d (.scr ns)), y1, y2, y3, y4, y5, y6, y7, y8] ∧ Junk 1 c') hI ⟨none, none, none, none, none, none, none, none, rfl, Junk.tbs 1⟩ (by
      rintro d i r δ c2 hy ⟨y1, y2, y3, y4, y5, y6, y7, y8, rfl, J⟩
      have hi : i < max 2 (min 3 ns.length) := List.mem_range.mp (by rw [hy]; simp)
      obtain ⟨z2, z3, z4, z5, z6, z7, z8, c3, e, J3⟩ := turn_ok (c := c2) (ns := ns) (k := i) (by omega) J (x2 := y2) (x3 := y3) (x4 := y4) (x5 := y5) (x6 := y6) (x7 := y7) (x8 := y8)
      exact ⟨_, _, c3, rfl, e, some (.d (.int i)), z2, z3, z4, z5, z6, z7, z8, rfl, J3⟩)
  have body : b_law [some (.d (.scr ns)), none, none, none, none, none, none, none, none] (tbs 1) = .rt (.d (.bl true)) c' := seq_go e rfl
  refine (fnG_eq rfl).trans ?_
  show exitR false 1 (b_law [some (.d (.scr ns)), none, none, none, none, none, none, none, none] (tbs 1)) = _
  rw [body]
  simp [exitR, J.take]
end
end Dn

end
theorem Dn.law_true : Dn.LawTrueT Dn.nT Dn.d_law := Dn.law_true'
set_option maxHeartbeats 4000000
/-! the walks of law_k17_webs_told, printed by gen.py -/
namespace Dn
open PySem PySem.Spec PyProof.Rows L2
def top (i : Nat) : Stmt := PySem.Challenge.pw_tellsmore_k17_webs_told.main.body.getD i (.Pass ⟨0, 0, 0, 0⟩)
abbrev s_is_number : Stmt := top 13
abbrev s_parts_of : Stmt := top 11
abbrev s_Ratio_eq : Stmt := inClass (top 12) 10
abbrev s_Telling_eq : Stmt := inClass (top 28) 1
abbrev s_Web_eq : Stmt := inClass (top 33) 1
abbrev s_law_all_lots : Stmt := top 45
abbrev s_all_lots : Stmt := top 37
abbrev s_is_integer : Stmt := top 22
abbrev s_is_place : Stmt := top 23
abbrev s_is_many : Stmt := top 30
abbrev s_Web_len : Stmt := inClass (top 33) 2
abbrev s_is_lot : Stmt := top 31
abbrev s_are_lots : Stmt := top 32
abbrev s_Web_init : Stmt := inClass (top 33) 0
abbrev s_all_webs : Stmt := top 38
abbrev s_Web_lots : Stmt := inClass (top 33) 5
abbrev s_law_all_right : Stmt := top 48
abbrev s_law_box : Stmt := top 40
abbrev s_law_take : Stmt := top 41
abbrev s_law_lots : Stmt := top 42
abbrev s_Ratio_init : Stmt := inClass (top 12) 0
abbrev s_as_ratio : Stmt := top 14
abbrev s_Ratio_below : Stmt := inClass (top 12) 13
abbrev s_is_share_list : Stmt := top 16
abbrev s_Ratio_add : Stmt := inClass (top 12) 3
abbrev s_total : Stmt := top 15
abbrev s_are_chances : Stmt := top 17
abbrev s_are_lines : Stmt := top 26
abbrev s_product_of : Stmt := top 24
abbrev s_are_marks : Stmt := top 25
abbrev s_Telling_init : Stmt := inClass (top 28) 0
abbrev s_law_equal_right : Stmt := top 46
abbrev s_law_links : Stmt := top 43
abbrev s_Web_links : Stmt := inClass (top 33) 6
abbrev s_law_right : Stmt := top 44
abbrev s_full_web : Stmt := top 35
abbrev s_own_web : Stmt := top 34
abbrev s_time_web : Stmt := top 36
abbrev s_law_named_right : Stmt := top 47
abbrev s_law : Stmt := top 49
abbrev s_InvalidLot_init : Stmt := inClass (top 9) 0
abbrev s_InvalidSeat_init : Stmt := inClass (top 7) 0
abbrev s_InvalidChances_init : Stmt := inClass (top 6) 0
abbrev s_InvalidMarks_init : Stmt := inClass (top 8) 0
abbrev s_InvalidNumber_init : Stmt := inClass (top 5) 0
abbrev s_Ratio_bottom : Stmt := inClass (top 12) 2
abbrev s_Ratio_top : Stmt := inClass (top 12) 1
structure Txt (K : PySem.W.Frag) (mg : Str → Option Value) (T : Tb) : Prop where
  hT : K = T.K
  hx : T.x = none
  g_TellError : mg "TellError" = some (.ref (T.cl 12))
  g_ByZero : mg "ByZero" = some (.ref (T.cl 13))
  g_InvalidNumber : mg "InvalidNumber" = some (.ref (T.cl 20))
  g_InvalidChances : mg "InvalidChances" = some (.ref (T.cl 22))
  g_InvalidSeat : mg "InvalidSeat" = some (.ref (T.cl 27))
  g_InvalidMarks : mg "InvalidMarks" = some (.ref (T.cl 21))
  g_InvalidLot : mg "InvalidLot" = some (.ref (T.cl 26))
  g_Ratio : mg "Ratio" = some (.ref (T.cl 1))
  g_Telling : mg "Telling" = some (.ref (T.cl 2))
  g_Web : mg "Web" = some (.ref (T.cl 0))
  g_MOST_ROWS : ∃ t, mg "MOST_ROWS" = some (.int 64 t)
  g_MOST_SEATS : ∃ t, mg "MOST_SEATS" = some (.int 3 t)
  g_MOST_STATES : ∃ t, mg "MOST_STATES" = some (.int 4 t)
  n_abs : mg "abs" = none
  n_all : mg "all" = none
  n_any : mg "any" = none
  n_bool : mg "bool" = none
  n_enumerate : mg "enumerate" = none
  n_int : mg "int" = none
  n_isinstance : mg "isinstance" = none
  n_len : mg "len" = none
  n_list : mg "list" = none
  n_max : mg "max" = none
  n_min : mg "min" = none
  n_range : mg "range" = none
  n_sorted : mg "sorted" = none
  n_sum : mg "sum" = none
  n_tuple : mg "tuple" = none
  y_Ratio : Cls K (T.cl 1)
  l_Ratio : (T.fl 1).length = 2
  y_Telling : Cls K (T.cl 2)
  l_Telling : (T.fl 2).length = 4
  y_Web : Cls K (T.cl 0)
  l_Web : (T.fl 0).length = 2
  f__bottom : FldsAt K T "_bottom" f__bottom
  f__top : FldsAt K T "_top" f__top
  f_heard_lots : FldsAt K T "heard_lots" f_heard_lots
  f_marks : FldsAt K T "marks" f_marks
  f_seats : FldsAt K T "seats" f_seats
  f_states : FldsAt K T "states" f_states
  f_table : FldsAt K T "table" f_table
  k_Ratio : KindsOk K T (fun t => PySem.W.kitOne K t (.ref (T.cl 1))) k_Ratio
  k_Telling : KindsOk K T (fun t => PySem.W.kitOne K t (.ref (T.cl 2))) k_Telling
  k_Web : KindsOk K T (fun t => PySem.W.kitOne K t (.ref (T.cl 0))) k_Web
  k_bool : KindsOk K T (fun t => PySem.W.kitOne K t (.type "bool")) k_bool
  k_int : KindsOk K T (fun t => PySem.W.kitOne K t (.type "int")) k_int
  k_int_Ratio : KindsOk K T (fun t => PySem.W.kitAny K t [(.type "int"), (.ref (T.cl 1))]) k_int_Ratio
  k_list : KindsOk K T (fun t => PySem.W.kitOne K t (.type "list")) k_list
  k_list_tuple : KindsOk K T (fun t => PySem.W.kitAny K t [(.type "list"), (.type "tuple")]) k_list_tuple
  o_add : OpsAt K T .Add ops_add
  nf_Ratio : KindsOk K T (fun t => some (PySem.W.notFirst K (T.cl 1) t)) kEq
  nf_Telling : KindsOk K T (fun t => some (PySem.W.notFirst K (T.cl 2) t)) kEq
  nf_Web : KindsOk K T (fun t => some (PySem.W.notFirst K (T.cl 0) t)) kEq
  e_ByZero : ∀ X : Cx, X.K = K → X.mg = mg → ExcAt X T "ByZero" 13 [.type "ValueError", .type "Exception", .type "BaseException", .type "object"] "ValueError.__new__"
  le : Lends K (T.cl 12)
  xi_InvalidNumber : ∃ f fd, Fun K "__init__" "InvalidNumber.__init__" s_InvalidNumber_init f fd ∧ PySem.W.findIn K (.ref (T.cl 20)) "__init__" = some (some (.ref f)) ∧ PySem.W.typeIn K (.ref f) = some (.type "function") ∧ Binds K fd ["self", "given"] []
  xo_InvalidNumber : OexC K (T.cl 20)
  xn_InvalidNumber : PySem.W.findIn K (.ref (T.cl 20)) "given" = some none
  xl_InvalidNumber : T.fl 20 = (["given"] : List Str)
  xi_InvalidChances : ∃ f fd, Fun K "__init__" "InvalidChances.__init__" s_InvalidChances_init f fd ∧ PySem.W.findIn K (.ref (T.cl 22)) "__init__" = some (some (.ref f)) ∧ PySem.W.typeIn K (.ref f) = some (.type "function") ∧ Binds K fd ["self", "given"] []
  xo_InvalidChances : OexC K (T.cl 22)
  xn_InvalidChances : PySem.W.findIn K (.ref (T.cl 22)) "given" = some none
  xl_InvalidChances : T.fl 22 = (["given"] : List Str)
  xi_InvalidSeat : ∃ f fd, Fun K "__init__" "InvalidSeat.__init__" s_InvalidSeat_init f fd ∧ PySem.W.findIn K (.ref (T.cl 27)) "__init__" = some (some (.ref f)) ∧ PySem.W.typeIn K (.ref f) = some (.type "function") ∧ Binds K fd ["self", "given"] []
  xo_InvalidSeat : OexC K (T.cl 27)
  xn_InvalidSeat : PySem.W.findIn K (.ref (T.cl 27)) "given" = some none
  xl_InvalidSeat : T.fl 27 = (["given"] : List Str)
  xi_InvalidMarks : ∃ f fd, Fun K "__init__" "InvalidMarks.__init__" s_InvalidMarks_init f fd ∧ PySem.W.findIn K (.ref (T.cl 21)) "__init__" = some (some (.ref f)) ∧ PySem.W.typeIn K (.ref f) = some (.type "function") ∧ Binds K fd ["self", "given"] []
  xo_InvalidMarks : OexC K (T.cl 21)
  xn_InvalidMarks : PySem.W.findIn K (.ref (T.cl 21)) "given" = some none
  xl_InvalidMarks : T.fl 21 = (["given"] : List Str)
  xi_InvalidLot : ∃ f fd, Fun K "__init__" "InvalidLot.__init__" s_InvalidLot_init f fd ∧ PySem.W.findIn K (.ref (T.cl 26)) "__init__" = some (some (.ref f)) ∧ PySem.W.typeIn K (.ref f) = some (.type "function") ∧ Binds K fd ["self", "given"] []
  xo_InvalidLot : OexC K (T.cl 26)
  xn_InvalidLot : PySem.W.findIn K (.ref (T.cl 26)) "given" = some none
  xl_InvalidLot : T.fl 26 = (["given"] : List Str)
  gcd : mg "gcd" = some (.builtin "math.gcd")
  p_Ratio_bottom : ∀ X : Cx, X.K = K → X.mg = mg → PropAt X T "bottom" "_bottom" 1 1
  p_Ratio_top : ∀ X : Cx, X.K = K → X.mg = mg → PropAt X T "top" "_top" 1 0
  d_is_number : DefAt K mg "is_number" s_is_number ["value"]
  d_parts_of : DefAt K mg "parts_of" s_parts_of ["number"]
  d_Ratio_eq : MDefAt K (T.cl 1) "__eq__" "Ratio.__eq__" s_Ratio_eq ["self", "other"]
  m_Ratio_eq : ("__eq__" : Str) ∉ T.fl 1
  d_Telling_eq : MDefAt K (T.cl 2) "__eq__" "Telling.__eq__" s_Telling_eq ["self", "other"]
  m_Telling_eq : ("__eq__" : Str) ∉ T.fl 2
  d_Web_eq : MDefAt K (T.cl 0) "__eq__" "Web.__eq__" s_Web_eq ["self", "other"]
  m_Web_eq : ("__eq__" : Str) ∉ T.fl 0
  d_law_all_lots : DefAt K mg "_law_all_lots" s_law_all_lots ["_law_seats1"]
  d_all_lots : DefAt K mg "all_lots" s_all_lots ["seats"]
  d_is_integer : DefAt K mg "is_integer" s_is_integer ["value"]
  d_is_place : DefAt K mg "is_place" s_is_place ["value", "many"]
  d_is_many : DefAt K mg "is_many" s_is_many ["value"]
  d_Web_len : MDefAt K (T.cl 0) "__len__" "Web.__len__" s_Web_len ["self"]
  m_Web_len : ("__len__" : Str) ∉ T.fl 0
  d_is_lot : DefAt K mg "is_lot" s_is_lot ["value", "seats"]
  d_are_lots : DefAt K mg "are_lots" s_are_lots ["value", "seats"]
  d_Web_init : IDefAt K (T.cl 0) "Web.__init__" s_Web_init ["self", "seats", "lots"]
  d_all_webs : DefAt K mg "all_webs" s_all_webs ["seats", "hearers"]
  d_Web_lots : MDefAt K (T.cl 0) "lots" "Web.lots" s_Web_lots ["self"]
  m_Web_lots : ("lots" : Str) ∉ T.fl 0
  d_law_all_right : DefAt K mg "_law_all_right" s_law_all_right ["_law_seats1", "_law_hearers1"]
  d_law_box : DefAt K mg "_law_box" s_law_box ["_law_script", "_law_k"]
  d_law_take : DefAt K mg "_law_take" s_law_take ["_law_box_here", "_law_many"]
  d_law_lots : DefAt K mg "_law_lots" s_law_lots ["_law_box_here", "_law_seats1", "_law_hearers1"]
  d_Ratio_init : IDefDAt K (T.cl 1) "Ratio.__init__" s_Ratio_init ["self", "top", "bottom"] 1
  d_as_ratio : DefAt K mg "as_ratio" s_as_ratio ["value"]
  d_Ratio_below : MDefAt K (T.cl 1) "below" "Ratio.below" s_Ratio_below ["self", "number"]
  m_Ratio_below : ("below" : Str) ∉ T.fl 1
  d_is_share_list : DefAtC K mg "is_share_list" s_is_share_list ["value"] (T.tb 1000)
  d_Ratio_add : MDefAt K (T.cl 1) "__add__" "Ratio.__add__" s_Ratio_add ["self", "other"]
  m_Ratio_add : ("__add__" : Str) ∉ T.fl 1
  d_total : DefAt K mg "total" s_total ["numbers"]
  d_are_chances : DefAt K mg "are_chances" s_are_chances ["value"]
  d_are_lines : DefAt K mg "are_lines" s_are_lines ["value", "many"]
  d_product_of : DefAt K mg "product_of" s_product_of ["numbers"]
  d_are_marks : DefAt K mg "are_marks" s_are_marks ["value"]
  d_Telling_init : IDefAt K (T.cl 2) "Telling.__init__" s_Telling_init ["self", "marks", "chances"]
  d_law_equal_right : DefAt K mg "_law_equal_right" s_law_equal_right ["_law_box_here", "_law_told", "_law_seats1", "_law_lots1"]
  d_law_links : DefAt K mg "_law_links" s_law_links ["_law_lots1"]
  d_Web_links : MDefAt K (T.cl 0) "links" "Web.links" s_Web_links ["self"]
  m_Web_links : ("links" : Str) ∉ T.fl 0
  d_law_right : DefAt K mg "_law_right" s_law_right ["_law_told", "_law_seats1", "_law_lots1"]
  d_full_web : DefAt K mg "full_web" s_full_web ["seats", "hearers"]
  d_own_web : DefAt K mg "own_web" s_own_web ["seats"]
  d_time_web : DefAt K mg "time_web" s_time_web ["seats"]
  d_law_named_right : DefAt K mg "_law_named_right" s_law_named_right ["_law_seats1", "_law_hearers1"]
structure TxtB (K : PySem.W.Frag) (mg : Str → Option Value) (base : Heap) (T : Tb) : Prop extends Txt K mg T where
  tb : ∀ j, j < nT → TabA base mg T j
section
variable {P : Program} {w : World} {K : PySem.W.Frag} {mg : Str → Option Value} {base : Heap} {T : Tb}
theorem sc_x_InvalidNumber : FnScope ["self", "given"] ["self", "given"] (defScope s_InvalidNumber_init) := ⟨rfl, rfl, rfl, by decide +kernel, rfl, by decide +kernel, by decide +kernel⟩
theorem xa_InvalidNumber (TX : TxtB K mg base T) : XAt P w K mg base T "InvalidNumber" 20 "given" := by
  obtain ⟨f, fd, F, iC, tI, hb⟩ := TX.xi_InvalidNumber
  exact ⟨f, fd, _, xi_ok (k := 0) F sc_x_InvalidNumber (fun f cdv A outer s H E => pss_xi rfl TX.g_TellError TX.le rfl (Or.inl rfl) rfl (Or.inl rfl)), TX.xo_InvalidNumber, iC, tI, hb, TX.g_InvalidNumber, TX.xn_InvalidNumber, TX.xl_InvalidNumber⟩
theorem sc_x_InvalidChances : FnScope ["self", "given"] ["self", "given"] (defScope s_InvalidChances_init) := ⟨rfl, rfl, rfl, by decide +kernel, rfl, by decide +kernel, by decide +kernel⟩
theorem xa_InvalidChances (TX : TxtB K mg base T) : XAt P w K mg base T "InvalidChances" 22 "given" := by
  obtain ⟨f, fd, F, iC, tI, hb⟩ := TX.xi_InvalidChances
  exact ⟨f, fd, _, xi_ok (k := 0) F sc_x_InvalidChances (fun f cdv A outer s H E => pss_xi rfl TX.g_TellError TX.le rfl (Or.inl rfl) rfl (Or.inl rfl)), TX.xo_InvalidChances, iC, tI, hb, TX.g_InvalidChances, TX.xn_InvalidChances, TX.xl_InvalidChances⟩
theorem sc_x_InvalidSeat : FnScope ["self", "given"] ["self", "given"] (defScope s_InvalidSeat_init) := ⟨rfl, rfl, rfl, by decide +kernel, rfl, by decide +kernel, by decide +kernel⟩
theorem xa_InvalidSeat (TX : TxtB K mg base T) : XAt P w K mg base T "InvalidSeat" 27 "given" := by
  obtain ⟨f, fd, F, iC, tI, hb⟩ := TX.xi_InvalidSeat
  exact ⟨f, fd, _, xi_ok (k := 0) F sc_x_InvalidSeat (fun f cdv A outer s H E => pss_xi rfl TX.g_TellError TX.le rfl (Or.inl rfl) rfl (Or.inl rfl)), TX.xo_InvalidSeat, iC, tI, hb, TX.g_InvalidSeat, TX.xn_InvalidSeat, TX.xl_InvalidSeat⟩
theorem sc_x_InvalidMarks : FnScope ["self", "given"] ["self", "given"] (defScope s_InvalidMarks_init) := ⟨rfl, rfl, rfl, by decide +kernel, rfl, by decide +kernel, by decide +kernel⟩
theorem xa_InvalidMarks (TX : TxtB K mg base T) : XAt P w K mg base T "InvalidMarks" 21 "given" := by
  obtain ⟨f, fd, F, iC, tI, hb⟩ := TX.xi_InvalidMarks
  exact ⟨f, fd, _, xi_ok (k := 0) F sc_x_InvalidMarks (fun f cdv A outer s H E => pss_xi rfl TX.g_TellError TX.le rfl (Or.inl rfl) rfl (Or.inl rfl)), TX.xo_InvalidMarks, iC, tI, hb, TX.g_InvalidMarks, TX.xn_InvalidMarks, TX.xl_InvalidMarks⟩
theorem sc_x_InvalidLot : FnScope ["self", "given"] ["self", "given"] (defScope s_InvalidLot_init) := ⟨rfl, rfl, rfl, by decide +kernel, rfl, by decide +kernel, by decide +kernel⟩
theorem xa_InvalidLot (TX : TxtB K mg base T) : XAt P w K mg base T "InvalidLot" 26 "given" := by
  obtain ⟨f, fd, F, iC, tI, hb⟩ := TX.xi_InvalidLot
  exact ⟨f, fd, _, xi_ok (k := 0) F sc_x_InvalidLot (fun f cdv A outer s H E => pss_xi rfl TX.g_TellError TX.le rfl (Or.inl rfl) rfl (Or.inl rfl)), TX.xo_InvalidLot, iC, tI, hb, TX.g_InvalidLot, TX.xn_InvalidLot, TX.xl_InvalidLot⟩
theorem sc_is_number : FnScope ["value"] ["value"] (defScope s_is_number) := ⟨rfl, rfl, rfl, by decide +kernel, rfl, by decide +kernel, by decide +kernel⟩
theorem ok_is_number (TX : TxtB K mg base T) : FnAt P w K mg base T "is_number" 1 d_is_number :=
  fn_at (kp := false) (k := 0) (N := ["value"]) (body := b_is_number) TX.d_is_number sc_is_number (fun f cdv A outer s H E hr tk => have sc := sc_is_number; (ss_cons (ds_if (dt_val (dn_isi TX.hT (pe_ty rfl TX.n_bool boot_ty_bool) (.ty "bool") TX.k_bool rfl TX.n_isinstance (vv 0))) (ss_one (ds_ret dn_bl)) ss_nil) (ss_one (ds_ret (dn_isi2 TX.hT (pe_ty rfl TX.n_int boot_ty_int) (pe_glob rfl TX.g_Ratio (show RelV (.ref _) (.ref _) from rfl)) (.ty "int") (.own _) TX.k_int_Ratio rfl TX.n_isinstance (vv 0))))))
theorem sc_parts_of : FnScope ["number"] ["number"] (defScope s_parts_of) := ⟨rfl, rfl, rfl, by decide +kernel, rfl, by decide +kernel, by decide +kernel⟩
theorem ok_parts_of (TX : TxtB K mg base T) : FnAt P w K mg base T "parts_of" 3 d_parts_of :=
  fn_at (kp := false) (k := 2) (N := ["number"]) (body := b_parts_of) TX.d_parts_of sc_parts_of (fun f cdv A outer s H E hr tk => have sc := sc_parts_of; (ss_cons (ds_if (dt_val (dn_isi TX.hT (pe_glob rfl TX.g_Ratio (show RelV (.ref _) (.ref _) from rfl)) (.own _) TX.k_Ratio rfl TX.n_isinstance (vv 0))) (ss_one (ds_ret (dn_tup (da_cons (dn_prop (TX.p_Ratio_top _ rfl rfl) (hr.mono (by decide)) (vv 0)) (da_cons (dn_prop (TX.p_Ratio_bottom _ rfl rfl) (hr.mono (by decide)) (vv 0)) da_nil))))) ss_nil) (ss_one (ds_ret (dn_tup (da_cons (vv 0) (da_cons dn_int da_nil)))))))
theorem sc_Ratio_eq : FnScope ["self", "other", "top", "bottom"] ["self", "other"] (defScope s_Ratio_eq) := ⟨rfl, rfl, rfl, by decide +kernel, rfl, by decide +kernel, by decide +kernel⟩
theorem mt_Ratio_eq (TX : TxtB K mg base T) : MethAt P w K mg base T "__eq__" 1 4 d_Ratio_eq :=
  meth_at (kp := false) (k := 3) (N := ["self", "other", "top", "bottom"]) (body := b_Ratio_eq) TX.d_Ratio_eq TX.y_Ratio TX.m_Ratio_eq sc_Ratio_eq (fun f cdv A outer s H E hr tk => have sc := sc_Ratio_eq; (ss_cons (ds_if (dt_not (dt_val (dn_call (ok_is_number TX) (hr.mono (by decide)) tk rfl (da_cons (vv 1) da_nil)))) (ss_one (ds_ret dn_bl)) ss_nil) (ss_cons (ds_asg (dn_call (ok_parts_of TX) (hr.mono (by decide)) tk rfl (da_cons (vv 1) da_nil)) (dg_tup rfl TX.hT (dgs_cons (dg_name (i := 2) sc.nd rfl (Or.inl rfl)) (dgs_cons (dg_name (i := 3) sc.nd rfl (Or.inl rfl)) dgs_nil)) (gtCons_len (gtCons_len gtNil_len)))) (ss_one (ds_ret (dn_and (dn_eq TX.hT hr (dn_attr TX.hT (vv 0) TX.f__top rfl) (vv 2)) (dn_one (dn_eq TX.hT hr (dn_attr TX.hT (vv 0) TX.f__bottom rfl) (vv 3)))))))))
theorem sc_Telling_eq : FnScope ["self", "other"] ["self", "other"] (defScope s_Telling_eq) := ⟨rfl, rfl, rfl, by decide +kernel, rfl, by decide +kernel, by decide +kernel⟩
theorem mt_Telling_eq (TX : TxtB K mg base T) : MethAt P w K mg base T "__eq__" 2 1 d_Telling_eq :=
  meth_at (kp := false) (k := 0) (N := ["self", "other"]) (body := b_Telling_eq) TX.d_Telling_eq TX.y_Telling TX.m_Telling_eq sc_Telling_eq (fun f cdv A outer s H E hr tk => have sc := sc_Telling_eq; (ss_one (ds_ret (dn_and (dn_isi TX.hT (pe_glob rfl TX.g_Telling (show RelV (.ref _) (.ref _) from rfl)) (.own _) TX.k_Telling rfl TX.n_isinstance (vv 1)) (dn_and (dn_eq TX.hT hr (dn_attr TX.hT (vv 0) TX.f_marks rfl) (dn_attr TX.hT (vv 1) TX.f_marks rfl)) (dn_one (dn_eq TX.hT hr (dn_attr TX.hT (vv 0) TX.f_table rfl) (dn_attr TX.hT (vv 1) TX.f_table rfl))))))))
theorem sc_Web_eq : FnScope ["self", "other"] ["self", "other"] (defScope s_Web_eq) := ⟨rfl, rfl, rfl, by decide +kernel, rfl, by decide +kernel, by decide +kernel⟩
theorem mt_Web_eq (TX : TxtB K mg base T) : MethAt P w K mg base T "__eq__" 0 1 d_Web_eq :=
  meth_at (kp := false) (k := 0) (N := ["self", "other"]) (body := b_Web_eq) TX.d_Web_eq TX.y_Web TX.m_Web_eq sc_Web_eq (fun f cdv A outer s H E hr tk => have sc := sc_Web_eq; (ss_one (ds_ret (dn_and (dn_isi TX.hT (pe_glob rfl TX.g_Web (show RelV (.ref _) (.ref _) from rfl)) (.own _) TX.k_Web rfl TX.n_isinstance (vv 1)) (dn_and (dn_eq TX.hT hr (dn_attr TX.hT (vv 0) TX.f_seats rfl) (dn_attr TX.hT (vv 1) TX.f_seats rfl)) (dn_one (dn_eq TX.hT hr (dn_attr TX.hT (vv 0) TX.f_heard_lots rfl) (dn_attr TX.hT (vv 1) TX.f_heard_lots rfl))))))))
theorem eqs_nf (TX : TxtB K mg base T) : NotFirst K T kEq eqs := (.cons TX.nf_Ratio (.cons TX.nf_Telling (.cons TX.nf_Web .nil)))
theorem eqs_ok (TX : TxtB K mg base T) : MethsAt P w K mg base T "__eq__" 4 eqs := (.cons (mt_Ratio_eq TX) (by decide) (.cons (mt_Telling_eq TX) (by decide) (.cons (mt_Web_eq TX) (by decide) .nil)))
theorem sc_law_all_lots : FnScope ["_law_seats1", "_law_found", "_law_seat", "_law_lot"] ["_law_seats1"] (defScope s_law_all_lots) := ⟨rfl, rfl, rfl, by decide +kernel, rfl, by decide +kernel, by decide +kernel⟩
theorem ok_law_all_lots (TX : TxtB K mg base T) : FnAt P w K mg base T "_law_all_lots" 10 d_law_all_lots :=
  fn_at (kp := false) (k := 9) (N := ["_law_seats1", "_law_found", "_law_seat", "_law_lot"]) (body := b_law_all_lots) TX.d_law_all_lots sc_law_all_lots (fun f cdv A outer s H E hr tk => have sc := sc_law_all_lots; (ss_cons (ds_set (i := 1) sc.nd rfl (Or.inl rfl) (dn_lst (da_cons (dn_lst da_nil) da_nil))) (ss_cons (ds_for PassesOwn.leaving rfl (di_seq TX.hT (dn_rev TX.hT (dn_listRng rfl rfl TX.n_list rfl TX.n_range (vv 0)))) (dg_name (i := 2) sc.nd rfl (Or.inr rfl)) (ss_one (ds_set (i := 1) sc.nd rfl (Or.inl rfl) (dn_add TX.hT (dn_add TX.hT (dn_lst (da_cons (dn_lst da_nil) da_nil)) (dn_comp (own := [("_law_lot", 3)]) rfl sc.nd (di_seq TX.hT (vv 1)) (blkOk_by rfl) (fun _ _ _ _ _ => (dv_name (i := 3) sc.nd rfl (by first | exact Or.inl rfl | exact Or.inr rfl) (by decide))) (fun _ _ _ _ _ => dts_nil) (fun _ _ _ _ _ => (dn_add TX.hT (dn_lst (da_cons (vv 2) da_nil)) (vv 3))))) (dn_comp (own := [("_law_lot", 3)]) rfl sc.nd (di_seq TX.hT (vv 1)) (blkOk_by rfl) (fun _ _ _ _ _ => (dv_name (i := 3) sc.nd rfl (by first | exact Or.inl rfl | exact Or.inr rfl) (by decide))) (fun _ _ _ _ _ => (dts_one (dt_neY (eqs_ok TX) TX.hT (hr.mono (by decide)) (vv 3) (dn_lst da_nil)))) (fun _ _ _ _ _ => (vv 3))))))) (ss_one (ds_ret (vv 1))))))
theorem sc_all_lots : FnScope ["seats", "found", "seat", "lot"] ["seats"] (defScope s_all_lots) := ⟨rfl, rfl, rfl, by decide +kernel, rfl, by decide +kernel, by decide +kernel⟩
theorem ok_all_lots (TX : TxtB K mg base T) : FnAt P w K mg base T "all_lots" 1 d_all_lots :=
  fn_at (kp := false) (k := 0) (N := ["seats", "found", "seat", "lot"]) (body := b_all_lots) TX.d_all_lots sc_all_lots (fun f cdv A outer s H E hr tk => have sc := sc_all_lots; (ss_cons (ds_set (i := 1) sc.nd rfl (Or.inl rfl) (dn_cell (da_cons (dn_lst da_nil) da_nil))) (ss_cons (ds_for PassesOwn.leaving rfl (di_range rfl TX.n_range (da_cons (vv 0) da_nil)) (dg_name (i := 2) sc.nd rfl (Or.inr rfl)) (ss_one (ds_expr (dn_extend (vv 1) (da_cons (dn_comp (own := [("lot", 3)]) rfl sc.nd (di_seq TX.hT (dn_list TX.hT rfl TX.n_list (da_cons (vv 1) da_nil))) (blkOk_by rfl) (fun _ _ _ _ _ => (dv_name (i := 3) sc.nd rfl (by first | exact Or.inl rfl | exact Or.inr rfl) (by decide))) (fun _ _ _ _ _ => dts_nil) (fun _ _ _ _ _ => (dn_lst (da_star TX.hT (vv 3) (da_cons (vv 2) da_nil))))) da_nil))))) (ss_one (ds_ret (dn_sorted TX.hT hr rfl TX.n_sorted (da_cons (vv 1) da_nil)))))))
theorem sc_is_integer : FnScope ["value"] ["value"] (defScope s_is_integer) := ⟨rfl, rfl, rfl, by decide +kernel, rfl, by decide +kernel, by decide +kernel⟩
theorem ok_is_integer (TX : TxtB K mg base T) : FnAt P w K mg base T "is_integer" 1 d_is_integer :=
  fn_at (kp := false) (k := 0) (N := ["value"]) (body := b_is_integer) TX.d_is_integer sc_is_integer (fun f cdv A outer s H E hr tk => have sc := sc_is_integer; (ss_one (ds_ret (dn_and (dn_isi TX.hT (pe_ty rfl TX.n_int boot_ty_int) (.ty "int") TX.k_int rfl TX.n_isinstance (vv 0)) (dn_one (dn_not (dn_isi TX.hT (pe_ty rfl TX.n_bool boot_ty_bool) (.ty "bool") TX.k_bool rfl TX.n_isinstance (vv 0))))))))
theorem sc_is_place : FnScope ["value", "many"] ["value", "many"] (defScope s_is_place) := ⟨rfl, rfl, rfl, by decide +kernel, rfl, by decide +kernel, by decide +kernel⟩
theorem ok_is_place (TX : TxtB K mg base T) : FnAt P w K mg base T "is_place" 2 d_is_place :=
  fn_at (kp := false) (k := 1) (N := ["value", "many"]) (body := b_is_place) TX.d_is_place sc_is_place (fun f cdv A outer s H E hr tk => have sc := sc_is_place; (ss_one (ds_ret (dn_and (dn_call (ok_is_integer TX) (hr.mono (by decide)) tk rfl (da_cons (vv 0) da_nil)) (dn_one (dn_le_lt dn_int (vv 0) (vv 1)))))))
theorem sc_is_many : FnScope ["value"] ["value"] (defScope s_is_many) := ⟨rfl, rfl, rfl, by decide +kernel, rfl, by decide +kernel, by decide +kernel⟩
theorem ok_is_many (TX : TxtB K mg base T) : FnAt P w K mg base T "is_many" 3 d_is_many :=
  fn_at (kp := false) (k := 2) (N := ["value"]) (body := b_is_many) TX.d_is_many sc_is_many (fun f cdv A outer s H E hr tk => have sc := sc_is_many; (ss_one (ds_ret (dn_and (dn_call (ok_is_place TX) (hr.mono (by decide)) tk rfl (da_cons (vv 0) (da_cons (dn_add TX.hT (dn_gint rfl TX.g_MOST_SEATS) dn_int) da_nil))) (dn_one (dn_gt (vv 0) dn_int))))))
theorem sc_Web_len : FnScope ["self"] ["self"] (defScope s_Web_len) := ⟨rfl, rfl, rfl, by decide +kernel, rfl, by decide +kernel, by decide +kernel⟩
theorem mt_Web_len (TX : TxtB K mg base T) : MethAt P w K mg base T "__len__" 0 1 d_Web_len :=
  meth_at (kp := false) (k := 0) (N := ["self"]) (body := b_Web_len) TX.d_Web_len TX.y_Web TX.m_Web_len sc_Web_len (fun f cdv A outer s H E hr tk => have sc := sc_Web_len; (ss_one (ds_ret (dn_lenX TX.hT rfl TX.n_len (da_cons (dn_attr TX.hT (vv 0) TX.f_heard_lots rfl) da_nil)))))
theorem lens_ok (TX : TxtB K mg base T) : LensAt P w K mg base T 1 lens := (.cons (mt_Web_len TX) (by decide) TX.l_Web .nil)
theorem sc_is_lot : FnScope ["value", "seats", "seat", "at"] ["value", "seats"] (defScope s_is_lot) := ⟨rfl, rfl, rfl, by decide +kernel, rfl, by decide +kernel, by decide +kernel⟩
theorem ok_is_lot (TX : TxtB K mg base T) : FnAt P w K mg base T "is_lot" 3 d_is_lot :=
  fn_at (kp := false) (k := 2) (N := ["value", "seats", "seat", "at"]) (body := b_is_lot) TX.d_is_lot sc_is_lot (fun f cdv A outer s H E hr tk => have sc := sc_is_lot; (ss_cons (ds_if (PW.pt (dw_or (dt_not (dt_val (dn_isi2 TX.hT (pe_ty rfl TX.n_list boot_ty_list) (pe_ty rfl TX.n_tuple boot_ty_tuple) (.ty "list") (.ty "tuple") TX.k_list_tuple rfl TX.n_isinstance (vv 0)))) (dw_or1 (dt_not (dt_val (dn_all TX.hT rfl rfl TX.n_all (da_cons (dn_comp (own := [("seat", 2)]) rfl sc.nd (di_seq TX.hT (vv 0)) (blkOk_by rfl) (fun _ _ _ _ _ => (dv_name (i := 2) sc.nd rfl (by first | exact Or.inl rfl | exact Or.inr rfl) (by decide))) (fun _ _ _ _ _ => dts_nil) (fun _ _ _ _ _ => (dn_call (ok_is_place TX) (hr.mono (by decide)) takes0 rfl (da_cons (vv 2) (da_cons (vv 1) da_nil))))) da_nil))))))) (ss_one (ds_ret dn_bl)) ss_nil) (ss_one (ds_ret (dn_all TX.hT rfl rfl TX.n_all (da_cons (dn_comp (own := [("at", 3)]) rfl sc.nd (di_range rfl TX.n_range (da_cons (dn_sub (dn_lenXO TX.hT (hr.mono (by decide)) (lens_ok TX) rfl TX.n_len (da_cons (vv 0) da_nil)) dn_int) da_nil)) (blkOk_by rfl) (fun _ _ _ _ _ => (dv_name (i := 3) sc.nd rfl (by first | exact Or.inl rfl | exact Or.inr rfl) (by decide))) (fun _ _ _ _ _ => dts_nil) (fun _ _ _ _ _ => (dn_lt (dn_ix TX.hT (vv 0) (vv 3)) (dn_ix TX.hT (vv 0) (dn_add TX.hT (vv 3) dn_int))))) da_nil))))))
theorem sc_are_lots : FnScope ["value", "seats", "lot"] ["value", "seats"] (defScope s_are_lots) := ⟨rfl, rfl, rfl, by decide +kernel, rfl, by decide +kernel, by decide +kernel⟩
theorem ok_are_lots (TX : TxtB K mg base T) : FnAt P w K mg base T "are_lots" 4 d_are_lots :=
  fn_at (kp := false) (k := 3) (N := ["value", "seats", "lot"]) (body := b_are_lots) TX.d_are_lots sc_are_lots (fun f cdv A outer s H E hr tk => have sc := sc_are_lots; (ss_cons (ds_if (PW.pt (dw_or (dt_not (dt_val (dn_isi2 TX.hT (pe_ty rfl TX.n_list boot_ty_list) (pe_ty rfl TX.n_tuple boot_ty_tuple) (.ty "list") (.ty "tuple") TX.k_list_tuple rfl TX.n_isinstance (vv 0)))) (dw_or1 (dt_not (dt_le_le dn_int (dn_lenXO TX.hT (hr.mono (by decide)) (lens_ok TX) rfl TX.n_len (da_cons (vv 0) da_nil)) (dn_gint rfl TX.g_MOST_SEATS)))))) (ss_one (ds_ret dn_bl)) ss_nil) (ss_one (ds_ret (dn_all TX.hT rfl rfl TX.n_all (da_cons (dn_comp (own := [("lot", 2)]) rfl sc.nd (di_seq TX.hT (vv 0)) (blkOk_by rfl) (fun _ _ _ _ _ => (dv_name (i := 2) sc.nd rfl (by first | exact Or.inl rfl | exact Or.inr rfl) (by decide))) (fun _ _ _ _ _ => dts_nil) (fun _ _ _ _ _ => (dn_call (ok_is_lot TX) (hr.mono (by decide)) takes0 rfl (da_cons (vv 2) (da_cons (vv 1) da_nil))))) da_nil))))))
theorem sc_Web_init : FnScope ["self", "seats", "lots", "lot"] ["self", "seats", "lots"] (defScope s_Web_init) := ⟨rfl, rfl, rfl, by decide +kernel, rfl, by decide +kernel, by decide +kernel⟩
theorem mk_Web (TX : TxtB K mg base T) : MakeAt P w K mg base T "Web" 0 2 5 d_Web_init :=
  make_at (kp := false) (k := 4) (N := ["self", "seats", "lots", "lot"]) (body := b_Web_init) TX.d_Web_init TX.g_Web TX.l_Web sc_Web_init (fun f cdv A outer s H E hr tk => have sc := sc_Web_init; (ss_cons (ds_if (dt_not (dt_val (dn_call (ok_is_many TX) (hr.mono (by decide)) tk rfl (da_cons (vv 1) da_nil)))) (ss_one (ds_raise1 (xa_InvalidSeat TX) (hr.mono (by decide)) rfl tk rfl (vv 1))) ss_nil) (ss_cons (ds_if (dt_not (dt_val (dn_call (ok_are_lots TX) (hr.mono (by decide)) tk rfl (da_cons (vv 2) (da_cons (vv 1) da_nil))))) (ss_one (ds_raise1 (xa_InvalidLot TX) (hr.mono (by decide)) rfl tk rfl (vv 2))) ss_nil) (ss_cons (ds_fld (vv 0) (vv 1) TX.f_seats) (ss_one (ds_fld (vv 0) (dn_tuple TX.hT rfl TX.n_tuple (da_cons (dn_comp (own := [("lot", 3)]) rfl sc.nd (di_seq TX.hT (vv 2)) (blkOk_by rfl) (fun _ _ _ _ _ => (dv_name (i := 3) sc.nd rfl (by first | exact Or.inl rfl | exact Or.inr rfl) (by decide))) (fun _ _ _ _ _ => dts_nil) (fun _ _ _ _ _ => (dn_tuple TX.hT rfl TX.n_tuple (da_cons (vv 3) da_nil)))) da_nil)) TX.f_heard_lots))))))
theorem sc_all_webs : FnScope ["seats", "hearers", "found", "hearer", "lots", "lot"] ["seats", "hearers"] (defScope s_all_webs) := ⟨rfl, rfl, rfl, by decide +kernel, rfl, by decide +kernel, by decide +kernel⟩
theorem okA_all_webs (TX : TxtB K mg base T) : FnAt P w K mg base T "all_webs" 7 dA_all_webs :=
  fn_atE (ext := exitA) exA (k := 6) (N := ["seats", "hearers", "found", "hearer", "lots", "lot"]) (body := bA_all_webs) TX.d_all_webs sc_all_webs (fun f cdv A outer s H E hr tk => have sc := sc_all_webs; (ss_cons (ds_if (dt_not (dt_val (dn_call (ok_is_many TX) (hr.mono (by decide)) tk rfl (da_cons (vv 0) da_nil)))) (ss_one (ds_raise1 (xa_InvalidSeat TX) (hr.mono (by decide)) rfl tk rfl (vv 0))) ss_nil) (ss_cons (ds_if (dt_not (dt_val (dn_call (ok_is_many TX) (hr.mono (by decide)) tk rfl (da_cons (vv 1) da_nil)))) (ss_one (ds_raise1 (xa_InvalidSeat TX) (hr.mono (by decide)) rfl tk rfl (vv 1))) ss_nil) (ss_cons (ds_set (i := 2) sc.nd rfl (Or.inl rfl) (dn_lst (da_cons (dn_lst da_nil) da_nil))) (ss_cons (ds_for PassesOwn.leaving rfl (di_range rfl TX.n_range (da_cons (vv 1) da_nil)) (dg_name (i := 3) sc.nd rfl (Or.inl rfl)) (ss_one (ds_setComp2 (own := [("lots", 4), ("lot", 5)]) (i := 2) rfl sc.nd rfl rfl rfl (di_seq TX.hT (vv 2)) (blkOk_by rfl) (by decide) (fun _ _ _ _ _ => (dv_name (i := 4) sc.nd rfl (by first | exact Or.inl rfl | exact Or.inr rfl) (by decide))) (fun _ _ _ _ _ => dts_nil) (fun _ _ _ _ _ => (di_seq TX.hT (dn_pure (dn_call (ok_all_lots TX) (hr.mono (by decide)) takes0 rfl (da_cons (vv 0) da_nil))))) (fun _ _ _ _ _ => (dv_name (i := 5) sc.nd rfl (by first | exact Or.inl rfl | exact Or.inr rfl) (by decide))) (fun _ _ _ _ _ => dts_nil) (fun _ _ _ _ _ => (dn_lst (da_star TX.hT (vv 4) (da_cons (vv 5) da_nil))))))) (ss_one (ds_ret (dn_compK (own := [("lots", 4)]) rfl sc.nd (di_seq TX.hT (vv 2)) (blkOk_by rfl) (fun _ _ _ _ _ => (dv_name (i := 4) sc.nd rfl (by first | exact Or.inl rfl | exact Or.inr rfl) (by decide))) (fun _ _ _ _ _ => dts_nil) (fun _ _ _ _ _ => (dn_make (mk_Web TX) (hr.mono (by decide)) takes0 rfl (da_cons (vv 0) (da_cons (vv 4) da_nil))))))))))))
theorem ok_all_webs (TX : TxtB K mg base T) : FnAt P w K mg base T "all_webs" 7 d_all_webs :=
  fn_at (kp := true) (k := 6) (N := ["seats", "hearers", "found", "hearer", "lots", "lot"]) (body := b_all_webs) TX.d_all_webs sc_all_webs (fun f cdv A outer s H E hr tk => have sc := sc_all_webs; (ss_cons (ds_if (dt_not (dt_val (dn_call (ok_is_many TX) (hr.mono (by decide)) tk rfl (da_cons (vv 0) da_nil)))) (ss_one (ds_raise1 (xa_InvalidSeat TX) (hr.mono (by decide)) rfl tk rfl (vv 0))) ss_nil) (ss_cons (ds_if (dt_not (dt_val (dn_call (ok_is_many TX) (hr.mono (by decide)) tk rfl (da_cons (vv 1) da_nil)))) (ss_one (ds_raise1 (xa_InvalidSeat TX) (hr.mono (by decide)) rfl tk rfl (vv 1))) ss_nil) (ss_cons (ds_set (i := 2) sc.nd rfl (Or.inl rfl) (dn_lst (da_cons (dn_lst da_nil) da_nil))) (ss_cons (ds_for PassesOwn.leaving rfl (di_range rfl TX.n_range (da_cons (vv 1) da_nil)) (dg_name (i := 3) sc.nd rfl (Or.inl rfl)) (ss_one (ds_setComp2 (own := [("lots", 4), ("lot", 5)]) (i := 2) rfl sc.nd rfl rfl rfl (di_seq TX.hT (vv 2)) (blkOk_by rfl) (by decide) (fun _ _ _ _ _ => (dv_name (i := 4) sc.nd rfl (by first | exact Or.inl rfl | exact Or.inr rfl) (by decide))) (fun _ _ _ _ _ => dts_nil) (fun _ _ _ _ _ => (di_seq TX.hT (dn_pure (dn_call (ok_all_lots TX) (hr.mono (by decide)) takes0 rfl (da_cons (vv 0) da_nil))))) (fun _ _ _ _ _ => (dv_name (i := 5) sc.nd rfl (by first | exact Or.inl rfl | exact Or.inr rfl) (by decide))) (fun _ _ _ _ _ => dts_nil) (fun _ _ _ _ _ => (dn_lst (da_star TX.hT (vv 4) (da_cons (vv 5) da_nil))))))) (ss_one (ds_ret (dn_comp (own := [("lots", 4)]) rfl sc.nd (di_seq TX.hT (vv 2)) (blkOk_by rfl) (fun _ _ _ _ _ => (dv_name (i := 4) sc.nd rfl (by first | exact Or.inl rfl | exact Or.inr rfl) (by decide))) (fun _ _ _ _ _ => dts_nil) (fun _ _ _ _ _ => (dn_make (mk_Web TX) (hr.mono (by decide)) takes0 rfl (da_cons (vv 0) (da_cons (vv 4) da_nil))))))))))))
theorem sc_Web_lots : FnScope ["self", "lot"] ["self"] (defScope s_Web_lots) := ⟨rfl, rfl, rfl, by decide +kernel, rfl, by decide +kernel, by decide +kernel⟩
theorem mtA_Web_lots (TX : TxtB K mg base T) : MethAt P w K mg base T "lots" 0 1 dA_Web_lots :=
  meth_atE (ext := exitA) exA (k := 0) (N := ["self", "lot"]) (body := bA_Web_lots) TX.d_Web_lots TX.y_Web TX.m_Web_lots sc_Web_lots (fun f cdv A outer s H E hr tk => have sc := sc_Web_lots; (ss_one (ds_ret (dn_compS (own := [("lot", 1)]) rfl sc.nd (di_seq TX.hT (dn_attr TX.hT (vv 0) TX.f_heard_lots rfl)) (blkOk_by rfl) (fun _ _ _ _ _ => (dv_name (i := 1) sc.nd rfl (by first | exact Or.inl rfl | exact Or.inr rfl) (by decide))) (fun _ _ _ _ _ => dts_nil) (fun _ _ _ _ _ => (dn_listK TX.hT rfl TX.n_list (da_cons (vv 1) da_nil)))))))
theorem mt_Web_lots (TX : TxtB K mg base T) : MethAt P w K mg base T "lots" 0 1 d_Web_lots :=
  meth_at (kp := false) (k := 0) (N := ["self", "lot"]) (body := b_Web_lots) TX.d_Web_lots TX.y_Web TX.m_Web_lots sc_Web_lots (fun f cdv A outer s H E hr tk => have sc := sc_Web_lots; (ss_one (ds_ret (dn_comp (own := [("lot", 1)]) rfl sc.nd (di_seq TX.hT (dn_attr TX.hT (vv 0) TX.f_heard_lots rfl)) (blkOk_by rfl) (fun _ _ _ _ _ => (dv_name (i := 1) sc.nd rfl (by first | exact Or.inl rfl | exact Or.inr rfl) (by decide))) (fun _ _ _ _ _ => dts_nil) (fun _ _ _ _ _ => (dn_list TX.hT rfl TX.n_list (da_cons (vv 1) da_nil)))))))
theorem t_lots_ok (TX : TxtB K mg base T) : MethsAt P w K mg base T "lots" 1 t_lots := (.cons (mt_Web_lots TX) (by decide) .nil)
theorem tA_lots_ok (TX : TxtB K mg base T) : MethsAt P w K mg base T "lots" 1 tA_lots := (.cons (mtA_Web_lots TX) (by decide) .nil)
theorem sc_law_all_right : FnScope ["_law_seats1", "_law_hearers1", "_law_due", "_law_hearer", "_law_longer", "_law_lots1", "_law_told", "_law_lot", "_law_web"] ["_law_seats1", "_law_hearers1"] (defScope s_law_all_right) := ⟨rfl, rfl, rfl, by decide +kernel, rfl, by decide +kernel, by decide +kernel⟩
theorem ok_law_all_right (TX : TxtB K mg base T) : FnAt P w K mg base T "_law_all_right" 11 d_law_all_right :=
  fn_at (kp := false) (k := 10) (N := ["_law_seats1", "_law_hearers1", "_law_due", "_law_hearer", "_law_longer", "_law_lots1", "_law_told", "_law_lot", "_law_web"]) (body := b_law_all_right) TX.d_law_all_right sc_law_all_right (fun f cdv A outer s H E hr tk => have sc := sc_law_all_right; (ss_cons (ds_set (i := 2) sc.nd rfl (Or.inl rfl) (dn_lst (da_cons (dn_lst da_nil) da_nil))) (ss_cons (ds_for PassesOwn.leaving rfl (di_range rfl TX.n_range (da_cons (vv 1) da_nil)) (dg_name (i := 3) sc.nd rfl (Or.inl rfl)) (ss_cons (ds_set (i := 4) sc.nd rfl (Or.inl rfl) (dn_lst da_nil)) (ss_cons (ds_for PassesOwn.leaving rfl (di_seq TX.hT (vv 2)) (dg_name (i := 5) sc.nd rfl (Or.inr rfl)) (ss_one (ds_set (i := 4) sc.nd rfl (Or.inl rfl) (dn_add TX.hT (vv 4) (dn_comp (own := [("_law_lot", 7)]) rfl sc.nd (di_seq TX.hT (dn_pure (dn_call (ok_law_all_lots TX) (hr.mono (by decide)) takes0 rfl (da_cons (vv 0) da_nil)))) (blkOk_by rfl) (fun _ _ _ _ _ => (dv_name (i := 7) sc.nd rfl (by first | exact Or.inl rfl | exact Or.inr rfl) (by decide))) (fun _ _ _ _ _ => dts_nil) (fun _ _ _ _ _ => (dn_add TX.hT (vv 5) (dn_lst (da_cons (vv 7) da_nil))))))))) (ss_one (ds_set (i := 2) sc.nd rfl (Or.inl rfl) (vv 4)))))) (ss_cons (ds_set (i := 6) sc.nd rfl (Or.inl rfl) (dn_call (okA_all_webs TX) (hr.mono (by decide)) tk rfl (da_cons (vv 0) (da_cons (vv 1) da_nil)))) (ss_cons (ds_if (PW.pt (dw_or (dt_not (dt_val (dn_isi TX.hT (pe_ty rfl TX.n_list boot_ty_list) (.ty "list") TX.k_list rfl TX.n_isinstance (vv 6)))) (dw_or1 (dt_neY (eqs_ok TX) TX.hT (hr.mono (by decide)) (dn_comp (own := [("_law_web", 8)]) rfl sc.nd (di_seq TX.hT (vv 6)) (blkOk_by rfl) (fun _ _ _ _ _ => (dv_name (i := 8) sc.nd rfl (by first | exact Or.inl rfl | exact Or.inr rfl) (by decide))) (fun _ _ _ _ _ => dts_nil) (fun _ _ _ _ _ => (dn_meth0 (vv 8) (t_lots_ok TX) (hr.mono (by decide)) takes0))) (vv 2))))) (ss_one (ds_ret dn_bl)) ss_nil) (ss_cons (ds_if (dt_neY (eqs_ok TX) TX.hT (hr.mono (by decide)) (dn_comp (own := [("_law_web", 8)]) rfl sc.nd (di_seq TX.hT (vv 6)) (blkOk_by rfl) (fun _ _ _ _ _ => (dv_name (i := 8) sc.nd rfl (by first | exact Or.inl rfl | exact Or.inr rfl) (by decide))) (fun _ _ _ _ _ => (dts_one (PW.pt (dw_or (dt_neY (eqs_ok TX) TX.hT (hr.mono (by decide)) (dn_attr TX.hT (vv 8) TX.f_seats rfl) (vv 0)) (dw_or1 (dt_neY (eqs_ok TX) TX.hT (hr.mono (by decide)) (dn_lenXO TX.hT (hr.mono (by decide)) (lens_ok TX) rfl TX.n_len (da_cons (vv 8) da_nil)) (vv 1))))))) (fun _ _ _ _ _ => (vv 8))) (dn_lst da_nil)) (ss_one (ds_ret dn_bl)) ss_nil) (ss_cons (ds_expr (dn_clear (vv 6))) (ss_one (ds_ret (dn_eqG (eqs_ok TX) (eqs_nf TX) TX.hT (hr.mono (by decide)) (dn_lenXO TX.hT (hr.mono (by decide)) (lens_ok TX) rfl TX.n_len (da_cons (dn_call (ok_all_webs TX) (hr.mono (by decide)) tk rfl (da_cons (vv 0) (da_cons (vv 1) da_nil))) da_nil)) (dn_lenXO TX.hT (hr.mono (by decide)) (lens_ok TX) rfl TX.n_len (da_cons (vv 2) da_nil))))))))))))
theorem sc_law_box : FnScope ["_law_script", "_law_k", "_law_spare"] ["_law_script", "_law_k"] (defScope s_law_box) := ⟨rfl, rfl, rfl, by decide +kernel, rfl, by decide +kernel, by decide +kernel⟩
theorem ok_law_box (TX : TxtB K mg base T) : FnAt P w K mg base T "_law_box" 3 d_law_box :=
  fn_at (kp := true) (k := 2) (N := ["_law_script", "_law_k", "_law_spare"]) (body := b_law_box) TX.d_law_box sc_law_box (fun f cdv A outer s H E hr tk => have sc := sc_law_box; (ss_cons (ds_set (i := 2) sc.nd rfl (Or.inl rfl) (dn_mod (dn_intc rfl TX.n_int (da_cons (dn_add TX.hT (dn_sum TX.hT rfl rfl TX.n_sum (da_cons (vv 0) da_nil)) (dn_lenXO TX.hT (hr.mono (by decide)) (lens_ok TX) rfl TX.n_len (da_cons (vv 0) da_nil))) da_nil)) dn_int)) (ss_one (ds_ret (dn_cell (da_cons (dn_if (dt_lt (vv 1) (dn_lenXO TX.hT (hr.mono (by decide)) (lens_ok TX) rfl TX.n_len (da_cons (vv 0) da_nil))) (dn_abs rfl TX.n_abs (da_cons (dn_intc rfl TX.n_int (da_cons (dn_ix TX.hT (vv 0) (vv 1)) da_nil)) da_nil)) dn_int) (da_cons dn_int (da_cons (dn_add TX.hT (dn_add TX.hT (dn_mul dn_int (vv 1)) dn_int) (vv 2)) da_nil))))))))
theorem sc_law_take : FnScope ["_law_box_here", "_law_many", "_law_digit", "_law_blend"] ["_law_box_here", "_law_many"] (defScope s_law_take) := ⟨rfl, rfl, rfl, by decide +kernel, rfl, by decide +kernel, by decide +kernel⟩
theorem ok_law_take (TX : TxtB K mg base T) : FnAt P w K mg base T "_law_take" 1 d_law_take :=
  fn_at (kp := false) (k := 0) (N := ["_law_box_here", "_law_many", "_law_digit", "_law_blend"]) (body := b_law_take) TX.d_law_take sc_law_take (fun f cdv A outer s H E hr tk => have sc := sc_law_take; (ss_cons (ds_if (dt_ge (dn_ix TX.hT (vv 0) dn_int) (dn_pow dn_int dn_int)) (ss_cons (ds_set (i := 2) sc.nd rfl (Or.inl rfl) (dn_mod (dn_intc rfl TX.n_int (da_cons (dn_ix TX.hT (vv 0) dn_int) da_nil)) (vv 1))) (ss_cons (ds_setAt (vv 0) dn_int (dn_fdiv (dn_ix TX.hT (vv 0) dn_int) (vv 1))) (ss_one (ds_ret (vv 2))))) ss_nil) (ss_cons (ds_setAt (vv 0) dn_int (dn_add TX.hT (dn_ix TX.hT (vv 0) dn_int) dn_int)) (ss_cons (ds_set (i := 3) sc.nd rfl (Or.inl rfl) (dn_mod (dn_pow (dn_intc rfl TX.n_int (da_cons (dn_add TX.hT (dn_add TX.hT (dn_mul (dn_add TX.hT (dn_ix TX.hT (vv 0) dn_int) dn_int) dn_int) (dn_mul (dn_ix TX.hT (vv 0) dn_int) dn_int)) (dn_ix TX.hT (vv 0) dn_int)) da_nil)) dn_int) dn_int)) (ss_cons (ds_set (i := 3) sc.nd rfl (Or.inl rfl) (dn_mod (dn_pow (dn_intc rfl TX.n_int (da_cons (dn_add TX.hT (vv 3) (dn_mul (dn_ix TX.hT (vv 0) dn_int) dn_int)) da_nil)) dn_int) dn_int)) (ss_one (ds_ret (dn_mod (dn_intc rfl TX.n_int (da_cons (dn_fdiv (vv 3) dn_int) da_nil)) (vv 1)))))))))
theorem sc_law_lots : FnScope ["_law_box_here", "_law_seats1", "_law_hearers1", "_law_found", "_law_hearer", "_law_way", "_law_lot", "_law_seat"] ["_law_box_here", "_law_seats1", "_law_hearers1"] (defScope s_law_lots) := ⟨rfl, rfl, rfl, by decide +kernel, rfl, by decide +kernel, by decide +kernel⟩
theorem ok_law_lots (TX : TxtB K mg base T) : FnAt P w K mg base T "_law_lots" 10 d_law_lots :=
  fn_at (kp := false) (k := 9) (N := ["_law_box_here", "_law_seats1", "_law_hearers1", "_law_found", "_law_hearer", "_law_way", "_law_lot", "_law_seat"]) (body := b_law_lots) TX.d_law_lots sc_law_lots (fun f cdv A outer s H E hr tk => have sc := sc_law_lots; (ss_cons (ds_set (i := 3) sc.nd rfl (Or.inl rfl) (dn_cell da_nil)) (ss_cons (ds_for PassesOwn.leaving rfl (di_range rfl TX.n_range (da_cons (vv 2) da_nil)) (dg_name (i := 4) sc.nd rfl (Or.inl rfl)) (ss_cons (ds_set (i := 5) sc.nd rfl (Or.inl rfl) (dn_call (ok_law_take TX) (hr.mono (by decide)) tk rfl (da_cons (vv 0) (da_cons dn_int da_nil)))) (ss_cons (ds_setComp (own := [("_law_seat", 7)]) (i := 6) rfl sc.nd rfl rfl rfl (di_range rfl TX.n_range (da_cons (vv 1) da_nil)) (blkOk_by rfl) (fun _ _ _ _ _ => (dv_name (i := 7) sc.nd rfl (by first | exact Or.inl rfl | exact Or.inr rfl) (by decide))) (fun _ _ _ _ _ => (dts_one (dt_eqG (eqs_ok TX) (eqs_nf TX) TX.hT (hr.mono (by decide)) (dn_call (ok_law_take TX) (hr.mono (by decide)) takes0 rfl (da_cons (vv 0) (da_cons dn_int da_nil))) dn_int))) (fun _ _ _ _ _ => (vv 7))) (ss_one (ds_expr (dn_app (vv 3) (da_cons (dn_if (dt_eqG (eqs_ok TX) (eqs_nf TX) TX.hT (hr.mono (by decide)) (vv 5) dn_int) (dn_listRng rfl rfl TX.n_list rfl TX.n_range (vv 1)) (dn_if (dt_eqG (eqs_ok TX) (eqs_nf TX) TX.hT (hr.mono (by decide)) (vv 5) dn_int) (dn_lst da_nil) (vv 6))) da_nil))))))) (ss_one (ds_ret (vv 3))))))
theorem sc_Ratio_init : FnScope ["self", "top", "bottom", "shared"] ["self", "top", "bottom"] (defScope s_Ratio_init) := ⟨rfl, rfl, rfl, by decide +kernel, rfl, by decide +kernel, by decide +kernel⟩
theorem mk_Ratio (TX : TxtB K mg base T) : MakeDAt P w K mg base T "Ratio" 1 2 1 d_Ratio_init 1 :=
  make_atD (kp := false) (k := 0) (N := ["self", "top", "bottom", "shared"]) (body := b_Ratio_init) TX.d_Ratio_init TX.g_Ratio TX.l_Ratio sc_Ratio_init (fun f cdv A outer s H E hr tk => have sc := sc_Ratio_init; (ss_cons (ds_if (dt_eq TX.hT hr (vv 2) dn_int) (ss_one (ds_raise0 PySem.F.excBase_ValueError (TX.e_ByZero _ rfl rfl) rfl tk rfl)) ss_nil) (ss_cons (ds_set (i := 3) sc.nd rfl (Or.inl rfl) (dn_gcd rfl TX.gcd (da_cons (vv 1) (da_cons (vv 2) da_nil)))) (ss_cons (ds_if (dt_lt (vv 2) dn_int) (ss_one (ds_set (i := 3) sc.nd rfl (Or.inl rfl) (dn_neg (vv 3)))) ss_nil) (ss_cons (ds_fld (vv 0) (dn_fdiv (vv 1) (vv 3)) TX.f__top) (ss_one (ds_fld (vv 0) (dn_fdiv (vv 2) (vv 3)) TX.f__bottom)))))))
theorem sc_as_ratio : FnScope ["value"] ["value"] (defScope s_as_ratio) := ⟨rfl, rfl, rfl, by decide +kernel, rfl, by decide +kernel, by decide +kernel⟩
theorem ok_as_ratio (TX : TxtB K mg base T) : FnAt P w K mg base T "as_ratio" 3 d_as_ratio :=
  fn_at (kp := false) (k := 2) (N := ["value"]) (body := b_as_ratio) TX.d_as_ratio sc_as_ratio (fun f cdv A outer s H E hr tk => have sc := sc_as_ratio; (ss_cons (ds_if (dt_not (dt_val (dn_call (ok_is_number TX) (hr.mono (by decide)) tk rfl (da_cons (vv 0) da_nil)))) (ss_one (ds_raise1 (xa_InvalidNumber TX) (hr.mono (by decide)) rfl tk rfl (vv 0))) ss_nil) (ss_one (ds_ret (dn_if (dt_val (dn_isi TX.hT (pe_glob rfl TX.g_Ratio (show RelV (.ref _) (.ref _) from rfl)) (.own _) TX.k_Ratio rfl TX.n_isinstance (vv 0))) (vv 0) (dn_makeD (mk_Ratio TX) (hr.mono (by decide)) tk rfl (da_cons (vv 0) da_nil)))))))
theorem sc_Ratio_below : FnScope ["self", "number", "top", "bottom"] ["self", "number"] (defScope s_Ratio_below) := ⟨rfl, rfl, rfl, by decide +kernel, rfl, by decide +kernel, by decide +kernel⟩
theorem mt_Ratio_below (TX : TxtB K mg base T) : MethAt P w K mg base T "below" 1 4 d_Ratio_below :=
  meth_at (kp := false) (k := 3) (N := ["self", "number", "top", "bottom"]) (body := b_Ratio_below) TX.d_Ratio_below TX.y_Ratio TX.m_Ratio_below sc_Ratio_below (fun f cdv A outer s H E hr tk => have sc := sc_Ratio_below; (ss_cons (ds_asg (dn_call (ok_parts_of TX) (hr.mono (by decide)) tk rfl (da_cons (vv 1) da_nil)) (dg_tup rfl TX.hT (dgs_cons (dg_name (i := 2) sc.nd rfl (Or.inl rfl)) (dgs_cons (dg_name (i := 3) sc.nd rfl (Or.inl rfl)) dgs_nil)) (gtCons_len (gtCons_len gtNil_len)))) (ss_one (ds_ret (dn_lt (dn_mul (dn_attr TX.hT (vv 0) TX.f__top rfl) (vv 3)) (dn_mul (vv 2) (dn_attr TX.hT (vv 0) TX.f__bottom rfl)))))))
theorem t_below_ok (TX : TxtB K mg base T) : MethsAt P w K mg base T "below" 4 t_below := (.cons (mt_Ratio_below TX) (by decide) .nil)
theorem sc_is_share_list : FnScope ["value", "number"] ["value"] (defScope s_is_share_list) := ⟨rfl, rfl, rfl, by decide +kernel, rfl, by decide +kernel, by decide +kernel⟩
theorem ok_is_share_list (TX : TxtB K mg base T) : FnAt P w K mg base T "is_share_list" 6 d_is_share_list :=
  fn_atC (j := 0) (ext := exitR false) (exG false) (k := 5) (N := ["value", "number"]) (body := b_is_share_list) TX.d_is_share_list (TX.tb 0 (by decide)) sc_is_share_list (fun f cdv A outer s H E htb hr tk => have sc := sc_is_share_list; (ss_cons (ds_if (PW.pt (dw_or (dt_not (dt_val (dn_isi2 TX.hT (pe_ty rfl TX.n_list boot_ty_list) (pe_ty rfl TX.n_tuple boot_ty_tuple) (.ty "list") (.ty "tuple") TX.k_list_tuple rfl TX.n_isinstance (vv 0)))) (dw_or1 (dt_not (dt_val (dn_gAll (k := 1) (i := 1) (j := 0) (hr.mono (by decide)) rfl TX.n_all htb rfl sc.nd (di_seq TX.hT (vv 0)) (fun _ _ _ _ _ hr => (dv_name (i := 1) sc.nd rfl (by first | exact Or.inl rfl | exact Or.inr rfl) (by decide))) (fun _ _ _ _ _ hr => (dn_call (ok_is_number TX) (hr.mono (by decide)) takes0 rfl (da_cons (vv 1) da_nil))))))))) (ss_one (ds_ret dn_bl)) ss_nil) (ss_one (ds_ret (dn_not (dn_gAny (k := 4) (i := 1) (j := 0) (hr.mono (by decide)) rfl TX.n_any htb rfl sc.nd (di_seq TX.hT (vv 0)) (fun _ _ _ _ _ hr => (dv_name (i := 1) sc.nd rfl (by first | exact Or.inl rfl | exact Or.inr rfl) (by decide))) (fun _ _ _ _ _ hr => (dn_meth (dn_call (ok_as_ratio TX) (hr.mono (by decide)) takes0 rfl (da_cons (vv 1) da_nil)) (t_below_ok TX) (hr.mono (by decide)) takes0 (da_cons dn_int da_nil)))))))))
theorem sc_Ratio_add : FnScope ["self", "other", "top", "bottom"] ["self", "other"] (defScope s_Ratio_add) := ⟨rfl, rfl, rfl, by decide +kernel, rfl, by decide +kernel, by decide +kernel⟩
theorem mt_Ratio_add (TX : TxtB K mg base T) : MethAt P w K mg base T "__add__" 1 4 d_Ratio_add :=
  meth_at (kp := false) (k := 3) (N := ["self", "other", "top", "bottom"]) (body := b_Ratio_add) TX.d_Ratio_add TX.y_Ratio TX.m_Ratio_add sc_Ratio_add (fun f cdv A outer s H E hr tk => have sc := sc_Ratio_add; (ss_cons (ds_asg (dn_call (ok_parts_of TX) (hr.mono (by decide)) tk rfl (da_cons (vv 1) da_nil)) (dg_tup rfl TX.hT (dgs_cons (dg_name (i := 2) sc.nd rfl (Or.inl rfl)) (dgs_cons (dg_name (i := 3) sc.nd rfl (Or.inl rfl)) dgs_nil)) (gtCons_len (gtCons_len gtNil_len)))) (ss_one (ds_ret (dn_make (mk_Ratio TX).all (hr.mono (by decide)) tk rfl (da_cons (dn_add TX.hT (dn_mul (dn_attr TX.hT (vv 0) TX.f__top rfl) (vv 3)) (dn_mul (vv 2) (dn_attr TX.hT (vv 0) TX.f__bottom rfl))) (da_cons (dn_mul (dn_attr TX.hT (vv 0) TX.f__bottom rfl) (vv 3)) da_nil)))))))
theorem ops_add_ok (TX : TxtB K mg base T) : MethsAt P w K mg base T "__add__" 4 ops_add := (.cons (mt_Ratio_add TX) (by decide) .nil)
theorem sc_total : FnScope ["numbers", "found", "number"] ["numbers"] (defScope s_total) := ⟨rfl, rfl, rfl, by decide +kernel, rfl, by decide +kernel, by decide +kernel⟩
theorem ok_total (TX : TxtB K mg base T) : FnAt P w K mg base T "total" 5 d_total :=
  fn_at (kp := false) (k := 4) (N := ["numbers", "found", "number"]) (body := b_total) TX.d_total sc_total (fun f cdv A outer s H E hr tk => have sc := sc_total; (ss_cons (ds_set (i := 1) sc.nd rfl (Or.inl rfl) (dn_makeD (mk_Ratio TX) (hr.mono (by decide)) tk rfl (da_cons dn_int da_nil))) (ss_cons (ds_for PassesOwn.leaving rfl (di_seq TX.hT (vv 0)) (dg_name (i := 2) sc.nd rfl (Or.inl rfl)) (ss_one (ds_set (i := 1) sc.nd rfl (Or.inl rfl) (dn_addO (ops_add_ok TX) TX.o_add (hr.mono (by decide)) TX.hT (vv 1) (vv 2))))) (ss_one (ds_ret (vv 1))))))
theorem sc_are_chances : FnScope ["value"] ["value"] (defScope s_are_chances) := ⟨rfl, rfl, rfl, by decide +kernel, rfl, by decide +kernel, by decide +kernel⟩
theorem ok_are_chances (TX : TxtB K mg base T) : FnAt P w K mg base T "are_chances" 10 d_are_chances :=
  fn_at (kp := false) (k := 9) (N := ["value"]) (body := b_are_chances) TX.d_are_chances sc_are_chances (fun f cdv A outer s H E hr tk => have sc := sc_are_chances; (ss_one (ds_ret (dn_and (dn_call (ok_is_share_list TX) (hr.mono (by decide)) tk rfl (da_cons (vv 0) da_nil)) (dn_one (dn_eqG (eqs_ok TX) (eqs_nf TX) TX.hT (hr.mono (by decide)) (dn_call (ok_total TX) (hr.mono (by decide)) tk rfl (da_cons (vv 0) da_nil)) dn_int))))))
theorem sc_are_lines : FnScope ["value", "many", "line"] ["value", "many"] (defScope s_are_lines) := ⟨rfl, rfl, rfl, by decide +kernel, rfl, by decide +kernel, by decide +kernel⟩
theorem ok_are_lines (TX : TxtB K mg base T) : FnAt P w K mg base T "are_lines" 11 d_are_lines :=
  fn_at (kp := false) (k := 10) (N := ["value", "many", "line"]) (body := b_are_lines) TX.d_are_lines sc_are_lines (fun f cdv A outer s H E hr tk => have sc := sc_are_lines; (ss_cons (ds_if (dt_not (dt_val (dn_isi2 TX.hT (pe_ty rfl TX.n_list boot_ty_list) (pe_ty rfl TX.n_tuple boot_ty_tuple) (.ty "list") (.ty "tuple") TX.k_list_tuple rfl TX.n_isinstance (vv 0)))) (ss_one (ds_ret dn_bl)) ss_nil) (ss_one (ds_ret (dn_all TX.hT rfl rfl TX.n_all (da_cons (dn_comp (own := [("line", 2)]) rfl sc.nd (di_seq TX.hT (vv 0)) (blkOk_by rfl) (fun _ _ _ _ _ => (dv_name (i := 2) sc.nd rfl (by first | exact Or.inl rfl | exact Or.inr rfl) (by decide))) (fun _ _ _ _ _ => dts_nil) (fun _ _ _ _ _ => (dn_and (dn_call (ok_are_chances TX) (hr.mono (by decide)) takes0 rfl (da_cons (vv 2) da_nil)) (dn_one (dn_eq TX.hT hr (dn_lenXO TX.hT (hr.mono (by decide)) (lens_ok TX) rfl TX.n_len (da_cons (vv 2) da_nil)) (vv 1)))))) da_nil))))))
theorem sc_product_of : FnScope ["numbers", "found", "number"] ["numbers"] (defScope s_product_of) := ⟨rfl, rfl, rfl, by decide +kernel, rfl, by decide +kernel, by decide +kernel⟩
theorem ok_product_of (TX : TxtB K mg base T) : FnAt P w K mg base T "product_of" 1 d_product_of :=
  fn_at (kp := false) (k := 0) (N := ["numbers", "found", "number"]) (body := b_product_of) TX.d_product_of sc_product_of (fun f cdv A outer s H E hr tk => have sc := sc_product_of; (ss_cons (ds_set (i := 1) sc.nd rfl (Or.inl rfl) dn_int) (ss_cons (ds_for PassesOwn.leaving rfl (di_seq TX.hT (vv 0)) (dg_name (i := 2) sc.nd rfl (Or.inl rfl)) (ss_one (ds_set (i := 1) sc.nd rfl (Or.inl rfl) (dn_mul (vv 1) (vv 2))))) (ss_one (ds_ret (vv 1))))))
theorem sc_are_marks : FnScope ["value", "many"] ["value"] (defScope s_are_marks) := ⟨rfl, rfl, rfl, by decide +kernel, rfl, by decide +kernel, by decide +kernel⟩
theorem ok_are_marks (TX : TxtB K mg base T) : FnAt P w K mg base T "are_marks" 3 d_are_marks :=
  fn_at (kp := false) (k := 2) (N := ["value", "many"]) (body := b_are_marks) TX.d_are_marks sc_are_marks (fun f cdv A outer s H E hr tk => have sc := sc_are_marks; (ss_cons (ds_if (PW.pt (dw_or (dt_not (dt_val (dn_isi2 TX.hT (pe_ty rfl TX.n_list boot_ty_list) (pe_ty rfl TX.n_tuple boot_ty_tuple) (.ty "list") (.ty "tuple") TX.k_list_tuple rfl TX.n_isinstance (vv 0)))) (dw_or1 (dt_not (dt_le_le dn_int (dn_lenXO TX.hT (hr.mono (by decide)) (lens_ok TX) rfl TX.n_len (da_cons (vv 0) da_nil)) (dn_gint rfl TX.g_MOST_SEATS)))))) (ss_one (ds_ret dn_bl)) ss_nil) (ss_cons (ds_if (dt_not (dt_val (dn_all TX.hT rfl rfl TX.n_all (da_cons (dn_comp (own := [("many", 1)]) rfl sc.nd (di_seq TX.hT (vv 0)) (blkOk_by rfl) (fun _ _ _ _ _ => (dv_name (i := 1) sc.nd rfl (by first | exact Or.inl rfl | exact Or.inr rfl) (by decide))) (fun _ _ _ _ _ => dts_nil) (fun _ _ _ _ _ => (dn_and (dn_call (ok_is_integer TX) (hr.mono (by decide)) takes0 rfl (da_cons (vv 1) da_nil)) (dn_one (dn_le_le dn_int (vv 1) (dn_gint rfl TX.g_MOST_ROWS)))))) da_nil)))) (ss_one (ds_ret dn_bl)) ss_nil) (ss_one (ds_ret (dn_le (dn_call (ok_product_of TX) (hr.mono (by decide)) tk rfl (da_cons (vv 0) da_nil)) (dn_gint rfl TX.g_MOST_ROWS)))))))
theorem sc_Telling_init : FnScope ["self", "marks", "chances", "line", "part"] ["self", "marks", "chances"] (defScope s_Telling_init) := ⟨rfl, rfl, rfl, by decide +kernel, rfl, by decide +kernel, by decide +kernel⟩
theorem mk_Telling (TX : TxtB K mg base T) : MakeAt P w K mg base T "Telling" 2 4 12 d_Telling_init :=
  make_at (kp := false) (k := 11) (N := ["self", "marks", "chances", "line", "part"]) (body := b_Telling_init) TX.d_Telling_init TX.g_Telling TX.l_Telling sc_Telling_init (fun f cdv A outer s H E hr tk => have sc := sc_Telling_init; (ss_cons (ds_if (dt_not (dt_val (dn_call (ok_are_marks TX) (hr.mono (by decide)) tk rfl (da_cons (vv 1) da_nil)))) (ss_one (ds_raise1 (xa_InvalidMarks TX) (hr.mono (by decide)) rfl tk rfl (vv 1))) ss_nil) (ss_cons (ds_if (PW.pt (dw_or (dt_not (dt_val (dn_call (ok_are_lines TX) (hr.mono (by decide)) tk rfl (da_cons (vv 2) (da_cons (dn_call (ok_product_of TX) (hr.mono (by decide)) tk rfl (da_cons (vv 1) da_nil)) da_nil))))) (dw_or1 (dt_not (dt_le_le dn_int (dn_lenXO TX.hT (hr.mono (by decide)) (lens_ok TX) rfl TX.n_len (da_cons (vv 2) da_nil)) (dn_gint rfl TX.g_MOST_STATES)))))) (ss_one (ds_raise1 (xa_InvalidChances TX) (hr.mono (by decide)) rfl tk rfl (vv 2))) ss_nil) (ss_cons (ds_fld (vv 0) (dn_tuple TX.hT rfl TX.n_tuple (da_cons (vv 1) da_nil)) TX.f_marks) (ss_cons (ds_fld (vv 0) (dn_lenX TX.hT rfl TX.n_len (da_cons (dn_attr TX.hT (vv 0) TX.f_marks rfl) da_nil)) TX.f_seats) (ss_cons (ds_fld (vv 0) (dn_lenXO TX.hT (hr.mono (by decide)) (lens_ok TX) rfl TX.n_len (da_cons (vv 2) da_nil)) TX.f_states) (ss_one (ds_fld (vv 0) (dn_comp (own := [("line", 3)]) rfl sc.nd (di_seq TX.hT (vv 2)) (blkOk_by rfl) (fun _ _ _ _ _ => (dv_name (i := 3) sc.nd rfl (by first | exact Or.inl rfl | exact Or.inr rfl) (by decide))) (fun _ _ _ _ _ => dts_nil) (fun _ _ _ _ _ => (dn_comp (own := [("part", 4)]) rfl sc.nd (di_seq TX.hT (vv 3)) (blkOk_by rfl) (fun _ _ _ _ _ => (dv_name (i := 4) sc.nd rfl (by first | exact Or.inl rfl | exact Or.inr rfl) (by decide))) (fun _ _ _ _ _ => dts_nil) (fun _ _ _ _ _ => (dn_call (ok_as_ratio TX) (hr.mono (by decide)) takes0 rfl (da_cons (vv 4) da_nil)))))) TX.f_table))))))))
theorem sc_law_equal_right : FnScope ["_law_box_here", "_law_told", "_law_seats1", "_law_lots1", "_law_same", "_law_one", "_law_number", "_law_other", "_law_lot"] ["_law_box_here", "_law_told", "_law_seats1", "_law_lots1"] (defScope s_law_equal_right) := ⟨rfl, rfl, rfl, by decide +kernel, rfl, by decide +kernel, by decide +kernel⟩
theorem ok_law_equal_right (TX : TxtB K mg base T) : FnAt P w K mg base T "_law_equal_right" 14 d_law_equal_right :=
  fn_at (kp := false) (k := 13) (N := ["_law_box_here", "_law_told", "_law_seats1", "_law_lots1", "_law_same", "_law_one", "_law_number", "_law_other", "_law_lot"]) (body := b_law_equal_right) TX.d_law_equal_right sc_law_equal_right (fun f cdv A outer s H E hr tk => have sc := sc_law_equal_right; (ss_cons (ds_set (i := 4) sc.nd rfl (Or.inl rfl) (dn_pure (dn_make (mk_Web TX) (hr.mono (by decide)) takes0 rfl (da_cons (vv 2) (da_cons (dn_tuple TX.hT rfl TX.n_tuple (da_cons (dn_comp (own := [("_law_lot", 8)]) rfl sc.nd (di_seq TX.hT (vv 3)) (blkOk_by rfl) (fun _ _ _ _ _ => (dv_name (i := 8) sc.nd rfl (by first | exact Or.inl rfl | exact Or.inr rfl) (by decide))) (fun _ _ _ _ _ => dts_nil) (fun _ _ _ _ _ => (dn_tuple TX.hT rfl TX.n_tuple (da_cons (vv 8) da_nil)))) da_nil)) da_nil))))) (ss_cons (ds_if (dt_pure (PW.pt (dw_or (dt_not (dt_eqG (eqs_ok TX) (eqs_nf TX) TX.hT (hr.mono (by decide)) (vv 4) (vv 1))) (dw_or (dt_not (dt_eqG (eqs_ok TX) (eqs_nf TX) TX.hT (hr.mono (by decide)) (vv 1) (vv 4))) (dw_or (dt_eqG (eqs_ok TX) (eqs_nf TX) TX.hT (hr.mono (by decide)) (vv 1) (vv 3)) (dw_or (dt_eqG (eqs_ok TX) (eqs_nf TX) TX.hT (hr.mono (by decide)) (vv 1) (vv 2)) (dw_or1 (dt_eqG (eqs_ok TX) (eqs_nf TX) TX.hT (hr.mono (by decide)) (vv 1) dn_str)))))))) (ss_one (ds_ret dn_bl)) ss_nil) (ss_cons (ds_par (i := 5) (j := 6) rfl sc.nd rfl rfl (by decide) rfl rfl (da_cons (dn_pure (dn_make (mk_Telling TX) (hr.mono (by decide)) takes0 rfl (da_cons (dn_mul (dn_lst (da_cons dn_int da_nil)) (vv 2)) (da_cons (dn_lst (da_cons (dn_lst (da_cons dn_int da_nil)) da_nil)) da_nil)))) (da_cons (dn_pure (dn_makeD (mk_Ratio TX) (hr.mono (by decide)) takes0 rfl (da_cons (vv 2) da_nil))) da_nil)) rfl) (ss_cons (ds_if (dt_pure (PW.pt (dw_or (dt_eqG (eqs_ok TX) (eqs_nf TX) TX.hT (hr.mono (by decide)) (vv 1) (vv 5)) (dw_or (dt_eqG (eqs_ok TX) (eqs_nf TX) TX.hT (hr.mono (by decide)) (vv 5) (vv 1)) (dw_or (dt_eqG (eqs_ok TX) (eqs_nf TX) TX.hT (hr.mono (by decide)) (vv 1) (vv 6)) (dw_or (dt_eqG (eqs_ok TX) (eqs_nf TX) TX.hT (hr.mono (by decide)) (vv 6) (vv 1)) (dw_or (dt_eqG (eqs_ok TX) (eqs_nf TX) TX.hT (hr.mono (by decide)) (vv 5) (vv 6)) (dw_or1 (dt_eqG (eqs_ok TX) (eqs_nf TX) TX.hT (hr.mono (by decide)) (vv 6) (vv 5)))))))))) (ss_one (ds_ret dn_bl)) ss_nil) (ss_cons (ds_set (i := 7) sc.nd rfl (Or.inl rfl) (dn_call (ok_law_lots TX) (hr.mono (by decide)) tk rfl (da_cons (vv 0) (da_cons (vv 2) (da_cons (dn_lenXO TX.hT (hr.mono (by decide)) (lens_ok TX) rfl TX.n_len (da_cons (vv 3) da_nil)) da_nil))))) (ss_cons (ds_if (dt_pure (dt_neY (eqs_ok TX) TX.hT (hr.mono (by decide)) (dn_eqG (eqs_ok TX) (eqs_nf TX) TX.hT (hr.mono (by decide)) (dn_make (mk_Web TX) (hr.mono (by decide)) takes0 rfl (da_cons (vv 2) (da_cons (vv 7) da_nil))) (vv 1)) (dn_eqG (eqs_ok TX) (eqs_nf TX) TX.hT (hr.mono (by decide)) (vv 7) (vv 3)))) (ss_one (ds_ret dn_bl)) ss_nil) (ss_cons (ds_if (dt_pure (PW.pt (dw_and (dt_lt (dn_lenXO TX.hT (hr.mono (by decide)) (lens_ok TX) rfl TX.n_len (da_cons (vv 3) da_nil)) dn_int) (dw_and1 (dt_eqG (eqs_ok TX) (eqs_nf TX) TX.hT (hr.mono (by decide)) (dn_make (mk_Web TX) (hr.mono (by decide)) takes0 rfl (da_cons (vv 2) (da_cons (dn_add TX.hT (vv 3) (dn_lst (da_cons (dn_lst da_nil) da_nil))) da_nil))) (vv 1)))))) (ss_one (ds_ret dn_bl)) ss_nil) (ss_one (ds_ret (dn_pure (dn_or (dn_eqG (eqs_ok TX) (eqs_nf TX) TX.hT (hr.mono (by decide)) (vv 2) dn_int) (dn_one (dn_not (dn_eqG (eqs_ok TX) (eqs_nf TX) TX.hT (hr.mono (by decide)) (dn_make (mk_Web TX) (hr.mono (by decide)) takes0 rfl (da_cons (dn_add TX.hT (vv 2) dn_int) (da_cons (vv 3) da_nil))) (vv 1))))))))))))))))
theorem sc_law_links : FnScope ["_law_lots1", "_law_found", "_law_hearer", "_law_seat"] ["_law_lots1"] (defScope s_law_links) := ⟨rfl, rfl, rfl, by decide +kernel, rfl, by decide +kernel, by decide +kernel⟩
theorem ok_law_links (TX : TxtB K mg base T) : FnAt P w K mg base T "_law_links" 3 d_law_links :=
  fn_at (kp := false) (k := 2) (N := ["_law_lots1", "_law_found", "_law_hearer", "_law_seat"]) (body := b_law_links) TX.d_law_links sc_law_links (fun f cdv A outer s H E hr tk => have sc := sc_law_links; (ss_cons (ds_set (i := 1) sc.nd rfl (Or.inl rfl) (dn_lst da_nil)) (ss_cons (ds_for PassesOwn.leaving rfl (di_range rfl TX.n_range (da_cons (dn_lenXO TX.hT (hr.mono (by decide)) (lens_ok TX) rfl TX.n_len (da_cons (vv 0) da_nil)) da_nil)) (dg_name (i := 2) sc.nd rfl (Or.inr rfl)) (ss_one (ds_set (i := 1) sc.nd rfl (Or.inl rfl) (dn_add TX.hT (vv 1) (dn_comp (own := [("_law_seat", 3)]) rfl sc.nd (di_seq TX.hT (dn_ix TX.hT (vv 0) (vv 2))) (blkOk_by rfl) (fun _ _ _ _ _ => (dv_name (i := 3) sc.nd rfl (by first | exact Or.inl rfl | exact Or.inr rfl) (by decide))) (fun _ _ _ _ _ => dts_nil) (fun _ _ _ _ _ => (dn_tup (da_cons (vv 3) (da_cons (vv 2) da_nil))))))))) (ss_one (ds_ret (dn_sorted TX.hT hr rfl TX.n_sorted (da_cons (vv 1) da_nil)))))))
theorem sc_Web_links : FnScope ["self", "hearer", "lot", "seat"] ["self"] (defScope s_Web_links) := ⟨rfl, rfl, rfl, by decide +kernel, rfl, by decide +kernel, by decide +kernel⟩
theorem mtA_Web_links (TX : TxtB K mg base T) : MethAt P w K mg base T "links" 0 1 dA_Web_links :=
  meth_atE (ext := exitA) exA (k := 0) (N := ["self", "hearer", "lot", "seat"]) (body := bA_Web_links) TX.d_Web_links TX.y_Web TX.m_Web_links sc_Web_links (fun f cdv A outer s H E hr tk => have sc := sc_Web_links; (ss_one (ds_ret (dn_sortedK TX.hT hr rfl TX.n_sorted (da_cons (dn_comp2 (own := [("hearer", 1), ("lot", 2), ("seat", 3)]) (vs1 := [3]) rfl sc.nd (di_enum TX.hT rfl TX.n_enumerate (da_cons (dn_attr TX.hT (vv 0) TX.f_heard_lots rfl) da_nil)) (blkOk_by rfl) (by decide) (fun _ _ _ _ _ => (dv_tup rfl TX.hT (dvs_cons (dv_name (i := 1) sc.nd rfl (by first | exact Or.inl rfl | exact Or.inr rfl) (by decide)) (dvs_cons (dv_name (i := 2) sc.nd rfl (by first | exact Or.inl rfl | exact Or.inr rfl) (by decide)) dvs_nil)) (gtCons_len (gtCons_len gtNil_len)))) (fun _ _ _ _ _ => dts_nil) (fun _ _ _ _ _ => (di_seq TX.hT (vv 2))) (fun _ _ _ _ _ => (dv_name (i := 3) sc.nd rfl (by first | exact Or.inl rfl | exact Or.inr rfl) (by decide))) (fun _ _ _ _ _ => dts_nil) (fun _ _ _ _ _ => (dn_tup (da_cons (vv 3) (da_cons (vv 1) da_nil))))) da_nil)))))
theorem mt_Web_links (TX : TxtB K mg base T) : MethAt P w K mg base T "links" 0 1 d_Web_links :=
  meth_at (kp := false) (k := 0) (N := ["self", "hearer", "lot", "seat"]) (body := b_Web_links) TX.d_Web_links TX.y_Web TX.m_Web_links sc_Web_links (fun f cdv A outer s H E hr tk => have sc := sc_Web_links; (ss_one (ds_ret (dn_sorted TX.hT hr rfl TX.n_sorted (da_cons (dn_comp2 (own := [("hearer", 1), ("lot", 2), ("seat", 3)]) (vs1 := [3]) rfl sc.nd (di_enum TX.hT rfl TX.n_enumerate (da_cons (dn_attr TX.hT (vv 0) TX.f_heard_lots rfl) da_nil)) (blkOk_by rfl) (by decide) (fun _ _ _ _ _ => (dv_tup rfl TX.hT (dvs_cons (dv_name (i := 1) sc.nd rfl (by first | exact Or.inl rfl | exact Or.inr rfl) (by decide)) (dvs_cons (dv_name (i := 2) sc.nd rfl (by first | exact Or.inl rfl | exact Or.inr rfl) (by decide)) dvs_nil)) (gtCons_len (gtCons_len gtNil_len)))) (fun _ _ _ _ _ => dts_nil) (fun _ _ _ _ _ => (di_seq TX.hT (vv 2))) (fun _ _ _ _ _ => (dv_name (i := 3) sc.nd rfl (by first | exact Or.inl rfl | exact Or.inr rfl) (by decide))) (fun _ _ _ _ _ => dts_nil) (fun _ _ _ _ _ => (dn_tup (da_cons (vv 3) (da_cons (vv 1) da_nil))))) da_nil)))))
theorem t_links_ok (TX : TxtB K mg base T) : MethsAt P w K mg base T "links" 1 t_links := (.cons (mt_Web_links TX) (by decide) .nil)
theorem tA_links_ok (TX : TxtB K mg base T) : MethsAt P w K mg base T "links" 1 tA_links := (.cons (mtA_Web_links TX) (by decide) .nil)
theorem sc_law_right : FnScope ["_law_told", "_law_seats1", "_law_lots1"] ["_law_told", "_law_seats1", "_law_lots1"] (defScope s_law_right) := ⟨rfl, rfl, rfl, by decide +kernel, rfl, by decide +kernel, by decide +kernel⟩
theorem ok_law_right (TX : TxtB K mg base T) : FnAt P w K mg base T "_law_right" 10 d_law_right :=
  fn_at (kp := false) (k := 9) (N := ["_law_told", "_law_seats1", "_law_lots1"]) (body := b_law_right) TX.d_law_right sc_law_right (fun f cdv A outer s H E hr tk => have sc := sc_law_right; (ss_cons (ds_if (PW.pt (dw_or (dt_neY (eqs_ok TX) TX.hT (hr.mono (by decide)) (dn_attr TX.hT (vv 0) TX.f_seats rfl) (vv 1)) (dw_or (dt_neY (eqs_ok TX) TX.hT (hr.mono (by decide)) (dn_lenXO TX.hT (hr.mono (by decide)) (lens_ok TX) rfl TX.n_len (da_cons (vv 0) da_nil)) (dn_lenXO TX.hT (hr.mono (by decide)) (lens_ok TX) rfl TX.n_len (da_cons (vv 2) da_nil))) (dw_or1 (dt_neY (eqs_ok TX) TX.hT (hr.mono (by decide)) (dn_meth0 (vv 0) (t_lots_ok TX) (hr.mono (by decide)) tk) (vv 2)))))) (ss_one (ds_ret dn_bl)) ss_nil) (ss_one (ds_ret (dn_eqG (eqs_ok TX) (eqs_nf TX) TX.hT (hr.mono (by decide)) (dn_meth0 (vv 0) (t_links_ok TX) (hr.mono (by decide)) tk) (dn_call (ok_law_links TX) (hr.mono (by decide)) tk rfl (da_cons (vv 2) da_nil)))))))
theorem sc_full_web : FnScope ["seats", "hearers", "hearer"] ["seats", "hearers"] (defScope s_full_web) := ⟨rfl, rfl, rfl, by decide +kernel, rfl, by decide +kernel, by decide +kernel⟩
theorem ok_full_web (TX : TxtB K mg base T) : FnAt P w K mg base T "full_web" 7 d_full_web :=
  fn_at (kp := false) (k := 6) (N := ["seats", "hearers", "hearer"]) (body := b_full_web) TX.d_full_web sc_full_web (fun f cdv A outer s H E hr tk => have sc := sc_full_web; (ss_cons (ds_if (dt_not (dt_val (dn_call (ok_is_many TX) (hr.mono (by decide)) tk rfl (da_cons (vv 0) da_nil)))) (ss_one (ds_raise1 (xa_InvalidSeat TX) (hr.mono (by decide)) rfl tk rfl (vv 0))) ss_nil) (ss_cons (ds_if (dt_not (dt_val (dn_call (ok_is_many TX) (hr.mono (by decide)) tk rfl (da_cons (vv 1) da_nil)))) (ss_one (ds_raise1 (xa_InvalidSeat TX) (hr.mono (by decide)) rfl tk rfl (vv 1))) ss_nil) (ss_one (ds_ret (dn_make (mk_Web TX) (hr.mono (by decide)) tk rfl (da_cons (vv 0) (da_cons (dn_comp (own := [("hearer", 2)]) rfl sc.nd (di_range rfl TX.n_range (da_cons (vv 1) da_nil)) (blkOk_by rfl) (fun _ _ _ _ _ => (dv_name (i := 2) sc.nd rfl (by first | exact Or.inl rfl | exact Or.inr rfl) (by decide))) (fun _ _ _ _ _ => dts_nil) (fun _ _ _ _ _ => (dn_listRng rfl rfl TX.n_list rfl TX.n_range (vv 0)))) da_nil))))))))
theorem sc_own_web : FnScope ["seats", "seat"] ["seats"] (defScope s_own_web) := ⟨rfl, rfl, rfl, by decide +kernel, rfl, by decide +kernel, by decide +kernel⟩
theorem ok_own_web (TX : TxtB K mg base T) : FnAt P w K mg base T "own_web" 7 d_own_web :=
  fn_at (kp := false) (k := 6) (N := ["seats", "seat"]) (body := b_own_web) TX.d_own_web sc_own_web (fun f cdv A outer s H E hr tk => have sc := sc_own_web; (ss_cons (ds_if (dt_not (dt_val (dn_call (ok_is_many TX) (hr.mono (by decide)) tk rfl (da_cons (vv 0) da_nil)))) (ss_one (ds_raise1 (xa_InvalidSeat TX) (hr.mono (by decide)) rfl tk rfl (vv 0))) ss_nil) (ss_one (ds_ret (dn_make (mk_Web TX) (hr.mono (by decide)) tk rfl (da_cons (vv 0) (da_cons (dn_comp (own := [("seat", 1)]) rfl sc.nd (di_range rfl TX.n_range (da_cons (vv 0) da_nil)) (blkOk_by rfl) (fun _ _ _ _ _ => (dv_name (i := 1) sc.nd rfl (by first | exact Or.inl rfl | exact Or.inr rfl) (by decide))) (fun _ _ _ _ _ => dts_nil) (fun _ _ _ _ _ => (dn_lst (da_cons (vv 1) da_nil)))) da_nil)))))))
theorem sc_time_web : FnScope ["seats", "seat"] ["seats"] (defScope s_time_web) := ⟨rfl, rfl, rfl, by decide +kernel, rfl, by decide +kernel, by decide +kernel⟩
theorem ok_time_web (TX : TxtB K mg base T) : FnAt P w K mg base T "time_web" 7 d_time_web :=
  fn_at (kp := false) (k := 6) (N := ["seats", "seat"]) (body := b_time_web) TX.d_time_web sc_time_web (fun f cdv A outer s H E hr tk => have sc := sc_time_web; (ss_cons (ds_if (dt_not (dt_val (dn_call (ok_is_many TX) (hr.mono (by decide)) tk rfl (da_cons (vv 0) da_nil)))) (ss_one (ds_raise1 (xa_InvalidSeat TX) (hr.mono (by decide)) rfl tk rfl (vv 0))) ss_nil) (ss_one (ds_ret (dn_make (mk_Web TX) (hr.mono (by decide)) tk rfl (da_cons (vv 0) (da_cons (dn_comp (own := [("seat", 1)]) rfl sc.nd (di_range rfl TX.n_range (da_cons (vv 0) da_nil)) (blkOk_by rfl) (fun _ _ _ _ _ => (dv_name (i := 1) sc.nd rfl (by first | exact Or.inl rfl | exact Or.inr rfl) (by decide))) (fun _ _ _ _ _ => dts_nil) (fun _ _ _ _ _ => (dn_listRng rfl rfl TX.n_list rfl TX.n_range (dn_add TX.hT (vv 1) dn_int)))) da_nil)))))))
theorem sc_law_named_right : FnScope ["_law_seats1", "_law_hearers1", "_law_seat", "_law_hearer"] ["_law_seats1", "_law_hearers1"] (defScope s_law_named_right) := ⟨rfl, rfl, rfl, by decide +kernel, rfl, by decide +kernel, by decide +kernel⟩
theorem ok_law_named_right (TX : TxtB K mg base T) : FnAt P w K mg base T "_law_named_right" 11 d_law_named_right :=
  fn_at (kp := false) (k := 10) (N := ["_law_seats1", "_law_hearers1", "_law_seat", "_law_hearer"]) (body := b_law_named_right) TX.d_law_named_right sc_law_named_right (fun f cdv A outer s H E hr tk => have sc := sc_law_named_right; (ss_cons (ds_if (dt_not (dt_val (dn_call (ok_law_right TX) (hr.mono (by decide)) tk rfl (da_cons (dn_call (ok_own_web TX) (hr.mono (by decide)) tk rfl (da_cons (vv 0) da_nil)) (da_cons (vv 0) (da_cons (dn_comp (own := [("_law_seat", 2)]) rfl sc.nd (di_range rfl TX.n_range (da_cons (vv 0) da_nil)) (blkOk_by rfl) (fun _ _ _ _ _ => (dv_name (i := 2) sc.nd rfl (by first | exact Or.inl rfl | exact Or.inr rfl) (by decide))) (fun _ _ _ _ _ => dts_nil) (fun _ _ _ _ _ => (dn_lst (da_cons (vv 2) da_nil)))) da_nil)))))) (ss_one (ds_ret dn_bl)) ss_nil) (ss_cons (ds_if (dt_not (dt_val (dn_call (ok_law_right TX) (hr.mono (by decide)) tk rfl (da_cons (dn_call (ok_full_web TX) (hr.mono (by decide)) tk rfl (da_cons (vv 0) (da_cons (vv 1) da_nil))) (da_cons (vv 0) (da_cons (dn_comp (own := [("_law_hearer", 3)]) rfl sc.nd (di_range rfl TX.n_range (da_cons (vv 1) da_nil)) (blkOk_by rfl) (fun _ _ _ _ _ => (dv_name (i := 3) sc.nd rfl (by first | exact Or.inl rfl | exact Or.inr rfl) (by decide))) (fun _ _ _ _ _ => dts_nil) (fun _ _ _ _ _ => (dn_listRng rfl rfl TX.n_list rfl TX.n_range (vv 0)))) da_nil)))))) (ss_one (ds_ret dn_bl)) ss_nil) (ss_one (ds_ret (dn_call (ok_law_right TX) (hr.mono (by decide)) tk rfl (da_cons (dn_call (ok_time_web TX) (hr.mono (by decide)) tk rfl (da_cons (vv 0) da_nil)) (da_cons (vv 0) (da_cons (dn_comp (own := [("_law_seat", 2)]) rfl sc.nd (di_range rfl TX.n_range (da_cons (vv 0) da_nil)) (blkOk_by rfl) (fun _ _ _ _ _ => (dv_name (i := 2) sc.nd rfl (by first | exact Or.inl rfl | exact Or.inr rfl) (by decide))) (fun _ _ _ _ _ => dts_nil) (fun _ _ _ _ _ => (dn_listRng rfl rfl TX.n_list rfl TX.n_range (dn_add TX.hT (vv 2) dn_int)))) da_nil)))))))))
theorem sc_law : FnScope ["_law_script", "_law_k", "_law_box_here", "_law_seats1", "_law_hearers1", "_law_lots1", "_law_handed", "_law_told", "_law_lot"] ["_law_script"] (defScope s_law) := ⟨rfl, rfl, rfl, by decide +kernel, rfl, by decide +kernel, by decide +kernel⟩
theorem ok_law (TX : TxtB K mg base T) {f : Addr} {fd : FuncData} (F : Fun K "law" "law" s_law f fd) : FnOk P w K mg base (L2.CX P w) 15 f fd ["_law_script"] (spD T d_law) :=
  fn_okT (kp := false) (k := 14) (N := ["_law_script", "_law_k", "_law_box_here", "_law_seats1", "_law_hearers1", "_law_lots1", "_law_handed", "_law_told", "_law_lot"]) (body := b_law) F sc_law (fun f cdv A outer s H E hr tk => have sc := sc_law; (ss_cons (ds_for PassesOwn.leaving rfl (di_range rfl TX.n_range (da_cons (dn_max2 rfl rfl TX.n_max (da_cons dn_int (da_cons (dn_min2 rfl rfl TX.n_min (da_cons dn_int (da_cons (dn_lenXO TX.hT (hr.mono (by decide)) (lens_ok TX) rfl TX.n_len (da_cons (vv 0) da_nil)) da_nil))) da_nil))) da_nil)) (dg_name (i := 1) sc.nd rfl (Or.inl rfl)) (ss_cons (ds_set (i := 2) sc.nd rfl (Or.inl rfl) (dn_call (ok_law_box TX) (hr.mono (by decide)) tk rfl (da_cons (vv 0) (da_cons (vv 1) da_nil)))) (ss_cons (ds_par (i := 3) (j := 4) rfl sc.nd rfl rfl (by decide) rfl rfl (da_cons (dn_add TX.hT dn_int (dn_call (ok_law_take TX) (hr.mono (by decide)) tk rfl (da_cons (vv 2) (da_cons dn_int da_nil)))) (da_cons (dn_add TX.hT dn_int (dn_call (ok_law_take TX) (hr.mono (by decide)) tk rfl (da_cons (vv 2) (da_cons dn_int da_nil)))) da_nil)) rfl) (ss_cons (ds_set (i := 5) sc.nd rfl (Or.inl rfl) (dn_call (ok_law_lots TX) (hr.mono (by decide)) tk rfl (da_cons (vv 2) (da_cons (vv 3) (da_cons (vv 4) da_nil))))) (ss_cons (ds_setCompS (own := [("_law_lot", 8)]) (i := 6) rfl sc.nd rfl rfl rfl (di_seq TX.hT (vv 5)) (blkOk_by rfl) (fun _ _ _ _ _ => (dv_name (i := 8) sc.nd rfl (by first | exact Or.inl rfl | exact Or.inr rfl) (by decide))) (fun _ _ _ _ _ => dts_nil) (fun _ _ _ _ _ => (dn_listK TX.hT rfl TX.n_list (da_cons (vv 8) da_nil)))) (ss_cons (ds_set (i := 7) sc.nd rfl (Or.inl rfl) (dn_make (mk_Web TX) (hr.mono (by decide)) tk rfl (da_cons (vv 3) (da_cons (vv 6) da_nil)))) (ss_cons (ds_expr (dn_appS (dn_ixS TX.hT (vv 6) dn_int) (da_cons dn_int da_nil))) (ss_cons (ds_expr (dn_appS (vv 6) (da_cons dn_non da_nil))) (ss_cons (ds_if (PW.pt (dw_or (dt_pure (dt_not (dt_val (dn_call (ok_law_right TX) (hr.mono (by decide)) takes0 rfl (da_cons (vv 7) (da_cons (vv 3) (da_cons (vv 5) da_nil))))))) (dw_or1 (dt_not (dt_val (dn_call (ok_law_equal_right TX) (hr.mono (by decide)) tk rfl (da_cons (vv 2) (da_cons (vv 7) (da_cons (vv 3) (da_cons (vv 5) da_nil)))))))))) (ss_one (ds_ret dn_bl)) ss_nil) (ss_cons (ds_expr (dn_appS (dn_ixS TX.hT (dn_meth0 (vv 7) (tA_lots_ok TX) (hr.mono (by decide)) tk) dn_int) (da_cons dn_int da_nil))) (ss_cons (ds_expr (dn_clear (dn_meth0 (vv 7) (tA_lots_ok TX) (hr.mono (by decide)) tk))) (ss_cons (ds_expr (dn_appS (dn_meth0 (vv 7) (tA_links_ok TX) (hr.mono (by decide)) tk) (da_cons dn_non da_nil))) (ss_cons (ds_if (dt_pure (PW.pt (dw_or (dt_not (dt_val (dn_call (ok_law_right TX) (hr.mono (by decide)) takes0 rfl (da_cons (vv 7) (da_cons (vv 3) (da_cons (vv 5) da_nil)))))) (dw_or1 (dt_not (dt_val (dn_call (ok_law_named_right TX) (hr.mono (by decide)) takes0 rfl (da_cons (vv 3) (da_cons (vv 4) da_nil))))))))) (ss_one (ds_ret dn_bl)) ss_nil) (ss_one (ds_if (dt_pure (PW.pt (dw_and (dt_eqG (eqs_ok TX) (eqs_nf TX) TX.hT (hr.mono (by decide)) (vv 1) dn_int) (dw_and1 (dt_not (dt_val (dn_call (ok_law_all_right TX) (hr.mono (by decide)) takes0 rfl (da_cons (vv 3) (da_cons (vv 4) da_nil))))))))) (ss_one (ds_ret dn_bl)) ss_nil))))))))))))))) (ss_one (ds_ret dn_bl))))
end
theorem all_mk {l : PySem.W.OpenLaw} {w : World} {K : PySem.W.Frag} {h : Heap} {mg : Str → Option Value} {fa : Addr} {C12 C13 C20 C22 C27 C21 C26 C1 C2 C0 : Addr} {f_is_number f_parts_of f_Ratio_eq f_Telling_eq f_Web_eq f_law_all_lots f_all_lots f_is_integer f_is_place f_is_many f_Web_len f_is_lot f_are_lots f_Web_init f_all_webs f_Web_lots f_law_all_right f_law_box f_law_take f_law_lots f_Ratio_init f_as_ratio f_Ratio_below f_is_share_list f_Ratio_add f_total f_are_chances f_are_lines f_product_of f_are_marks f_Telling_init f_law_equal_right f_law_links f_Web_links f_law_right f_full_web f_own_web f_time_web f_law_named_right f_law : Addr} {QQ : Program} (X_ : K.In h) (G : h.Ns mainGlobals mg) (hfa : mg "law" = some (.ref fa)) (TS : TabsOf QQ mg h)
    {od_is_number an_is_number od_parts_of an_parts_of od_Ratio_eq an_Ratio_eq od_Telling_eq an_Telling_eq od_Web_eq an_Web_eq od_law_all_lots an_law_all_lots od_all_lots an_all_lots od_is_integer an_is_integer od_is_place an_is_place od_is_many an_is_many od_Web_len an_Web_len od_is_lot an_is_lot od_are_lots an_are_lots od_Web_init an_Web_init od_all_webs an_all_webs od_Web_lots an_Web_lots od_law_all_right an_law_all_right od_law_box an_law_box od_law_take an_law_take od_law_lots an_law_lots od_Ratio_init an_Ratio_init od_as_ratio an_as_ratio od_Ratio_below an_Ratio_below od_is_share_list an_is_share_list od_Ratio_add an_Ratio_add od_total an_total od_are_chances an_are_chances od_are_lines an_are_lines od_product_of an_product_of od_are_marks an_are_marks od_Telling_init an_Telling_init od_law_equal_right an_law_equal_right od_law_links an_law_links od_Web_links an_Web_links od_law_right an_law_right od_full_web an_full_web od_own_web an_own_web od_time_web an_time_web od_law_named_right an_law_named_right od_law an_law : Option Addr} {sl_is_number sl_parts_of sl_Ratio_eq sl_Telling_eq sl_Web_eq sl_law_all_lots sl_all_lots sl_is_integer sl_is_place sl_is_many sl_Web_len sl_is_lot sl_are_lots sl_Web_init sl_all_webs sl_Web_lots sl_law_all_right sl_law_box sl_law_take sl_law_lots sl_Ratio_init sl_as_ratio sl_Ratio_below sl_is_share_list sl_Ratio_add sl_total sl_are_chances sl_are_lines sl_product_of sl_are_marks sl_Telling_init sl_law_equal_right sl_law_links sl_Web_links sl_law_right sl_full_web sl_own_web sl_time_web sl_law_named_right sl_law : Array (Option Value)} {oc_is_number kV_is_number dc_is_number pm_is_number cd_is_number ct_is_number oc_parts_of kV_parts_of dc_parts_of pm_parts_of cd_parts_of ct_parts_of oc_Ratio_eq kV_Ratio_eq dc_Ratio_eq pm_Ratio_eq cd_Ratio_eq ct_Ratio_eq oc_Telling_eq kV_Telling_eq dc_Telling_eq pm_Telling_eq cd_Telling_eq ct_Telling_eq oc_Web_eq kV_Web_eq dc_Web_eq pm_Web_eq cd_Web_eq ct_Web_eq oc_law_all_lots kV_law_all_lots dc_law_all_lots pm_law_all_lots cd_law_all_lots ct_law_all_lots oc_all_lots kV_all_lots dc_all_lots pm_all_lots cd_all_lots ct_all_lots oc_is_integer kV_is_integer dc_is_integer pm_is_integer cd_is_integer ct_is_integer oc_is_place kV_is_place dc_is_place pm_is_place cd_is_place ct_is_place oc_is_many kV_is_many dc_is_many pm_is_many cd_is_many ct_is_many oc_Web_len kV_Web_len dc_Web_len pm_Web_len cd_Web_len ct_Web_len oc_is_lot kV_is_lot dc_is_lot pm_is_lot cd_is_lot ct_is_lot oc_are_lots kV_are_lots dc_are_lots pm_are_lots cd_are_lots ct_are_lots oc_Web_init kV_Web_init dc_Web_init pm_Web_init cd_Web_init ct_Web_init oc_all_webs kV_all_webs dc_all_webs pm_all_webs cd_all_webs ct_all_webs oc_Web_lots kV_Web_lots dc_Web_lots pm_Web_lots cd_Web_lots ct_Web_lots oc_law_all_right kV_law_all_right dc_law_all_right pm_law_all_right cd_law_all_right ct_law_all_right oc_law_box kV_law_box dc_law_box pm_law_box cd_law_box ct_law_box oc_law_take kV_law_take dc_law_take pm_law_take cd_law_take ct_law_take oc_law_lots kV_law_lots dc_law_lots pm_law_lots cd_law_lots ct_law_lots oc_Ratio_init kV_Ratio_init dc_Ratio_init pm_Ratio_init cd_Ratio_init ct_Ratio_init oc_as_ratio kV_as_ratio dc_as_ratio pm_as_ratio cd_as_ratio ct_as_ratio oc_Ratio_below kV_Ratio_below dc_Ratio_below pm_Ratio_below cd_Ratio_below ct_Ratio_below oc_is_share_list kV_is_share_list dc_is_share_list pm_is_share_list cd_is_share_list ct_is_share_list oc_Ratio_add kV_Ratio_add dc_Ratio_add pm_Ratio_add cd_Ratio_add ct_Ratio_add oc_total kV_total dc_total pm_total cd_total ct_total oc_are_chances kV_are_chances dc_are_chances pm_are_chances cd_are_chances ct_are_chances oc_are_lines kV_are_lines dc_are_lines pm_are_lines cd_are_lines ct_are_lines oc_product_of kV_product_of dc_product_of pm_product_of cd_product_of ct_product_of oc_are_marks kV_are_marks dc_are_marks pm_are_marks cd_are_marks ct_are_marks oc_Telling_init kV_Telling_init dc_Telling_init pm_Telling_init cd_Telling_init ct_Telling_init oc_law_equal_right kV_law_equal_right dc_law_equal_right pm_law_equal_right cd_law_equal_right ct_law_equal_right oc_law_links kV_law_links dc_law_links pm_law_links cd_law_links ct_law_links oc_Web_links kV_Web_links dc_Web_links pm_Web_links cd_Web_links ct_Web_links oc_law_right kV_law_right dc_law_right pm_law_right cd_law_right ct_law_right oc_full_web kV_full_web dc_full_web pm_full_web cd_full_web ct_full_web oc_own_web kV_own_web dc_own_web pm_own_web cd_own_web ct_own_web oc_time_web kV_time_web dc_time_web pm_time_web cd_time_web ct_time_web oc_law_named_right kV_law_named_right dc_law_named_right pm_law_named_right cd_law_named_right ct_law_named_right oc_law kV_law dc_law pm_law cd_law ct_law : Value} {t_MOST_ROWS t_MOST_SEATS t_MOST_STATES : Tok}
    {rc_add1 fo_add1 ro_add1 : Option Value}
    {fn_x20 N_x20 : Addr}
    {nm_x20 q_x20 : Str}
    {bs_x20 bm_x20 sub_x20 : List Value}
    {sn_x20 : List Str}
    {ab_x20 : Bool}
    {col_x20 : Option Bool}
    {dd_x20 : Option Addr}
    {k0_x20 k1_x20 k2_x20 k3_x20 k5_x20 : Option Value}
    {od_x20 an_x20 : Option Addr}
    {sl_x20 : Array (Option Value)}
    {oc_x20 kV_x20 dc_x20 pm_x20 cd_x20 ct_x20 : Value}
    {fn_x22 N_x22 : Addr}
    {nm_x22 q_x22 : Str}
    {bs_x22 bm_x22 sub_x22 : List Value}
    {sn_x22 : List Str}
    {ab_x22 : Bool}
    {col_x22 : Option Bool}
    {dd_x22 : Option Addr}
    {k0_x22 k1_x22 k2_x22 k3_x22 k5_x22 : Option Value}
    {od_x22 an_x22 : Option Addr}
    {sl_x22 : Array (Option Value)}
    {oc_x22 kV_x22 dc_x22 pm_x22 cd_x22 ct_x22 : Value}
    {fn_x27 N_x27 : Addr}
    {nm_x27 q_x27 : Str}
    {bs_x27 bm_x27 sub_x27 : List Value}
    {sn_x27 : List Str}
    {ab_x27 : Bool}
    {col_x27 : Option Bool}
    {dd_x27 : Option Addr}
    {k0_x27 k1_x27 k2_x27 k3_x27 k5_x27 : Option Value}
    {od_x27 an_x27 : Option Addr}
    {sl_x27 : Array (Option Value)}
    {oc_x27 kV_x27 dc_x27 pm_x27 cd_x27 ct_x27 : Value}
    {fn_x21 N_x21 : Addr}
    {nm_x21 q_x21 : Str}
    {bs_x21 bm_x21 sub_x21 : List Value}
    {sn_x21 : List Str}
    {ab_x21 : Bool}
    {col_x21 : Option Bool}
    {dd_x21 : Option Addr}
    {k0_x21 k1_x21 k2_x21 k3_x21 k5_x21 : Option Value}
    {od_x21 an_x21 : Option Addr}
    {sl_x21 : Array (Option Value)}
    {oc_x21 kV_x21 dc_x21 pm_x21 cd_x21 ct_x21 : Value}
    {fn_x26 N_x26 : Addr}
    {nm_x26 q_x26 : Str}
    {bs_x26 bm_x26 sub_x26 : List Value}
    {sn_x26 : List Str}
    {ab_x26 : Bool}
    {col_x26 : Option Bool}
    {dd_x26 : Option Addr}
    {k0_x26 k1_x26 k2_x26 k3_x26 k5_x26 : Option Value}
    {od_x26 an_x26 : Option Addr}
    {sl_x26 : Array (Option Value)}
    {oc_x26 kV_x26 dc_x26 pm_x26 cd_x26 ct_x26 : Value}
    {pp_p1_bottom ga_p1_bottom : Addr}
    {rs_p1_bottom : List Value}
    {od_p1_bottom an_p1_bottom : Option Addr}
    {sl_p1_bottom : Array (Option Value)}
    {oc_p1_bottom kV_p1_bottom dc_p1_bottom pm_p1_bottom cd_p1_bottom ct_p1_bottom : Value}
    {pp_p1_top ga_p1_top : Addr}
    {rs_p1_top : List Value}
    {od_p1_top an_p1_top : Option Addr}
    {sl_p1_top : Array (Option Value)}
    {oc_p1_top kV_p1_top dc_p1_top pm_p1_top cd_p1_top ct_p1_top : Value}
    {TT_Ratio_init : Addr}
    {ot_Ratio_init : Obj}
    {tt_Ratio_init : Tok}
    {nn_Ratio_init : Nat}
    {tc_is_share_list tp_is_share_list : Addr}
    {tv_is_share_list : List Value}
    (a12 : PySem.W.nsIn K mainGlobals "TellError" = some (some (.ref C12)))
    (a13 : PySem.W.nsIn K mainGlobals "ByZero" = some (some (.ref C13)))
    (a20 : PySem.W.nsIn K mainGlobals "InvalidNumber" = some (some (.ref C20)))
    (a22 : PySem.W.nsIn K mainGlobals "InvalidChances" = some (some (.ref C22)))
    (a27 : PySem.W.nsIn K mainGlobals "InvalidSeat" = some (some (.ref C27)))
    (a21 : PySem.W.nsIn K mainGlobals "InvalidMarks" = some (some (.ref C21)))
    (a26 : PySem.W.nsIn K mainGlobals "InvalidLot" = some (some (.ref C26)))
    (a1 : PySem.W.nsIn K mainGlobals "Ratio" = some (some (.ref C1)))
    (a2 : PySem.W.nsIn K mainGlobals "Telling" = some (some (.ref C2)))
    (a0 : PySem.W.nsIn K mainGlobals "Web" = some (some (.ref C0)))
    (gi_MOST_ROWS : PySem.W.nsIn K mainGlobals "MOST_ROWS" = some (some (.int 64 t_MOST_ROWS)))
    (gi_MOST_SEATS : PySem.W.nsIn K mainGlobals "MOST_SEATS" = some (some (.int 3 t_MOST_SEATS)))
    (gi_MOST_STATES : PySem.W.nsIn K mainGlobals "MOST_STATES" = some (some (.int 4 t_MOST_STATES)))
    (n_abs : PySem.W.nsIn K mainGlobals "abs" = some none)
    (n_all : PySem.W.nsIn K mainGlobals "all" = some none)
    (n_any : PySem.W.nsIn K mainGlobals "any" = some none)
    (n_bool : PySem.W.nsIn K mainGlobals "bool" = some none)
    (n_enumerate : PySem.W.nsIn K mainGlobals "enumerate" = some none)
    (n_int : PySem.W.nsIn K mainGlobals "int" = some none)
    (n_isinstance : PySem.W.nsIn K mainGlobals "isinstance" = some none)
    (n_len : PySem.W.nsIn K mainGlobals "len" = some none)
    (n_list : PySem.W.nsIn K mainGlobals "list" = some none)
    (n_max : PySem.W.nsIn K mainGlobals "max" = some none)
    (n_min : PySem.W.nsIn K mainGlobals "min" = some none)
    (n_range : PySem.W.nsIn K mainGlobals "range" = some none)
    (n_sorted : PySem.W.nsIn K mainGlobals "sorted" = some none)
    (n_sum : PySem.W.nsIn K mainGlobals "sum" = some none)
    (n_tuple : PySem.W.nsIn K mainGlobals "tuple" = some none)
    (pg1 : PySem.W.plainGet K C1 Str.empty = true)
    (hd1 : PySem.W.hasDictIn K C1 = true)
    (po1 : PySem.W.plainOver K C1 = true)
    (sa1 : PySem.W.findIn K (.ref C1) "__setattr__" = some (some (.builtin "object.__setattr__")))
    (pg2 : PySem.W.plainGet K C2 Str.empty = true)
    (hd2 : PySem.W.hasDictIn K C2 = true)
    (po2 : PySem.W.plainOver K C2 = true)
    (sa2 : PySem.W.findIn K (.ref C2) "__setattr__" = some (some (.builtin "object.__setattr__")))
    (pg0 : PySem.W.plainGet K C0 Str.empty = true)
    (hd0 : PySem.W.hasDictIn K C0 = true)
    (po0 : PySem.W.plainOver K C0 = true)
    (sa0 : PySem.W.findIn K (.ref C0) "__setattr__" = some (some (.builtin "object.__setattr__")))
    (no1__bottom : PySem.W.findIn K (.ref C1) "_bottom" = some none)
    (no1__top : PySem.W.findIn K (.ref C1) "_top" = some none)
    (no0_heard_lots : PySem.W.findIn K (.ref C0) "heard_lots" = some none)
    (no2_marks : PySem.W.findIn K (.ref C2) "marks" = some none)
    (no0_seats : PySem.W.findIn K (.ref C0) "seats" = some none)
    (no2_seats : PySem.W.findIn K (.ref C2) "seats" = some none)
    (no2_states : PySem.W.findIn K (.ref C2) "states" = some none)
    (no2_table : PySem.W.findIn K (.ref C2) "table" = some none)
    (ha0 : PySem.W.findIn K (.ref C0) "__class__" = some (some (.builtin "object.__class__")))
    (hn0 : PySem.W.specialIn K (.builtin "object.__class__") "__get__" = some (some (.builtin "getset_descriptor.__get__")))
    (ht0 : PySem.W.takesIn K (.builtin "object.__class__") = some true)
    (hm0 : PySem.W.mroIn K C0 (.type "object") = some true)
    (xi1 : PySem.W.isClsIn K C1 = true)
    (xt1 : PySem.W.typeIn K (.ref C1) = some (.type "type"))
    (sc_0_1 : PySem.W.subIn K (.ref C0) (.ref C1) = some false)
    (sn_0_1 : (Value.ref C0 == Value.ref C1) = false)
    (ha2 : PySem.W.findIn K (.ref C2) "__class__" = some (some (.builtin "object.__class__")))
    (hn2 : PySem.W.specialIn K (.builtin "object.__class__") "__get__" = some (some (.builtin "getset_descriptor.__get__")))
    (ht2 : PySem.W.takesIn K (.builtin "object.__class__") = some true)
    (hm2 : PySem.W.mroIn K C2 (.type "object") = some true)
    (sc_2_1 : PySem.W.subIn K (.ref C2) (.ref C1) = some false)
    (sn_2_1 : (Value.ref C2 == Value.ref C1) = false)
    (ha1 : PySem.W.findIn K (.ref C1) "__class__" = some (some (.builtin "object.__class__")))
    (hn1 : PySem.W.specialIn K (.builtin "object.__class__") "__get__" = some (some (.builtin "getset_descriptor.__get__")))
    (ht1 : PySem.W.takesIn K (.builtin "object.__class__") = some true)
    (hm1 : PySem.W.mroIn K C1 (.type "object") = some true)
    (st_NoneType_1 : PySem.W.subIn K (.type "NoneType") (.ref C1) = some false)
    (st_bool_1 : PySem.W.subIn K (.type "bool") (.ref C1) = some false)
    (st_int_1 : PySem.W.subIn K (.type "int") (.ref C1) = some false)
    (st_str_1 : PySem.W.subIn K (.type "str") (.ref C1) = some false)
    (st_list_1 : PySem.W.subIn K (.type "list") (.ref C1) = some false)
    (st_tuple_1 : PySem.W.subIn K (.type "tuple") (.ref C1) = some false)
    (st_dict_1 : PySem.W.subIn K (.type "dict") (.ref C1) = some false)
    (xi2 : PySem.W.isClsIn K C2 = true)
    (xt2 : PySem.W.typeIn K (.ref C2) = some (.type "type"))
    (sc_0_2 : PySem.W.subIn K (.ref C0) (.ref C2) = some false)
    (sn_0_2 : (Value.ref C0 == Value.ref C2) = false)
    (sc_1_2 : PySem.W.subIn K (.ref C1) (.ref C2) = some false)
    (sn_1_2 : (Value.ref C1 == Value.ref C2) = false)
    (st_NoneType_2 : PySem.W.subIn K (.type "NoneType") (.ref C2) = some false)
    (st_bool_2 : PySem.W.subIn K (.type "bool") (.ref C2) = some false)
    (st_int_2 : PySem.W.subIn K (.type "int") (.ref C2) = some false)
    (st_str_2 : PySem.W.subIn K (.type "str") (.ref C2) = some false)
    (st_list_2 : PySem.W.subIn K (.type "list") (.ref C2) = some false)
    (st_tuple_2 : PySem.W.subIn K (.type "tuple") (.ref C2) = some false)
    (st_dict_2 : PySem.W.subIn K (.type "dict") (.ref C2) = some false)
    (xi0 : PySem.W.isClsIn K C0 = true)
    (xt0 : PySem.W.typeIn K (.ref C0) = some (.type "type"))
    (sc_2_0 : PySem.W.subIn K (.ref C2) (.ref C0) = some false)
    (sn_2_0 : (Value.ref C2 == Value.ref C0) = false)
    (sc_1_0 : PySem.W.subIn K (.ref C1) (.ref C0) = some false)
    (sn_1_0 : (Value.ref C1 == Value.ref C0) = false)
    (st_NoneType_0 : PySem.W.subIn K (.type "NoneType") (.ref C0) = some false)
    (st_bool_0 : PySem.W.subIn K (.type "bool") (.ref C0) = some false)
    (st_int_0 : PySem.W.subIn K (.type "int") (.ref C0) = some false)
    (st_str_0 : PySem.W.subIn K (.type "str") (.ref C0) = some false)
    (st_list_0 : PySem.W.subIn K (.type "list") (.ref C0) = some false)
    (st_tuple_0 : PySem.W.subIn K (.type "tuple") (.ref C0) = some false)
    (st_dict_0 : PySem.W.subIn K (.type "dict") (.ref C0) = some false)
    (so_0_bool : PySem.W.subIn K (.ref C0) (.type "bool") = some false)
    (so_2_bool : PySem.W.subIn K (.ref C2) (.type "bool") = some false)
    (so_1_bool : PySem.W.subIn K (.ref C1) (.type "bool") = some false)
    (so_0_int : PySem.W.subIn K (.ref C0) (.type "int") = some false)
    (so_2_int : PySem.W.subIn K (.ref C2) (.type "int") = some false)
    (so_1_int : PySem.W.subIn K (.ref C1) (.type "int") = some false)
    (so_0_list : PySem.W.subIn K (.ref C0) (.type "list") = some false)
    (so_2_list : PySem.W.subIn K (.ref C2) (.type "list") = some false)
    (so_1_list : PySem.W.subIn K (.ref C1) (.type "list") = some false)
    (so_0_tuple : PySem.W.subIn K (.ref C0) (.type "tuple") = some false)
    (so_2_tuple : PySem.W.subIn K (.ref C2) (.type "tuple") = some false)
    (so_1_tuple : PySem.W.subIn K (.ref C1) (.type "tuple") = some false)
    (sf1 : PySem.W.selfFirst K C1 = true)
    (or_add1 : PySem.W.findIn K (.ref C1) "__radd__" = some rc_add1)
    (og_add1 : rc_add1 = none ∨ ∃ g : Addr, rc_add1 = some (.ref g))
    (o1_add1 : PySem.W.findIn K (.type "int") "__add__" = some fo_add1)
    (o2_add1 : PySem.W.findIn K (.type "int") "__radd__" = some ro_add1)
    (nf1_Web : PySem.W.notFirst K C1 (.ref C0) = true)
    (nf1_Telling : PySem.W.notFirst K C1 (.ref C2) = true)
    (nf1_Ratio : PySem.W.notFirst K C1 (.ref C1) = true)
    (nf1_NoneType : PySem.W.notFirst K C1 (.type "NoneType") = true)
    (nf1_bool : PySem.W.notFirst K C1 (.type "bool") = true)
    (nf1_int : PySem.W.notFirst K C1 (.type "int") = true)
    (nf1_str : PySem.W.notFirst K C1 (.type "str") = true)
    (nf1_list : PySem.W.notFirst K C1 (.type "list") = true)
    (nf1_tuple : PySem.W.notFirst K C1 (.type "tuple") = true)
    (nf1_dict : PySem.W.notFirst K C1 (.type "dict") = true)
    (nf2_Web : PySem.W.notFirst K C2 (.ref C0) = true)
    (nf2_Telling : PySem.W.notFirst K C2 (.ref C2) = true)
    (nf2_Ratio : PySem.W.notFirst K C2 (.ref C1) = true)
    (nf2_NoneType : PySem.W.notFirst K C2 (.type "NoneType") = true)
    (nf2_bool : PySem.W.notFirst K C2 (.type "bool") = true)
    (nf2_int : PySem.W.notFirst K C2 (.type "int") = true)
    (nf2_str : PySem.W.notFirst K C2 (.type "str") = true)
    (nf2_list : PySem.W.notFirst K C2 (.type "list") = true)
    (nf2_tuple : PySem.W.notFirst K C2 (.type "tuple") = true)
    (nf2_dict : PySem.W.notFirst K C2 (.type "dict") = true)
    (nf0_Web : PySem.W.notFirst K C0 (.ref C0) = true)
    (nf0_Telling : PySem.W.notFirst K C0 (.ref C2) = true)
    (nf0_Ratio : PySem.W.notFirst K C0 (.ref C1) = true)
    (nf0_NoneType : PySem.W.notFirst K C0 (.type "NoneType") = true)
    (nf0_bool : PySem.W.notFirst K C0 (.type "bool") = true)
    (nf0_int : PySem.W.notFirst K C0 (.type "int") = true)
    (nf0_str : PySem.W.notFirst K C0 (.type "str") = true)
    (nf0_list : PySem.W.notFirst K C0 (.type "list") = true)
    (nf0_tuple : PySem.W.notFirst K C0 (.type "tuple") = true)
    (nf0_dict : PySem.W.notFirst K C0 (.type "dict") = true)
    (ei13 : PySem.W.excIn K C13 [.type "ValueError", .type "Exception", .type "BaseException", .type "object"] "ValueError.__new__" = true)
    (ek13 : PySem.W.keepIn K (.ref C13) = true)
    (er13 : PySem.W.subIn K (.ref C13) (.type "BaseException") = some true)
    (et13 : PySem.W.typeIn K (.ref C13) = some (.type "type"))
    (le1 : PySem.W.specialIn K (.ref C12) "__getattribute__" = some (some (.builtin "type.__getattribute__")))
    (le2 : PySem.W.readsIn K C12 (.type "type") = true)
    (le3 : PySem.W.findCls K (.ref C12) (.type "type") "__init__" = some (.val (.builtin "ValueError.__init__")))
    (iC_x20 : PySem.W.findIn K (.ref C20) "__init__" = some (some (.ref fn_x20)))
    (tI_x20 : PySem.W.typeIn K (.ref fn_x20) = some (.type "function"))
    (l_x20 : K.lookup fn_x20 = some ⟨oc_x20, od_x20, .func (PySem.W.fnOf "__init__" "InvalidNumber.__init__" (defArgs s_InvalidNumber_init) (defBody s_InvalidNumber_init) (defScope s_InvalidNumber_init) .none kV_x20 dc_x20 pm_x20 an_x20 cd_x20 ct_x20), sl_x20⟩)
    (c_x20 : PySem.W.codeIn K cd_x20 "InvalidNumber.__init__" = true)
    (k_x20 : PySem.W.keepIn K (.ref fn_x20) = true)
    (lo_x20 : K.lookup C20 = some (excClassObj nm_x20 q_x20 C20 N_x20 bs_x20 bm_x20 true sn_x20 sub_x20 ab_x20 col_x20 dd_x20 k0_x20 k1_x20 k2_x20 k3_x20 k5_x20 "ValueError.__new__"))
    (rv_x20 : PySem.HandSPX.refsVE bm_x20 = true)
    (sa20 : PySem.W.findIn K (.ref C20) "__setattr__" = some (some (.builtin "object.__setattr__")))
    (xb20 : PySem.W.subIn K (.ref C20) (.type "BaseException") = some true)
    (xt20 : PySem.W.typeIn K (.ref C20) = some (.type "type"))
    (ek20 : PySem.W.keepIn K (.ref C20) = true)
    (xn20_given : PySem.W.findIn K (.ref C20) "given" = some none)
    (iC_x22 : PySem.W.findIn K (.ref C22) "__init__" = some (some (.ref fn_x22)))
    (tI_x22 : PySem.W.typeIn K (.ref fn_x22) = some (.type "function"))
    (l_x22 : K.lookup fn_x22 = some ⟨oc_x22, od_x22, .func (PySem.W.fnOf "__init__" "InvalidChances.__init__" (defArgs s_InvalidChances_init) (defBody s_InvalidChances_init) (defScope s_InvalidChances_init) .none kV_x22 dc_x22 pm_x22 an_x22 cd_x22 ct_x22), sl_x22⟩)
    (c_x22 : PySem.W.codeIn K cd_x22 "InvalidChances.__init__" = true)
    (k_x22 : PySem.W.keepIn K (.ref fn_x22) = true)
    (lo_x22 : K.lookup C22 = some (excClassObj nm_x22 q_x22 C22 N_x22 bs_x22 bm_x22 true sn_x22 sub_x22 ab_x22 col_x22 dd_x22 k0_x22 k1_x22 k2_x22 k3_x22 k5_x22 "ValueError.__new__"))
    (rv_x22 : PySem.HandSPX.refsVE bm_x22 = true)
    (sa22 : PySem.W.findIn K (.ref C22) "__setattr__" = some (some (.builtin "object.__setattr__")))
    (xb22 : PySem.W.subIn K (.ref C22) (.type "BaseException") = some true)
    (xt22 : PySem.W.typeIn K (.ref C22) = some (.type "type"))
    (ek22 : PySem.W.keepIn K (.ref C22) = true)
    (xn22_given : PySem.W.findIn K (.ref C22) "given" = some none)
    (iC_x27 : PySem.W.findIn K (.ref C27) "__init__" = some (some (.ref fn_x27)))
    (tI_x27 : PySem.W.typeIn K (.ref fn_x27) = some (.type "function"))
    (l_x27 : K.lookup fn_x27 = some ⟨oc_x27, od_x27, .func (PySem.W.fnOf "__init__" "InvalidSeat.__init__" (defArgs s_InvalidSeat_init) (defBody s_InvalidSeat_init) (defScope s_InvalidSeat_init) .none kV_x27 dc_x27 pm_x27 an_x27 cd_x27 ct_x27), sl_x27⟩)
    (c_x27 : PySem.W.codeIn K cd_x27 "InvalidSeat.__init__" = true)
    (k_x27 : PySem.W.keepIn K (.ref fn_x27) = true)
    (lo_x27 : K.lookup C27 = some (excClassObj nm_x27 q_x27 C27 N_x27 bs_x27 bm_x27 true sn_x27 sub_x27 ab_x27 col_x27 dd_x27 k0_x27 k1_x27 k2_x27 k3_x27 k5_x27 "ValueError.__new__"))
    (rv_x27 : PySem.HandSPX.refsVE bm_x27 = true)
    (sa27 : PySem.W.findIn K (.ref C27) "__setattr__" = some (some (.builtin "object.__setattr__")))
    (xb27 : PySem.W.subIn K (.ref C27) (.type "BaseException") = some true)
    (xt27 : PySem.W.typeIn K (.ref C27) = some (.type "type"))
    (ek27 : PySem.W.keepIn K (.ref C27) = true)
    (xn27_given : PySem.W.findIn K (.ref C27) "given" = some none)
    (iC_x21 : PySem.W.findIn K (.ref C21) "__init__" = some (some (.ref fn_x21)))
    (tI_x21 : PySem.W.typeIn K (.ref fn_x21) = some (.type "function"))
    (l_x21 : K.lookup fn_x21 = some ⟨oc_x21, od_x21, .func (PySem.W.fnOf "__init__" "InvalidMarks.__init__" (defArgs s_InvalidMarks_init) (defBody s_InvalidMarks_init) (defScope s_InvalidMarks_init) .none kV_x21 dc_x21 pm_x21 an_x21 cd_x21 ct_x21), sl_x21⟩)
    (c_x21 : PySem.W.codeIn K cd_x21 "InvalidMarks.__init__" = true)
    (k_x21 : PySem.W.keepIn K (.ref fn_x21) = true)
    (lo_x21 : K.lookup C21 = some (excClassObj nm_x21 q_x21 C21 N_x21 bs_x21 bm_x21 true sn_x21 sub_x21 ab_x21 col_x21 dd_x21 k0_x21 k1_x21 k2_x21 k3_x21 k5_x21 "ValueError.__new__"))
    (rv_x21 : PySem.HandSPX.refsVE bm_x21 = true)
    (sa21 : PySem.W.findIn K (.ref C21) "__setattr__" = some (some (.builtin "object.__setattr__")))
    (xb21 : PySem.W.subIn K (.ref C21) (.type "BaseException") = some true)
    (xt21 : PySem.W.typeIn K (.ref C21) = some (.type "type"))
    (ek21 : PySem.W.keepIn K (.ref C21) = true)
    (xn21_given : PySem.W.findIn K (.ref C21) "given" = some none)
    (iC_x26 : PySem.W.findIn K (.ref C26) "__init__" = some (some (.ref fn_x26)))
    (tI_x26 : PySem.W.typeIn K (.ref fn_x26) = some (.type "function"))
    (l_x26 : K.lookup fn_x26 = some ⟨oc_x26, od_x26, .func (PySem.W.fnOf "__init__" "InvalidLot.__init__" (defArgs s_InvalidLot_init) (defBody s_InvalidLot_init) (defScope s_InvalidLot_init) .none kV_x26 dc_x26 pm_x26 an_x26 cd_x26 ct_x26), sl_x26⟩)
    (c_x26 : PySem.W.codeIn K cd_x26 "InvalidLot.__init__" = true)
    (k_x26 : PySem.W.keepIn K (.ref fn_x26) = true)
    (lo_x26 : K.lookup C26 = some (excClassObj nm_x26 q_x26 C26 N_x26 bs_x26 bm_x26 true sn_x26 sub_x26 ab_x26 col_x26 dd_x26 k0_x26 k1_x26 k2_x26 k3_x26 k5_x26 "ValueError.__new__"))
    (rv_x26 : PySem.HandSPX.refsVE bm_x26 = true)
    (sa26 : PySem.W.findIn K (.ref C26) "__setattr__" = some (some (.builtin "object.__setattr__")))
    (xb26 : PySem.W.subIn K (.ref C26) (.type "BaseException") = some true)
    (xt26 : PySem.W.typeIn K (.ref C26) = some (.type "type"))
    (ek26 : PySem.W.keepIn K (.ref C26) = true)
    (xn26_given : PySem.W.findIn K (.ref C26) "given" = some none)
    (gcd : PySem.W.nsIn K mainGlobals "gcd" = some (some (.builtin "math.gcd")))
    (p1_p1_bottom : PySem.W.findIn K (.ref C1) "bottom" = some (some (.ref pp_p1_bottom)))
    (p2_p1_bottom : PySem.W.specialIn K (.ref pp_p1_bottom) "__get__" = some (some (.builtin "property.__get__")))
    (p3_p1_bottom : PySem.W.takesIn K (.ref pp_p1_bottom) = some true)
    (p4_p1_bottom : PySem.W.recIn K pp_p1_bottom "property" = some (.ref ga_p1_bottom :: rs_p1_bottom))
    (l_p1_bottom : K.lookup ga_p1_bottom = some ⟨oc_p1_bottom, od_p1_bottom, .func (PySem.W.fnOf "bottom" "Ratio.bottom" (defArgs s_Ratio_bottom) (defBody s_Ratio_bottom) (defScope s_Ratio_bottom) .none kV_p1_bottom dc_p1_bottom pm_p1_bottom an_p1_bottom cd_p1_bottom ct_p1_bottom), sl_p1_bottom⟩)
    (c_p1_bottom : PySem.W.codeIn K cd_p1_bottom "Ratio.bottom" = true)
    (k_p1_bottom : PySem.W.keepIn K (.ref ga_p1_bottom) = true)
    (p1_p1_top : PySem.W.findIn K (.ref C1) "top" = some (some (.ref pp_p1_top)))
    (p2_p1_top : PySem.W.specialIn K (.ref pp_p1_top) "__get__" = some (some (.builtin "property.__get__")))
    (p3_p1_top : PySem.W.takesIn K (.ref pp_p1_top) = some true)
    (p4_p1_top : PySem.W.recIn K pp_p1_top "property" = some (.ref ga_p1_top :: rs_p1_top))
    (l_p1_top : K.lookup ga_p1_top = some ⟨oc_p1_top, od_p1_top, .func (PySem.W.fnOf "top" "Ratio.top" (defArgs s_Ratio_top) (defBody s_Ratio_top) (defScope s_Ratio_top) .none kV_p1_top dc_p1_top pm_p1_top an_p1_top cd_p1_top ct_p1_top), sl_p1_top⟩)
    (c_p1_top : PySem.W.codeIn K cd_p1_top "Ratio.top" = true)
    (k_p1_top : PySem.W.keepIn K (.ref ga_p1_top) = true)
    (a_is_number : PySem.W.nsIn K mainGlobals "is_number" = some (some (.ref f_is_number)))
    (l_is_number : K.lookup f_is_number = some ⟨oc_is_number, od_is_number, .func (PySem.W.fnOf "is_number" "is_number" (defArgs s_is_number) (defBody s_is_number) (defScope s_is_number) .none kV_is_number dc_is_number pm_is_number an_is_number cd_is_number ct_is_number), sl_is_number⟩)
    (c_is_number : PySem.W.codeIn K cd_is_number "is_number" = true)
    (k_is_number : PySem.W.keepIn K (.ref f_is_number) = true)
    (a_parts_of : PySem.W.nsIn K mainGlobals "parts_of" = some (some (.ref f_parts_of)))
    (l_parts_of : K.lookup f_parts_of = some ⟨oc_parts_of, od_parts_of, .func (PySem.W.fnOf "parts_of" "parts_of" (defArgs s_parts_of) (defBody s_parts_of) (defScope s_parts_of) .none kV_parts_of dc_parts_of pm_parts_of an_parts_of cd_parts_of ct_parts_of), sl_parts_of⟩)
    (c_parts_of : PySem.W.codeIn K cd_parts_of "parts_of" = true)
    (k_parts_of : PySem.W.keepIn K (.ref f_parts_of) = true)
    (a_Ratio_eq : PySem.W.findIn K (.ref C1) "__eq__" = some (some (.ref f_Ratio_eq)))
    (i_Ratio_eq : PySem.W.isFn K (.ref f_Ratio_eq) = true)
    (l_Ratio_eq : K.lookup f_Ratio_eq = some ⟨oc_Ratio_eq, od_Ratio_eq, .func (PySem.W.fnOf "__eq__" "Ratio.__eq__" (defArgs s_Ratio_eq) (defBody s_Ratio_eq) (defScope s_Ratio_eq) .none kV_Ratio_eq dc_Ratio_eq pm_Ratio_eq an_Ratio_eq cd_Ratio_eq ct_Ratio_eq), sl_Ratio_eq⟩)
    (c_Ratio_eq : PySem.W.codeIn K cd_Ratio_eq "Ratio.__eq__" = true)
    (k_Ratio_eq : PySem.W.keepIn K (.ref f_Ratio_eq) = true)
    (a_Telling_eq : PySem.W.findIn K (.ref C2) "__eq__" = some (some (.ref f_Telling_eq)))
    (i_Telling_eq : PySem.W.isFn K (.ref f_Telling_eq) = true)
    (l_Telling_eq : K.lookup f_Telling_eq = some ⟨oc_Telling_eq, od_Telling_eq, .func (PySem.W.fnOf "__eq__" "Telling.__eq__" (defArgs s_Telling_eq) (defBody s_Telling_eq) (defScope s_Telling_eq) .none kV_Telling_eq dc_Telling_eq pm_Telling_eq an_Telling_eq cd_Telling_eq ct_Telling_eq), sl_Telling_eq⟩)
    (c_Telling_eq : PySem.W.codeIn K cd_Telling_eq "Telling.__eq__" = true)
    (k_Telling_eq : PySem.W.keepIn K (.ref f_Telling_eq) = true)
    (a_Web_eq : PySem.W.findIn K (.ref C0) "__eq__" = some (some (.ref f_Web_eq)))
    (i_Web_eq : PySem.W.isFn K (.ref f_Web_eq) = true)
    (l_Web_eq : K.lookup f_Web_eq = some ⟨oc_Web_eq, od_Web_eq, .func (PySem.W.fnOf "__eq__" "Web.__eq__" (defArgs s_Web_eq) (defBody s_Web_eq) (defScope s_Web_eq) .none kV_Web_eq dc_Web_eq pm_Web_eq an_Web_eq cd_Web_eq ct_Web_eq), sl_Web_eq⟩)
    (c_Web_eq : PySem.W.codeIn K cd_Web_eq "Web.__eq__" = true)
    (k_Web_eq : PySem.W.keepIn K (.ref f_Web_eq) = true)
    (a_law_all_lots : PySem.W.nsIn K mainGlobals "_law_all_lots" = some (some (.ref f_law_all_lots)))
    (l_law_all_lots : K.lookup f_law_all_lots = some ⟨oc_law_all_lots, od_law_all_lots, .func (PySem.W.fnOf "_law_all_lots" "_law_all_lots" (defArgs s_law_all_lots) (defBody s_law_all_lots) (defScope s_law_all_lots) .none kV_law_all_lots dc_law_all_lots pm_law_all_lots an_law_all_lots cd_law_all_lots ct_law_all_lots), sl_law_all_lots⟩)
    (c_law_all_lots : PySem.W.codeIn K cd_law_all_lots "_law_all_lots" = true)
    (k_law_all_lots : PySem.W.keepIn K (.ref f_law_all_lots) = true)
    (a_all_lots : PySem.W.nsIn K mainGlobals "all_lots" = some (some (.ref f_all_lots)))
    (l_all_lots : K.lookup f_all_lots = some ⟨oc_all_lots, od_all_lots, .func (PySem.W.fnOf "all_lots" "all_lots" (defArgs s_all_lots) (defBody s_all_lots) (defScope s_all_lots) .none kV_all_lots dc_all_lots pm_all_lots an_all_lots cd_all_lots ct_all_lots), sl_all_lots⟩)
    (c_all_lots : PySem.W.codeIn K cd_all_lots "all_lots" = true)
    (k_all_lots : PySem.W.keepIn K (.ref f_all_lots) = true)
    (a_is_integer : PySem.W.nsIn K mainGlobals "is_integer" = some (some (.ref f_is_integer)))
    (l_is_integer : K.lookup f_is_integer = some ⟨oc_is_integer, od_is_integer, .func (PySem.W.fnOf "is_integer" "is_integer" (defArgs s_is_integer) (defBody s_is_integer) (defScope s_is_integer) .none kV_is_integer dc_is_integer pm_is_integer an_is_integer cd_is_integer ct_is_integer), sl_is_integer⟩)
    (c_is_integer : PySem.W.codeIn K cd_is_integer "is_integer" = true)
    (k_is_integer : PySem.W.keepIn K (.ref f_is_integer) = true)
    (a_is_place : PySem.W.nsIn K mainGlobals "is_place" = some (some (.ref f_is_place)))
    (l_is_place : K.lookup f_is_place = some ⟨oc_is_place, od_is_place, .func (PySem.W.fnOf "is_place" "is_place" (defArgs s_is_place) (defBody s_is_place) (defScope s_is_place) .none kV_is_place dc_is_place pm_is_place an_is_place cd_is_place ct_is_place), sl_is_place⟩)
    (c_is_place : PySem.W.codeIn K cd_is_place "is_place" = true)
    (k_is_place : PySem.W.keepIn K (.ref f_is_place) = true)
    (a_is_many : PySem.W.nsIn K mainGlobals "is_many" = some (some (.ref f_is_many)))
    (l_is_many : K.lookup f_is_many = some ⟨oc_is_many, od_is_many, .func (PySem.W.fnOf "is_many" "is_many" (defArgs s_is_many) (defBody s_is_many) (defScope s_is_many) .none kV_is_many dc_is_many pm_is_many an_is_many cd_is_many ct_is_many), sl_is_many⟩)
    (c_is_many : PySem.W.codeIn K cd_is_many "is_many" = true)
    (k_is_many : PySem.W.keepIn K (.ref f_is_many) = true)
    (a_Web_len : PySem.W.findIn K (.ref C0) "__len__" = some (some (.ref f_Web_len)))
    (i_Web_len : PySem.W.isFn K (.ref f_Web_len) = true)
    (l_Web_len : K.lookup f_Web_len = some ⟨oc_Web_len, od_Web_len, .func (PySem.W.fnOf "__len__" "Web.__len__" (defArgs s_Web_len) (defBody s_Web_len) (defScope s_Web_len) .none kV_Web_len dc_Web_len pm_Web_len an_Web_len cd_Web_len ct_Web_len), sl_Web_len⟩)
    (c_Web_len : PySem.W.codeIn K cd_Web_len "Web.__len__" = true)
    (k_Web_len : PySem.W.keepIn K (.ref f_Web_len) = true)
    (a_is_lot : PySem.W.nsIn K mainGlobals "is_lot" = some (some (.ref f_is_lot)))
    (l_is_lot : K.lookup f_is_lot = some ⟨oc_is_lot, od_is_lot, .func (PySem.W.fnOf "is_lot" "is_lot" (defArgs s_is_lot) (defBody s_is_lot) (defScope s_is_lot) .none kV_is_lot dc_is_lot pm_is_lot an_is_lot cd_is_lot ct_is_lot), sl_is_lot⟩)
    (c_is_lot : PySem.W.codeIn K cd_is_lot "is_lot" = true)
    (k_is_lot : PySem.W.keepIn K (.ref f_is_lot) = true)
    (a_are_lots : PySem.W.nsIn K mainGlobals "are_lots" = some (some (.ref f_are_lots)))
    (l_are_lots : K.lookup f_are_lots = some ⟨oc_are_lots, od_are_lots, .func (PySem.W.fnOf "are_lots" "are_lots" (defArgs s_are_lots) (defBody s_are_lots) (defScope s_are_lots) .none kV_are_lots dc_are_lots pm_are_lots an_are_lots cd_are_lots ct_are_lots), sl_are_lots⟩)
    (c_are_lots : PySem.W.codeIn K cd_are_lots "are_lots" = true)
    (k_are_lots : PySem.W.keepIn K (.ref f_are_lots) = true)
    (a_Web_init : PySem.W.findIn K (.ref C0) "__init__" = some (some (.ref f_Web_init)))
    (i_Web_init : PySem.W.isFn K (.ref f_Web_init) = true)
    (l_Web_init : K.lookup f_Web_init = some ⟨oc_Web_init, od_Web_init, .func (PySem.W.fnOf "__init__" "Web.__init__" (defArgs s_Web_init) (defBody s_Web_init) (defScope s_Web_init) .none kV_Web_init dc_Web_init pm_Web_init an_Web_init cd_Web_init ct_Web_init), sl_Web_init⟩)
    (c_Web_init : PySem.W.codeIn K cd_Web_init "Web.__init__" = true)
    (k_Web_init : PySem.W.keepIn K (.ref f_Web_init) = true)
    (mk0 : PySem.W.makesIn K C0 = true)
    (kc0 : PySem.W.keepIn K (.ref C0) = true)
    (a_all_webs : PySem.W.nsIn K mainGlobals "all_webs" = some (some (.ref f_all_webs)))
    (l_all_webs : K.lookup f_all_webs = some ⟨oc_all_webs, od_all_webs, .func (PySem.W.fnOf "all_webs" "all_webs" (defArgs s_all_webs) (defBody s_all_webs) (defScope s_all_webs) .none kV_all_webs dc_all_webs pm_all_webs an_all_webs cd_all_webs ct_all_webs), sl_all_webs⟩)
    (c_all_webs : PySem.W.codeIn K cd_all_webs "all_webs" = true)
    (k_all_webs : PySem.W.keepIn K (.ref f_all_webs) = true)
    (a_Web_lots : PySem.W.findIn K (.ref C0) "lots" = some (some (.ref f_Web_lots)))
    (i_Web_lots : PySem.W.isFn K (.ref f_Web_lots) = true)
    (l_Web_lots : K.lookup f_Web_lots = some ⟨oc_Web_lots, od_Web_lots, .func (PySem.W.fnOf "lots" "Web.lots" (defArgs s_Web_lots) (defBody s_Web_lots) (defScope s_Web_lots) .none kV_Web_lots dc_Web_lots pm_Web_lots an_Web_lots cd_Web_lots ct_Web_lots), sl_Web_lots⟩)
    (c_Web_lots : PySem.W.codeIn K cd_Web_lots "Web.lots" = true)
    (k_Web_lots : PySem.W.keepIn K (.ref f_Web_lots) = true)
    (a_law_all_right : PySem.W.nsIn K mainGlobals "_law_all_right" = some (some (.ref f_law_all_right)))
    (l_law_all_right : K.lookup f_law_all_right = some ⟨oc_law_all_right, od_law_all_right, .func (PySem.W.fnOf "_law_all_right" "_law_all_right" (defArgs s_law_all_right) (defBody s_law_all_right) (defScope s_law_all_right) .none kV_law_all_right dc_law_all_right pm_law_all_right an_law_all_right cd_law_all_right ct_law_all_right), sl_law_all_right⟩)
    (c_law_all_right : PySem.W.codeIn K cd_law_all_right "_law_all_right" = true)
    (k_law_all_right : PySem.W.keepIn K (.ref f_law_all_right) = true)
    (a_law_box : PySem.W.nsIn K mainGlobals "_law_box" = some (some (.ref f_law_box)))
    (l_law_box : K.lookup f_law_box = some ⟨oc_law_box, od_law_box, .func (PySem.W.fnOf "_law_box" "_law_box" (defArgs s_law_box) (defBody s_law_box) (defScope s_law_box) .none kV_law_box dc_law_box pm_law_box an_law_box cd_law_box ct_law_box), sl_law_box⟩)
    (c_law_box : PySem.W.codeIn K cd_law_box "_law_box" = true)
    (k_law_box : PySem.W.keepIn K (.ref f_law_box) = true)
    (a_law_take : PySem.W.nsIn K mainGlobals "_law_take" = some (some (.ref f_law_take)))
    (l_law_take : K.lookup f_law_take = some ⟨oc_law_take, od_law_take, .func (PySem.W.fnOf "_law_take" "_law_take" (defArgs s_law_take) (defBody s_law_take) (defScope s_law_take) .none kV_law_take dc_law_take pm_law_take an_law_take cd_law_take ct_law_take), sl_law_take⟩)
    (c_law_take : PySem.W.codeIn K cd_law_take "_law_take" = true)
    (k_law_take : PySem.W.keepIn K (.ref f_law_take) = true)
    (a_law_lots : PySem.W.nsIn K mainGlobals "_law_lots" = some (some (.ref f_law_lots)))
    (l_law_lots : K.lookup f_law_lots = some ⟨oc_law_lots, od_law_lots, .func (PySem.W.fnOf "_law_lots" "_law_lots" (defArgs s_law_lots) (defBody s_law_lots) (defScope s_law_lots) .none kV_law_lots dc_law_lots pm_law_lots an_law_lots cd_law_lots ct_law_lots), sl_law_lots⟩)
    (c_law_lots : PySem.W.codeIn K cd_law_lots "_law_lots" = true)
    (k_law_lots : PySem.W.keepIn K (.ref f_law_lots) = true)
    (a_Ratio_init : PySem.W.findIn K (.ref C1) "__init__" = some (some (.ref f_Ratio_init)))
    (i_Ratio_init : PySem.W.isFn K (.ref f_Ratio_init) = true)
    (l_Ratio_init : K.lookup f_Ratio_init = some ⟨oc_Ratio_init, od_Ratio_init, .func (PySem.W.fnOf "__init__" "Ratio.__init__" (defArgs s_Ratio_init) (defBody s_Ratio_init) (defScope s_Ratio_init) (.ref TT_Ratio_init) kV_Ratio_init dc_Ratio_init pm_Ratio_init an_Ratio_init cd_Ratio_init ct_Ratio_init), sl_Ratio_init⟩)
    (c_Ratio_init : PySem.W.codeIn K cd_Ratio_init "Ratio.__init__" = true)
    (k_Ratio_init : PySem.W.keepIn K (.ref f_Ratio_init) = true)
    (lt_Ratio_init : K.lookup TT_Ratio_init = some ot_Ratio_init)
    (ho_Ratio_init : ot_Ratio_init.data = .seq #[.int 1 tt_Ratio_init] nn_Ratio_init)
    (mk1 : PySem.W.makesIn K C1 = true)
    (kc1 : PySem.W.keepIn K (.ref C1) = true)
    (a_as_ratio : PySem.W.nsIn K mainGlobals "as_ratio" = some (some (.ref f_as_ratio)))
    (l_as_ratio : K.lookup f_as_ratio = some ⟨oc_as_ratio, od_as_ratio, .func (PySem.W.fnOf "as_ratio" "as_ratio" (defArgs s_as_ratio) (defBody s_as_ratio) (defScope s_as_ratio) .none kV_as_ratio dc_as_ratio pm_as_ratio an_as_ratio cd_as_ratio ct_as_ratio), sl_as_ratio⟩)
    (c_as_ratio : PySem.W.codeIn K cd_as_ratio "as_ratio" = true)
    (k_as_ratio : PySem.W.keepIn K (.ref f_as_ratio) = true)
    (a_Ratio_below : PySem.W.findIn K (.ref C1) "below" = some (some (.ref f_Ratio_below)))
    (i_Ratio_below : PySem.W.isFn K (.ref f_Ratio_below) = true)
    (l_Ratio_below : K.lookup f_Ratio_below = some ⟨oc_Ratio_below, od_Ratio_below, .func (PySem.W.fnOf "below" "Ratio.below" (defArgs s_Ratio_below) (defBody s_Ratio_below) (defScope s_Ratio_below) .none kV_Ratio_below dc_Ratio_below pm_Ratio_below an_Ratio_below cd_Ratio_below ct_Ratio_below), sl_Ratio_below⟩)
    (c_Ratio_below : PySem.W.codeIn K cd_Ratio_below "Ratio.below" = true)
    (k_Ratio_below : PySem.W.keepIn K (.ref f_Ratio_below) = true)
    (a_is_share_list : PySem.W.nsIn K mainGlobals "is_share_list" = some (some (.ref f_is_share_list)))
    (l_is_share_list : K.lookup f_is_share_list = some ⟨oc_is_share_list, od_is_share_list, .func (PySem.W.fnOf "is_share_list" "is_share_list" (defArgs s_is_share_list) (defBody s_is_share_list) (defScope s_is_share_list) .none kV_is_share_list dc_is_share_list pm_is_share_list an_is_share_list cd_is_share_list ct_is_share_list), sl_is_share_list⟩)
    (c_is_share_list : PySem.W.codeIn K cd_is_share_list "is_share_list" = true)
    (k_is_share_list : PySem.W.keepIn K (.ref f_is_share_list) = true)
    (tc_is_share_list_ : cd_is_share_list = .ref tc_is_share_list)
    (tr_is_share_list_ : PySem.W.recIn K tc_is_share_list "code" = some tv_is_share_list)
    (tv_is_share_list_ : tv_is_share_list[11]? = some (.ref tp_is_share_list))
    (tn_is_share_list_ : PySem.W.typeIn K (.ref tp_is_share_list) = none)
    (tx_is_share_list_ : ((recsOf QQ).any fun e => e.name == "is_share_list") = true)
    (a_Ratio_add : PySem.W.findIn K (.ref C1) "__add__" = some (some (.ref f_Ratio_add)))
    (i_Ratio_add : PySem.W.isFn K (.ref f_Ratio_add) = true)
    (l_Ratio_add : K.lookup f_Ratio_add = some ⟨oc_Ratio_add, od_Ratio_add, .func (PySem.W.fnOf "__add__" "Ratio.__add__" (defArgs s_Ratio_add) (defBody s_Ratio_add) (defScope s_Ratio_add) .none kV_Ratio_add dc_Ratio_add pm_Ratio_add an_Ratio_add cd_Ratio_add ct_Ratio_add), sl_Ratio_add⟩)
    (c_Ratio_add : PySem.W.codeIn K cd_Ratio_add "Ratio.__add__" = true)
    (k_Ratio_add : PySem.W.keepIn K (.ref f_Ratio_add) = true)
    (a_total : PySem.W.nsIn K mainGlobals "total" = some (some (.ref f_total)))
    (l_total : K.lookup f_total = some ⟨oc_total, od_total, .func (PySem.W.fnOf "total" "total" (defArgs s_total) (defBody s_total) (defScope s_total) .none kV_total dc_total pm_total an_total cd_total ct_total), sl_total⟩)
    (c_total : PySem.W.codeIn K cd_total "total" = true)
    (k_total : PySem.W.keepIn K (.ref f_total) = true)
    (a_are_chances : PySem.W.nsIn K mainGlobals "are_chances" = some (some (.ref f_are_chances)))
    (l_are_chances : K.lookup f_are_chances = some ⟨oc_are_chances, od_are_chances, .func (PySem.W.fnOf "are_chances" "are_chances" (defArgs s_are_chances) (defBody s_are_chances) (defScope s_are_chances) .none kV_are_chances dc_are_chances pm_are_chances an_are_chances cd_are_chances ct_are_chances), sl_are_chances⟩)
    (c_are_chances : PySem.W.codeIn K cd_are_chances "are_chances" = true)
    (k_are_chances : PySem.W.keepIn K (.ref f_are_chances) = true)
    (a_are_lines : PySem.W.nsIn K mainGlobals "are_lines" = some (some (.ref f_are_lines)))
    (l_are_lines : K.lookup f_are_lines = some ⟨oc_are_lines, od_are_lines, .func (PySem.W.fnOf "are_lines" "are_lines" (defArgs s_are_lines) (defBody s_are_lines) (defScope s_are_lines) .none kV_are_lines dc_are_lines pm_are_lines an_are_lines cd_are_lines ct_are_lines), sl_are_lines⟩)
    (c_are_lines : PySem.W.codeIn K cd_are_lines "are_lines" = true)
    (k_are_lines : PySem.W.keepIn K (.ref f_are_lines) = true)
    (a_product_of : PySem.W.nsIn K mainGlobals "product_of" = some (some (.ref f_product_of)))
    (l_product_of : K.lookup f_product_of = some ⟨oc_product_of, od_product_of, .func (PySem.W.fnOf "product_of" "product_of" (defArgs s_product_of) (defBody s_product_of) (defScope s_product_of) .none kV_product_of dc_product_of pm_product_of an_product_of cd_product_of ct_product_of), sl_product_of⟩)
    (c_product_of : PySem.W.codeIn K cd_product_of "product_of" = true)
    (k_product_of : PySem.W.keepIn K (.ref f_product_of) = true)
    (a_are_marks : PySem.W.nsIn K mainGlobals "are_marks" = some (some (.ref f_are_marks)))
    (l_are_marks : K.lookup f_are_marks = some ⟨oc_are_marks, od_are_marks, .func (PySem.W.fnOf "are_marks" "are_marks" (defArgs s_are_marks) (defBody s_are_marks) (defScope s_are_marks) .none kV_are_marks dc_are_marks pm_are_marks an_are_marks cd_are_marks ct_are_marks), sl_are_marks⟩)
    (c_are_marks : PySem.W.codeIn K cd_are_marks "are_marks" = true)
    (k_are_marks : PySem.W.keepIn K (.ref f_are_marks) = true)
    (a_Telling_init : PySem.W.findIn K (.ref C2) "__init__" = some (some (.ref f_Telling_init)))
    (i_Telling_init : PySem.W.isFn K (.ref f_Telling_init) = true)
    (l_Telling_init : K.lookup f_Telling_init = some ⟨oc_Telling_init, od_Telling_init, .func (PySem.W.fnOf "__init__" "Telling.__init__" (defArgs s_Telling_init) (defBody s_Telling_init) (defScope s_Telling_init) .none kV_Telling_init dc_Telling_init pm_Telling_init an_Telling_init cd_Telling_init ct_Telling_init), sl_Telling_init⟩)
    (c_Telling_init : PySem.W.codeIn K cd_Telling_init "Telling.__init__" = true)
    (k_Telling_init : PySem.W.keepIn K (.ref f_Telling_init) = true)
    (mk2 : PySem.W.makesIn K C2 = true)
    (kc2 : PySem.W.keepIn K (.ref C2) = true)
    (a_law_equal_right : PySem.W.nsIn K mainGlobals "_law_equal_right" = some (some (.ref f_law_equal_right)))
    (l_law_equal_right : K.lookup f_law_equal_right = some ⟨oc_law_equal_right, od_law_equal_right, .func (PySem.W.fnOf "_law_equal_right" "_law_equal_right" (defArgs s_law_equal_right) (defBody s_law_equal_right) (defScope s_law_equal_right) .none kV_law_equal_right dc_law_equal_right pm_law_equal_right an_law_equal_right cd_law_equal_right ct_law_equal_right), sl_law_equal_right⟩)
    (c_law_equal_right : PySem.W.codeIn K cd_law_equal_right "_law_equal_right" = true)
    (k_law_equal_right : PySem.W.keepIn K (.ref f_law_equal_right) = true)
    (a_law_links : PySem.W.nsIn K mainGlobals "_law_links" = some (some (.ref f_law_links)))
    (l_law_links : K.lookup f_law_links = some ⟨oc_law_links, od_law_links, .func (PySem.W.fnOf "_law_links" "_law_links" (defArgs s_law_links) (defBody s_law_links) (defScope s_law_links) .none kV_law_links dc_law_links pm_law_links an_law_links cd_law_links ct_law_links), sl_law_links⟩)
    (c_law_links : PySem.W.codeIn K cd_law_links "_law_links" = true)
    (k_law_links : PySem.W.keepIn K (.ref f_law_links) = true)
    (a_Web_links : PySem.W.findIn K (.ref C0) "links" = some (some (.ref f_Web_links)))
    (i_Web_links : PySem.W.isFn K (.ref f_Web_links) = true)
    (l_Web_links : K.lookup f_Web_links = some ⟨oc_Web_links, od_Web_links, .func (PySem.W.fnOf "links" "Web.links" (defArgs s_Web_links) (defBody s_Web_links) (defScope s_Web_links) .none kV_Web_links dc_Web_links pm_Web_links an_Web_links cd_Web_links ct_Web_links), sl_Web_links⟩)
    (c_Web_links : PySem.W.codeIn K cd_Web_links "Web.links" = true)
    (k_Web_links : PySem.W.keepIn K (.ref f_Web_links) = true)
    (a_law_right : PySem.W.nsIn K mainGlobals "_law_right" = some (some (.ref f_law_right)))
    (l_law_right : K.lookup f_law_right = some ⟨oc_law_right, od_law_right, .func (PySem.W.fnOf "_law_right" "_law_right" (defArgs s_law_right) (defBody s_law_right) (defScope s_law_right) .none kV_law_right dc_law_right pm_law_right an_law_right cd_law_right ct_law_right), sl_law_right⟩)
    (c_law_right : PySem.W.codeIn K cd_law_right "_law_right" = true)
    (k_law_right : PySem.W.keepIn K (.ref f_law_right) = true)
    (a_full_web : PySem.W.nsIn K mainGlobals "full_web" = some (some (.ref f_full_web)))
    (l_full_web : K.lookup f_full_web = some ⟨oc_full_web, od_full_web, .func (PySem.W.fnOf "full_web" "full_web" (defArgs s_full_web) (defBody s_full_web) (defScope s_full_web) .none kV_full_web dc_full_web pm_full_web an_full_web cd_full_web ct_full_web), sl_full_web⟩)
    (c_full_web : PySem.W.codeIn K cd_full_web "full_web" = true)
    (k_full_web : PySem.W.keepIn K (.ref f_full_web) = true)
    (a_own_web : PySem.W.nsIn K mainGlobals "own_web" = some (some (.ref f_own_web)))
    (l_own_web : K.lookup f_own_web = some ⟨oc_own_web, od_own_web, .func (PySem.W.fnOf "own_web" "own_web" (defArgs s_own_web) (defBody s_own_web) (defScope s_own_web) .none kV_own_web dc_own_web pm_own_web an_own_web cd_own_web ct_own_web), sl_own_web⟩)
    (c_own_web : PySem.W.codeIn K cd_own_web "own_web" = true)
    (k_own_web : PySem.W.keepIn K (.ref f_own_web) = true)
    (a_time_web : PySem.W.nsIn K mainGlobals "time_web" = some (some (.ref f_time_web)))
    (l_time_web : K.lookup f_time_web = some ⟨oc_time_web, od_time_web, .func (PySem.W.fnOf "time_web" "time_web" (defArgs s_time_web) (defBody s_time_web) (defScope s_time_web) .none kV_time_web dc_time_web pm_time_web an_time_web cd_time_web ct_time_web), sl_time_web⟩)
    (c_time_web : PySem.W.codeIn K cd_time_web "time_web" = true)
    (k_time_web : PySem.W.keepIn K (.ref f_time_web) = true)
    (a_law_named_right : PySem.W.nsIn K mainGlobals "_law_named_right" = some (some (.ref f_law_named_right)))
    (l_law_named_right : K.lookup f_law_named_right = some ⟨oc_law_named_right, od_law_named_right, .func (PySem.W.fnOf "_law_named_right" "_law_named_right" (defArgs s_law_named_right) (defBody s_law_named_right) (defScope s_law_named_right) .none kV_law_named_right dc_law_named_right pm_law_named_right an_law_named_right cd_law_named_right ct_law_named_right), sl_law_named_right⟩)
    (c_law_named_right : PySem.W.codeIn K cd_law_named_right "_law_named_right" = true)
    (k_law_named_right : PySem.W.keepIn K (.ref f_law_named_right) = true)
    (a_law : PySem.W.nsIn K mainGlobals "law" = some (some (.ref f_law)))
    (l_law : K.lookup f_law = some ⟨oc_law, od_law, .func (PySem.W.fnOf "law" "law" (defArgs s_law) (defBody s_law) (defScope s_law) .none kV_law dc_law pm_law an_law cd_law ct_law), sl_law⟩)
    (c_law : PySem.W.codeIn K cd_law "law" = true)
    (k_law : PySem.W.keepIn K (.ref f_law) = true)
    (nd_tp : ([tp_is_share_list] : List Addr).Nodup)
    : ∃ (fd : FuncData) (n : Nat) (T : Tb), T.K = K ∧ (∀ j, j < n → TabIs K h (T.tb (1000 + j)) (T.tb j)) ∧ ((List.range n).map T.tb).Nodup ∧ (∀ (s : Shared) (v : Value), BindsTo s fd ⟨[v], []⟩ [("_law_script", v)]) ∧ ∀ base : Heap, K.In base → base.Ns mainGlobals mg → (∀ j, j < n → TabA base mg T j) → FnOk l.prog w K mg base (L2.CX l.prog w) 15 fa fd ["_law_script"] (spLawT T n) := by
  have e := hfa.symm.trans (PySem.W.mg_of X_ G a_law)
  cases e
  have TX : Txt K mg (tbOfT K [C0, C1, C2, 0, 0, 0, 0, 0, 0, 0, 0, 0, C12, C13, 0, 0, 0, 0, 0, 0, C20, C21, C22, 0, 0, 0, C26, C27] [(["seats", "heard_lots"] : List Str), (["_top", "_bottom"] : List Str), (["marks", "seats", "states", "table"] : List Str), ([] : List Str), ([] : List Str), ([] : List Str), ([] : List Str), ([] : List Str), ([] : List Str), ([] : List Str), ([] : List Str), ([] : List Str), ([] : List Str), ([] : List Str), ([] : List Str), ([] : List Str), ([] : List Str), ([] : List Str), ([] : List Str), ([] : List Str), (["given"] : List Str), (["given"] : List Str), (["given"] : List Str), ([] : List Str), ([] : List Str), ([] : List Str), (["given"] : List Str), (["given"] : List Str)] [tp_is_share_list] [tc_is_share_list]) := {
    hT := rfl
    hx := rfl
    g_TellError := PySem.W.mg_of X_ G a12
    g_ByZero := PySem.W.mg_of X_ G a13
    g_InvalidNumber := PySem.W.mg_of X_ G a20
    g_InvalidChances := PySem.W.mg_of X_ G a22
    g_InvalidSeat := PySem.W.mg_of X_ G a27
    g_InvalidMarks := PySem.W.mg_of X_ G a21
    g_InvalidLot := PySem.W.mg_of X_ G a26
    g_Ratio := PySem.W.mg_of X_ G a1
    g_Telling := PySem.W.mg_of X_ G a2
    g_Web := PySem.W.mg_of X_ G a0
    g_MOST_ROWS := ⟨_, PySem.W.mg_of X_ G gi_MOST_ROWS⟩
    g_MOST_SEATS := ⟨_, PySem.W.mg_of X_ G gi_MOST_SEATS⟩
    g_MOST_STATES := ⟨_, PySem.W.mg_of X_ G gi_MOST_STATES⟩
    n_abs := PySem.W.mg_none_of X_ G n_abs
    n_all := PySem.W.mg_none_of X_ G n_all
    n_any := PySem.W.mg_none_of X_ G n_any
    n_bool := PySem.W.mg_none_of X_ G n_bool
    n_enumerate := PySem.W.mg_none_of X_ G n_enumerate
    n_int := PySem.W.mg_none_of X_ G n_int
    n_isinstance := PySem.W.mg_none_of X_ G n_isinstance
    n_len := PySem.W.mg_none_of X_ G n_len
    n_list := PySem.W.mg_none_of X_ G n_list
    n_max := PySem.W.mg_none_of X_ G n_max
    n_min := PySem.W.mg_none_of X_ G n_min
    n_range := PySem.W.mg_none_of X_ G n_range
    n_sorted := PySem.W.mg_none_of X_ G n_sorted
    n_sum := PySem.W.mg_none_of X_ G n_sum
    n_tuple := PySem.W.mg_none_of X_ G n_tuple
    y_Ratio := ⟨pg1, hd1, po1, sa1⟩
    l_Ratio := rfl
    y_Telling := ⟨pg2, hd2, po2, sa2⟩
    l_Telling := rfl
    y_Web := ⟨pg0, hd0, po0, sa0⟩
    l_Web := rfl
    f__bottom := (.cons ⟨⟨pg1, hd1, po1, sa1⟩, no1__bottom, rfl, (show (["_top", "_bottom"] : List Str).Nodup from by decide +kernel), by show 2 < 900; decide⟩ .nil)
    f__top := (.cons ⟨⟨pg1, hd1, po1, sa1⟩, no1__top, rfl, (show (["_top", "_bottom"] : List Str).Nodup from by decide +kernel), by show 2 < 900; decide⟩ .nil)
    f_heard_lots := (.cons ⟨⟨pg0, hd0, po0, sa0⟩, no0_heard_lots, rfl, (show (["seats", "heard_lots"] : List Str).Nodup from by decide +kernel), by show 2 < 900; decide⟩ .nil)
    f_marks := (.cons ⟨⟨pg2, hd2, po2, sa2⟩, no2_marks, rfl, (show (["marks", "seats", "states", "table"] : List Str).Nodup from by decide +kernel), by show 4 < 900; decide⟩ .nil)
    f_seats := (.cons ⟨⟨pg2, hd2, po2, sa2⟩, no2_seats, rfl, (show (["marks", "seats", "states", "table"] : List Str).Nodup from by decide +kernel), by show 4 < 900; decide⟩ (.cons ⟨⟨pg0, hd0, po0, sa0⟩, no0_seats, rfl, (show (["seats", "heard_lots"] : List Str).Nodup from by decide +kernel), by show 2 < 900; decide⟩ .nil))
    f_states := (.cons ⟨⟨pg2, hd2, po2, sa2⟩, no2_states, rfl, (show (["marks", "seats", "states", "table"] : List Str).Nodup from by decide +kernel), by show 4 < 900; decide⟩ .nil)
    f_table := (.cons ⟨⟨pg2, hd2, po2, sa2⟩, no2_table, rfl, (show (["marks", "seats", "states", "table"] : List Str).Nodup from by decide +kernel), by show 4 < 900; decide⟩ .nil)
    k_Ratio := kAll_ok (kit_own rfl xi1 xt1 st_NoneType_1) (kit_own rfl xi1 xt1 st_bool_1) (kit_own rfl xi1 xt1 st_int_1) (kit_own rfl xi1 xt1 st_str_1) (kit_own rfl xi1 xt1 st_list_1) (kit_own rfl xi1 xt1 st_tuple_1) (kit_own rfl xi1 xt1 st_dict_1) (more_obj ⟨⟨⟨pg1, hd1, po1, sa1⟩, ha1, hn1, ht1, hm1⟩, kit_self⟩ (more_obj ⟨⟨⟨pg2, hd2, po2, sa2⟩, ha2, hn2, ht2, hm2⟩, (kit_own sn_2_1 xi1 xt1 sc_2_1)⟩ (more_obj ⟨⟨⟨pg0, hd0, po0, sa0⟩, ha0, hn0, ht0, hm0⟩, (kit_own sn_0_1 xi1 xt1 sc_0_1)⟩ no_obj)))
    k_Telling := kAll_ok (kit_own rfl xi2 xt2 st_NoneType_2) (kit_own rfl xi2 xt2 st_bool_2) (kit_own rfl xi2 xt2 st_int_2) (kit_own rfl xi2 xt2 st_str_2) (kit_own rfl xi2 xt2 st_list_2) (kit_own rfl xi2 xt2 st_tuple_2) (kit_own rfl xi2 xt2 st_dict_2) (more_obj ⟨⟨⟨pg1, hd1, po1, sa1⟩, ha1, hn1, ht1, hm1⟩, (kit_own sn_1_2 xi2 xt2 sc_1_2)⟩ (more_obj ⟨⟨⟨pg2, hd2, po2, sa2⟩, ha2, hn2, ht2, hm2⟩, kit_self⟩ (more_obj ⟨⟨⟨pg0, hd0, po0, sa0⟩, ha0, hn0, ht0, hm0⟩, (kit_own sn_0_2 xi2 xt2 sc_0_2)⟩ no_obj)))
    k_Web := kAll_ok (kit_own rfl xi0 xt0 st_NoneType_0) (kit_own rfl xi0 xt0 st_bool_0) (kit_own rfl xi0 xt0 st_int_0) (kit_own rfl xi0 xt0 st_str_0) (kit_own rfl xi0 xt0 st_list_0) (kit_own rfl xi0 xt0 st_tuple_0) (kit_own rfl xi0 xt0 st_dict_0) (more_obj ⟨⟨⟨pg1, hd1, po1, sa1⟩, ha1, hn1, ht1, hm1⟩, (kit_own sn_1_0 xi0 xt0 sc_1_0)⟩ (more_obj ⟨⟨⟨pg2, hd2, po2, sa2⟩, ha2, hn2, ht2, hm2⟩, (kit_own sn_2_0 xi0 xt0 sc_2_0)⟩ (more_obj ⟨⟨⟨pg0, hd0, po0, sa0⟩, ha0, hn0, ht0, hm0⟩, kit_self⟩ no_obj)))
    k_bool := kAll_ok rfl rfl rfl rfl rfl rfl rfl (more_obj ⟨⟨⟨pg1, hd1, po1, sa1⟩, ha1, hn1, ht1, hm1⟩, (kit_typ (by decide +kernel) so_1_bool)⟩ (more_obj ⟨⟨⟨pg2, hd2, po2, sa2⟩, ha2, hn2, ht2, hm2⟩, (kit_typ (by decide +kernel) so_2_bool)⟩ (more_obj ⟨⟨⟨pg0, hd0, po0, sa0⟩, ha0, hn0, ht0, hm0⟩, (kit_typ (by decide +kernel) so_0_bool)⟩ no_obj)))
    k_int := kAll_ok rfl rfl rfl rfl rfl rfl rfl (more_obj ⟨⟨⟨pg1, hd1, po1, sa1⟩, ha1, hn1, ht1, hm1⟩, (kit_typ (by decide +kernel) so_1_int)⟩ (more_obj ⟨⟨⟨pg2, hd2, po2, sa2⟩, ha2, hn2, ht2, hm2⟩, (kit_typ (by decide +kernel) so_2_int)⟩ (more_obj ⟨⟨⟨pg0, hd0, po0, sa0⟩, ha0, hn0, ht0, hm0⟩, (kit_typ (by decide +kernel) so_0_int)⟩ no_obj)))
    k_int_Ratio := kAll_ok (kitAny2 (x := false) (y := false) rfl (kit_own rfl xi1 xt1 st_NoneType_1)) (kitAny2 (x := true) (y := false) rfl (kit_own rfl xi1 xt1 st_bool_1)) (kitAny2 (x := true) (y := false) rfl (kit_own rfl xi1 xt1 st_int_1)) (kitAny2 (x := false) (y := false) rfl (kit_own rfl xi1 xt1 st_str_1)) (kitAny2 (x := false) (y := false) rfl (kit_own rfl xi1 xt1 st_list_1)) (kitAny2 (x := false) (y := false) rfl (kit_own rfl xi1 xt1 st_tuple_1)) (kitAny2 (x := false) (y := false) rfl (kit_own rfl xi1 xt1 st_dict_1)) (more_obj ⟨⟨⟨pg1, hd1, po1, sa1⟩, ha1, hn1, ht1, hm1⟩, (kitAny2 (x := false) (y := true) (kit_typ (by decide +kernel) so_1_int) kit_self)⟩ (more_obj ⟨⟨⟨pg2, hd2, po2, sa2⟩, ha2, hn2, ht2, hm2⟩, (kitAny2 (x := false) (y := false) (kit_typ (by decide +kernel) so_2_int) (kit_own sn_2_1 xi1 xt1 sc_2_1))⟩ (more_obj ⟨⟨⟨pg0, hd0, po0, sa0⟩, ha0, hn0, ht0, hm0⟩, (kitAny2 (x := false) (y := false) (kit_typ (by decide +kernel) so_0_int) (kit_own sn_0_1 xi1 xt1 sc_0_1))⟩ no_obj)))
    k_list := kAll_ok rfl rfl rfl rfl rfl rfl rfl (more_obj ⟨⟨⟨pg1, hd1, po1, sa1⟩, ha1, hn1, ht1, hm1⟩, (kit_typ (by decide +kernel) so_1_list)⟩ (more_obj ⟨⟨⟨pg2, hd2, po2, sa2⟩, ha2, hn2, ht2, hm2⟩, (kit_typ (by decide +kernel) so_2_list)⟩ (more_obj ⟨⟨⟨pg0, hd0, po0, sa0⟩, ha0, hn0, ht0, hm0⟩, (kit_typ (by decide +kernel) so_0_list)⟩ no_obj)))
    k_list_tuple := kAll_ok (kitAny2 (x := false) (y := false) rfl rfl) (kitAny2 (x := false) (y := false) rfl rfl) (kitAny2 (x := false) (y := false) rfl rfl) (kitAny2 (x := false) (y := false) rfl rfl) (kitAny2 (x := true) (y := false) rfl rfl) (kitAny2 (x := false) (y := true) rfl rfl) (kitAny2 (x := false) (y := false) rfl rfl) (more_obj ⟨⟨⟨pg1, hd1, po1, sa1⟩, ha1, hn1, ht1, hm1⟩, (kitAny2 (x := false) (y := false) (kit_typ (by decide +kernel) so_1_list) (kit_typ (by decide +kernel) so_1_tuple))⟩ (more_obj ⟨⟨⟨pg2, hd2, po2, sa2⟩, ha2, hn2, ht2, hm2⟩, (kitAny2 (x := false) (y := false) (kit_typ (by decide +kernel) so_2_list) (kit_typ (by decide +kernel) so_2_tuple))⟩ (more_obj ⟨⟨⟨pg0, hd0, po0, sa0⟩, ha0, hn0, ht0, hm0⟩, (kitAny2 (x := false) (y := false) (kit_typ (by decide +kernel) so_0_list) (kit_typ (by decide +kernel) so_0_tuple))⟩ no_obj)))
    o_add := (.cons ⟨sf1, ⟨_, or_add1, og_add1⟩, ⟨_, o1_add1⟩, ⟨_, o2_add1⟩, st_int_1⟩ .nil)
    nf_Ratio := kAll_ok (congrArg some nf1_NoneType) (congrArg some nf1_bool) (congrArg some nf1_int) (congrArg some nf1_str) (congrArg some nf1_list) (congrArg some nf1_tuple) (congrArg some nf1_dict) (more_obj ⟨⟨⟨pg1, hd1, po1, sa1⟩, ha1, hn1, ht1, hm1⟩, (congrArg some nf1_Ratio)⟩ (more_obj ⟨⟨⟨pg2, hd2, po2, sa2⟩, ha2, hn2, ht2, hm2⟩, (congrArg some nf1_Telling)⟩ (more_obj ⟨⟨⟨pg0, hd0, po0, sa0⟩, ha0, hn0, ht0, hm0⟩, (congrArg some nf1_Web)⟩ no_obj)))
    nf_Telling := kAll_ok (congrArg some nf2_NoneType) (congrArg some nf2_bool) (congrArg some nf2_int) (congrArg some nf2_str) (congrArg some nf2_list) (congrArg some nf2_tuple) (congrArg some nf2_dict) (more_obj ⟨⟨⟨pg1, hd1, po1, sa1⟩, ha1, hn1, ht1, hm1⟩, (congrArg some nf2_Ratio)⟩ (more_obj ⟨⟨⟨pg2, hd2, po2, sa2⟩, ha2, hn2, ht2, hm2⟩, (congrArg some nf2_Telling)⟩ (more_obj ⟨⟨⟨pg0, hd0, po0, sa0⟩, ha0, hn0, ht0, hm0⟩, (congrArg some nf2_Web)⟩ no_obj)))
    nf_Web := kAll_ok (congrArg some nf0_NoneType) (congrArg some nf0_bool) (congrArg some nf0_int) (congrArg some nf0_str) (congrArg some nf0_list) (congrArg some nf0_tuple) (congrArg some nf0_dict) (more_obj ⟨⟨⟨pg1, hd1, po1, sa1⟩, ha1, hn1, ht1, hm1⟩, (congrArg some nf0_Ratio)⟩ (more_obj ⟨⟨⟨pg2, hd2, po2, sa2⟩, ha2, hn2, ht2, hm2⟩, (congrArg some nf0_Telling)⟩ (more_obj ⟨⟨⟨pg0, hd0, po0, sa0⟩, ha0, hn0, ht0, hm0⟩, (congrArg some nf0_Web)⟩ no_obj)))
    e_ByZero := fun X hK hm => ⟨by rw [hK]; exact ei13, by rw [hm]; exact PySem.W.mg_of X_ G a13, by rw [hK]; exact ek13, raises_own (by rw [hK]; exact er13) (by rw [hK]; exact et13)⟩
    le := ⟨le1, le2, le3⟩
    xi_InvalidNumber := ⟨_, _, fun_mk (st := s_InvalidNumber_init) l_x20 c_x20 k_x20, iC_x20, tI_x20, (Fun.binds (fun_mk (st := s_InvalidNumber_init) l_x20 c_x20 k_x20) (ps := ["self", "given"]) fun _ _ _ _ _ _ us hl => match us, hl with | [_, _], _ => rfl)⟩
    xo_InvalidNumber := ⟨⟨_, _, _, _, _, _, _, _, _, _, _, _, _, _, _, lo_x20, rv_x20⟩, sa20, xb20, xt20, ek20⟩
    xn_InvalidNumber := xn20_given
    xl_InvalidNumber := rfl
    xi_InvalidChances := ⟨_, _, fun_mk (st := s_InvalidChances_init) l_x22 c_x22 k_x22, iC_x22, tI_x22, (Fun.binds (fun_mk (st := s_InvalidChances_init) l_x22 c_x22 k_x22) (ps := ["self", "given"]) fun _ _ _ _ _ _ us hl => match us, hl with | [_, _], _ => rfl)⟩
    xo_InvalidChances := ⟨⟨_, _, _, _, _, _, _, _, _, _, _, _, _, _, _, lo_x22, rv_x22⟩, sa22, xb22, xt22, ek22⟩
    xn_InvalidChances := xn22_given
    xl_InvalidChances := rfl
    xi_InvalidSeat := ⟨_, _, fun_mk (st := s_InvalidSeat_init) l_x27 c_x27 k_x27, iC_x27, tI_x27, (Fun.binds (fun_mk (st := s_InvalidSeat_init) l_x27 c_x27 k_x27) (ps := ["self", "given"]) fun _ _ _ _ _ _ us hl => match us, hl with | [_, _], _ => rfl)⟩
    xo_InvalidSeat := ⟨⟨_, _, _, _, _, _, _, _, _, _, _, _, _, _, _, lo_x27, rv_x27⟩, sa27, xb27, xt27, ek27⟩
    xn_InvalidSeat := xn27_given
    xl_InvalidSeat := rfl
    xi_InvalidMarks := ⟨_, _, fun_mk (st := s_InvalidMarks_init) l_x21 c_x21 k_x21, iC_x21, tI_x21, (Fun.binds (fun_mk (st := s_InvalidMarks_init) l_x21 c_x21 k_x21) (ps := ["self", "given"]) fun _ _ _ _ _ _ us hl => match us, hl with | [_, _], _ => rfl)⟩
    xo_InvalidMarks := ⟨⟨_, _, _, _, _, _, _, _, _, _, _, _, _, _, _, lo_x21, rv_x21⟩, sa21, xb21, xt21, ek21⟩
    xn_InvalidMarks := xn21_given
    xl_InvalidMarks := rfl
    xi_InvalidLot := ⟨_, _, fun_mk (st := s_InvalidLot_init) l_x26 c_x26 k_x26, iC_x26, tI_x26, (Fun.binds (fun_mk (st := s_InvalidLot_init) l_x26 c_x26 k_x26) (ps := ["self", "given"]) fun _ _ _ _ _ _ us hl => match us, hl with | [_, _], _ => rfl)⟩
    xo_InvalidLot := ⟨⟨_, _, _, _, _, _, _, _, _, _, _, _, _, _, _, lo_x26, rv_x26⟩, sa26, xb26, xt26, ek26⟩
    xn_InvalidLot := xn26_given
    xl_InvalidLot := rfl
    gcd := PySem.W.mg_of X_ G gcd
    p_Ratio_bottom := fun X hK hm => by subst hK; subst hm; exact ⟨⟨pg1, hd1, po1, sa1⟩, no1__bottom, rfl, (show (["_top", "_bottom"] : List Str).Nodup from by decide +kernel), _, _, _, ⟨p1_p1_bottom, p2_p1_bottom, p3_p1_bottom, _, p4_p1_bottom⟩, fn_getter (N := ["self"]) l_p1_bottom c_p1_bottom ⟨rfl, rfl, rfl, by decide +kernel, rfl, by decide +kernel, by decide +kernel⟩ rfl rfl ⟨pg1, hd1, po1, sa1⟩ no1__bottom, (Fun.binds (fun_mk (st := s_Ratio_bottom) l_p1_bottom c_p1_bottom k_p1_bottom) (ps := ["self"]) fun _ _ _ _ _ _ us hl => match us, hl with | [_], _ => rfl)⟩
    p_Ratio_top := fun X hK hm => by subst hK; subst hm; exact ⟨⟨pg1, hd1, po1, sa1⟩, no1__top, rfl, (show (["_top", "_bottom"] : List Str).Nodup from by decide +kernel), _, _, _, ⟨p1_p1_top, p2_p1_top, p3_p1_top, _, p4_p1_top⟩, fn_getter (N := ["self"]) l_p1_top c_p1_top ⟨rfl, rfl, rfl, by decide +kernel, rfl, by decide +kernel, by decide +kernel⟩ rfl rfl ⟨pg1, hd1, po1, sa1⟩ no1__top, (Fun.binds (fun_mk (st := s_Ratio_top) l_p1_top c_p1_top k_p1_top) (ps := ["self"]) fun _ _ _ _ _ _ us hl => match us, hl with | [_], _ => rfl)⟩
    d_is_number := ⟨_, _, fun_mk (st := s_is_number) l_is_number c_is_number k_is_number, PySem.W.mg_of X_ G a_is_number, k_is_number, (Fun.binds (fun_mk (st := s_is_number) l_is_number c_is_number k_is_number) (ps := ["value"]) fun _ _ _ _ _ _ us hl => match us, hl with | [_], _ => rfl)⟩
    d_parts_of := ⟨_, _, fun_mk (st := s_parts_of) l_parts_of c_parts_of k_parts_of, PySem.W.mg_of X_ G a_parts_of, k_parts_of, (Fun.binds (fun_mk (st := s_parts_of) l_parts_of c_parts_of k_parts_of) (ps := ["number"]) fun _ _ _ _ _ _ us hl => match us, hl with | [_], _ => rfl)⟩
    d_Ratio_eq := ⟨_, _, fun_mk (st := s_Ratio_eq) l_Ratio_eq c_Ratio_eq k_Ratio_eq, ⟨a_Ratio_eq, i_Ratio_eq, k_Ratio_eq⟩, (Fun.binds (fun_mk (st := s_Ratio_eq) l_Ratio_eq c_Ratio_eq k_Ratio_eq) (ps := ["self", "other"]) fun _ _ _ _ _ _ us hl => match us, hl with | [_, _], _ => rfl)⟩
    m_Ratio_eq := (show ("__eq__" : Str) ∉ (["_top", "_bottom"] : List Str) from by decide +kernel)
    d_Telling_eq := ⟨_, _, fun_mk (st := s_Telling_eq) l_Telling_eq c_Telling_eq k_Telling_eq, ⟨a_Telling_eq, i_Telling_eq, k_Telling_eq⟩, (Fun.binds (fun_mk (st := s_Telling_eq) l_Telling_eq c_Telling_eq k_Telling_eq) (ps := ["self", "other"]) fun _ _ _ _ _ _ us hl => match us, hl with | [_, _], _ => rfl)⟩
    m_Telling_eq := (show ("__eq__" : Str) ∉ (["marks", "seats", "states", "table"] : List Str) from by decide +kernel)
    d_Web_eq := ⟨_, _, fun_mk (st := s_Web_eq) l_Web_eq c_Web_eq k_Web_eq, ⟨a_Web_eq, i_Web_eq, k_Web_eq⟩, (Fun.binds (fun_mk (st := s_Web_eq) l_Web_eq c_Web_eq k_Web_eq) (ps := ["self", "other"]) fun _ _ _ _ _ _ us hl => match us, hl with | [_, _], _ => rfl)⟩
    m_Web_eq := (show ("__eq__" : Str) ∉ (["seats", "heard_lots"] : List Str) from by decide +kernel)
    d_law_all_lots := ⟨_, _, fun_mk (st := s_law_all_lots) l_law_all_lots c_law_all_lots k_law_all_lots, PySem.W.mg_of X_ G a_law_all_lots, k_law_all_lots, (Fun.binds (fun_mk (st := s_law_all_lots) l_law_all_lots c_law_all_lots k_law_all_lots) (ps := ["_law_seats1"]) fun _ _ _ _ _ _ us hl => match us, hl with | [_], _ => rfl)⟩
    d_all_lots := ⟨_, _, fun_mk (st := s_all_lots) l_all_lots c_all_lots k_all_lots, PySem.W.mg_of X_ G a_all_lots, k_all_lots, (Fun.binds (fun_mk (st := s_all_lots) l_all_lots c_all_lots k_all_lots) (ps := ["seats"]) fun _ _ _ _ _ _ us hl => match us, hl with | [_], _ => rfl)⟩
    d_is_integer := ⟨_, _, fun_mk (st := s_is_integer) l_is_integer c_is_integer k_is_integer, PySem.W.mg_of X_ G a_is_integer, k_is_integer, (Fun.binds (fun_mk (st := s_is_integer) l_is_integer c_is_integer k_is_integer) (ps := ["value"]) fun _ _ _ _ _ _ us hl => match us, hl with | [_], _ => rfl)⟩
    d_is_place := ⟨_, _, fun_mk (st := s_is_place) l_is_place c_is_place k_is_place, PySem.W.mg_of X_ G a_is_place, k_is_place, (Fun.binds (fun_mk (st := s_is_place) l_is_place c_is_place k_is_place) (ps := ["value", "many"]) fun _ _ _ _ _ _ us hl => match us, hl with | [_, _], _ => rfl)⟩
    d_is_many := ⟨_, _, fun_mk (st := s_is_many) l_is_many c_is_many k_is_many, PySem.W.mg_of X_ G a_is_many, k_is_many, (Fun.binds (fun_mk (st := s_is_many) l_is_many c_is_many k_is_many) (ps := ["value"]) fun _ _ _ _ _ _ us hl => match us, hl with | [_], _ => rfl)⟩
    d_Web_len := ⟨_, _, fun_mk (st := s_Web_len) l_Web_len c_Web_len k_Web_len, ⟨a_Web_len, i_Web_len, k_Web_len⟩, (Fun.binds (fun_mk (st := s_Web_len) l_Web_len c_Web_len k_Web_len) (ps := ["self"]) fun _ _ _ _ _ _ us hl => match us, hl with | [_], _ => rfl)⟩
    m_Web_len := (show ("__len__" : Str) ∉ (["seats", "heard_lots"] : List Str) from by decide +kernel)
    d_is_lot := ⟨_, _, fun_mk (st := s_is_lot) l_is_lot c_is_lot k_is_lot, PySem.W.mg_of X_ G a_is_lot, k_is_lot, (Fun.binds (fun_mk (st := s_is_lot) l_is_lot c_is_lot k_is_lot) (ps := ["value", "seats"]) fun _ _ _ _ _ _ us hl => match us, hl with | [_, _], _ => rfl)⟩
    d_are_lots := ⟨_, _, fun_mk (st := s_are_lots) l_are_lots c_are_lots k_are_lots, PySem.W.mg_of X_ G a_are_lots, k_are_lots, (Fun.binds (fun_mk (st := s_are_lots) l_are_lots c_are_lots k_are_lots) (ps := ["value", "seats"]) fun _ _ _ _ _ _ us hl => match us, hl with | [_, _], _ => rfl)⟩
    d_Web_init := ⟨_, _, fun_mk (st := s_Web_init) l_Web_init c_Web_init k_Web_init, ⟨mk0, a_Web_init, i_Web_init, kc0⟩, (Fun.binds (fun_mk (st := s_Web_init) l_Web_init c_Web_init k_Web_init) (ps := ["self", "seats", "lots"]) fun _ _ _ _ _ _ us hl => match us, hl with | [_, _, _], _ => rfl)⟩
    d_all_webs := ⟨_, _, fun_mk (st := s_all_webs) l_all_webs c_all_webs k_all_webs, PySem.W.mg_of X_ G a_all_webs, k_all_webs, (Fun.binds (fun_mk (st := s_all_webs) l_all_webs c_all_webs k_all_webs) (ps := ["seats", "hearers"]) fun _ _ _ _ _ _ us hl => match us, hl with | [_, _], _ => rfl)⟩
    d_Web_lots := ⟨_, _, fun_mk (st := s_Web_lots) l_Web_lots c_Web_lots k_Web_lots, ⟨a_Web_lots, i_Web_lots, k_Web_lots⟩, (Fun.binds (fun_mk (st := s_Web_lots) l_Web_lots c_Web_lots k_Web_lots) (ps := ["self"]) fun _ _ _ _ _ _ us hl => match us, hl with | [_], _ => rfl)⟩
    m_Web_lots := (show ("lots" : Str) ∉ (["seats", "heard_lots"] : List Str) from by decide +kernel)
    d_law_all_right := ⟨_, _, fun_mk (st := s_law_all_right) l_law_all_right c_law_all_right k_law_all_right, PySem.W.mg_of X_ G a_law_all_right, k_law_all_right, (Fun.binds (fun_mk (st := s_law_all_right) l_law_all_right c_law_all_right k_law_all_right) (ps := ["_law_seats1", "_law_hearers1"]) fun _ _ _ _ _ _ us hl => match us, hl with | [_, _], _ => rfl)⟩
    d_law_box := ⟨_, _, fun_mk (st := s_law_box) l_law_box c_law_box k_law_box, PySem.W.mg_of X_ G a_law_box, k_law_box, (Fun.binds (fun_mk (st := s_law_box) l_law_box c_law_box k_law_box) (ps := ["_law_script", "_law_k"]) fun _ _ _ _ _ _ us hl => match us, hl with | [_, _], _ => rfl)⟩
    d_law_take := ⟨_, _, fun_mk (st := s_law_take) l_law_take c_law_take k_law_take, PySem.W.mg_of X_ G a_law_take, k_law_take, (Fun.binds (fun_mk (st := s_law_take) l_law_take c_law_take k_law_take) (ps := ["_law_box_here", "_law_many"]) fun _ _ _ _ _ _ us hl => match us, hl with | [_, _], _ => rfl)⟩
    d_law_lots := ⟨_, _, fun_mk (st := s_law_lots) l_law_lots c_law_lots k_law_lots, PySem.W.mg_of X_ G a_law_lots, k_law_lots, (Fun.binds (fun_mk (st := s_law_lots) l_law_lots c_law_lots k_law_lots) (ps := ["_law_box_here", "_law_seats1", "_law_hearers1"]) fun _ _ _ _ _ _ us hl => match us, hl with | [_, _, _], _ => rfl)⟩
    d_Ratio_init := idefD_mk (st := s_Ratio_init) l_Ratio_init c_Ratio_init k_Ratio_init lt_Ratio_init ho_Ratio_init ⟨mk1, a_Ratio_init, i_Ratio_init, kc1⟩ (fun _ _ _ _ _ _ _ us its hu hi => match us, its, hu, hi with | [_, _, _], [_], _, _ => ⟨_, rfl, rfl⟩) (fun _ _ _ _ _ _ _ us its hu hi => match us, its, hu, hi with | [_, _], [_], _, _ => ⟨_, rfl, rfl⟩) (by decide)
    d_as_ratio := ⟨_, _, fun_mk (st := s_as_ratio) l_as_ratio c_as_ratio k_as_ratio, PySem.W.mg_of X_ G a_as_ratio, k_as_ratio, (Fun.binds (fun_mk (st := s_as_ratio) l_as_ratio c_as_ratio k_as_ratio) (ps := ["value"]) fun _ _ _ _ _ _ us hl => match us, hl with | [_], _ => rfl)⟩
    d_Ratio_below := ⟨_, _, fun_mk (st := s_Ratio_below) l_Ratio_below c_Ratio_below k_Ratio_below, ⟨a_Ratio_below, i_Ratio_below, k_Ratio_below⟩, (Fun.binds (fun_mk (st := s_Ratio_below) l_Ratio_below c_Ratio_below k_Ratio_below) (ps := ["self", "number"]) fun _ _ _ _ _ _ us hl => match us, hl with | [_, _], _ => rfl)⟩
    m_Ratio_below := (show ("below" : Str) ∉ (["_top", "_bottom"] : List Str) from by decide +kernel)
    d_is_share_list := ⟨_, _, fun_mk (st := s_is_share_list) l_is_share_list c_is_share_list k_is_share_list, PySem.W.mg_of X_ G a_is_share_list, k_is_share_list, (Fun.binds (fun_mk (st := s_is_share_list) l_is_share_list c_is_share_list k_is_share_list) (ps := ["value"]) fun _ _ _ _ _ _ us hl => match us, hl with | [_], _ => rfl), tc_is_share_list_⟩
    d_Ratio_add := ⟨_, _, fun_mk (st := s_Ratio_add) l_Ratio_add c_Ratio_add k_Ratio_add, ⟨a_Ratio_add, i_Ratio_add, k_Ratio_add⟩, (Fun.binds (fun_mk (st := s_Ratio_add) l_Ratio_add c_Ratio_add k_Ratio_add) (ps := ["self", "other"]) fun _ _ _ _ _ _ us hl => match us, hl with | [_, _], _ => rfl)⟩
    m_Ratio_add := (show ("__add__" : Str) ∉ (["_top", "_bottom"] : List Str) from by decide +kernel)
    d_total := ⟨_, _, fun_mk (st := s_total) l_total c_total k_total, PySem.W.mg_of X_ G a_total, k_total, (Fun.binds (fun_mk (st := s_total) l_total c_total k_total) (ps := ["numbers"]) fun _ _ _ _ _ _ us hl => match us, hl with | [_], _ => rfl)⟩
    d_are_chances := ⟨_, _, fun_mk (st := s_are_chances) l_are_chances c_are_chances k_are_chances, PySem.W.mg_of X_ G a_are_chances, k_are_chances, (Fun.binds (fun_mk (st := s_are_chances) l_are_chances c_are_chances k_are_chances) (ps := ["value"]) fun _ _ _ _ _ _ us hl => match us, hl with | [_], _ => rfl)⟩
    d_are_lines := ⟨_, _, fun_mk (st := s_are_lines) l_are_lines c_are_lines k_are_lines, PySem.W.mg_of X_ G a_are_lines, k_are_lines, (Fun.binds (fun_mk (st := s_are_lines) l_are_lines c_are_lines k_are_lines) (ps := ["value", "many"]) fun _ _ _ _ _ _ us hl => match us, hl with | [_, _], _ => rfl)⟩
    d_product_of := ⟨_, _, fun_mk (st := s_product_of) l_product_of c_product_of k_product_of, PySem.W.mg_of X_ G a_product_of, k_product_of, (Fun.binds (fun_mk (st := s_product_of) l_product_of c_product_of k_product_of) (ps := ["numbers"]) fun _ _ _ _ _ _ us hl => match us, hl with | [_], _ => rfl)⟩
    d_are_marks := ⟨_, _, fun_mk (st := s_are_marks) l_are_marks c_are_marks k_are_marks, PySem.W.mg_of X_ G a_are_marks, k_are_marks, (Fun.binds (fun_mk (st := s_are_marks) l_are_marks c_are_marks k_are_marks) (ps := ["value"]) fun _ _ _ _ _ _ us hl => match us, hl with | [_], _ => rfl)⟩
    d_Telling_init := ⟨_, _, fun_mk (st := s_Telling_init) l_Telling_init c_Telling_init k_Telling_init, ⟨mk2, a_Telling_init, i_Telling_init, kc2⟩, (Fun.binds (fun_mk (st := s_Telling_init) l_Telling_init c_Telling_init k_Telling_init) (ps := ["self", "marks", "chances"]) fun _ _ _ _ _ _ us hl => match us, hl with | [_, _, _], _ => rfl)⟩
    d_law_equal_right := ⟨_, _, fun_mk (st := s_law_equal_right) l_law_equal_right c_law_equal_right k_law_equal_right, PySem.W.mg_of X_ G a_law_equal_right, k_law_equal_right, (Fun.binds (fun_mk (st := s_law_equal_right) l_law_equal_right c_law_equal_right k_law_equal_right) (ps := ["_law_box_here", "_law_told", "_law_seats1", "_law_lots1"]) fun _ _ _ _ _ _ us hl => match us, hl with | [_, _, _, _], _ => rfl)⟩
    d_law_links := ⟨_, _, fun_mk (st := s_law_links) l_law_links c_law_links k_law_links, PySem.W.mg_of X_ G a_law_links, k_law_links, (Fun.binds (fun_mk (st := s_law_links) l_law_links c_law_links k_law_links) (ps := ["_law_lots1"]) fun _ _ _ _ _ _ us hl => match us, hl with | [_], _ => rfl)⟩
    d_Web_links := ⟨_, _, fun_mk (st := s_Web_links) l_Web_links c_Web_links k_Web_links, ⟨a_Web_links, i_Web_links, k_Web_links⟩, (Fun.binds (fun_mk (st := s_Web_links) l_Web_links c_Web_links k_Web_links) (ps := ["self"]) fun _ _ _ _ _ _ us hl => match us, hl with | [_], _ => rfl)⟩
    m_Web_links := (show ("links" : Str) ∉ (["seats", "heard_lots"] : List Str) from by decide +kernel)
    d_law_right := ⟨_, _, fun_mk (st := s_law_right) l_law_right c_law_right k_law_right, PySem.W.mg_of X_ G a_law_right, k_law_right, (Fun.binds (fun_mk (st := s_law_right) l_law_right c_law_right k_law_right) (ps := ["_law_told", "_law_seats1", "_law_lots1"]) fun _ _ _ _ _ _ us hl => match us, hl with | [_, _, _], _ => rfl)⟩
    d_full_web := ⟨_, _, fun_mk (st := s_full_web) l_full_web c_full_web k_full_web, PySem.W.mg_of X_ G a_full_web, k_full_web, (Fun.binds (fun_mk (st := s_full_web) l_full_web c_full_web k_full_web) (ps := ["seats", "hearers"]) fun _ _ _ _ _ _ us hl => match us, hl with | [_, _], _ => rfl)⟩
    d_own_web := ⟨_, _, fun_mk (st := s_own_web) l_own_web c_own_web k_own_web, PySem.W.mg_of X_ G a_own_web, k_own_web, (Fun.binds (fun_mk (st := s_own_web) l_own_web c_own_web k_own_web) (ps := ["seats"]) fun _ _ _ _ _ _ us hl => match us, hl with | [_], _ => rfl)⟩
    d_time_web := ⟨_, _, fun_mk (st := s_time_web) l_time_web c_time_web k_time_web, PySem.W.mg_of X_ G a_time_web, k_time_web, (Fun.binds (fun_mk (st := s_time_web) l_time_web c_time_web k_time_web) (ps := ["seats"]) fun _ _ _ _ _ _ us hl => match us, hl with | [_], _ => rfl)⟩
    d_law_named_right := ⟨_, _, fun_mk (st := s_law_named_right) l_law_named_right c_law_named_right k_law_named_right, PySem.W.mg_of X_ G a_law_named_right, k_law_named_right, (Fun.binds (fun_mk (st := s_law_named_right) l_law_named_right c_law_named_right k_law_named_right) (ps := ["_law_seats1", "_law_hearers1"]) fun _ _ _ _ _ _ us hl => match us, hl with | [_, _], _ => rfl)⟩
  }
  exact ⟨PySem.W.fnOf "law" "law" (defArgs s_law) (defBody s_law) (defScope s_law) .none kV_law dc_law pm_law an_law cd_law ct_law, 1, tbOfT K [C0, C1, C2, 0, 0, 0, 0, 0, 0, 0, 0, 0, C12, C13, 0, 0, 0, 0, 0, 0, C20, C21, C22, 0, 0, 0, C26, C27] [(["seats", "heard_lots"] : List Str), (["_top", "_bottom"] : List Str), (["marks", "seats", "states", "table"] : List Str), ([] : List Str), ([] : List Str), ([] : List Str), ([] : List Str), ([] : List Str), ([] : List Str), ([] : List Str), ([] : List Str), ([] : List Str), ([] : List Str), ([] : List Str), ([] : List Str), ([] : List Str), ([] : List Str), ([] : List Str), ([] : List Str), ([] : List Str), (["given"] : List Str), (["given"] : List Str), (["given"] : List Str), ([] : List Str), ([] : List Str), ([] : List Str), (["given"] : List Str), (["given"] : List Str)] [tp_is_share_list] [tc_is_share_list], rfl, fun j hj => match j, hj with | 0, _ => tab_is X_ TS tx_is_share_list_ (PySem.W.mg_of X_ G a_is_share_list) l_is_share_list tc_is_share_list_ tr_is_share_list_ tv_is_share_list_ tn_is_share_list_ | j + 1, hj => absurd (show j + 1 < 1 from hj) (by omega), nd_tp, fun s v => .of_eq rfl, fun base _ _ TB => law_endT law_true (ok_law ⟨TX, TB⟩ (fun_mk (st := s_law) l_law c_law k_law))⟩
end Dn
open PySem PySem.W PyProof.Rows
set_option maxRecDepth 100000 in
set_option maxHeartbeats 0 in
theorem PySem.Challenge.cw_tellsmore_k17_webs_told_holds : PySem.Challenge.rw_tellsmore_k17_webs_told.Holds := by
  w_on; o_law; k_head; (case hw => w_witness2)
  k_fill
  refine Dn.walkDT (k := 15) (x := "_law_script") (l := PySem.Challenge.rw_tellsmore_k17_webs_told) (by decide) rfl rfl (fun w h Y => PySem.W.kIn_of Y) ?F
  case F =>
    intro w mg fa h KX G hmg TS
    refine' Dn.all_mk KX G hmg TS ?a12 ?a13 ?a20 ?a22 ?a27 ?a21 ?a26 ?a1 ?a2 ?a0 ?gi_MOST_ROWS ?gi_MOST_SEATS ?gi_MOST_STATES ?n_abs ?n_all ?n_any ?n_bool ?n_enumerate ?n_int ?n_isinstance ?n_len ?n_list ?n_max ?n_min ?n_range ?n_sorted ?n_sum ?n_tuple ?pg1 ?hd1 ?po1 ?sa1 ?pg2 ?hd2 ?po2 ?sa2 ?pg0 ?hd0 ?po0 ?sa0 ?no1__bottom ?no1__top ?no0_heard_lots ?no2_marks ?no0_seats ?no2_seats ?no2_states ?no2_table ?ha0 ?hn0 ?ht0 ?hm0 ?xi1 ?xt1 ?sc_0_1 ?sn_0_1 ?ha2 ?hn2 ?ht2 ?hm2 ?sc_2_1 ?sn_2_1 ?ha1 ?hn1 ?ht1 ?hm1 ?st_NoneType_1 ?st_bool_1 ?st_int_1 ?st_str_1 ?st_list_1 ?st_tuple_1 ?st_dict_1 ?xi2 ?xt2 ?sc_0_2 ?sn_0_2 ?sc_1_2 ?sn_1_2 ?st_NoneType_2 ?st_bool_2 ?st_int_2 ?st_str_2 ?st_list_2 ?st_tuple_2 ?st_dict_2 ?xi0 ?xt0 ?sc_2_0 ?sn_2_0 ?sc_1_0 ?sn_1_0 ?st_NoneType_0 ?st_bool_0 ?st_int_0 ?st_str_0 ?st_list_0 ?st_tuple_0 ?st_dict_0 ?so_0_bool ?so_2_bool ?so_1_bool ?so_0_int ?so_2_int ?so_1_int ?so_0_list ?so_2_list ?so_1_list ?so_0_tuple ?so_2_tuple ?so_1_tuple ?sf1 ?or_add1 ?og_add1 ?o1_add1 ?o2_add1 ?nf1_Web ?nf1_Telling ?nf1_Ratio ?nf1_NoneType ?nf1_bool ?nf1_int ?nf1_str ?nf1_list ?nf1_tuple ?nf1_dict ?nf2_Web ?nf2_Telling ?nf2_Ratio ?nf2_NoneType ?nf2_bool ?nf2_int ?nf2_str ?nf2_list ?nf2_tuple ?nf2_dict ?nf0_Web ?nf0_Telling ?nf0_Ratio ?nf0_NoneType ?nf0_bool ?nf0_int ?nf0_str ?nf0_list ?nf0_tuple ?nf0_dict ?ei13 ?ek13 ?er13 ?et13 ?le1 ?le2 ?le3 ?iC_x20 ?tI_x20 ?l_x20 ?c_x20 ?k_x20 ?lo_x20 ?rv_x20 ?sa20 ?xb20 ?xt20 ?ek20 ?xn20_given ?iC_x22 ?tI_x22 ?l_x22 ?c_x22 ?k_x22 ?lo_x22 ?rv_x22 ?sa22 ?xb22 ?xt22 ?ek22 ?xn22_given ?iC_x27 ?tI_x27 ?l_x27 ?c_x27 ?k_x27 ?lo_x27 ?rv_x27 ?sa27 ?xb27 ?xt27 ?ek27 ?xn27_given ?iC_x21 ?tI_x21 ?l_x21 ?c_x21 ?k_x21 ?lo_x21 ?rv_x21 ?sa21 ?xb21 ?xt21 ?ek21 ?xn21_given ?iC_x26 ?tI_x26 ?l_x26 ?c_x26 ?k_x26 ?lo_x26 ?rv_x26 ?sa26 ?xb26 ?xt26 ?ek26 ?xn26_given ?gcd ?p1_p1_bottom ?p2_p1_bottom ?p3_p1_bottom ?p4_p1_bottom ?l_p1_bottom ?c_p1_bottom ?k_p1_bottom ?p1_p1_top ?p2_p1_top ?p3_p1_top ?p4_p1_top ?l_p1_top ?c_p1_top ?k_p1_top ?a_is_number ?l_is_number ?c_is_number ?k_is_number ?a_parts_of ?l_parts_of ?c_parts_of ?k_parts_of ?a_Ratio_eq ?i_Ratio_eq ?l_Ratio_eq ?c_Ratio_eq ?k_Ratio_eq ?a_Telling_eq ?i_Telling_eq ?l_Telling_eq ?c_Telling_eq ?k_Telling_eq ?a_Web_eq ?i_Web_eq ?l_Web_eq ?c_Web_eq ?k_Web_eq ?a_law_all_lots ?l_law_all_lots ?c_law_all_lots ?k_law_all_lots ?a_all_lots ?l_all_lots ?c_all_lots ?k_all_lots ?a_is_integer ?l_is_integer ?c_is_integer ?k_is_integer ?a_is_place ?l_is_place ?c_is_place ?k_is_place ?a_is_many ?l_is_many ?c_is_many ?k_is_many ?a_Web_len ?i_Web_len ?l_Web_len ?c_Web_len ?k_Web_len ?a_is_lot ?l_is_lot ?c_is_lot ?k_is_lot ?a_are_lots ?l_are_lots ?c_are_lots ?k_are_lots ?a_Web_init ?i_Web_init ?l_Web_init ?c_Web_init ?k_Web_init ?mk0 ?kc0 ?a_all_webs ?l_all_webs ?c_all_webs ?k_all_webs ?a_Web_lots ?i_Web_lots ?l_Web_lots ?c_Web_lots ?k_Web_lots ?a_law_all_right ?l_law_all_right ?c_law_all_right ?k_law_all_right ?a_law_box ?l_law_box ?c_law_box ?k_law_box ?a_law_take ?l_law_take ?c_law_take ?k_law_take ?a_law_lots ?l_law_lots ?c_law_lots ?k_law_lots ?a_Ratio_init ?i_Ratio_init ?l_Ratio_init ?c_Ratio_init ?k_Ratio_init ?lt_Ratio_init ?ho_Ratio_init ?mk1 ?kc1 ?a_as_ratio ?l_as_ratio ?c_as_ratio ?k_as_ratio ?a_Ratio_below ?i_Ratio_below ?l_Ratio_below ?c_Ratio_below ?k_Ratio_below ?a_is_share_list ?l_is_share_list ?c_is_share_list ?k_is_share_list ?tc_is_share_list_ ?tr_is_share_list_ ?tv_is_share_list_ ?tn_is_share_list_ ?tx_is_share_list_ ?a_Ratio_add ?i_Ratio_add ?l_Ratio_add ?c_Ratio_add ?k_Ratio_add ?a_total ?l_total ?c_total ?k_total ?a_are_chances ?l_are_chances ?c_are_chances ?k_are_chances ?a_are_lines ?l_are_lines ?c_are_lines ?k_are_lines ?a_product_of ?l_product_of ?c_product_of ?k_product_of ?a_are_marks ?l_are_marks ?c_are_marks ?k_are_marks ?a_Telling_init ?i_Telling_init ?l_Telling_init ?c_Telling_init ?k_Telling_init ?mk2 ?kc2 ?a_law_equal_right ?l_law_equal_right ?c_law_equal_right ?k_law_equal_right ?a_law_links ?l_law_links ?c_law_links ?k_law_links ?a_Web_links ?i_Web_links ?l_Web_links ?c_Web_links ?k_Web_links ?a_law_right ?l_law_right ?c_law_right ?k_law_right ?a_full_web ?l_full_web ?c_full_web ?k_full_web ?a_own_web ?l_own_web ?c_own_web ?k_own_web ?a_time_web ?l_time_web ?c_time_web ?k_time_web ?a_law_named_right ?l_law_named_right ?c_law_named_right ?k_law_named_right ?a_law ?l_law ?c_law ?k_law ?nd_tp
    (case a12 => k_is)
    (case a13 => k_is)
    (case a20 => k_is)
    (case a22 => k_is)
    (case a27 => k_is)
    (case a21 => k_is)
    (case a26 => k_is)
    (case a1 => k_is)
    (case a2 => k_is)
    (case a0 => k_is)
    (case gi_MOST_ROWS => k_is)
    (case gi_MOST_SEATS => k_is)
    (case gi_MOST_STATES => k_is)
    (case n_abs => k_is)
    (case n_all => k_is)
    (case n_any => k_is)
    (case n_bool => k_is)
    (case n_enumerate => k_is)
    (case n_int => k_is)
    (case n_isinstance => k_is)
    (case n_len => k_is)
    (case n_list => k_is)
    (case n_max => k_is)
    (case n_min => k_is)
    (case n_range => k_is)
    (case n_sorted => k_is)
    (case n_sum => k_is)
    (case n_tuple => k_is)
    (case pg1 => k_is)
    (case hd1 => k_is)
    (case po1 => k_is)
    (case sa1 => k_is)
    (case pg2 => k_is)
    (case hd2 => k_is)
    (case po2 => k_is)
    (case sa2 => k_is)
    (case pg0 => k_is)
    (case hd0 => k_is)
    (case po0 => k_is)
    (case sa0 => k_is)
    (case no1__bottom => k_is)
    (case no1__top => k_is)
    (case no0_heard_lots => k_is)
    (case no2_marks => k_is)
    (case no0_seats => k_is)
    (case no2_seats => k_is)
    (case no2_states => k_is)
    (case no2_table => k_is)
    (case ha0 => k_is)
    (case hn0 => k_is)
    (case ht0 => k_is)
    (case hm0 => k_is)
    (case xi1 => k_is)
    (case xt1 => k_is)
    (case sc_0_1 => k_is)
    (case sn_0_1 => rfl)
    (case ha2 => k_is)
    (case hn2 => k_is)
    (case ht2 => k_is)
    (case hm2 => k_is)
    (case sc_2_1 => k_is)
    (case sn_2_1 => rfl)
    (case ha1 => k_is)
    (case hn1 => k_is)
    (case ht1 => k_is)
    (case hm1 => k_is)
    (case st_NoneType_1 => k_is)
    (case st_bool_1 => k_is)
    (case st_int_1 => k_is)
    (case st_str_1 => k_is)
    (case st_list_1 => k_is)
    (case st_tuple_1 => k_is)
    (case st_dict_1 => k_is)
    (case xi2 => k_is)
    (case xt2 => k_is)
    (case sc_0_2 => k_is)
    (case sn_0_2 => rfl)
    (case sc_1_2 => k_is)
    (case sn_1_2 => rfl)
    (case st_NoneType_2 => k_is)
    (case st_bool_2 => k_is)
    (case st_int_2 => k_is)
    (case st_str_2 => k_is)
    (case st_list_2 => k_is)
    (case st_tuple_2 => k_is)
    (case st_dict_2 => k_is)
    (case xi0 => k_is)
    (case xt0 => k_is)
    (case sc_2_0 => k_is)
    (case sn_2_0 => rfl)
    (case sc_1_0 => k_is)
    (case sn_1_0 => rfl)
    (case st_NoneType_0 => k_is)
    (case st_bool_0 => k_is)
    (case st_int_0 => k_is)
    (case st_str_0 => k_is)
    (case st_list_0 => k_is)
    (case st_tuple_0 => k_is)
    (case st_dict_0 => k_is)
    (case so_0_bool => k_is)
    (case so_2_bool => k_is)
    (case so_1_bool => k_is)
    (case so_0_int => k_is)
    (case so_2_int => k_is)
    (case so_1_int => k_is)
    (case so_0_list => k_is)
    (case so_2_list => k_is)
    (case so_1_list => k_is)
    (case so_0_tuple => k_is)
    (case so_2_tuple => k_is)
    (case so_1_tuple => k_is)
    (case sf1 => k_is)
    (case or_add1 => k_is)
    (case og_add1 => first | exact Or.inl rfl | exact Or.inr ⟨_, rfl⟩)
    (case o1_add1 => k_is)
    (case o2_add1 => k_is)
    (case nf1_Web => k_is)
    (case nf1_Telling => k_is)
    (case nf1_Ratio => k_is)
    (case nf1_NoneType => k_is)
    (case nf1_bool => k_is)
    (case nf1_int => k_is)
    (case nf1_str => k_is)
    (case nf1_list => k_is)
    (case nf1_tuple => k_is)
    (case nf1_dict => k_is)
    (case nf2_Web => k_is)
    (case nf2_Telling => k_is)
    (case nf2_Ratio => k_is)
    (case nf2_NoneType => k_is)
    (case nf2_bool => k_is)
    (case nf2_int => k_is)
    (case nf2_str => k_is)
    (case nf2_list => k_is)
    (case nf2_tuple => k_is)
    (case nf2_dict => k_is)
    (case nf0_Web => k_is)
    (case nf0_Telling => k_is)
    (case nf0_Ratio => k_is)
    (case nf0_NoneType => k_is)
    (case nf0_bool => k_is)
    (case nf0_int => k_is)
    (case nf0_str => k_is)
    (case nf0_list => k_is)
    (case nf0_tuple => k_is)
    (case nf0_dict => k_is)
    (case ei13 => k_exc)
    (case ek13 => k_is)
    (case er13 => k_is)
    (case et13 => k_is)
    (case le1 => k_is)
    (case le2 => k_is)
    (case le3 => k_is)
    (case iC_x20 => k_is)
    (case tI_x20 => k_is)
    (case l_x20 => k_is)
    (case c_x20 => k_is)
    (case k_x20 => k_is)
    (case lo_x20 => k_is)
    (case rv_x20 => rfl)
    (case sa20 => k_is)
    (case xb20 => k_is)
    (case xt20 => k_is)
    (case ek20 => k_is)
    (case xn20_given => k_is)
    (case iC_x22 => k_is)
    (case tI_x22 => k_is)
    (case l_x22 => k_is)
    (case c_x22 => k_is)
    (case k_x22 => k_is)
    (case lo_x22 => k_is)
    (case rv_x22 => rfl)
    (case sa22 => k_is)
    (case xb22 => k_is)
    (case xt22 => k_is)
    (case ek22 => k_is)
    (case xn22_given => k_is)
    (case iC_x27 => k_is)
    (case tI_x27 => k_is)
    (case l_x27 => k_is)
    (case c_x27 => k_is)
    (case k_x27 => k_is)
    (case lo_x27 => k_is)
    (case rv_x27 => rfl)
    (case sa27 => k_is)
    (case xb27 => k_is)
    (case xt27 => k_is)
    (case ek27 => k_is)
    (case xn27_given => k_is)
    (case iC_x21 => k_is)
    (case tI_x21 => k_is)
    (case l_x21 => k_is)
    (case c_x21 => k_is)
    (case k_x21 => k_is)
    (case lo_x21 => k_is)
    (case rv_x21 => rfl)
    (case sa21 => k_is)
    (case xb21 => k_is)
    (case xt21 => k_is)
    (case ek21 => k_is)
    (case xn21_given => k_is)
    (case iC_x26 => k_is)
    (case tI_x26 => k_is)
    (case l_x26 => k_is)
    (case c_x26 => k_is)
    (case k_x26 => k_is)
    (case lo_x26 => k_is)
    (case rv_x26 => rfl)
    (case sa26 => k_is)
    (case xb26 => k_is)
    (case xt26 => k_is)
    (case ek26 => k_is)
    (case xn26_given => k_is)
    (case gcd => k_is)
    (case p1_p1_bottom => k_is)
    (case p2_p1_bottom => k_is)
    (case p3_p1_bottom => k_is)
    (case p4_p1_bottom => k_is)
    (case l_p1_bottom => k_is)
    (case c_p1_bottom => k_is)
    (case k_p1_bottom => k_is)
    (case p1_p1_top => k_is)
    (case p2_p1_top => k_is)
    (case p3_p1_top => k_is)
    (case p4_p1_top => k_is)
    (case l_p1_top => k_is)
    (case c_p1_top => k_is)
    (case k_p1_top => k_is)
    (case a_is_number => k_is)
    (case l_is_number => k_is)
    (case c_is_number => k_is)
    (case k_is_number => k_is)
    (case a_parts_of => k_is)
    (case l_parts_of => k_is)
    (case c_parts_of => k_is)
    (case k_parts_of => k_is)
    (case a_Ratio_eq => k_is)
    (case i_Ratio_eq => k_is)
    (case l_Ratio_eq => k_is)
    (case c_Ratio_eq => k_is)
    (case k_Ratio_eq => k_is)
    (case a_Telling_eq => k_is)
    (case i_Telling_eq => k_is)
    (case l_Telling_eq => k_is)
    (case c_Telling_eq => k_is)
    (case k_Telling_eq => k_is)
    (case a_Web_eq => k_is)
    (case i_Web_eq => k_is)
    (case l_Web_eq => k_is)
    (case c_Web_eq => k_is)
    (case k_Web_eq => k_is)
    (case a_law_all_lots => k_is)
    (case l_law_all_lots => k_is)
    (case c_law_all_lots => k_is)
    (case k_law_all_lots => k_is)
    (case a_all_lots => k_is)
    (case l_all_lots => k_is)
    (case c_all_lots => k_is)
    (case k_all_lots => k_is)
    (case a_is_integer => k_is)
    (case l_is_integer => k_is)
    (case c_is_integer => k_is)
    (case k_is_integer => k_is)
    (case a_is_place => k_is)
    (case l_is_place => k_is)
    (case c_is_place => k_is)
    (case k_is_place => k_is)
    (case a_is_many => k_is)
    (case l_is_many => k_is)
    (case c_is_many => k_is)
    (case k_is_many => k_is)
    (case a_Web_len => k_is)
    (case i_Web_len => k_is)
    (case l_Web_len => k_is)
    (case c_Web_len => k_is)
    (case k_Web_len => k_is)
    (case a_is_lot => k_is)
    (case l_is_lot => k_is)
    (case c_is_lot => k_is)
    (case k_is_lot => k_is)
    (case a_are_lots => k_is)
    (case l_are_lots => k_is)
    (case c_are_lots => k_is)
    (case k_are_lots => k_is)
    (case a_Web_init => k_is)
    (case i_Web_init => k_is)
    (case l_Web_init => k_is)
    (case c_Web_init => k_is)
    (case k_Web_init => k_is)
    (case mk0 => k_is)
    (case kc0 => k_is)
    (case a_all_webs => k_is)
    (case l_all_webs => k_is)
    (case c_all_webs => k_is)
    (case k_all_webs => k_is)
    (case a_Web_lots => k_is)
    (case i_Web_lots => k_is)
    (case l_Web_lots => k_is)
    (case c_Web_lots => k_is)
    (case k_Web_lots => k_is)
    (case a_law_all_right => k_is)
    (case l_law_all_right => k_is)
    (case c_law_all_right => k_is)
    (case k_law_all_right => k_is)
    (case a_law_box => k_is)
    (case l_law_box => k_is)
    (case c_law_box => k_is)
    (case k_law_box => k_is)
    (case a_law_take => k_is)
    (case l_law_take => k_is)
    (case c_law_take => k_is)
    (case k_law_take => k_is)
    (case a_law_lots => k_is)
    (case l_law_lots => k_is)
    (case c_law_lots => k_is)
    (case k_law_lots => k_is)
    (case a_Ratio_init => k_is)
    (case i_Ratio_init => k_is)
    (case l_Ratio_init => k_is)
    (case c_Ratio_init => k_is)
    (case k_Ratio_init => k_is)
    (case lt_Ratio_init => k_is)
    (case ho_Ratio_init => rfl)
    (case mk1 => k_is)
    (case kc1 => k_is)
    (case a_as_ratio => k_is)
    (case l_as_ratio => k_is)
    (case c_as_ratio => k_is)
    (case k_as_ratio => k_is)
    (case a_Ratio_below => k_is)
    (case i_Ratio_below => k_is)
    (case l_Ratio_below => k_is)
    (case c_Ratio_below => k_is)
    (case k_Ratio_below => k_is)
    (case a_is_share_list => k_is)
    (case l_is_share_list => k_is)
    (case c_is_share_list => k_is)
    (case k_is_share_list => k_is)
    (case tc_is_share_list_ => rfl)
    (case tr_is_share_list_ => k_is)
    (case tv_is_share_list_ => rfl)
    (case tn_is_share_list_ => k_is)
    (case tx_is_share_list_ => decide +kernel)
    (case a_Ratio_add => k_is)
    (case i_Ratio_add => k_is)
    (case l_Ratio_add => k_is)
    (case c_Ratio_add => k_is)
    (case k_Ratio_add => k_is)
    (case a_total => k_is)
    (case l_total => k_is)
    (case c_total => k_is)
    (case k_total => k_is)
    (case a_are_chances => k_is)
    (case l_are_chances => k_is)
    (case c_are_chances => k_is)
    (case k_are_chances => k_is)
    (case a_are_lines => k_is)
    (case l_are_lines => k_is)
    (case c_are_lines => k_is)
    (case k_are_lines => k_is)
    (case a_product_of => k_is)
    (case l_product_of => k_is)
    (case c_product_of => k_is)
    (case k_product_of => k_is)
    (case a_are_marks => k_is)
    (case l_are_marks => k_is)
    (case c_are_marks => k_is)
    (case k_are_marks => k_is)
    (case a_Telling_init => k_is)
    (case i_Telling_init => k_is)
    (case l_Telling_init => k_is)
    (case c_Telling_init => k_is)
    (case k_Telling_init => k_is)
    (case mk2 => k_is)
    (case kc2 => k_is)
    (case a_law_equal_right => k_is)
    (case l_law_equal_right => k_is)
    (case c_law_equal_right => k_is)
    (case k_law_equal_right => k_is)
    (case a_law_links => k_is)
    (case l_law_links => k_is)
    (case c_law_links => k_is)
    (case k_law_links => k_is)
    (case a_Web_links => k_is)
    (case i_Web_links => k_is)
    (case l_Web_links => k_is)
    (case c_Web_links => k_is)
    (case k_Web_links => k_is)
    (case a_law_right => k_is)
    (case l_law_right => k_is)
    (case c_law_right => k_is)
    (case k_law_right => k_is)
    (case a_full_web => k_is)
    (case l_full_web => k_is)
    (case c_full_web => k_is)
    (case k_full_web => k_is)
    (case a_own_web => k_is)
    (case l_own_web => k_is)
    (case c_own_web => k_is)
    (case k_own_web => k_is)
    (case a_time_web => k_is)
    (case l_time_web => k_is)
    (case c_time_web => k_is)
    (case k_time_web => k_is)
    (case a_law_named_right => k_is)
    (case l_law_named_right => k_is)
    (case c_law_named_right => k_is)
    (case k_law_named_right => k_is)
    (case a_law => k_is)
    (case l_law => k_is)
    (case c_law => k_is)
    (case k_law => k_is)
    (case nd_tp => decide)

