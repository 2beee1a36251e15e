import PyProof.Rows.All
import Wide.All
import OpenK.AllK
import Wide.FinOn
import HandS.ForMost
import HandS.ForExc
import HandS.CallSlots
import HandS.Zip
import HandS.Wide
import HandS.Deep
import HandS.SortInts
import HandS.SortRule
import HandS.Conv
import HandS.IsInst
import HandS.TupAny
import KE.SortData
import HandS.OwnEq
import HandS.Small
import HandS.TryOnly
import KE.GoesEnum
import HandS.Words
import HandS.EndBits
import HandS.SetFor
import HandS.Strs
import KE.KDictZip
import KE.GoesZip
import HandS.ExcInit
import HandS.ExcField
import HandS.TryMany
import HandS.ExcIs
import HandS.DictComp
import HandS.DictEq
import KE.DataMinMax
import HandS.Text
import HandS.Defaults
import HandS.Property
import HandS.Gcd
import HandS.Star
import HandS.Style
import HandS.Iter
import HandS.Steps
import HandS.RaiseMore
import HandS.AnyAll
import HandS.GenOver
import PyProof.GenRules
import HandS.EndTab
import KE.KOpsOwn
import HandS.EndOwn
import PyProof.InstNe
import HandS.FStr
import KE.KCallOwn
import PyProof.ReprRoads
import HandS.MakeKwOnly
import HandS.Lambda
import HandS.Nested
import KE.DataCmp
import HandS.Dict
import HandS.SetBool
import HandS.SetKeys
import PyProof.ExcBaseAll.ValueError
import PySem.Challenge.RW_tellsmore_k21_talks
set_option Elab.async false
set_option linter.all false
set_option maxRecDepth 100000
section
/-! Dn1: data trees, their reading in the heap, results, readings as functions. -/
namespace Dn
open PySem L2

/-- pure data -/
inductive D where
  | non | bl (b : Bool) | int (i : Int) | str (x : Str)
  | lst (xs : List D) | tup (xs : List D) | obj (c : Nat) (xs : List D) | scr (ns : List Int) | dct (ks : List Key) (xs : List D)
/-- what a slot holds: data, or the name of a cell (a thing that is changed) -/
inductive S where
  | d (x : D) | c (n : Nat) | x (k : Nat) (xs : List S) | f
inductive CC where
  | lst (xs : List D) | dct (kvs : List (Key × D)) | obj (c : Nat) (xs : List D) | lS (xs : List S) | tS (xs : List S) | tb (j : Nat) | dT (kvs : List (List Key × D))
abbrev Cs := List CC
abbrev Sl := List (Option S)
inductive R (α : Type) where
  | ok (a : α) (c : Cs) | ex (k : Nat) (xs : List S) (c : Cs) | bad
inductive RS where
  | nx (δ : Sl) (c : Cs) | rt (s : S) (c : Cs) | bk (δ : Sl) (c : Cs) | ct (δ : Sl) (c : Cs) | ex (k : Nat) (xs : List S) (δ : Sl) (c : Cs) | bad
abbrev M := Sl → Cs → R S
abbrev MT := Sl → Cs → R Bool
abbrev MA := Sl → Cs → R (List S)
abbrev MS := Sl → Cs → RS

/-- a function in hand: where it stands, its code object with its name, what was known and which cells there were when it was handed over -/
structure Lm where
  f : Addr
  co : Option (Addr × Str)
  G : Hp
  ρ : List Addr
structure Tb where
  K : PySem.W.Frag
  cl : Nat → Addr
  fl : Nat → List Str
  /-- the exception that an except suite has in hand: where, its dict, its class -/
  x : Option (Addr × Option Addr × Nat) := none
  /-- the tables of code objects of the defs that make generators -/
  tb : Nat → Addr := fun _ => 0
  /-- the name of the lambdas whose code objects the j-th table tells, if it is a table of lambdas -/
  lam : Nat → Option Str := fun _ => none
  /-- the function that the running def got as an argument -/
  lm : Option Lm := none

def Ex (H H' : Hp) : Prop := ∀ a o, H a = some o → H' a = some o
theorem Ex.refl (H : Hp) : Ex H H := fun _ _ h => h
theorem Ex.trans {H H1 H2 : Hp} (a : Ex H H1) (b : Ex H1 H2) : Ex H H2 := fun x o h => b x o (a x o h)
theorem Ex.new {H : Hp} {p : Addr} {o : HO} (h : H p = none) : Ex H (upd H p o) := fun a u e => by
  rw [upd_ne (ne_of_none e h)]
  exact e
theorem ex_rd {H H' : Hp} {a : Addr} {u : HO} (e : Ex H H') (h : Rd H a u) : Rd H' a u := by
  rcases h with h | ⟨o, h⟩
  · exact Or.inl (e a _ h)
  · exact Or.inr ⟨o, e a _ h⟩
theorem ex_l {K : PySem.W.Frag} {H H' : Hp} {a : Addr} {xs : List V} (e : Ex H H') (h : SqL K H a xs) : SqL K H' a xs := by
  rcases h with h | h
  · exact Or.inl (ex_rd e h)
  · exact Or.inr h
theorem ex_t {K : PySem.W.Frag} {H H' : Hp} {a : Addr} {xs : List V} (e : Ex H H') (h : SqT K H a xs) : SqT K H' a xs := by
  rcases h with h | h
  · exact Or.inl (ex_rd e h)
  · exact Or.inr h
theorem Ex.back {H H' : Hp} {p : Addr} (e : Ex H H') (h : H' p = none) : H p = none := by
  cases h1 : H p with
  | none => rfl
  | some o =>
    rw [e p o h1] at h
    cases h

/-! ### what stands for what -/
mutual
def Rep (T : Tb) (G : Hp) : D → V → Prop
  | .non, v => v = .non
  | .bl b, v => v = .bl b
  | .int i, v => v = .int i
  | .str x, v => v = .str x
  | .scr ns, v => ∃ p, v = .ref p ∧ SqL T.K G p (ns.map V.int) ∧ ns.length ≤ sizeLine
  | .lst xs, v => ∃ p vs, v = .ref p ∧ G p = some (.lst vs) ∧ xs.length ≤ sizeLine ∧ Reps T G xs vs
  | .tup xs, v => ∃ p vs, v = .ref p ∧ G p = some (.tup vs) ∧ xs.length ≤ sizeLine ∧ Reps T G xs vs
  | .obj c xs, v => ∃ p dx fv, v = .ref p ∧ G p = some (.ins (T.cl c) dx fv) ∧ fv.map (·.1) = T.fl c ∧ Reps T G xs (fv.map (·.2))
  | .dct ks xs, v => ∃ p kv, v = .ref p ∧ G p = some (.dK kv) ∧ kv.map (·.1) = ks ∧ Reps T G xs (kv.map (·.2))
def Reps (T : Tb) (G : Hp) : List D → List V → Prop
  | [], vs => vs = []
  | d :: ds, vs => ∃ v r, vs = v :: r ∧ Rep T G d v ∧ Reps T G ds r
end
mutual
theorem Rep.mono {T : Tb} {G G' : Hp} (h : Ex G G') : ∀ (d : D) (v : V), Rep T G d v → Rep T G' d v
  | .non, v, e => by unfold Rep at *; exact e
  | .bl _, v, e => by unfold Rep at *; exact e
  | .int _, v, e => by unfold Rep at *; exact e
  | .str _, v, e => by unfold Rep at *; exact e
  | .scr ns, v, e => by unfold Rep at *; obtain ⟨p, a, b, l⟩ := e; exact ⟨p, a, ex_l h b, l⟩
  | .lst xs, v, e => by unfold Rep at *; obtain ⟨p, vs, a, b, l, c⟩ := e; exact ⟨p, vs, a, h _ _ b, l, Reps.mono h xs vs c⟩
  | .tup xs, v, e => by unfold Rep at *; obtain ⟨p, vs, a, b, l, c⟩ := e; exact ⟨p, vs, a, h _ _ b, l, Reps.mono h xs vs c⟩
  | .obj _ xs, v, e => by unfold Rep at *; obtain ⟨p, dx, fv, a, b, l, c⟩ := e; exact ⟨p, dx, fv, a, h _ _ b, l, Reps.mono h xs _ c⟩
  | .dct _ xs, v, e => by unfold Rep at *; obtain ⟨p, kv, a, b, l, c⟩ := e; exact ⟨p, kv, a, h _ _ b, l, Reps.mono h xs _ c⟩
theorem Reps.mono {T : Tb} {G G' : Hp} (h : Ex G G') : ∀ (d : List D) (v : List V), Reps T G d v → Reps T G' d v
  | [], v, e => by unfold Reps at *; exact e
  | d :: ds, v, e => by unfold Reps at *; obtain ⟨x, r, a, b, c⟩ := e; exact ⟨x, r, a, Rep.mono h d x b, Reps.mono h ds r c⟩
end
section
variable {T : Tb} {G G' H H' : Hp} {v u : V} {vs : List V} {xs : List D}
theorem Reps.length : ∀ {xs : List D} {vs : List V}, Reps T G xs vs → vs.length = xs.length
  | [], vs, h => by unfold Reps at h; subst h; rfl
  | d :: ds, vs, h => by unfold Reps at h; obtain ⟨x, r, rfl, _, c⟩ := h; simp [Reps.length c]
theorem Reps.nil : Reps T G [] [] := by unfold Reps; rfl
theorem Reps.cons {d : D} {ds : List D} {v : V} {vs : List V} (h : Rep T G d v) (t : Reps T G ds vs) : Reps T G (d :: ds) (v :: vs) := by unfold Reps; exact ⟨v, vs, rfl, h, t⟩
theorem Reps.nil_inv {vs : List V} (h : Reps T G [] vs) : vs = [] := by unfold Reps at h; exact h
theorem Reps.cons_inv {d : D} {ds : List D} {vs : List V} (h : Reps T G (d :: ds) vs) : ∃ v r, vs = v :: r ∧ Rep T G d v ∧ Reps T G ds r := by unfold Reps at h; exact h
theorem Reps.get : ∀ {xs : List D} {vs : List V} {i : Nat} {d : D}, Reps T G xs vs → xs[i]? = some d → ∃ v, vs[i]? = some v ∧ Rep T G d v
  | [], _, _, _, _, e => by simp at e
  | d :: ds, _, 0, d', h, e => by
    obtain ⟨v, r, rfl, a, b⟩ := h.cons_inv
    simp at e; subst e
    exact ⟨v, rfl, a⟩
  | d :: ds, _, i + 1, d', h, e => by
    obtain ⟨v, r, rfl, a, b⟩ := h.cons_inv
    obtain ⟨z, h1, h2⟩ := Reps.get (i := i) b (by simpa using e)
    exact ⟨z, by simpa using h1, h2⟩
theorem Reps.get' : ∀ {xs : List D} {vs : List V} {i : Nat} {v : V}, Reps T G xs vs → vs[i]? = some v → ∃ d, xs[i]? = some d ∧ Rep T G d v := fun {xs vs i v} h e => by
  have hl := h.length
  have hi : i < xs.length := by
    have := (List.getElem?_eq_some_iff.mp e).1
    omega
  obtain ⟨z, h1, h2⟩ := h.get (i := i) (List.getElem?_eq_getElem hi)
  rw [e] at h1; cases h1
  exact ⟨_, List.getElem?_eq_getElem hi, h2⟩
theorem Reps.append : ∀ {xs ys : List D} {vs us : List V}, Reps T G xs vs → Reps T G ys us → Reps T G (xs ++ ys) (vs ++ us)
  | [], _, _, _, h, k => by cases h.nil_inv; exact k
  | d :: ds, _, _, _, h, k => by
    obtain ⟨v, r, rfl, a, b⟩ := h.cons_inv
    exact Reps.cons a (Reps.append b k)
theorem Reps.set : ∀ {xs : List D} {vs : List V} {d : D} {v : V} (i : Nat), Reps T G xs vs → Rep T G d v → Reps T G (xs.set i d) (vs.set i v)
  | [], _, _, _, _, h, _ => by cases h.nil_inv; exact Reps.nil
  | d :: ds, _, _, _, 0, h, k => by
    obtain ⟨v, r, rfl, a, b⟩ := h.cons_inv
    exact Reps.cons k b
  | d :: ds, _, _, _, i + 1, h, k => by
    obtain ⟨v, r, rfl, a, b⟩ := h.cons_inv
    exact Reps.cons a (Reps.set i b k)
theorem Reps.map_int : ∀ (ns : List Int), Reps T G (ns.map D.int) (ns.map V.int)
  | [] => Reps.nil
  | n :: ns => Reps.cons (by unfold Rep; rfl) (Reps.map_int ns)
theorem Rep.int_inv {i : Int} (h : Rep T G (.int i) v) : v = .int i := by unfold Rep at h; exact h
theorem Rep.bl_inv {b : Bool} (h : Rep T G (.bl b) v) : v = .bl b := by unfold Rep at h; exact h
theorem Rep.str_inv {x : Str} (h : Rep T G (.str x) v) : v = .str x := by unfold Rep at h; exact h
theorem Rep.non_inv (h : Rep T G .non v) : v = .non := by unfold Rep at h; exact h
theorem Rep.int {i : Int} : Rep T G (.int i) (.int i) := by unfold Rep; rfl
theorem Rep.bl {b : Bool} : Rep T G (.bl b) (.bl b) := by unfold Rep; rfl
theorem Rep.str {x : Str} : Rep T G (.str x) (.str x) := by unfold Rep; rfl
theorem Rep.non : Rep T G .non .non := by unfold Rep; rfl
theorem Rep.lst {p : Addr} (h : G p = some (.lst vs)) (l : xs.length ≤ sizeLine) (r : Reps T G xs vs) : Rep T G (.lst xs) (.ref p) := by unfold Rep; exact ⟨p, vs, rfl, h, l, r⟩
theorem Rep.tup {p : Addr} (h : G p = some (.tup vs)) (l : xs.length ≤ sizeLine) (r : Reps T G xs vs) : Rep T G (.tup xs) (.ref p) := by unfold Rep; exact ⟨p, vs, rfl, h, l, r⟩
theorem Rep.obj {c : Nat} {p dx : Addr} {fv : List (Str × V)} (h : G p = some (.ins (T.cl c) dx fv)) (l : fv.map (·.1) = T.fl c) (r : Reps T G xs (fv.map (·.2))) : Rep T G (.obj c xs) (.ref p) := by unfold Rep; exact ⟨p, dx, fv, rfl, h, l, r⟩
theorem Rep.dct {ks : List Key} {p : Addr} {kv : List (Key × V)} (h : G p = some (.dK kv)) (l : kv.map (·.1) = ks) (r : Reps T G xs (kv.map (·.2))) : Rep T G (.dct ks xs) (.ref p) := by unfold Rep; exact ⟨p, kv, rfl, h, l, r⟩
theorem Rep.dct_inv {ks : List Key} (h : Rep T G (.dct ks xs) v) : ∃ p kv, v = .ref p ∧ G p = some (.dK kv) ∧ kv.map (·.1) = ks ∧ Reps T G xs (kv.map (·.2)) := by unfold Rep at h; exact h
theorem Rep.scr {p : Addr} {ns : List Int} (h : SqL T.K G p (ns.map V.int)) (l : ns.length ≤ sizeLine) : Rep T G (.scr ns) (.ref p) := by unfold Rep; exact ⟨p, rfl, h, l⟩
theorem Rep.scr_inv {ns : List Int} (h : Rep T G (.scr ns) v) : ∃ p, v = .ref p ∧ SqL T.K G p (ns.map V.int) ∧ ns.length ≤ sizeLine := by unfold Rep at h; exact h
theorem Rep.lst_inv (h : Rep T G (.lst xs) v) : ∃ p vs, v = .ref p ∧ G p = some (.lst vs) ∧ xs.length ≤ sizeLine ∧ Reps T G xs vs := by unfold Rep at h; exact h
theorem Rep.tup_inv (h : Rep T G (.tup xs) v) : ∃ p vs, v = .ref p ∧ G p = some (.tup vs) ∧ xs.length ≤ sizeLine ∧ Reps T G xs vs := by unfold Rep at h; exact h
theorem Rep.obj_inv {c : Nat} (h : Rep T G (.obj c xs) v) : ∃ p dx fv, v = .ref p ∧ G p = some (.ins (T.cl c) dx fv) ∧ fv.map (·.1) = T.fl c ∧ Reps T G xs (fv.map (·.2)) := by unfold Rep at h; exact h
end

/-- a thing that is read: at its top in H, below in G -/
def View (T : Tb) (G H : Hp) : D → V → Prop
  | .scr ns, v => ∃ p, v = .ref p ∧ SqL T.K H p (ns.map V.int) ∧ ns.length ≤ sizeLine
  | .lst xs, v => ∃ p vs, v = .ref p ∧ H p = some (.lst vs) ∧ xs.length ≤ sizeLine ∧ Reps T G xs vs
  | .obj c xs, v => ∃ p dx fv, v = .ref p ∧ H p = some (.ins (T.cl c) dx fv) ∧ fv.map (·.1) = (T.fl c).take xs.length ∧ Reps T G xs (fv.map (·.2))
  | d, v => Rep T G d v
theorem Reps.len_fl {T : Tb} {G : Hp} {c : Nat} {xs : List D} {fv : List (Str × V)} (l : fv.map (·.1) = T.fl c) (r : Reps T G xs (fv.map (·.2))) : fv.map (·.1) = (T.fl c).take xs.length := by
  have := r.length
  rw [List.length_map] at this
  rw [← l, ← this, List.take_of_length_le (by simp)]
theorem Rep.view {T : Tb} {G H : Hp} (e : Ex G H) : ∀ {d : D} {v : V}, Rep T G d v → View T G H d v
  | .non, _, h => h
  | .bl _, _, h => h
  | .int _, _, h => h
  | .str _, _, h => h
  | .scr ns, v, h => by obtain ⟨p, a, b, c⟩ := h.scr_inv; exact ⟨p, a, ex_l e b, c⟩
  | .lst xs, v, h => by obtain ⟨p, vs, a, b, c, r⟩ := h.lst_inv; exact ⟨p, vs, a, e _ _ b, c, r⟩
  | .tup xs, v, h => h
  | .dct _ _, v, h => h
  | .obj c xs, v, h => by obtain ⟨p, dx, fv, a, b, c, r⟩ := h.obj_inv; exact ⟨p, dx, fv, a, e _ _ b, Reps.len_fl c r, r⟩
inductive Views (T : Tb) (G H : Hp) : List D → List V → Prop
  | nil : Views T G H [] []
  | cons {d : D} {ds : List D} {v : V} {vs : List V} : View T G H d v → Views T G H ds vs → Views T G H (d :: ds) (v :: vs)

/-! ### cells -/
/-- what stands in a cell: data or another cell -/
def CRep (T : Tb) (G : Hp) (ρ : List Addr) : S → V → Prop
  | .d x, v => Rep T G x v
  | .c n, v => ∃ p, ρ[n]? = some p ∧ v = .ref p
  | .x _ _, _ => False
  | .f, _ => False
inductive CReps (T : Tb) (G : Hp) (ρ : List Addr) : List S → List V → Prop
  | nil : CReps T G ρ [] []
  | cons {s : S} {ss : List S} {v : V} {vs : List V} : CRep T G ρ s v → CReps T G ρ ss vs → CReps T G ρ (s :: ss) (v :: vs)
/-- the code object at c bears the name q -/
def CodeO (c : Addr) (q : Str) : HO := .ext fun h => ∃ (oc : Obj) (vs : Array Value) (t : Tok), h.get? c = some oc ∧ oc.data = .fields vs ∧ vs[1]? = some (.str q t)
/-- a table of lambdas: each code object that it tells bears the name q -/
def LamOk (T : Tb) (G : Hp) (j : Nat) (ps : Array Value) : Prop := ∀ q, T.lam j = some q → ∀ (pos : Pos) (cv : Value), codeAmong pos ps.toList = some cv → ∃ c, cv = .ref c ∧ G c = some (CodeO c q)
theorem LamOk.mono {T : Tb} {G G' : Hp} {j : Nat} {ps : Array Value} (h : LamOk T G j ps) (e : Ex G G') : LamOk T G' j ps := fun q hq pos cv hc => let ⟨c, a, b⟩ := h q hq pos cv hc; ⟨c, a, e _ _ b⟩
theorem LamOk.nil {T : Tb} {G : Hp} {j : Nat} : LamOk T G j #[] := fun q _ pos cv hc => by
  have z : codeAmong pos [] = some cv := hc
  simp [codeAmong] at z
theorem LamOk.no {T : Tb} {G : Hp} {j : Nat} {ps : Array Value} (h : T.lam j = none) : LamOk T G j ps := fun q hq => by rw [h] at hq; cases hq
/-- ρ: the older cells -/
def CellOk (T : Tb) (G H : Hp) (ρ : List Addr) (p : Addr) : CC → Prop
  | .lst xs => ∃ vs, H p = some (.lst vs) ∧ xs.length ≤ sizeLine ∧ Reps T G xs vs
  | .dct kvs => ∃ kv, H p = some (.dK kv) ∧ kvs.length ≤ 1000 ∧ kv.map (·.1) = kvs.map (·.1) ∧ Reps T G (kvs.map (·.2)) (kv.map (·.2))
  | .obj c xs => ∃ dx fv, H p = some (.ins (T.cl c) dx fv) ∧ fv.map (·.1) = (T.fl c).take xs.length ∧ Reps T G xs (fv.map (·.2))
  | .lS xs => ∃ vs, H p = some (.lst vs) ∧ xs.length ≤ sizeLine ∧ CReps T G ρ xs vs
  | .tS xs => ∃ vs, H p = some (.tup vs) ∧ xs.length ≤ sizeLine ∧ CReps T G ρ xs vs
  | .dT kvs => ∃ kv, H p = some (.dT kv) ∧ kvs.length ≤ 1000 ∧ kv.map (·.1) = kvs.map (·.1) ∧ Reps T G (kvs.map (·.2)) (kv.map (·.2))
  | .tb j => p = T.tb j ∧ ∃ ps : Array Value, H p = some (.tbl ps) ∧ TriplesOk ps.toList ∧ LamOk T G j ps
structure RelH (T : Tb) (H : Hp) (c : Cs) (G : Hp) (ρ : List Addr) : Prop where
  ex : Ex G H
  len : ρ.length = c.length
  nd : ρ.Nodup
  at_ : ∀ (i : Nat) (p : Addr) (x : CC), ρ[i]? = some p → c[i]? = some x → G p = none ∧ CellOk T G H (ρ.take i) p x
/-- an error's fields: data or cells -/
def XRep (T : Tb) (G : Hp) (ρ : List Addr) (k : Nat) (xs : List S) (d : Option Addr) : Prop :=
  (xs = [] ∧ d = none) ∨ ∃ dx fv, d = some dx ∧ G dx = some (.xd fv) ∧ fv.map (·.1) = T.fl k ∧ CReps T G ρ xs (fv.map (·.2))
def SRep (T : Tb) (G : Hp) (ρ : List Addr) : S → V → Prop
  | .d x, v => Rep T G x v
  | .c n, v => ∃ p, ρ[n]? = some p ∧ v = .ref p
  | .x k xs, v => ∀ a d k', T.x = some (a, d, k') → v = .ref a ∧ k' = k ∧ XRep T G ρ k xs d
  | .f, v => ∀ L, T.lm = some L → v = .ref L.f ∧ Ex L.G G ∧ L.ρ <+: ρ ∧ ∀ c q, L.co = some (c, q) → G c = some (CodeO c q)
inductive SReps (T : Tb) (G : Hp) (ρ : List Addr) : List S → List V → Prop
  | nil : SReps T G ρ [] []
  | cons {s : S} {ss : List S} {v : V} {vs : List V} : SRep T G ρ s v → SReps T G ρ ss vs → SReps T G ρ (s :: ss) (v :: vs)
structure RelS (T : Tb) (G : Hp) (ρ : List Addr) (σ : St) (δ : Sl) : Prop where
  len : σ.length = δ.length
  at_ : ∀ (i : Nat) (s : S), δ[i]? = some (some s) → ∃ v, σ[i]? = some (some v) ∧ SRep T G ρ s v

theorem pre_get {ρ ρ' : List Addr} (h : ρ <+: ρ') {n : Nat} {p : Addr} (e : ρ[n]? = some p) : ρ'[n]? = some p := by
  obtain ⟨t, rfl⟩ := h
  rw [List.getElem?_append_left (List.getElem?_eq_some_iff.mp e).1]
  exact e
section
variable {T : Tb} {G G' H H' : Hp} {ρ ρ' : List Addr} {c : Cs} {σ : St} {δ : Sl}
theorem CRep.mono (h : Ex G G') (k : ρ <+: ρ') : ∀ {s : S} {v : V}, CRep T G ρ s v → CRep T G' ρ' s v
  | .d _, _, e => Rep.mono h _ _ e
  | .c _, _, ⟨p, a, b⟩ => ⟨p, pre_get k a, b⟩
theorem CReps.mono (h : Ex G G') (k : ρ <+: ρ') {ss : List S} {vs : List V} (r : CReps T G ρ ss vs) : CReps T G' ρ' ss vs := by
  induction r with
  | nil => exact .nil
  | cons a _ ih => exact .cons (a.mono h k) ih
theorem XRep.mono {k : Nat} {xs : List S} {d : Option Addr} (h : Ex G G') (p : ρ <+: ρ') (r : XRep T G ρ k xs d) : XRep T G' ρ' k xs d := by
  rcases r with r | ⟨dx, fv, a, b, c, r⟩
  · exact .inl r
  · exact .inr ⟨dx, fv, a, h _ _ b, c, r.mono h p⟩
/-- cells older than n alone -/
def refsOk (n : Nat) (xs : List S) : Bool := xs.all fun s => match s with
  | .d _ => true
  | .c j => decide (j < n)
  | .x _ _ => false
  | .f => false
theorem CReps.cut {n : Nat} (p : ρ <+: ρ') (hn : n = ρ.length) {ss : List S} {vs : List V} (r : CReps T G ρ' ss vs) (h : refsOk n ss = true) : CReps T G ρ ss vs := by
  induction r with
  | nil => exact .nil
  | @cons s ss v vs a _ ih =>
    unfold refsOk at h
    rw [List.all_cons, Bool.and_eq_true] at h
    refine .cons ?_ (ih h.2)
    cases s with
    | d _ => exact a
    | x _ _ => exact a.elim
    | f => exact a.elim
    | c j =>
      have hj : j < ρ.length := by rw [← hn]; exact of_decide_eq_true h.1
      obtain ⟨q, e, rfl⟩ := a
      obtain ⟨t, rfl⟩ := p
      rw [List.getElem?_append_left hj] at e
      exact ⟨q, e, rfl⟩
theorem XRep.cut {n k : Nat} {xs : List S} {d : Option Addr} (p : ρ <+: ρ') (hn : n = ρ.length) (h : refsOk n xs = true) (r : XRep T G ρ' k xs d) : XRep T G ρ k xs d := by
  rcases r with r | ⟨dx, fv, a, b, c, r⟩
  · exact .inl r
  · exact .inr ⟨dx, fv, a, b, c, r.cut p hn h⟩
theorem SRep.mono (h : Ex G G') (k : ρ <+: ρ') : ∀ {s : S} {v : V}, SRep T G ρ s v → SRep T G' ρ' s v
  | .d _, _, e => Rep.mono h _ _ e
  | .c _, _, ⟨p, a, b⟩ => ⟨p, pre_get k a, b⟩
  | .x _ _, _, e => fun a d k' z => let ⟨q1, q2, q3⟩ := e a d k' z; ⟨q1, q2, q3.mono h k⟩
  | .f, _, e => fun L z => let ⟨q1, q2, q3, q4⟩ := e L z; ⟨q1, q2.trans h, q3.trans k, fun c q hq => h _ _ (q4 c q hq)⟩
theorem CReps.length {ss : List S} {vs : List V} (r : CReps T G ρ ss vs) : vs.length = ss.length := by
  induction r with
  | nil => rfl
  | cons _ _ ih => simp [ih]
theorem CRep.srep : ∀ {s : S} {v : V}, CRep T G ρ s v → SRep T G ρ s v
  | .d _, _, e => e
  | .c _, _, e => e
theorem SReps.mono (h : Ex G G') (k : ρ <+: ρ') {ss : List S} {vs : List V} (r : SReps T G ρ ss vs) : SReps T G' ρ' ss vs := by
  induction r with
  | nil => exact .nil
  | cons a _ ih => exact .cons (a.mono h k) ih
theorem SReps.length {ss : List S} {vs : List V} (r : SReps T G ρ ss vs) : vs.length = ss.length := by
  induction r with
  | nil => rfl
  | cons _ _ ih => simp [ih]
theorem SReps.append {ss ts : List S} {vs us : List V} (r : SReps T G ρ ss vs) (q : SReps T G ρ ts us) : SReps T G ρ (ss ++ ts) (vs ++ us) := by
  induction r with
  | nil => exact q
  | cons a _ ih => exact .cons a ih
theorem RelS.mono (h : Ex G G') (k : ρ <+: ρ') (r : RelS T G ρ σ δ) : RelS T G' ρ' σ δ :=
  ⟨r.len, fun i s e => let ⟨v, a, b⟩ := r.at_ i s e; ⟨v, a, b.mono h k⟩⟩
theorem RelS.set (r : RelS T G ρ σ δ) (i : Nat) {s : S} {v : V} (h : SRep T G ρ s v) : RelS T G ρ (σ.set i (some v)) (δ.set i (some s)) := by
  refine ⟨by simp [r.len], fun j t e => ?_⟩
  by_cases hj : i = j
  · subst hj
    have hi : i < δ.length := by
      rcases Nat.lt_or_ge i δ.length with z | z
      · exact z
      · rw [List.getElem?_eq_none (by simpa using z)] at e; cases e
    rw [List.getElem?_set_self hi] at e
    cases e
    exact ⟨v, by rw [List.getElem?_set_self (by rw [r.len]; exact hi)], h⟩
  · rw [List.getElem?_set_ne hj] at e
    obtain ⟨u, a, b⟩ := r.at_ j t e
    exact ⟨u, by rw [List.getElem?_set_ne hj]; exact a, b⟩
theorem RelS.unset (r : RelS T G ρ σ δ) (i : Nat) (o : Option V) : RelS T G ρ (σ.set i o) (δ.set i none) := by
  refine ⟨by simp [r.len], fun j t e => ?_⟩
  by_cases hj : i = j
  · subst hj
    by_cases hi : i < δ.length
    · rw [List.getElem?_set_self hi] at e; cases e
    · rw [List.getElem?_eq_none (by simpa using hi)] at e; cases e
  · rw [List.getElem?_set_ne hj] at e
    obtain ⟨u, a, b⟩ := r.at_ j t e
    exact ⟨u, by rw [List.getElem?_set_ne hj]; exact a, b⟩
end
section
variable {T : Tb} {G : Hp} {ρ : List Addr} {v : V}
theorem SRep.int {i : Int} : SRep T G ρ (.d (.int i)) (.int i) := Rep.int (T := T) (G := G)
theorem SRep.bl {b : Bool} : SRep T G ρ (.d (.bl b)) (.bl b) := Rep.bl (T := T) (G := G)
theorem SRep.str {x : Str} : SRep T G ρ (.d (.str x)) (.str x) := Rep.str (T := T) (G := G)
theorem SRep.non : SRep T G ρ (.d .non) .non := Rep.non (T := T) (G := G)
theorem SRep.int_inv {i : Int} (h : SRep T G ρ (.d (.int i)) v) : v = .int i := Rep.int_inv (T := T) (G := G) h
theorem SRep.bl_inv {b : Bool} (h : SRep T G ρ (.d (.bl b)) v) : v = .bl b := Rep.bl_inv (T := T) (G := G) h
theorem SRep.str_inv {x : Str} (h : SRep T G ρ (.d (.str x)) v) : v = .str x := Rep.str_inv (T := T) (G := G) h
theorem SRep.non_inv (h : SRep T G ρ (.d .non) v) : v = .non := Rep.non_inv (T := T) (G := G) h
theorem View.int_inv {H : Hp} {i : Int} (h : View T G H (.int i) v) : v = .int i := Rep.int_inv (T := T) (G := G) h
theorem View.bl_inv {H : Hp} {b : Bool} (h : View T G H (.bl b) v) : v = .bl b := Rep.bl_inv (T := T) (G := G) h
theorem View.str_inv {H : Hp} {x : Str} (h : View T G H (.str x) v) : v = .str x := Rep.str_inv (T := T) (G := G) h
theorem View.tup_inv {H : Hp} {xs : List D} (h : View T G H (.tup xs) v) : ∃ p vs, v = .ref p ∧ G p = some (.tup vs) ∧ xs.length ≤ sizeLine ∧ Reps T G xs vs := Rep.tup_inv (T := T) (G := G) h
theorem View.non_inv {H : Hp} (h : View T G H .non v) : v = .non := Rep.non_inv (T := T) (G := G) h
end
/-- the heap grows by data alone -/
structure Step (G H G' H' : Hp) : Prop where
  g : Ex G G'
  h : Ex H H'
  gh : Ex G' H'
  cells : ∀ p o, H p = some o → G p = none → G' p = none
section
variable {T : Tb} {G G' H H' : Hp} {ρ ρ' : List Addr} {c : Cs}
theorem Step.refl (h : Ex G H) : Step G H G H := ⟨.refl _, .refl _, h, fun _ _ _ q => q⟩
theorem Step.new {p : Addr} {o : HO} (e : Ex G H) (h : H p = none) : Step G H (upd G p o) (upd H p o) := by
  refine ⟨.new (e.back h), .new h, fun a u q => ?_, fun q u a b => ?_⟩
  · by_cases z : a = p
    · subst z; rw [upd_same] at q ⊢; exact q
    · rw [upd_ne z] at q ⊢; exact e _ _ q
  · rw [upd_ne (ne_of_none a h)]; exact b
theorem Step.trans {G1 H1 G2 H2 : Hp} (a : Step G H G1 H1) (b : Step G1 H1 G2 H2) : Step G H G2 H2 :=
  ⟨a.g.trans b.g, a.h.trans b.h, b.gh, fun p o x y => b.cells p o (a.h _ _ x) (a.cells p o x y)⟩
theorem CellOk.step (s : Step G H G' H') {p : Addr} : ∀ {x : CC}, CellOk T G H ρ p x → CellOk T G' H' ρ p x
  | .lS xs, ⟨vs, a, b, r⟩ => ⟨vs, s.h _ _ a, b, r.mono s.g (List.prefix_refl _)⟩
  | .tS xs, ⟨vs, a, b, r⟩ => ⟨vs, s.h _ _ a, b, r.mono s.g (List.prefix_refl _)⟩
  | .lst xs, ⟨vs, a, b, r⟩ => ⟨vs, s.h _ _ a, b, Reps.mono s.g _ _ r⟩
  | .dct kvs, ⟨kv, a, b, k, r⟩ => ⟨kv, s.h _ _ a, b, k, Reps.mono s.g _ _ r⟩
  | .obj c xs, ⟨dx, fv, a, b, r⟩ => ⟨dx, fv, s.h _ _ a, b, Reps.mono s.g _ _ r⟩
  | .dT kvs, ⟨kv, a, b, k, r⟩ => ⟨kv, s.h _ _ a, b, k, Reps.mono s.g _ _ r⟩
  | .tb j, ⟨z, ps, a, b, l⟩ => ⟨z, ps, s.h _ _ a, b, l.mono s.g⟩
/-- what the cell holds stays; its data may stand in a larger part -/
theorem CellOk.keep (e : Ex G G') {p : Addr} (h : H' p = H p) (k : ρ <+: ρ') : ∀ {x : CC}, CellOk T G H ρ p x → CellOk T G' H' ρ' p x
  | .lst xs, ⟨vs, a, b, r⟩ => ⟨vs, h.trans a, b, Reps.mono e _ _ r⟩
  | .dct kvs, ⟨kv, a, b, k, r⟩ => ⟨kv, h.trans a, b, k, Reps.mono e _ _ r⟩
  | .obj c xs, ⟨dx, fv, a, b, r⟩ => ⟨dx, fv, h.trans a, b, Reps.mono e _ _ r⟩
  | .lS xs, ⟨vs, a, b, r⟩ => ⟨vs, h.trans a, b, r.mono e k⟩
  | .tS xs, ⟨vs, a, b, r⟩ => ⟨vs, h.trans a, b, r.mono e k⟩
  | .dT kvs, ⟨kv, a, b, k, r⟩ => ⟨kv, h.trans a, b, k, Reps.mono e _ _ r⟩
  | .tb j, ⟨z, ps, a, b, l⟩ => ⟨z, ps, h.trans a, b, l.mono e⟩
theorem CellOk.some {p : Addr} : ∀ {x : CC}, CellOk T G H ρ p x → ∃ o, H p = some o
  | .lS xs, ⟨vs, a, b, r⟩ => ⟨_, a⟩
  | .tS xs, ⟨vs, a, b, r⟩ => ⟨_, a⟩
  | .lst xs, ⟨vs, a, b, r⟩ => ⟨_, a⟩
  | .dct kvs, ⟨kv, a, b, k, r⟩ => ⟨_, a⟩
  | .obj c xs, ⟨dx, fv, a, b, r⟩ => ⟨_, a⟩
  | .dT kvs, ⟨kv, a, b, k, r⟩ => ⟨_, a⟩
  | .tb j, ⟨z, ps, a, b, l⟩ => ⟨_, a⟩
theorem RelH.step (r : RelH T H c G ρ) (s : Step G H G' H') : RelH T H' c G' ρ :=
  ⟨s.gh, r.len, r.nd, fun i p x a b => let ⟨g, k⟩ := r.at_ i p x a b; let ⟨o, ho⟩ := k.some; ⟨s.cells p o ho g, k.step s⟩⟩
end
/-- what is read of a slot's value -/
def deref : S → Cs → Option D
  | .d x, _ => some x
  | .c n, c => match c[n]? with
    | some (.lst xs) => some (.lst xs)
    | some (.obj k xs) => some (.obj k xs)
    | _ => none
  | .x _ _, _ => none
  | .f, _ => none
def derefs : List S → Cs → Option (List D)
  | [], _ => some []
  | s :: ss, c => match deref s c with
    | some d => match derefs ss c with
      | some ds => some (d :: ds)
      | none => none
    | none => none
section
variable {T : Tb} {G G' H H' : Hp} {ρ ρ' : List Addr} {c : Cs}
theorem deref_view (r : RelH T H c G ρ) : ∀ {s : S} {v : V} {d : D}, SRep T G ρ s v → deref s c = some d → View T G H d v
  | .d x, v, d, h, e => by
    cases e
    exact Rep.view r.ex h
  | .c n, v, d, ⟨p, hp, hv⟩, e => by
    subst hv
    unfold deref at e
    cases hc : c[n]? with
    | none => simp only [hc] at e; cases e
    | some x =>
      simp only [hc] at e
      obtain ⟨g, k⟩ := r.at_ n p x hp hc
      cases x with
      | lst xs =>
        cases e
        obtain ⟨vs, a, b, q⟩ := k
        exact ⟨p, vs, rfl, a, b, q⟩
      | dct _ => cases e
      | tb _ => cases e
      | dT _ => cases e
      | lS _ => cases e
      | tS _ => cases e
      | obj k2 xs =>
        cases e
        obtain ⟨dx, fv, a, b, q⟩ := k
        exact ⟨p, dx, fv, rfl, a, b, q⟩
theorem derefs_views (r : RelH T H c G ρ) : ∀ {ss : List S} {vs : List V} {ds : List D}, SReps T G ρ ss vs → derefs ss c = some ds → Views T G H ds vs
  | [], _, _, h, e => by cases h; cases e; exact .nil
  | s :: ss, _, ds, h, e => by
    cases h with
    | cons a b =>
      unfold derefs at e
      cases h1 : deref s c with
      | none => rw [h1] at e; cases e
      | some d =>
        rw [h1] at e
        cases h2 : derefs ss c with
        | none => rw [h2] at e; cases e
        | some d2 =>
          rw [h2] at e
          cases e
          exact .cons (deref_view r a h1) (derefs_views r b h2)
end

/-! ### results -/
def R.bind {α β : Type} : R α → (α → Cs → R β) → R β
  | .ok a c, f => f a c
  | .ex k xs c, _ => .ex k xs c
  | .bad, _ => .bad
def Post {α β : Type} (rel : Hp → List Addr → α → β → Prop) (T : Tb) (W : WX) (σ : St) (G : Hp) (ρ : List Addr) (r : R α) (Q : β → Hp → Prop) : Prop :=
  match r with
  | .ok a c => ∀ v H' G' ρ', Ex G G' → ρ <+: ρ' → RelH T H' c G' ρ' → rel G' ρ' a v → Q v H'
  | .ex k xs c => ∀ d H' G' ρ', Ex G G' → ρ <+: ρ' → RelH T H' c G' ρ' → XRep T G' ρ' k xs d → W (.ref (T.cl k)) d σ H'
  | .bad => False
abbrev relB : Hp → List Addr → Bool → Bool → Prop := fun _ _ a b => b = a
section
variable {α β γ ε : Type} {rel : Hp → List Addr → α → β → Prop} {rel2 : Hp → List Addr → γ → ε → Prop} {T : Tb} {W : WX} {σ : St} {G G' : Hp} {ρ ρ' : List Addr} {r : R α} {Q Q' : β → Hp → Prop}
theorem Post.imp (h : Post rel T W σ G ρ r Q) (k : ∀ v H, Q v H → Q' v H) : Post rel T W σ G ρ r Q' := by
  cases r with
  | ok a c => exact fun v H' G' ρ' e p q z => k _ _ (h v H' G' ρ' e p q z)
  | ex k xs c => exact h
  | bad => exact h
theorem Post.mono (h : Post rel T W σ G ρ r Q) (e : Ex G G') (p : ρ <+: ρ') : Post rel T W σ G' ρ' r Q := by
  cases r with
  | ok a c => exact fun v H' G'' ρ'' e' p' q z => h v H' G'' ρ'' (e.trans e') (p.trans p') q z
  | ex k xs c => exact fun v H' G'' ρ'' e' p' q z => h v H' G'' ρ'' (e.trans e') (p.trans p') q z
  | bad => exact h
theorem Post.bind {f : α → Cs → R γ} {Q2 : ε → Hp → Prop} (h : Post rel2 T W σ G ρ (r.bind f) Q2) :
    Post rel T W σ G ρ r (fun v H1 => ∃ a c G1 ρ1, Ex G G1 ∧ ρ <+: ρ1 ∧ RelH T H1 c G1 ρ1 ∧ rel G1 ρ1 a v ∧ Post rel2 T W σ G1 ρ1 (f a c) Q2) := by
  cases r with
  | ok a c => exact fun v H' G' ρ' e p q z => ⟨a, c, G', ρ', e, p, q, z, Post.mono (r := f a c) h e p⟩
  | ex k xs c => exact h
  | bad => exact h
end
def tD (T : Tb) (W : WX) (m : M) : TE := fun σ H Q => ∃ δ c G ρ, RelS T G ρ σ δ ∧ RelH T H c G ρ ∧ Post (SRep T) T W σ G ρ (m δ c) Q
def tDT (T : Tb) (W : WX) (m : MT) : TT := fun σ H Q => ∃ δ c G ρ, RelS T G ρ σ δ ∧ RelH T H c G ρ ∧ Post relB T W σ G ρ (m δ c) Q
def tDA (T : Tb) (W : WX) (m : MA) : TA := fun σ H Q => ∃ δ c G ρ, RelS T G ρ σ δ ∧ RelH T H c G ρ ∧ Post (SReps T) T W σ G ρ (m δ c) Q

/-! ### readings weaker than others -/
theorem PE.imp {X : Cx} {e : Expr} {t t' : TE} (h : PE X e t) (k : ∀ σ H Q, t' σ H Q → t σ H Q) : PE X e t' := ⟨fun pins s σ H Q I q => h.run pins s σ H Q I (k σ H Q q)⟩
theorem PT.imp {X : Cx} {e : Expr} {t t' : TT} (h : PT X e t) (k : ∀ σ H Q, t' σ H Q → t σ H Q) : PT X e t' := ⟨fun pins s σ H Q I q => h.run pins s σ H Q I (k σ H Q q)⟩
theorem PW.imp {X : Cx} {e : Expr} {t t' : TT} (h : PW X e t) (k : ∀ σ H Q, t' σ H Q → t σ H Q) : PW X e t' := ⟨fun wh pins s σ H Q I q => h.run wh pins s σ H Q I (k σ H Q q)⟩
theorem PA.imp {X : Cx} {e : List Expr} {t t' : TA} (h : PA X e t) (k : ∀ σ H Q, t' σ H Q → t σ H Q) : PA X e t' := ⟨fun pos pins s σ H Q I q => h.run pos pins s σ H Q I (k σ H Q q)⟩
theorem PS.imp {X : Cx} {e : Stmt} {t t' : TS} (h : PS X e t) (k : ∀ D σ H, t' D σ H → t D σ H) : PS X e t' := ⟨fun pins s σ H D I q => h.run pins s σ H D I (k D σ H q)⟩
theorem PSs.imp {X : Cx} {e : List Stmt} {t t' : TS} (h : PSs X e t) (k : ∀ D σ H, t' D σ H → t D σ H) : PSs X e t' := ⟨fun pins s σ H D I q => h.run pins s σ H D I (k D σ H q)⟩

/-! ### expressions -/
section
variable {X : Cx} {T : Tb} {W : WX} {a b : Expr} {A B : M} {pos : Pos}
def mVar (i : Nat) : M := fun δ c => match δ[i]? with
  | some (some s) => .ok s c
  | _ => .bad
def mC (x : D) : M := fun _ c => .ok (.d x) c
theorem dn_var {i : Nat} {x : Str} (hN : X.N[i]? = some x) (hv : Vis X.env.scope x) (hd : (x == ("__debug__" : Str)) = false := by decide) (hcd : (x == ("__classdict__" : Str)) = false := by decide) : PE X (.Name x pos) (tD T W (mVar i)) := by
  refine PE.imp (pe_var hN hv hd hcd) fun σ H Q ⟨δ, c, G, ρ, hs, hh, p⟩ => ?_
  unfold mVar at p
  cases e : δ[i]? with
  | none => simp only [e] at p; exact p.elim
  | some o =>
    cases o with
    | none => simp only [e] at p; exact p.elim
    | some s =>
      simp only [e] at p
      obtain ⟨v, hv, r⟩ := hs.at_ i s e
      exact ⟨v, hv, p v H G ρ (.refl _) (List.prefix_refl _) hh r⟩
theorem tD_c {d : D} {v : V} (hr : ∀ G, Rep T G d v) {σ : St} {H : Hp} {Q : VK} (h : tD T W (mC d) σ H Q) : tC v σ H Q := by
  obtain ⟨δ, c, G, ρ, hs, hh, p⟩ := h
  exact p v H G ρ (.refl _) (List.prefix_refl _) hh (hr G)
theorem dn_int {i j} : PE X (.Constant (.int i) j pos) (tD T W (mC (.int i))) := PE.imp pe_int fun _ _ _ h => tD_c (fun _ => Rep.int) h
theorem dn_str {x j} : PE X (.Constant (.str x) j pos) (tD T W (mC (.str x))) := PE.imp pe_str fun _ _ _ h => tD_c (fun _ => Rep.str) h
theorem dn_bl {x j} : PE X (.Constant (.bool x) j pos) (tD T W (mC (.bl x))) := PE.imp pe_bl fun _ _ _ h => tD_c (fun _ => Rep.bl) h
theorem dn_non {j} : PE X (.Constant .none j pos) (tD T W (mC .non)) := PE.imp pe_non fun _ _ _ h => tD_c (fun _ => Rep.non) h
theorem dn_glob {x : Str} {d : D} {v : V} {u : Value} (hg : Gl X x) (hm : X.mg x = some u) (r : RelV v u) (hr : ∀ G, Rep T G d v) (hd : (x == ("__debug__" : Str)) = false := by decide) : PE X (.Name x pos) (tD T W (mC d)) :=
  PE.imp (pe_glob hg hm r hd) fun _ _ _ h => tD_c hr h

/-- two operands, then f -/
def mBin (f : S → S → Cs → R S) (A B : M) : M := fun δ c => (A δ c).bind fun x c => (B δ c).bind fun y c => f x y c
def mUn (f : S → Cs → R S) (A : M) : M := fun δ c => (A δ c).bind fun x c => f x c
def Prim2 (T : Tb) (f : S → S → Cs → R S) (r : R2) : Prop := ∀ (W : WX) (σ : St) (G : Hp) (ρ : List Addr) (H : Hp) (c : Cs) (x y : S) (v u : V) (Q : VK), RelH T H c G ρ → SRep T G ρ x v → SRep T G ρ y u → Post (SRep T) T W σ G ρ (f x y c) Q → r v u H Q
def Prim1 (T : Tb) (f : S → Cs → R S) (r : V → Hp → VK → Prop) : Prop := ∀ (W : WX) (σ : St) (G : Hp) (ρ : List Addr) (H : Hp) (c : Cs) (x : S) (v : V) (Q : VK), RelH T H c G ρ → SRep T G ρ x v → Post (SRep T) T W σ G ρ (f x c) Q → r v H Q
theorem tD_bin {f : S → S → Cs → R S} {r : R2} (hp : Prim2 T f r) {σ : St} {H : Hp} {Q : VK} (h : tD T W (mBin f A B) σ H Q) : tOp r (tD T W A) (tD T W B) σ H Q := by
  obtain ⟨δ, c, G, ρ, hs, hh, p⟩ := h
  refine ⟨δ, c, G, ρ, hs, hh, (Post.bind (rel := SRep T) p).imp ?_⟩
  rintro v H1 ⟨x, c1, G1, ρ1, e1, p1, h1, r1, q1⟩
  refine ⟨δ, c1, G1, ρ1, hs.mono e1 p1, h1, (Post.bind (rel := SRep T) q1).imp ?_⟩
  rintro u H2 ⟨y, c2, G2, ρ2, e2, p2, h2, r2, q2⟩
  exact hp W σ G2 ρ2 H2 c2 x y v u Q h2 (r1.mono e2 p2) r2 q2
theorem tD_un {f : S → Cs → R S} {r : V → Hp → VK → Prop} (hp : Prim1 T f r) {σ : St} {H : Hp} {Q : VK} (h : tD T W (mUn f A) σ H Q) : tUn r (tD T W A) σ H Q := by
  obtain ⟨δ, c, G, ρ, hs, hh, p⟩ := h
  refine ⟨δ, c, G, ρ, hs, hh, (Post.bind (rel := SRep T) p).imp ?_⟩
  rintro v H1 ⟨x, c1, G1, ρ1, e1, p1, h1, r1, q1⟩
  exact hp W σ G1 ρ1 H1 c1 x v Q h1 r1 q1
theorem dn_op {op : Operator} {r : R2} {f : S → S → Cs → R S} (ho : OpR X (binaryOp op) r) (hp : Prim2 T f r) (ha : PE X a (tD T W A)) (hb : PE X b (tD T W B)) : PE X (.BinOp a op b pos) (tD T W (mBin f A B)) :=
  PE.imp (pe_op ho ha hb) fun _ _ _ h => tD_bin hp h
theorem dn_cmp {op : CmpOp} {r : R2} {f : S → S → Cs → R S} (ho : OpR X (compareOp op) r) (hp : Prim2 T f r) (ha : PE X a (tD T W A)) (hb : PE X b (tD T W B)) (hm : behindInMarks op b = false) : PE X (.Compare a [op] [b] pos) (tD T W (mBin f A B)) :=
  PE.imp (pe_cmpR ho ha hb hm) fun _ _ _ h => tD_bin hp h
theorem dn_un {op : UnaryOp} {r : V → Hp → VK → Prop} {f : S → Cs → R S} (ho : UnR X (unaryOp op) r) (hp : Prim1 T f r) (ha : PE X a (tD T W A)) : PE X (.UnaryOp op a pos) (tD T W (mUn f A)) :=
  PE.imp (pe_un ho ha) fun _ _ _ h => tD_un hp h

/-- pure functions on data -/
def lift2 (g : D → D → Option D) : S → S → Cs → R S := fun x y c => match deref x c, deref y c with
  | some dx, some dy => match g dx dy with
    | some d => .ok (.d d) c
    | none => .bad
  | _, _ => .bad
def lift1 (g : D → Option D) : S → Cs → R S := fun x c => match deref x c with
  | some dx => match g dx with
    | some d => .ok (.d d) c
    | none => .bad
  | none => .bad
def liftN (g : List D → Option D) : List S → Cs → R S := fun x c => match derefs x c with
  | some dx => match g dx with
    | some d => .ok (.d d) c
    | none => .bad
  | none => .bad
def Fresh2 (T : Tb) (g : D → D → Option D) (r : R2) : Prop := ∀ (G H : Hp) (x y d : D) (v u : V) (Q : VK), Ex G H → View T G H x v → View T G H y u → g x y = some d → (∀ v' H' G', Step G H G' H' → Rep T G' d v' → Q v' H') → r v u H Q
def Fresh1 (T : Tb) (g : D → Option D) (r : V → Hp → VK → Prop) : Prop := ∀ (G H : Hp) (x d : D) (v : V) (Q : VK), Ex G H → View T G H x v → g x = some d → (∀ v' H' G', Step G H G' H' → Rep T G' d v' → Q v' H') → r v H Q
def FreshN (T : Tb) (g : List D → Option D) (r : List V → Hp → VK → Prop) : Prop := ∀ (G H : Hp) (x : List D) (d : D) (v : List V) (Q : VK), Ex G H → Views T G H x v → g x = some d → (∀ v' H' G', Step G H G' H' → Rep T G' d v' → Q v' H') → r v H Q
theorem prim2 {g : D → D → Option D} {r : R2} (h : Fresh2 T g r) : Prim2 T (lift2 g) r := by
  intro W σ G ρ H c x y v u Q hh rx ry p
  unfold lift2 at p
  cases e1 : deref x c with
  | none => simp only [e1] at p; exact p.elim
  | some dx =>
    cases e2 : deref y c with
    | none => simp only [e1, e2] at p; exact p.elim
    | some dy =>
      simp only [e1, e2] at p
      cases e3 : g dx dy with
      | none => simp only [e3] at p; exact p.elim
      | some d =>
        simp only [e3] at p
        exact h G H dx dy d v u Q hh.ex (deref_view hh rx e1) (deref_view hh ry e2) e3 fun v' H' G' st r' => p v' H' G' ρ st.g (List.prefix_refl _) (hh.step st) r'
theorem prim1 {g : D → Option D} {r : V → Hp → VK → Prop} (h : Fresh1 T g r) : Prim1 T (lift1 g) r := by
  intro W σ G ρ H c x v Q hh rx p
  unfold lift1 at p
  cases e1 : deref x c with
  | none => simp only [e1] at p; exact p.elim
  | some dx =>
    simp only [e1] at p
    cases e3 : g dx with
    | none => simp only [e3] at p; exact p.elim
    | some d =>
      simp only [e3] at p
      exact h G H dx d v Q hh.ex (deref_view hh rx e1) e3 fun v' H' G' st r' => p v' H' G' ρ st.g (List.prefix_refl _) (hh.step st) r'

/-! ### arguments -/
def mNil : MA := fun _ c => .ok [] c
def mCons (A : M) (B : MA) : MA := fun δ c => (A δ c).bind fun x c => (B δ c).bind fun xs c => .ok (x :: xs) c
theorem da_nil : PA X [] (tDA T W mNil) := PA.imp pa_nil fun σ H Q ⟨δ, c, G, ρ, hs, hh, p⟩ => p [] H G ρ (.refl _) (List.prefix_refl _) hh .nil
theorem da_cons {e : Expr} {es : List Expr} {A : M} {B : MA} (ha : PE X e (tD T W A)) (hb : PA X es (tDA T W B)) (hs : starEach (e :: es) X.env = (false, eval e X.env) :: starEach es X.env := by rfl) : PA X (e :: es) (tDA T W (mCons A B)) := by
  refine PA.imp (pa_cons ha hb hs) fun σ H Q ⟨δ, c, G, ρ, hs, hh, p⟩ => ?_
  refine ⟨δ, c, G, ρ, hs, hh, (Post.bind (rel := SRep T) p).imp ?_⟩
  rintro v H1 ⟨x, c1, G1, ρ1, e1, p1, h1, r1, q1⟩
  refine ⟨δ, c1, G1, ρ1, hs.mono e1 p1, h1, (Post.bind (rel := SReps T) q1).imp ?_⟩
  rintro u H2 ⟨y, c2, G2, ρ2, e2, p2, h2, r2, q2⟩
  exact q2 (v :: u) H2 G2 ρ2 (.refl _) (List.prefix_refl _) h2 (.cons (r1.mono e2 p2) r2)
/-- a call of a built-in -/
def mBlt (f : List S → Cs → R S) (A : MA) : M := fun δ c => (A δ c).bind fun xs c => f xs c
def PrimN (T : Tb) (f : List S → Cs → R S) (r : List V → Hp → VK → Prop) : Prop := ∀ (W : WX) (σ : St) (G : Hp) (ρ : List Addr) (H : Hp) (c : Cs) (x : List S) (v : List V) (Q : VK), RelH T H c G ρ → SReps T G ρ x v → Post (SRep T) T W σ G ρ (f x c) Q → r v H Q
theorem primN {g : List D → Option D} {r : List V → Hp → VK → Prop} (h : FreshN T g r) : PrimN T (liftN g) r := by
  intro W σ G ρ H c x v Q hh rx p
  unfold liftN at p
  cases e1 : derefs x c with
  | none => simp only [e1] at p; exact p.elim
  | some dx =>
    simp only [e1] at p
    cases e3 : g dx with
    | none => simp only [e3] at p; exact p.elim
    | some d =>
      simp only [e3] at p
      exact h G H dx d v Q hh.ex (derefs_views hh rx e1) e3 fun v' H' G' st r' => p v' H' G' ρ st.g (List.prefix_refl _) (hh.step st) r'
theorem tD_blt {f : List S → Cs → R S} {r : List V → Hp → VK → Prop} {B : MA} (hp : PrimN T f r) {σ : St} {H : Hp} {Q : VK} (h : tD T W (mBlt f B) σ H Q) : tCB r (tDA T W B) σ H Q := by
  obtain ⟨δ, c, G, ρ, hs, hh, p⟩ := h
  refine ⟨δ, c, G, ρ, hs, hh, (Post.bind (rel := SReps T) p).imp ?_⟩
  rintro v H1 ⟨x, c1, G1, ρ1, e1, p1, h1, r1, q1⟩
  exact hp W σ G1 ρ1 H1 c1 x v Q h1 r1 q1
theorem dn_callB {id : String} {x : Str} {p : Pos} {e : Expr} {es : List Expr} {f : List S → Cs → R S} {r : List V → Hp → VK → Prop} {B : MA} (hc : CallR X (.builtin id) r) (hp : PrimN T f r) (hg : Gl X x) (hm : X.mg x = none) (hv : bootBuiltins x = some (.builtin id)) (ha : PA X (e :: es) (tDA T W B)) (hn : x ≠ "__name__" := by decide) (hdb : (x == ("__debug__" : Str)) = false := by decide)
    (he : starEach (e :: es) X.env = (false, eval e X.env) :: starEach es X.env := by rfl) (hpl : (backTo pos (starEach es X.env)).any (·.1) = false := by rfl) : PE X (.Call (.Name x p) (e :: es) [] pos) (tD T W (mBlt f B)) :=
  PE.imp (pe_callB hc hg hm hv ha hn hdb he hpl) fun _ _ _ h => tD_blt hp h
theorem dn_callTy {id : String} {x : Str} {p : Pos} {e : Expr} {es : List Expr} {f : List S → Cs → R S} {r : List V → Hp → VK → Prop} {B : MA} (hc : CallR X (.type id) r) (hp : PrimN T f r) (hg : Gl X x) (hm : X.mg x = none) (hv : bootBuiltins x = some (.type id)) (ha : PA X (e :: es) (tDA T W B)) (hn : x ≠ "__name__" := by decide) (hdb : (x == ("__debug__" : Str)) = false := by decide)
    (he : starEach (e :: es) X.env = (false, eval e X.env) :: starEach es X.env := by rfl) (hpl : (backTo pos (starEach es X.env)).any (·.1) = false := by rfl) : PE X (.Call (.Name x p) (e :: es) [] pos) (tD T W (mBlt f B)) :=
  PE.imp (pe_callTy hc hg hm hv ha hn hdb he hpl) fun _ _ _ h => tD_blt hp h
end
end Dn

end
section
/-! Dn2: tests, statements, loops. -/
namespace Dn
open PySem L2

section
variable {X : Cx} {T : Tb} {W : WX} {a b : Expr} {A B : M} {pos : Pos}
/-! ### tests -/
def asB : S → Cs → R Bool
  | .d (.bl b), c => .ok b c
  | _, _ => .bad
def mTB (A : M) : MT := fun δ c => (A δ c).bind asB
theorem asB_inv {W : WX} {σ : St} {G H : Hp} {ρ : List Addr} {c : Cs} {Q : Bool → Hp → Prop} {s : S} {v : V} (hh : RelH T H c G ρ) (r : SRep T G ρ s v) (p : Post relB T W σ G ρ (asB s c) Q) : ∃ k, v = .bl k ∧ Q k H := by
  cases s with
  | c n => exact p.elim
  | x _ _ => exact p.elim
  | f => exact p.elim
  | d x =>
    cases x with
    | bl k => exact ⟨k, SRep.bl_inv r, p k H G ρ (.refl _) (List.prefix_refl _) hh rfl⟩
    | _ => exact p.elim
theorem tDT_B {σ : St} {H : Hp} {Q : Bool → Hp → Prop} (h : tDT T W (mTB A) σ H Q) : tB (tD T W A) σ H Q := by
  obtain ⟨δ, c, G, ρ, hs, hh, p⟩ := h
  refine ⟨δ, c, G, ρ, hs, hh, (Post.bind (rel := SRep T) p).imp ?_⟩
  rintro v H1 ⟨s, c1, G1, ρ1, e1, p1, h1, r1, q1⟩
  exact asB_inv h1 r1 q1
theorem dt_val {e : Expr} (h : PE X e (tD T W A)) (he : ∀ whole, isTrue e X.env whole = (do let v ← whole; standAt e.pos; holding [v] (truthy v)) := by intro _; rfl) : PT X e (tDT T W (mTB A)) :=
  PT.imp (pt_val h he) fun _ _ _ h => tDT_B h
theorem dt_cmp {op : CmpOp} {r : R2} {f : S → S → Cs → R S} (ho : OpR X (compareOp op) r) (hp : Prim2 T f r) (ha : PE X a (tD T W A)) (hb : PE X b (tD T W B)) (hm : behindInMarks op b = false) : PT X (.Compare a [op] [b] pos) (tDT T W (mTB (mBin f A B))) := by
  refine PT.imp (pt_cmpR ho ha hb hm) fun σ H Q h => ?_
  have h2 := tDT_B h
  exact tD_bin hp h2
/-- the chain a op b op' c -/
def mChain (f g : S → S → Cs → R S) (A B C : M) : M := fun δ c => (A δ c).bind fun x c => (B δ c).bind fun y c => (f x y c).bind fun z c => (asB z c).bind fun k c => if k = true then (C δ c).bind fun w c => g y w c else .ok (.d (.bl false)) c
variable {C : M} {c : Expr}
def mAnd (A B : M) : M := fun δ c => (A δ c).bind fun x c => (asB x c).bind fun k c => if k = true then B δ c else .ok (.d (.bl false)) c
def mNot (A : M) : M := fun δ c => (A δ c).bind fun x c => (asB x c).bind fun k c => .ok (.d (.bl (!k))) c
def mtAnd (A B : MT) : MT := fun δ c => (A δ c).bind fun k c => if k = true then B δ c else .ok false c
def mtOr (A B : MT) : MT := fun δ c => (A δ c).bind fun k c => if k = true then .ok true c else B δ c
def mtNot (A : MT) : MT := fun δ c => (A δ c).bind fun k c => .ok (!k) c
def mIf (C : MT) (A B : M) : M := fun δ c => (C δ c).bind fun k c => if k = true then A δ c else B δ c
theorem bl_of {W : WX} {σ : St} {G H : Hp} {ρ : List Addr} {c : Cs} {γ ε : Type} {rel2 : Hp → List Addr → γ → ε → Prop} {f : Bool → Cs → R γ} {Q : ε → Hp → Prop} {s : S} {v : V} (hh : RelH T H c G ρ) (r : SRep T G ρ s v) (p : Post rel2 T W σ G ρ ((asB s c).bind f) Q) :
    ∃ k, v = .bl k ∧ Post rel2 T W σ G ρ (f k c) Q := by
  cases s with
  | c n => exact p.elim
  | x _ _ => exact p.elim
  | f => exact p.elim
  | d x =>
    cases x with
    | bl k => exact ⟨k, SRep.bl_inv r, p⟩
    | _ => exact p.elim
theorem dn_one {op} (h : PE X a (tD T W A)) : PE X (.BoolOp op [a] pos) (tD T W A) := pe_one h
theorem dn_and {rest : List Expr} (ha : PE X a (tD T W A)) (hb : PE X (.BoolOp .And (b :: rest) pos) (tD T W B)) : PE X (.BoolOp .And (a :: b :: rest) pos) (tD T W (mAnd A B)) := by
  refine PE.imp (pe_and ha hb) fun σ H Q ⟨δ, c, G, ρ, hs, hh, p⟩ => ?_
  refine ⟨δ, c, G, ρ, hs, hh, (Post.bind (rel := SRep T) p).imp ?_⟩
  rintro v H1 ⟨s, c1, G1, ρ1, e1, p1, h1, r1, q1⟩
  obtain ⟨k, rfl, q⟩ := bl_of h1 r1 q1
  refine ⟨k, rfl, ?_⟩
  cases k with
  | true => exact ⟨δ, c1, G1, ρ1, hs.mono e1 p1, h1, q⟩
  | false => exact q _ H1 G1 ρ1 (.refl _) (List.prefix_refl _) h1 SRep.bl
theorem dn_not (ha : PE X a (tD T W A)) : PE X (.UnaryOp .Not a pos) (tD T W (mNot A)) := by
  refine PE.imp (pe_not ha) fun σ H Q ⟨δ, c, G, ρ, hs, hh, p⟩ => ?_
  refine ⟨δ, c, G, ρ, hs, hh, (Post.bind (rel := SRep T) p).imp ?_⟩
  rintro v H1 ⟨s, c1, G1, ρ1, e1, p1, h1, r1, q1⟩
  obtain ⟨k, rfl, q⟩ := bl_of h1 r1 q1
  exact ⟨k, rfl, q _ H1 G1 ρ1 (.refl _) (List.prefix_refl _) h1 SRep.bl⟩
section
variable {tA tBB : MT}
theorem dw_and1 (ha : PT X a (tDT T W tA)) : PW X (.BoolOp .And [a] pos) (tDT T W tA) := pw_and1 ha
theorem dw_or1 (ha : PT X a (tDT T W tA)) : PW X (.BoolOp .Or [a] pos) (tDT T W tA) := pw_or1 ha
theorem dw_and {rest : List Expr} (ha : PT X a (tDT T W tA)) (hb : PW X (.BoolOp .And (b :: rest) pos) (tDT T W tBB)) : PW X (.BoolOp .And (a :: b :: rest) pos) (tDT T W (mtAnd tA tBB)) := by
  refine PW.imp (pw_and ha hb) fun σ H Q ⟨δ, c, G, ρ, hs, hh, p⟩ => ?_
  refine ⟨δ, c, G, ρ, hs, hh, (Post.bind (rel := relB) p).imp ?_⟩
  rintro v H1 ⟨k, c1, G1, ρ1, e1, p1, h1, r1, q1⟩
  have r1 : v = k := r1
  subst r1
  cases v with
  | true => exact ⟨δ, c1, G1, ρ1, hs.mono e1 p1, h1, q1⟩
  | false => exact q1 _ H1 G1 ρ1 (.refl _) (List.prefix_refl _) h1 rfl
theorem dw_or {rest : List Expr} (ha : PT X a (tDT T W tA)) (hb : PW X (.BoolOp .Or (b :: rest) pos) (tDT T W tBB)) : PW X (.BoolOp .Or (a :: b :: rest) pos) (tDT T W (mtOr tA tBB)) := by
  refine PW.imp (pw_or ha hb) fun σ H Q ⟨δ, c, G, ρ, hs, hh, p⟩ => ?_
  refine ⟨δ, c, G, ρ, hs, hh, (Post.bind (rel := relB) p).imp ?_⟩
  rintro v H1 ⟨k, c1, G1, ρ1, e1, p1, h1, r1, q1⟩
  have r1 : v = k := r1
  subst r1
  cases v with
  | false => exact ⟨δ, c1, G1, ρ1, hs.mono e1 p1, h1, q1⟩
  | true => exact q1 _ H1 G1 ρ1 (.refl _) (List.prefix_refl _) h1 rfl
theorem dt_not (ha : PT X a (tDT T W tA)) : PT X (.UnaryOp .Not a pos) (tDT T W (mtNot tA)) := by
  refine PT.imp (pt_not ha) fun σ H Q ⟨δ, c, G, ρ, hs, hh, p⟩ => ?_
  refine ⟨δ, c, G, ρ, hs, hh, (Post.bind (rel := relB) p).imp ?_⟩
  rintro v H1 ⟨k, c1, G1, ρ1, e1, p1, h1, r1, q1⟩
  have r1 : v = k := r1
  subst r1
  exact q1 _ H1 G1 ρ1 (.refl _) (List.prefix_refl _) h1 rfl
theorem dn_if {c : Expr} (hc : PT X c (tDT T W tA)) (ha : PE X a (tD T W A)) (hb : PE X b (tD T W B)) : PE X (.IfExp c a b pos) (tD T W (mIf tA A B)) := by
  refine PE.imp (pe_ifExp hc ha hb) fun σ H Q ⟨δ, c, G, ρ, hs, hh, p⟩ => ?_
  refine ⟨δ, c, G, ρ, hs, hh, (Post.bind (rel := relB) p).imp ?_⟩
  rintro v H1 ⟨k, c1, G1, ρ1, e1, p1, h1, r1, q1⟩
  have r1 : v = k := r1
  subst r1
  cases v with
  | true => exact ⟨δ, c1, G1, ρ1, hs.mono e1 p1, h1, q1⟩
  | false => exact ⟨δ, c1, G1, ρ1, hs.mono e1 p1, h1, q1⟩
end
theorem tD_chain {f g : S → S → Cs → R S} {r r' : R2} (hp : Prim2 T f r) (hp' : Prim2 T g r') {σ : St} {H : Hp} {Q : VK} (h : tD T W (mChain f g A B C) σ H Q) : tChain r r' (tD T W A) (tD T W B) (tD T W C) σ H Q := by
  obtain ⟨δ, c, G, ρ, hs, hh, p⟩ := h
  refine ⟨δ, c, G, ρ, hs, hh, (Post.bind (rel := SRep T) p).imp ?_⟩
  rintro v H1 ⟨x, c1, G1, ρ1, e1, p1, h1, r1, q1⟩
  refine ⟨δ, c1, G1, ρ1, hs.mono e1 p1, h1, (Post.bind (rel := SRep T) q1).imp ?_⟩
  rintro u H2 ⟨y, c2, G2, ρ2, e2, p2, h2, r2, q2⟩
  refine hp W σ G2 ρ2 H2 c2 x y v u _ h2 (r1.mono e2 p2) r2 ((Post.bind (rel := SRep T) q2).imp ?_)
  rintro z H3 ⟨w, c3, G3, ρ3, e3, p3, h3, r3, q3⟩
  obtain ⟨k, rfl, q⟩ := bl_of h3 r3 q3
  refine ⟨k, rfl, ?_⟩
  cases k with
  | false => exact q _ H3 G3 ρ3 (.refl _) (List.prefix_refl _) h3 SRep.bl
  | true =>
    refine ⟨δ, c3, G3, ρ3, ((hs.mono e1 p1).mono e2 p2).mono e3 p3, h3, (Post.bind (rel := SRep T) q).imp ?_⟩
    rintro t H4 ⟨w', c4, G4, ρ4, e4, p4, h4, r4, q4⟩
    exact hp' W σ G4 ρ4 H4 c4 y w' u t _ h4 ((r2.mono e3 p3).mono e4 p4) r4 q4
end

/-! ### statements -/
def PostS (T : Tb) (W : WX) (G : Hp) (ρ : List Addr) (r : RS) (E : Ends) : Prop :=
  match r with
  | .nx δ c => ∀ σ' H' G' ρ', Ex G G' → ρ <+: ρ' → RelS T G' ρ' σ' δ → RelH T H' c G' ρ' → E.nx σ' H'
  | .bk δ c => ∀ σ' H' G' ρ', Ex G G' → ρ <+: ρ' → RelS T G' ρ' σ' δ → RelH T H' c G' ρ' → E.bk σ' H'
  | .ct δ c => ∀ σ' H' G' ρ', Ex G G' → ρ <+: ρ' → RelS T G' ρ' σ' δ → RelH T H' c G' ρ' → E.ct σ' H'
  | .rt s c => ∀ v H' G' ρ', Ex G G' → ρ <+: ρ' → SRep T G' ρ' s v → RelH T H' c G' ρ' → E.rt v H'
  | .ex k xs δ c => ∀ d σ' H' G' ρ', Ex G G' → ρ <+: ρ' → RelS T G' ρ' σ' δ → RelH T H' c G' ρ' → XRep T G' ρ' k xs d → W (.ref (T.cl k)) d σ' H'
  | .bad => False
theorem PostS.mono {T : Tb} {W : WX} {G G' : Hp} {ρ ρ' : List Addr} {r : RS} {E : Ends} (h : PostS T W G ρ r E) (e : Ex G G') (p : ρ <+: ρ') : PostS T W G' ρ' r E := by
  cases r with
  | nx δ c => exact fun σ' H' G'' ρ'' e' p' => h σ' H' G'' ρ'' (e.trans e') (p.trans p')
  | bk δ c => exact fun σ' H' G'' ρ'' e' p' => h σ' H' G'' ρ'' (e.trans e') (p.trans p')
  | ct δ c => exact fun σ' H' G'' ρ'' e' p' => h σ' H' G'' ρ'' (e.trans e') (p.trans p')
  | rt s c => exact fun σ' H' G'' ρ'' e' p' => h σ' H' G'' ρ'' (e.trans e') (p.trans p')
  | ex k xs δ c => exact fun d σ' H' G'' ρ'' e' p' => h d σ' H' G'' ρ'' (e.trans e') (p.trans p')
  | bad => exact h
/-- an expression's result, then f; an error keeps the slots -/
def R.andS {α : Type} (δ : Sl) : R α → (α → Cs → RS) → RS
  | .ok a c, f => f a c
  | .ex k xs c, _ => .ex k xs δ c
  | .bad, _ => .bad
def tS (T : Tb) (W : WX) (m : MS) : TS := fun E σ H => ∃ δ c G ρ, RelS T G ρ σ δ ∧ RelH T H c G ρ ∧ PostS T W G ρ (m δ c) E
section
variable {X : Cx} {T : Tb} {W : WX} {a b : Expr} {A B : M} {pos : Pos} {st : Stmt} {rest : List Stmt} {m m' : MS}
theorem PostS.andS {α β : Type} {rel : Hp → List Addr → α → β → Prop} {G : Hp} {ρ : List Addr} {r : R α} {f : α → Cs → RS} {σ : St} {δ : Sl} {E : Ends} (hs : RelS T G ρ σ δ) (h : PostS T W G ρ (r.andS δ f) E) :
    Post rel T W σ G ρ r (fun v H1 => ∃ a c G1 ρ1, Ex G G1 ∧ ρ <+: ρ1 ∧ RelH T H1 c G1 ρ1 ∧ rel G1 ρ1 a v ∧ PostS T W G1 ρ1 (f a c) E) := by
  cases r with
  | ok a c => exact fun v H' G' ρ' e p q z => ⟨a, c, G', ρ', e, p, q, z, PostS.mono (r := f a c) h e p⟩
  | ex k xs c => exact fun d H' G' ρ' e p q z => h d σ H' G' ρ' e p (hs.mono e p) q z
  | bad => exact h
def sNil : MS := fun δ c => .nx δ c
def sSeq (m m' : MS) : MS := fun δ c => match m δ c with
  | .nx δ c => m' δ c
  | r => r
theorem ss_nil : PSs X [] (tS T W sNil) := PSs.imp pss_nil fun E σ H ⟨δ, c, G, ρ, hs, hh, p⟩ => p σ H G ρ (.refl _) (List.prefix_refl _) hs hh
theorem ss_cons (h1 : PS X st (tS T W m)) (h2 : PSs X rest (tS T W m')) : PSs X (st :: rest) (tS T W (sSeq m m')) := by
  refine PSs.imp (pss_cons h1 h2) fun E σ H ⟨δ, c, G, ρ, hs, hh, p⟩ => ?_
  refine ⟨δ, c, G, ρ, hs, hh, ?_⟩
  unfold sSeq at p
  cases e : m δ c with
  | nx δ1 c1 =>
    simp only [e] at p
    exact fun σ' H' G' ρ' e1 p1 s1 h1 => ⟨δ1, c1, G', ρ', s1, h1, p.mono e1 p1⟩
  | bk δ1 c1 => simp only [e] at p; exact p
  | ct δ1 c1 => simp only [e] at p; exact p
  | rt s1 c1 => simp only [e] at p; exact p
  | ex k xs δ1 c1 => simp only [e] at p; exact p
  | bad => simp only [e] at p; exact p
theorem ss_one (h1 : PS X st (tS T W m)) : PSs X [st] (tS T W m) := pss_one h1
def sExpr (A : M) : MS := fun δ c => (A δ c).andS δ fun _ c => .nx δ c
theorem ds_expr (he : PE X a (tD T W A)) (hs : swapsWith a none pos.line X.env = pure false := by rfl) : PS X (.Expr a pos) (tS T W (sExpr A)) := by
  refine PS.imp (ps_expr he hs) fun E σ H ⟨δ, c, G, ρ, hs, hh, p⟩ => ?_
  refine ⟨δ, c, G, ρ, hs, hh, (PostS.andS (rel := SRep T) hs p).imp ?_⟩
  rintro v H1 ⟨s, c1, G1, ρ1, e1, p1, h1, r1, q1⟩
  exact q1 σ H1 G1 ρ1 (.refl _) (List.prefix_refl _) (hs.mono e1 p1) h1
def sRet (A : M) : MS := fun δ c => (A δ c).andS δ fun s c => .rt s c
theorem ds_ret (he : PE X a (tD T W A)) : PS X (.Return (some a) pos) (tS T W (sRet A)) := by
  refine PS.imp (ps_ret he) fun E σ H ⟨δ, c, G, ρ, hs, hh, p⟩ => ?_
  refine ⟨δ, c, G, ρ, hs, hh, (PostS.andS (rel := SRep T) hs p).imp ?_⟩
  rintro v H1 ⟨s, c1, G1, ρ1, e1, p1, h1, r1, q1⟩
  exact q1 v H1 G1 ρ1 (.refl _) (List.prefix_refl _) r1 h1
def sIf (C : MT) (m m' : MS) : MS := fun δ c => (C δ c).andS δ fun k c => if k = true then m δ c else m' δ c
theorem ds_if {c : Expr} {x y : List Stmt} {C : MT} (hc : PT X c (tDT T W C)) (ha : PSs X x (tS T W m)) (hb : PSs X y (tS T W m')) : PS X (.If c x y pos) (tS T W (sIf C m m')) := by
  refine PS.imp (ps_if hc ha hb) fun E σ H ⟨δ, c, G, ρ, hs, hh, p⟩ => ?_
  refine ⟨δ, c, G, ρ, hs, hh, (PostS.andS (rel := relB) hs p).imp ?_⟩
  rintro v H1 ⟨k, c1, G1, ρ1, e1, p1, h1, r1, q1⟩
  have r1 : v = k := r1
  subst r1
  cases v with
  | true => exact ⟨δ, c1, G1, ρ1, hs.mono e1 p1, h1, q1⟩
  | false => exact ⟨δ, c1, G1, ρ1, hs.mono e1 p1, h1, q1⟩
def sSet (i : Nat) (A : M) : MS := fun δ c => (A δ c).andS δ fun s c => .nx (δ.set i (some s)) c
theorem tS_set {i : Nat} {E : Ends} {σ : St} {H : Hp} (h : tS T W (sSet i A) E σ H) : tAsg (tD T W A) (gName i) E σ H := by
  obtain ⟨δ, c, G, ρ, hs, hh, p⟩ := h
  refine ⟨δ, c, G, ρ, hs, hh, (PostS.andS (rel := SRep T) hs p).imp ?_⟩
  rintro v H1 ⟨s, c1, G1, ρ1, e1, p1, h1, r1, q1⟩
  exact q1 _ H1 G1 ρ1 (.refl _) (List.prefix_refl _) ((hs.mono e1 p1).set i r1) h1
theorem ds_set {i : Nat} {x : Str} {pos' : Pos} (hN : X.N.Nodup) (hi : X.N[i]? = some x) (hx : Loc X.env.scope x) (he : PE X a (tD T W A)) (hs : swapsWith a (some (.Name x pos')) pos.line X.env = pure false := by rfl) (hf : X.fn x = true ∨ X.env.scope.names.lookup x = some .local := by first | exact .inl rfl | exact .inr rfl | assumption) :
    PS X (.Assign [.Name x pos'] a pos) (tS T W (sSet i A)) := PS.imp (ps_set hN hi hx he hs hf) fun _ _ _ h => tS_set h
/-- targets -/
abbrev GT := S → Cs → Sl → Option Sl
def tG (T : Tb) (g : GT) : TG := fun v σ H Q => ∃ s δ c G ρ δ', RelH T H c G ρ ∧ SRep T G ρ s v ∧ RelS T G ρ σ δ ∧ g s c δ = some δ' ∧ ∀ σ', RelS T G ρ σ' δ' → Q σ' H
theorem PG.imp {e : Expr} {t t' : TG} (h : PG X e t) (k : ∀ v σ H Q, t' v σ H Q → t v σ H Q) : PG X e t' := ⟨fun pins s σ H v u Q I r q => h.run pins s σ H v u Q I r (k v σ H Q q)⟩
def gtName (i : Nat) : GT := fun s _ δ => some (δ.set i (some s))
theorem tG_name {i : Nat} {v : V} {σ : St} {H : Hp} {Q : St → Hp → Prop} (h : tG T (gtName i) v σ H Q) : gName i v σ H Q := by
  obtain ⟨s, δ, c, G, ρ, δ', e, r, hs, hd, q⟩ := h
  cases hd
  exact q _ (hs.set i r)
theorem dg_name {i : Nat} {x : Str} (hN : X.N.Nodup) (hi : X.N[i]? = some x) (hx : Loc X.env.scope x) (hf : X.fn x = true ∨ X.env.scope.names.lookup x = some .local := by first | exact .inl rfl | exact .inr rfl | assumption) : PG X (.Name x pos) (tG T (gtName i)) :=
  PG.imp (pg_name hN hi hx hf) fun _ _ _ _ h => tG_name h
/-- several -/
abbrev GTs := List S → Cs → Sl → Option Sl
def tGs (T : Tb) (g : GTs) : TGs := fun vs σ H Q => ∃ ss δ c G ρ δ', RelH T H c G ρ ∧ SReps T G ρ ss vs ∧ RelS T G ρ σ δ ∧ g ss c δ = some δ' ∧ ∀ σ', RelS T G ρ σ' δ' → Q σ' H
theorem PGs.imp {e : List Expr} {t t' : TGs} (h : PGs X e t) (k : ∀ v σ H Q, t' v σ H Q → t v σ H Q) : PGs X e t' := ⟨fun pins s σ H v u Q I r q => h.run pins s σ H v u Q I r (k v σ H Q q)⟩
def gtNil : GTs
  | [], _, δ => some δ
  | _ :: _, _, _ => none
def gtCons (g : GT) (gs : GTs) : GTs
  | [], _, _ => none
  | s :: ss, c, δ => match g s c δ with
    | some δ => gs ss c δ
    | none => none
theorem SReps.nil_inv {G : Hp} {ρ : List Addr} {vs : List V} (h : SReps T G ρ [] vs) : vs = [] := by cases h; rfl
theorem SReps.cons_inv {G : Hp} {ρ : List Addr} {s : S} {ss : List S} {vs : List V} (h : SReps T G ρ (s :: ss) vs) : ∃ v r, vs = v :: r ∧ SRep T G ρ s v ∧ SReps T G ρ ss r := by
  cases h with
  | cons a b => exact ⟨_, _, rfl, a, b⟩
theorem SReps.ofD {G : Hp} {ρ : List Addr} : ∀ {ds : List D} {vs : List V}, Reps T G ds vs → SReps T G ρ (ds.map S.d) vs
  | [], vs, h => by cases h.nil_inv; exact .nil
  | d :: ds, vs, h => by
    obtain ⟨v, r, rfl, a, b⟩ := h.cons_inv
    exact .cons a (SReps.ofD b)
theorem SReps.ofC {G : Hp} {ρ : List Addr} {ss : List S} {vs : List V} (r : CReps T G ρ ss vs) : SReps T G ρ ss vs := by
  induction r with
  | nil => exact .nil
  | cons a _ ih => exact .cons a.srep ih
theorem SReps.get {G : Hp} {ρ : List Addr} : ∀ {xs : List S} {vs : List V} {i : Nat} {s : S}, SReps T G ρ xs vs → xs[i]? = some s → ∃ v, vs[i]? = some v ∧ SRep T G ρ s v
  | [], _, _, _, _, e => by simp at e
  | d :: ds, _, 0, d', h, e => by
    obtain ⟨v, r, rfl, a, b⟩ := h.cons_inv
    simp at e; subst e
    exact ⟨v, rfl, a⟩
  | d :: ds, _, i + 1, d', h, e => by
    obtain ⟨v, r, rfl, a, b⟩ := h.cons_inv
    obtain ⟨z, h1, h2⟩ := SReps.get (i := i) b (by simpa using e)
    exact ⟨z, by simpa using h1, h2⟩
theorem dgs_nil : PGs X [] (tGs T gtNil) := PGs.imp pgs_nil fun v σ H Q ⟨ss, δ, c, G, ρ, δ', e, r, hs, hd, q⟩ => by
  cases ss with
  | nil => cases hd; exact ⟨r.nil_inv, q _ hs⟩
  | cons _ _ => cases hd
theorem dgs_cons {e : Expr} {es : List Expr} {g : GT} {gs : GTs} (h1 : PG X e (tG T g)) (h2 : PGs X es (tGs T gs))
    (hs : (assignEach (e :: es) X.env).map (·.2) = assign e X.env :: (assignEach es X.env).map (·.2) := by rfl) : PGs X (e :: es) (tGs T (gtCons g gs)) := by
  refine PGs.imp (pgs_cons h1 h2 hs) fun v σ H Q ⟨ss, δ, c, G, ρ, δ', e, r, hs, hd, q⟩ => ?_
  cases ss with
  | nil => cases hd
  | cons d ds =>
    obtain ⟨v0, vr, rfl, r0, rr⟩ := r.cons_inv
    unfold gtCons at hd
    cases h : g d c δ with
    | none => simp only [h] at hd; cases hd
    | some δ1 =>
      simp only [h] at hd
      exact ⟨v0, vr, rfl, d, δ, c, G, ρ, δ1, e, r0, hs, h, fun σ' s' => ⟨ds, δ1, c, G, ρ, δ', e, rr, s', hd, q⟩⟩
/-- a tuple's items -/
def tupOf (s : S) (c : Cs) : Option (List S) := match s with
  | .d (.tup ds) => some (ds.map S.d)
  | .c n => match c[n]? with
    | some (.tS ss) => some ss
    | _ => none
  | _ => none
theorem tupOf_rep {H : Hp} {c : Cs} {G : Hp} {ρ : List Addr} {s : S} {ss : List S} {v : V} (hh : RelH T H c G ρ) (r : SRep T G ρ s v) (h : tupOf s c = some ss) : ∃ p vs, v = .ref p ∧ H p = some (.tup vs) ∧ SReps T G ρ ss vs := by
  unfold tupOf at h
  cases s with
  | x _ _ => cases h
  | f => cases h
  | d d =>
    cases d with
    | tup ds =>
      cases h
      obtain ⟨p, vs, rfl, sq, l, rr⟩ := Rep.tup_inv (show Rep T G (.tup ds) v from r)
      exact ⟨p, vs, rfl, hh.ex _ _ sq, .ofD rr⟩
    | _ => cases h
  | c n =>
    obtain ⟨p, hp, rfl⟩ := r
    cases hc : c[n]? with
    | none => simp only [hc] at h; cases h
    | some cc =>
      cases cc with
      | tS xs =>
        simp only [hc] at h
        cases h
        obtain ⟨_, vs, a, b, cr⟩ := hh.at_ n p _ hp hc
        exact ⟨p, vs, rfl, a, (SReps.ofC cr).mono (.refl _) (List.take_prefix _ _)⟩
      | _ => simp only [hc] at h; cases h
def gtTup (gs : GTs) : GT := fun s c δ => match tupOf s c with
  | some ss => gs ss c δ
  | none => none
theorem dg_tup {es : List Expr} {k : Nat} {gs : GTs} {n : Nat} (hc : X.calm = true) (hT : X.K = T.K) (h : PGs X es (tGs T gs)) (hl : ∀ ds c δ δ', gs ds c δ = some δ' → ds.length = n)
    (hn : (assignEach es X.env).length = n := by rfl) (hst : (assignEach es X.env).findIdx? (·.1) = none := by rfl) : PG X (.Tuple es k pos) (tG T (gtTup gs)) := by
  refine PG.imp (pg_tup hc h hn hst) fun v σ H Q ⟨s, δ, c, G, ρ, δ', e, r, hs, hd, q⟩ => ?_
  unfold gtTup at hd
  cases ht : tupOf s c with
  | none => simp only [ht] at hd; cases hd
  | some ss =>
    simp only [ht] at hd
    obtain ⟨p, vs, rfl, hp, rr⟩ := tupOf_rep e r ht
    exact ⟨p, vs, rfl, SqT.of hp, by rw [rr.length]; exact hl ss c δ δ' hd, ss, δ, c, G, ρ, δ', e, rr, hs, hd, q⟩
theorem gtNil_len : ∀ ds c δ δ', gtNil ds c δ = some δ' → ds.length = 0 := fun ds c δ δ' h => by
  cases ds with
  | nil => rfl
  | cons _ _ => cases h
theorem gtCons_len {g : GT} {gs : GTs} {n : Nat} (k : ∀ ds c δ δ', gs ds c δ = some δ' → ds.length = n) : ∀ ds c δ δ', gtCons g gs ds c δ = some δ' → ds.length = n + 1 := fun ds c δ δ' h => by
  cases ds with
  | nil => cases h
  | cons d ds =>
    unfold gtCons at h
    cases e : g d c δ with
    | none => simp only [e] at h; cases h
    | some δ1 => simp only [e] at h; simp [k ds c δ1 δ' h]
/-- target = e -/
def sAsg (g : GT) (A : M) : MS := fun δ c => (A δ c).andS δ fun s c => match g s c δ with
  | some δ => .nx δ c
  | none => .bad
theorem ds_asg {tg : Expr} {g : GT} (he : PE X a (tD T W A)) (hg : PG X tg (tG T g)) (hs : swapsWithSole [tg] a pos.line X.env = pure false := by rfl) (hw : swappedStores [tg] a X.env = pure none := by rfl)
    (h1 : (assignEach [tg] X.env).map (·.2) = [assign tg X.env] := by rfl) : PS X (.Assign [tg] a pos) (tS T W (sAsg g A)) := by
  refine PS.imp (ps_asg he hg hs hw h1) fun E σ H ⟨δ, c, G, ρ, hs, hh, p⟩ => ?_
  refine ⟨δ, c, G, ρ, hs, hh, (PostS.andS (rel := SRep T) hs p).imp ?_⟩
  rintro v H1 ⟨s, c1, G1, ρ1, e1, p1, h1, r1, q1⟩
  cases h : g s c1 δ with
  | none => simp only [h] at q1; exact q1.elim
  | some δ1 =>
    simp only [h] at q1
    exact ⟨s, δ, c1, G1, ρ1, δ1, h1, r1, hs.mono e1 p1, h, fun σ' s' => q1 σ' H1 G1 ρ1 (.refl _) (List.prefix_refl _) s' h1⟩
/-- a, b = x, y -/
def sPar (i j : Nat) (B : MA) : MS := fun δ c => (B δ c).andS δ fun ss c => match ss with
  | [x, y] => .nx ((δ.set i (some x)).set j (some y)) c
  | _ => .bad
theorem ds_par {i j : Nat} {x y : Str} {B : MA} {px py pt : Pos} {kt k2 pt2} (hc : X.calm = true) (hN : X.N.Nodup) (hi : X.N[i]? = some x) (hj : X.N[j]? = some y) (hij : i ≠ j)
    (hx : X.env.scope.names.lookup x = some .local) (hy : X.env.scope.names.lookup y = some .local) (ha : PA X [a, b] (tDA T W B))
    (hw : swappedStores [.Tuple [.Name x px, .Name y py] kt pt] (.Tuple [a, b] k2 pt2) X.env = pure (some [x, y]))
    (hs : swapsWithSole [.Tuple [.Name x px, .Name y py] kt pt] (.Tuple [a, b] k2 pt2) pos.line X.env = pure false := by rfl) :
    PS X (.Assign [.Tuple [.Name x px, .Name y py] kt pt] (.Tuple [a, b] k2 pt2) pos) (tS T W (sPar i j B)) := by
  refine PS.imp (ps_par hc hN hi hj hij hx hy ha hw hs) fun E σ H ⟨δ, c, G, ρ, hs, hh, p⟩ => ?_
  refine ⟨δ, c, G, ρ, hs, hh, (PostS.andS (rel := SReps T) hs p).imp ?_⟩
  rintro v H1 ⟨ss, c1, G1, ρ1, e1, p1, h1, r1, q1⟩
  cases r1 with
  | nil => exact q1.elim
  | cons r1 r2 =>
    cases r2 with
    | nil => exact q1.elim
    | cons r2 r3 =>
      cases r3 with
      | cons _ _ => exact q1.elim
      | nil => exact ⟨_, _, rfl, q1 _ H1 G1 ρ1 (.refl _) (List.prefix_refl _) (((hs.mono e1 p1).set i r1).set j r2) h1⟩

/-! ### what is walked -/
structure Walk (T : Tb) (G : Hp) (ρ : List Addr) (xs : List S) (J : It) : Prop where
  go : ∀ i H, Ex G H → i < xs.length → J.go i H
  stop : ∀ i H, Ex G H → xs.length ≤ i → J.stop i H
  yld : ∀ i H G1 ρ1 x H', Ex G G1 → ρ <+: ρ1 → Ex G1 H → J.yld i H x H' → ∀ s, xs[i]? = some s → ∃ G2, Step G1 H G2 H' ∧ SRep T G2 ρ1 s x
/-- a walk: over these, or over a list that may still change -/
inductive Src where
  | xs (l : List S) | cell (n : Nat)
abbrev MI := Sl → Cs → R Src
abbrev relI (T : Tb) : Hp → List Addr → Src → It → Prop := fun G ρ s J => match s with
  | .xs l => Walk T G ρ l J ∧ l.length ≤ sizeLine
  | .cell n => ∃ q, ρ[n]? = some q ∧ J = Itl T.K q
def tI (T : Tb) (W : WX) (m : MI) : TI := fun σ H Q => ∃ δ c G ρ, RelS T G ρ σ δ ∧ RelH T H c G ρ ∧ Post (relI T) T W σ G ρ (m δ c) Q
theorem PI.imp {tg e : Expr} {t t' : TI} (h : PI X tg e t) (k : ∀ σ H Q, t' σ H Q → t σ H Q) : PI X tg e t' := ⟨fun pins s σ H Q I q => h.run pins s σ H Q I (k σ H Q q)⟩
def loop (g : GT) (B : MS) : List S → MS
  | [], δ, c => .nx δ c
  | d :: ds, δ, c => match g d c δ with
    | none => .bad
    | some δ => match B δ c with
      | .nx δ c => loop g B ds δ c
      | .ct δ c => loop g B ds δ c
      | .bk δ c => .nx δ c
      | r => r
/-- the items of a list that is a cell, as they are now -/
def cellL (n : Nat) (c : Cs) : Option (List S) := match c[n]? with
  | some (.lst xs) => some (xs.map S.d)
  | some (.lS xs) => some xs
  | _ => none
theorem cellL_rep {H : Hp} {c : Cs} {G : Hp} {ρ : List Addr} {n : Nat} {q : Addr} {ss : List S} (hh : RelH T H c G ρ) (hq : ρ[n]? = some q) (h : cellL n c = some ss) : ∃ vs, H q = some (.lst vs) ∧ ss.length ≤ sizeLine ∧ SReps T G ρ ss vs := by
  unfold cellL at h
  cases hc : c[n]? with
  | none => simp only [hc] at h; cases h
  | some cc =>
    cases cc with
    | lst xs =>
      simp only [hc] at h
      cases h
      obtain ⟨_, vs, a, b, cr⟩ := hh.at_ n q _ hq hc
      exact ⟨vs, a, by simpa using b, .ofD cr⟩
    | lS xs =>
      simp only [hc] at h
      cases h
      obtain ⟨_, vs, a, b, cr⟩ := hh.at_ n q _ hq hc
      exact ⟨vs, a, b, (SReps.ofC cr).mono (.refl _) (List.take_prefix _ _)⟩
    | _ => simp only [hc] at h; cases h
def loopC (n : Nat) (g : GT) (Bd : MS) : Nat → Nat → MS
  | 0, _, _, _ => .bad
  | f + 1, i, δ, c => match cellL n c with
    | some xs => match xs[i]? with
      | none => .nx δ c
      | some d => match g d c δ with
        | none => .bad
        | some δ => match Bd δ c with
          | .nx δ c => loopC n g Bd f (i + 1) δ c
          | .ct δ c => loopC n g Bd f (i + 1) δ c
          | .bk δ c => .nx δ c
          | r => r
    | none => .bad
def loopI (g : GT) (B : MS) (s : Src) : MS := fun δ c => match s with
  | .xs l => loop g B l δ c
  | .cell n => match cellL n c with
    | some xs => loopC n g B (xs.length + 1) 0 δ c
    | none => .bad
def sFor (I : MI) (g : GT) (B : MS) : MS := fun δ c => (I δ c).andS δ fun s c => loopI g B s δ c
theorem ds_for {tg iter : Expr} {body : List Stmt} {I : MI} {g : GT} (hp : PassesOwn (model X.prog X.w) X.A X.env X.xe) (hc : X.calm = true) (hi : PI X tg iter (tI T W I)) (hg : PG X tg (tG T g)) (hb : PSs X body (tS T W m))
    (hs : ∀ x, foldedSetIterable iter X.env x = pure x := by intro _; rfl) : PS X (.For tg iter body [] pos) (tS T W (sFor I g m)) := by
  refine PS.imp (ps_for hp hc hi hg hb hs) fun E σ H ⟨δ, c, G, ρ, hs, hh, p⟩ => ?_
  refine ⟨δ, c, G, ρ, hs, hh, (PostS.andS (rel := relI T) hs p).imp ?_⟩
  rintro J H1 ⟨src, c1, G1, ρ1, e1, p1, h1, rl, q1⟩
  cases src with
  | xs xs =>
    obtain ⟨wk, hlen⟩ := rl
    have q1 : PostS T W G1 ρ1 (loop g m xs δ c1) E := q1
    refine ⟨fun i n σ H => n = xs.length - i ∧ i ≤ xs.length ∧ ∃ δ c G2 ρ2, Ex G1 G2 ∧ ρ1 <+: ρ2 ∧ RelS T G2 ρ2 σ δ ∧ RelH T H c G2 ρ2 ∧ PostS T W G2 ρ2 (loop g m (xs.drop i) δ c) E,
      ⟨xs.length, by simp, Nat.zero_le _, δ, c1, G1, ρ1, .refl _, List.prefix_refl _, hs.mono e1 p1, h1, by simpa using q1⟩, ?_⟩
    rintro i n σ H ⟨rfl, hi, δ, c, G2, ρ2, e2, pr2, s2, h2, q2⟩
    by_cases hlt : i < xs.length
    · refine .inr ⟨wk.go i H (e2.trans h2.ex) hlt, fun σ' H' => i + 1 ≤ xs.length ∧ ∃ δ c G2 ρ2, Ex G1 G2 ∧ ρ1 <+: ρ2 ∧ RelS T G2 ρ2 σ' δ ∧ RelH T H' c G2 ρ2 ∧ PostS T W G2 ρ2 (loop g m (xs.drop (i + 1)) δ c) E,
        fun σ' H' ⟨z1, z2⟩ => ⟨xs.length - (i + 1), by omega, rfl, z1, z2⟩, fun x H' y => ?_⟩
      obtain ⟨G3, st, rx⟩ := wk.yld i H G2 ρ2 x H' e2 pr2 h2.ex y xs[i] (List.getElem?_eq_getElem hlt)
      rw [List.drop_eq_getElem_cons hlt] at q2
      unfold loop at q2
      cases hg : g xs[i] c δ with
      | none => simp only [hg] at q2; exact q2.elim
      | some δ1 =>
        simp only [hg] at q2
        refine ⟨xs[i], δ, c, G3, ρ2, δ1, h2.step st, rx, s2.mono st.g (List.prefix_refl _), hg, fun σ' s' => ?_⟩
        refine ⟨δ1, c, G3, ρ2, s', h2.step st, ?_⟩
        cases hm : m δ1 c with
        | nx δ3 c3 =>
          simp only [hm] at q2
          exact fun σ4 H4 G4 ρ4 e4 p4 s4 h4 => ⟨hlt, δ3, c3, G4, ρ4, (e2.trans st.g).trans e4, pr2.trans p4, s4, h4, q2.mono (st.g.trans e4) p4⟩
        | ct δ3 c3 =>
          simp only [hm] at q2
          exact fun σ4 H4 G4 ρ4 e4 p4 s4 h4 => ⟨hlt, δ3, c3, G4, ρ4, (e2.trans st.g).trans e4, pr2.trans p4, s4, h4, q2.mono (st.g.trans e4) p4⟩
        | bk δ3 c3 =>
          simp only [hm] at q2
          exact fun σ4 H4 G4 ρ4 e4 p4 s4 h4 => q2 σ4 H4 G4 ρ4 (st.g.trans e4) p4 s4 h4
        | rt s3 c3 => simp only [hm] at q2; exact q2.mono (E := E) st.g (List.prefix_refl _)
        | ex k ys δ3 c3 => simp only [hm] at q2; exact q2.mono (E := E) st.g (List.prefix_refl _)
        | bad => simp only [hm] at q2; exact q2
    · have e : i = xs.length := by omega
      subst e
      rw [List.drop_length] at q2
      exact .inl ⟨wk.stop _ H (e2.trans h2.ex) (Nat.le_refl _), q2 σ H G2 ρ2 (.refl _) (List.prefix_refl _) s2 h2⟩
  | cell n =>
    obtain ⟨q, hq, rfl⟩ := rl
    unfold loopI at q1
    cases hcc : cellL n c1 with
    | none => simp only [hcc] at q1; exact q1.elim
    | some xs0 =>
      simp only [hcc] at q1
      refine ⟨fun i m' σ H => ∃ δ c G2 ρ2, Ex G1 G2 ∧ ρ1 <+: ρ2 ∧ RelS T G2 ρ2 σ δ ∧ RelH T H c G2 ρ2 ∧ PostS T W G2 ρ2 (loopC n g m m' i δ c) E, ⟨xs0.length + 1, δ, c1, G1, ρ1, .refl _, List.prefix_refl _, hs.mono e1 p1, h1, q1⟩, ?_⟩
      rintro i m' σ H ⟨δ, c, G2, ρ2, e2, pr2, s2, h2, q2⟩
      cases m' with
      | zero => exact q2.elim
      | succ m' =>
        unfold loopC at q2
        cases hc2 : cellL n c with
        | none => simp only [hc2] at q2; exact q2.elim
        | some xs =>
          simp only [hc2] at q2
          obtain ⟨us, ho, hl, rr⟩ := cellL_rep h2 (pre_get pr2 hq) hc2
          cases hx : xs[i]? with
          | none =>
            simp only [hx] at q2
            exact .inl ⟨⟨us, SqL.of ho, by rw [rr.length]; exact List.getElem?_eq_none_iff.mp hx⟩, q2 σ H G2 ρ2 (.refl _) (List.prefix_refl _) s2 h2⟩
          | some d =>
            simp only [hx] at q2
            obtain ⟨u, hu, ru⟩ := rr.get hx
            refine .inr ⟨⟨us, u, SqL.of ho, hu⟩, fun σ' H' => ∃ δ c G2 ρ2, Ex G1 G2 ∧ ρ1 <+: ρ2 ∧ RelS T G2 ρ2 σ' δ ∧ RelH T H' c G2 ρ2 ∧ PostS T W G2 ρ2 (loopC n g m m' (i + 1) δ c) E, fun σ' H' z => ⟨m', Nat.lt_succ_self m', z⟩, fun x H' y => ?_⟩
            obtain ⟨rfl, y⟩ := y
            have ex := y us (SqL.of ho)
            rw [hu] at ex
            cases ex
            cases hg : g d c δ with
            | none => simp only [hg] at q2; exact q2.elim
            | some δ1 =>
              simp only [hg] at q2
              refine ⟨d, δ, c, G2, ρ2, δ1, h2, ru, s2, hg, fun σ' s' => ?_⟩
              refine ⟨δ1, c, G2, ρ2, s', h2, ?_⟩
              cases hm : m δ1 c with
              | nx δ3 c3 =>
                simp only [hm] at q2
                exact fun σ4 H4 G4 ρ4 e4 p4 s4 h4 => ⟨δ3, c3, G4, ρ4, e2.trans e4, pr2.trans p4, s4, h4, q2.mono e4 p4⟩
              | ct δ3 c3 =>
                simp only [hm] at q2
                exact fun σ4 H4 G4 ρ4 e4 p4 s4 h4 => ⟨δ3, c3, G4, ρ4, e2.trans e4, pr2.trans p4, s4, h4, q2.mono e4 p4⟩
              | bk δ3 c3 => simp only [hm] at q2; exact q2
              | rt s3 c3 => simp only [hm] at q2; exact q2
              | ex k ys δ3 c3 => simp only [hm] at q2; exact q2
              | bad => simp only [hm] at q2; exact q2
def wloop (C : MT) (B : MS) : Nat → MS
  | 0, _, _ => .bad
  | n + 1, δ, c => (C δ c).andS δ fun k c => if k = true then (match B δ c with
      | .nx δ c => wloop C B n δ c
      | .ct δ c => wloop C B n δ c
      | .bk δ c => .nx δ c
      | r => r) else .nx δ c
theorem ds_while {c : Expr} {body : List Stmt} {C : MT} (n : Nat) (hp : PassesOwn (model X.prog X.w) X.A X.env X.xe) (hc : PT X c (tDT T W C)) (hb : PSs X body (tS T W m)) : PS X (.While c body [] pos) (tS T W (wloop C m n)) := by
  refine PS.imp (ps_while hp hc hb) fun E σ H ⟨δ, c, G, ρ, hs, hh, p⟩ => ?_
  refine ⟨fun n σ H => ∃ δ c G ρ, RelS T G ρ σ δ ∧ RelH T H c G ρ ∧ PostS T W G ρ (wloop C m n δ c) E, ⟨n, δ, c, G, ρ, hs, hh, p⟩, ?_⟩
  rintro n σ H ⟨δ, c, G, ρ, hs, hh, p⟩
  cases n with
  | zero => exact p.elim
  | succ n =>
    refine ⟨δ, c, G, ρ, hs, hh, (PostS.andS (rel := relB) hs p).imp ?_⟩
    rintro v H1 ⟨k, c1, G1, ρ1, e1, p1, h1, r1, q1⟩
    have r1 : v = k := r1
    subst r1
    cases v with
    | false => exact q1 σ H1 G1 ρ1 (.refl _) (List.prefix_refl _) (hs.mono e1 p1) h1
    | true =>
      refine ⟨fun σ H => ∃ δ c G ρ, RelS T G ρ σ δ ∧ RelH T H c G ρ ∧ PostS T W G ρ (wloop C m n δ c) E, fun σ' H' z => ⟨n, Nat.lt_succ_self n, z⟩, ?_⟩
      have q1 : PostS T W G1 ρ1 (match m δ c1 with
        | .nx δ c => wloop C m n δ c
        | .ct δ c => wloop C m n δ c
        | .bk δ c => .nx δ c
        | r => r) E := q1
      refine ⟨δ, c1, G1, ρ1, hs.mono e1 p1, h1, ?_⟩
      cases hm : m δ c1 with
      | nx δ3 c3 => simp only [hm] at q1; exact fun σ4 H4 G4 ρ4 e4 p4 s4 h4 => ⟨δ3, c3, G4, ρ4, s4, h4, q1.mono e4 p4⟩
      | ct δ3 c3 => simp only [hm] at q1; exact fun σ4 H4 G4 ρ4 e4 p4 s4 h4 => ⟨δ3, c3, G4, ρ4, s4, h4, q1.mono e4 p4⟩
      | bk δ3 c3 => simp only [hm] at q1; exact q1
      | rt s3 c3 => simp only [hm] at q1; exact q1
      | ex k ys δ3 c3 => simp only [hm] at q1; exact q1
      | bad => simp only [hm] at q1; exact q1
end
end Dn

end
section
/-! Dn3: defs and their calls, methods, fields, new objects. -/
namespace Dn
open PySem PySem.Spec PyProof.Rows L2

/-! ### leaving a def: its own cells become data -/
/-- kp: an own list that is handed back stays a cell, the caller's newest one -/
def exitR (kp : Bool) (n0 : Nat) : RS → R S
  | .nx _ c => .ok (.d .non) (c.take n0)
  | .rt (.c k) c => if k < n0 then .ok (.c k) (c.take n0) else match c[k]? with
    | some (.lst xs) => if kp = true then .ok (.c n0) (c.take n0 ++ [.lst xs]) else .ok (.d (.lst xs)) (c.take n0)
    | _ => .bad
  | .rt (.d x) c => .ok (.d x) (c.take n0)
  | .ex k xs _ c => if refsOk n0 xs = true then .ex k xs (c.take n0) else .bad
  | _ => .bad
def fnG (kp : Bool) (np n : Nat) (body : MS) : List S → Cs → R S := fun ss c => if ss.length = np then exitR kp c.length (body (ss.map some ++ List.replicate (n - np) none) c) else .bad
def PostF (T : Tb) (G : Hp) (ρ : List Addr) (r : R S) (Q : VK) (E : XK) : Prop :=
  match r with
  | .ok s c => ∀ v H' G' ρ', Ex G G' → ρ <+: ρ' → RelH T H' c G' ρ' → SRep T G' ρ' s v → Q v H'
  | .ex k xs c => ∀ d H' G', Ex G G' → RelH T H' c G' ρ → XRep T G' ρ k xs d → E (.ref (T.cl k)) d H'
  | .bad => False
def spD (T : Tb) (fn : List S → Cs → R S) : Sp := fun vs H Q E => ∃ ss c G ρ, SReps T G ρ ss vs ∧ RelH T H c G ρ ∧ PostF T G ρ (fn ss c) Q E
section
variable {T : Tb} {G G' H H' : Hp} {ρ ρ' : List Addr} {c c' : Cs} {σ : L2.St} {δ : Sl} {Q : VK} {E : XK}
theorem RelH.take (r : RelH T H c G ρ') (p : ρ <+: ρ') : RelH T H (c.take ρ.length) G ρ := by
  obtain ⟨t, rfl⟩ := p
  have hl := r.len
  rw [List.length_append] at hl
  refine ⟨r.ex, by rw [List.length_take]; omega, r.nd.sublist (List.sublist_append_left _ _), fun i q x a b => ?_⟩
  have hi : i < ρ.length := (List.getElem?_eq_some_iff.mp a).1
  rw [List.getElem?_take_of_lt hi] at b
  obtain ⟨g, k⟩ := r.at_ i q x (by rw [List.getElem?_append_left hi]; exact a) b
  rw [List.take_append_of_le_length (by omega)] at k
  exact ⟨g, k⟩
theorem RelH.frozen {p : Addr} {o : HO} {k : Nat} (r : RelH T H c G ρ') (pr : ρ <+: ρ') (hk : ρ.length ≤ k) (hp : ρ'[k]? = some p) (ho : H p = some o) (hg : G p = none) : Ex G (upd G p o) ∧ RelH T H (c.take ρ.length) (upd G p o) ρ := by
  have e : Ex G (upd G p o) := Ex.new hg
  have r1 := r.take pr
  refine ⟨e, ⟨fun a u q => ?_, r1.len, r1.nd, fun i q x a b => ?_⟩⟩
  · by_cases z : a = p
    · subst z; rw [upd_same] at q; cases q; exact ho
    · rw [upd_ne z] at q; exact r.ex a u q
  · obtain ⟨g, k1⟩ := r1.at_ i q x a b
    have hi : i < ρ.length := (List.getElem?_eq_some_iff.mp a).1
    have ne : q ≠ p := by
      intro z
      subst z
      have a' : ρ'[i]? = some q := pre_get pr a
      obtain ⟨h1, e1⟩ := List.getElem?_eq_some_iff.mp a'
      obtain ⟨h2, e2⟩ := List.getElem?_eq_some_iff.mp hp
      have := (List.getElem_inj r.nd).mp (e1.trans e2.symm)
      omega
    refine ⟨by rw [upd_ne ne]; exact g, ?_⟩
    exact k1.keep e rfl (List.prefix_refl _)
/-- an own cell at the end of the def stays one of the caller's -/
theorem RelH.kept {p : Addr} {xs : List D} {k : Nat} (r : RelH T H c G ρ') (pr : ρ <+: ρ') (hk : ρ.length ≤ k) (hp : ρ'[k]? = some p) (hx : c[k]? = some (.lst xs)) : RelH T H (c.take ρ.length ++ [.lst xs]) G (ρ ++ [p]) := by
  have r1 := r.take pr
  have hl : (c.take ρ.length).length = ρ.length := r1.len.symm
  refine ⟨r1.ex, by simp [hl], ?_, fun i q y a b => ?_⟩
  · rw [List.nodup_append]
    refine ⟨r1.nd, by simp, fun a ha b hb => ?_⟩
    rw [List.mem_singleton] at hb
    subst hb
    intro e
    subst e
    obtain ⟨i, hi⟩ := List.getElem?_of_mem ha
    have hil : i < ρ.length := (List.getElem?_eq_some_iff.mp hi).1
    obtain ⟨h1, e1⟩ := List.getElem?_eq_some_iff.mp (pre_get pr hi)
    obtain ⟨h2, e2⟩ := List.getElem?_eq_some_iff.mp hp
    have := (List.getElem_inj r.nd).mp (e1.trans e2.symm)
    omega
  · by_cases hi : i < ρ.length
    · rw [List.getElem?_append_left hi] at a
      rw [List.getElem?_append_left (by omega)] at b
      rw [List.take_append_of_le_length (by omega)]
      exact r1.at_ i q y a b
    · rw [List.getElem?_append_right (by omega)] at a
      rw [List.getElem?_append_right (by omega), hl] at b
      cases hz : i - ρ.length with
      | succ n => rw [hz] at a; simp at a
      | zero =>
        rw [hz] at a b
        simp at a b
        subst a; subst b
        obtain ⟨g, z⟩ := r.at_ k _ _ hp hx
        exact ⟨g, z⟩
theorem exit_ok {kp : Bool} {r : RS} (h : PostF T G ρ (exitR kp ρ.length r) Q E) : PostS T (fun cls d _ H => E cls d H) G ρ r { nx := fun _ H' => Q .non H', rt := Q } := by
  cases r with
  | nx δ c => exact fun σ' H' G' ρ' e p rs rh => h .non H' G' ρ e (List.prefix_refl _) (rh.take p) SRep.non
  | bk δ c => exact False.elim h
  | ct δ c => exact False.elim h
  | bad => exact h
  | ex k xs δ c =>
    have h : PostF T G ρ (if refsOk ρ.length xs = true then .ex k xs (c.take ρ.length) else .bad) Q E := h
    by_cases hr : refsOk ρ.length xs = true
    · rw [if_pos hr] at h
      exact fun d σ' H' G' ρ' e p rs rh x => h d H' G' e (rh.take p) (x.cut p rfl hr)
    · rw [if_neg hr] at h; exact h.elim
  | rt s c =>
    cases s with
    | x _ _ => exact h.elim
    | f => exact h.elim
    | d x => exact fun v H' G' ρ' e p rs rh => h v H' G' ρ e (List.prefix_refl _) (rh.take p) rs
    | c k =>
      unfold exitR at h
      by_cases hk : k < ρ.length
      · simp only [hk, if_true] at h
        rintro v H' G' ρ' e p ⟨q, hq, rfl⟩ rh
        refine h _ H' G' ρ e (List.prefix_refl _) (rh.take p) ⟨q, ?_, rfl⟩
        obtain ⟨t, rfl⟩ := p
        rw [List.getElem?_append_left hk] at hq
        exact hq
      · simp only [hk, if_false] at h
        cases hc : c[k]? with
        | none => simp only [hc] at h; exact h.elim
        | some x =>
          cases x with
          | lst xs =>
            simp only [hc] at h
            rintro v H' G' ρ' e p ⟨q, hq, rfl⟩ rh
            by_cases hkp : kp = true
            · rw [if_pos hkp] at h
              exact h _ H' G' (ρ ++ [q]) e (List.prefix_append _ _) (rh.kept p (by omega) hq hc) ⟨q, by simp, rfl⟩
            · rw [if_neg hkp] at h
              obtain ⟨g, vs, ho, hl, rr⟩ := rh.at_ k q _ hq hc
              obtain ⟨e2, r2⟩ := rh.frozen p (by omega) hq ho g
              exact h _ H' _ ρ (e.trans e2) (List.prefix_refl _) r2 (Rep.lst upd_same hl (Reps.mono e2 _ _ rr))
          | dct _ => simp only [hc] at h; exact h.elim
          | lS _ => simp only [hc] at h; exact h.elim
          | tS _ => simp only [hc] at h; exact h.elim
          | tb _ => simp only [hc] at h; exact h.elim
          | dT _ => simp only [hc] at h; exact h.elim
          | obj _ _ => simp only [hc] at h; exact h.elim
theorem SReps.start {ss : List S} {vs : List V} {N : List Str} {np : Nat} (r : SReps T G ρ ss vs) (h : ss.length = np) : RelS T G ρ (L2.start N vs) (ss.map some ++ List.replicate (N.length - np) none) := by
  have hl := r.length
  refine ⟨by simp [L2.start, hl, h], fun i s e => ?_⟩
  unfold L2.start
  by_cases hi : i < ss.length
  · rw [List.getElem?_append_left (by simpa using hi), List.getElem?_map] at e
    have aux : ∀ {ss : List S} {vs : List V}, SReps T G ρ ss vs → ∀ (i : Nat) (s : S), ss[i]? = some s → ∃ v, vs[i]? = some v ∧ SRep T G ρ s v := by
      intro ss vs r
      induction r with
      | nil => intro i s e; simp at e
      | cons a _ ih =>
        intro i s e
        cases i with
        | zero => simp at e; subst e; exact ⟨_, rfl, a⟩
        | succ i => simpa using ih i s (by simpa using e)
    cases e2 : ss[i]? with
    | none => rw [e2] at e; cases e
    | some s2 =>
      rw [e2] at e
      cases e
      obtain ⟨v, hv, rv⟩ := aux r i _ e2
      exact ⟨v, by rw [List.getElem?_append_left (by simp [hl]; exact hi), List.getElem?_map, hv]; rfl, rv⟩
  · rw [List.getElem?_append_right (by simpa using hi)] at e
    rw [List.getElem?_replicate] at e
    split at e <;> cases e
end

section
variable {P : Program} {w : World} {K : PySem.W.Frag} {mg : Str → Option Value} {base : Heap} {T : Tb}
/-- a def keeps to its function -/
theorem fn_ok {kp : Bool} {x qual : Str} {st : Stmt} {f : Addr} {fd : FuncData} {N ps : List Str} {k : Nat} {body : MS} (F : Fun K x qual st f fd) (S : FnScope N ps (defScope st))
    (hbody : ∀ (cdv : Value) (A : Around) (outer : List Env) (s : Shared) (H : Hp) (E : XK), Room k (A.deeper (envOfC qual (defScope st) s.heap.objs.size f cdv)) →
      PSs (cxOf (L2.CX P w) P w K mg base N qual (defScope st) f cdv A outer s H E) (defBody st) (tS T (fun cls d _ H => E cls d H) body)) : FnOk P w K mg base (L2.CX P w) (k + 1) f fd ps (spD T (fnG kp ps.length N.length body)) := by
  refine F.okX S ?_ ?_
  · rintro vs H Q E ⟨ss, c, G, ρ, rs, rh, p⟩
    rw [rs.length]
    unfold fnG at p
    by_cases h : ss.length = ps.length
    · exact h
    · rw [if_neg h] at p; exact p.elim
  · rintro cdv A outer s H vs Q E hr ⟨ss, c, G, ρ, rs, rh, p⟩
    refine ⟨_, hbody cdv A outer s H E hr, ?_⟩
    unfold fnG at p
    by_cases h : ss.length = ps.length
    · rw [if_pos h] at p
      refine ⟨_, c, G, ρ, rs.start h, rh, ?_⟩
      rw [← rh.len] at p
      exact exit_ok p
    · rw [if_neg h] at p; exact p.elim
/-- the def x of the module keeps to fn, by level k -/
def FnAt (P : Program) (w : World) (K : PySem.W.Frag) (mg : Str → Option Value) (base : Heap) (T : Tb) (x : Str) (k : Nat) (fn : List S → Cs → R S) : Prop :=
  ∃ f fd ps, FnOk P w K mg base (L2.CX P w) k f fd ps (spD T fn) ∧ mg x = some (.ref f) ∧ PySem.W.keepIn K (.ref f) = true ∧ Binds K fd ps []
/-- the method m of class c keeps to fn -/
def MethAt (P : Program) (w : World) (K : PySem.W.Frag) (mg : Str → Option Value) (base : Heap) (T : Tb) (m : Str) (c : Nat) (k : Nat) (fn : List S → Cs → R S) : Prop :=
  ∃ f fd ps, FnOk P w K mg base (L2.CX P w) k f fd ps (spD T fn) ∧ Meth K (T.cl c) m f ∧ Cls K (T.cl c) ∧ m ∉ T.fl c ∧ Binds K fd ps []
/-- the class x, number c, is made by fn, its __init__ (its defaults ds) -/
def MakeAt (P : Program) (w : World) (K : PySem.W.Frag) (mg : Str → Option Value) (base : Heap) (T : Tb) (x : Str) (c : Nat) (nf : Nat) (k : Nat) (fn : List S → Cs → R S) : Prop :=
  ∃ f fd ps, FnOk P w K mg base (L2.CX P w) k f fd ps (spD T fn) ∧ Mk K (T.cl c) f ∧ mg x = some (.ref (T.cl c)) ∧ (T.fl c).length = nf ∧ Binds K fd ps []
end

section
variable {X : Cx} {T : Tb} {W : WX} {a b o e : Expr} {es : List Expr} {A B : M} {pos p apos : Pos} {fn : List S → Cs → R S} {k : Nat}
theorem PostF.of {G : Hp} {ρ : List Addr} {σ : L2.St} {r : R S} {Q : VK} (h : Post (SRep T) T W σ G ρ r Q) : PostF T G ρ r Q (WE W σ) := by
  cases r with
  | ok s c => exact fun v H' G' ρ' e p rh rs => h v H' G' ρ' e p rh rs
  | ex k xs c => exact fun d H' G' e rh x => h d H' G' ρ e (List.prefix_refl _) rh x
  | bad => exact h
theorem dn_call {x : Str} {B : MA} (hf : FnAt X.prog X.w X.K X.mg X.base T x k fn) (hr : Room k X.A) (tk : Takes X W) (hg : Gl X x) (ha : PA X (e :: es) (tDA T W B)) (hdb : (x == ("__debug__" : Str)) = false := by decide)
    (he : starEach (e :: es) X.env = (false, eval e X.env) :: starEach es X.env := by rfl) (hpl : (backTo pos (starEach es X.env)).any (·.1) = false := by rfl) : PE X (.Call (.Name x p) (e :: es) [] pos) (tD T W (mBlt fn B)) := by
  obtain ⟨f, fd, ps, F, hm, hk, hb⟩ := hf
  refine PE.imp (pe_callS (E := WE W) F hr hg hm hk hb (fun σ => passAt tk σ) ha hdb he hpl) fun σ H Q ⟨δ, c, G, ρ, hs, hh, p⟩ => ?_
  refine ⟨δ, c, G, ρ, hs, hh, (Post.bind (rel := SReps T) p).imp ?_⟩
  rintro v H1 ⟨ss, c1, G1, ρ1, e1, p1, h1, r1, q1⟩
  exact ⟨ss, c1, G1, ρ1, r1, h1, PostF.of q1⟩
/-! ### methods -/
def look {α : Type} : List (Nat × α) → Nat → Option α
  | [], _ => none
  | (k, a) :: r, n => if k = n then some a else look r n
theorem look_mem {α : Type} {l : List (Nat × α)} {n : Nat} {a : α} (h : look l n = some a) : (n, a) ∈ l := by
  induction l with
  | nil => cases h
  | cons q r ih =>
    obtain ⟨k, b⟩ := q
    unfold look at h
    by_cases z : k = n
    · rw [if_pos z] at h; cases h; subst z; exact List.mem_cons_self
    · rw [if_neg z] at h; exact List.mem_cons_of_mem _ (ih h)
def mMeth (tbl : List (Nat × (List S → Cs → R S))) (A : M) (B : MA) : M := fun δ c => (A δ c).bind fun o c => match deref o c with
  | some (.obj k _) => match look tbl k with
    | some fn => (B δ c).bind fun ss c => fn (o :: ss) c
    | none => .bad
  | _ => .bad
inductive MethsAt (P : Program) (w : World) (K : PySem.W.Frag) (mg : Str → Option Value) (base : Heap) (T : Tb) (m : Str) (k : Nat) : List (Nat × (List S → Cs → R S)) → Prop
  | nil : MethsAt P w K mg base T m k []
  | cons {c j : Nat} {fn : List S → Cs → R S} {l : List (Nat × (List S → Cs → R S))} : MethAt P w K mg base T m c j fn → j ≤ k → MethsAt P w K mg base T m k l → MethsAt P w K mg base T m k ((c, fn) :: l)
theorem MethsAt.get {P : Program} {w : World} {K : PySem.W.Frag} {mg : Str → Option Value} {base : Heap} {T : Tb} {m : Str} {k : Nat} {l : List (Nat × (List S → Cs → R S))} (h : MethsAt P w K mg base T m k l) {c : Nat} {fn : List S → Cs → R S} (hm : (c, fn) ∈ l) :
    ∃ j, j ≤ k ∧ MethAt P w K mg base T m c j fn := by
  induction h with
  | nil => cases hm
  | cons a b _ ih =>
    cases hm with
    | head => exact ⟨_, b, a⟩
    | tail _ hm => exact ih hm
theorem lookup_none {fv : List (Str × V)} {m : Str} (h : m ∉ fv.map (·.1)) : fv.lookup m = none := by
  induction fv with
  | nil => rfl
  | cons q r ih =>
    obtain ⟨g, v⟩ := q
    simp only [List.map_cons, List.mem_cons, not_or] at h
    have hb : (m == g) = false := beq_eq_false_iff_ne.mpr h.1
    simp only [List.lookup, hb]
    exact ih h.2
theorem dn_meth0 {m : Str} {pl : Sem Bool} {tbl : List (Nat × (List S → Cs → R S))} (he : PE X o (tD T W A)) (hf : MethsAt X.prog X.w X.K X.mg X.base T m k tbl) (hr : Room k X.A) (tk : Takes X W)
    (ht : eval (.Call (.Attribute o m apos) [] [] pos) X.env = (do
      let ov ← eval o X.env
      standAt apos.atName
      let (f, first) ← holding [ov] (getMethod ov m pl)
      callWith pos f first (backTo pos (starEach [] X.env)) (backToKw pos (keywordEach [] X.env))) := by rfl) :
    PE X (.Call (.Attribute o m apos) [] [] pos) (tD T W (mMeth tbl A mNil)) := by
  refine ⟨fun pins s σ H Q I ⟨δ, c, G, ρ, hs, hh, p⟩ => ?_⟩
  refine PySem.W.methodCall_KW (pl := pl) (thn (he.run pins s σ H _ I ⟨δ, c, G, ρ, hs, hh, Post.bind (rel := SRep T) p⟩) ?_) ht
  rintro u s1 ⟨x, H1, I1, rx, sv, c1, G1, ρ1, e1, p1, h1, r1, q1⟩
  cases hd : deref sv c1 with
  | none => simp only [hd] at q1; exact q1.elim
  | some d =>
    cases d with
    | obj k2 xs =>
      simp only [hd] at q1
      cases hl : look tbl k2 with
      | none => simp only [hl] at q1; exact q1.elim
      | some fn =>
        simp only [hl] at q1
        obtain ⟨j, hj, f, fd, ps, F, hm, hc, nf, hb⟩ := hf.get (look_mem hl)
        obtain ⟨a, dx, fv, rfl, ea, hfl, rr⟩ := deref_view h1 r1 hd
        obtain rfl : u = Value.ref a := rx
        refine getmeth_ok I1 ea hc hm (lookup_none (by rw [hfl]; exact fun z => nf (List.mem_of_mem_take z))) ?_
        exact PySem.W.callWith_K0 (first := [.ref a]) I1.kIn hm.kp (run_fnS (E := WE W) (us := [.ref a]) (vs := [.ref a]) F (hr.mono hj) hb (passAt tk σ) I1 (.cons rfl .nil) ⟨[sv], c1, G1, ρ1, .cons r1 .nil, h1, PostF.of q1⟩)
    | _ => simp only [hd] at q1; exact q1.elim

/-! ### fields -/
def FldAt (K : PySem.W.Frag) (T : Tb) (f : Str) (c i : Nat) : Prop := Cls K (T.cl c) ∧ NoAttr K (T.cl c) f ∧ (T.fl c)[i]? = some f ∧ (T.fl c).Nodup ∧ (T.fl c).length < 900
inductive FldsAt (K : PySem.W.Frag) (T : Tb) (f : Str) : List (Nat × Nat) → Prop
  | nil : FldsAt K T f []
  | cons {c i : Nat} {l : List (Nat × Nat)} : FldAt K T f c i → FldsAt K T f l → FldsAt K T f ((c, i) :: l)
theorem FldsAt.get {K : PySem.W.Frag} {T : Tb} {f : Str} {l : List (Nat × Nat)} (h : FldsAt K T f l) {c i : Nat} (hm : (c, i) ∈ l) : FldAt K T f c i := by
  induction h with
  | nil => cases hm
  | cons a _ ih =>
    cases hm with
    | head => exact a
    | tail _ hm => exact ih hm
theorem lookup_at : ∀ {fv : List (Str × V)} {i : Nat} {f : Str} {v : V}, (fv.map (·.1)).Nodup → (fv.map (·.1))[i]? = some f → (fv.map (·.2))[i]? = some v → fv.lookup f = some v
  | [], i, _, _, _, h, _ => by simp at h
  | (g, x) :: r, 0, f, v, nd, h, k => by
    simp at h k; subst h; subst k
    have hb : (g == g) = true := beq_iff_eq.mpr rfl
    simp only [List.lookup, hb]
  | (g, x) :: r, i + 1, f, v, nd, h, k => by
    simp only [List.map_cons, List.nodup_cons] at nd
    have h' : (r.map (·.1))[i]? = some f := by simpa using h
    have ne : ¬ f = g := fun z => nd.1 (z ▸ List.mem_of_getElem? h')
    have hb : (f == g) = false := beq_eq_false_iff_ne.mpr ne
    simp only [List.lookup, hb]
    exact lookup_at nd.2 h' (by simpa using k)
def mAttr (tbl : List (Nat × Nat)) (A : M) : M := fun δ c => (A δ c).bind fun o c => match deref o c with
  | some (.obj k xs) => match look tbl k with
    | some i => match xs[i]? with
      | some x => .ok (.d x) c
      | none => .bad
    | none => .bad
  | _ => .bad
theorem nd_take {l : List Str} (h : l.Nodup) (n : Nat) : (l.take n).Nodup := h.sublist (List.take_sublist n l)
theorem dn_attr {f : Str} {tbl : List (Nat × Nat)} (hT : X.K = T.K) (he : PE X o (tD T W A)) (hf : FldsAt X.K T f tbl) (hb : attributeBase o f X.env (eval o X.env) = eval o X.env) : PE X (.Attribute o f pos) (tD T W (mAttr tbl A)) := by
  refine PE.imp (pe_fld he hb) fun σ H Q ⟨δ, c, G, ρ, hs, hh, p⟩ => ?_
  refine ⟨δ, c, G, ρ, hs, hh, (Post.bind (rel := SRep T) p).imp ?_⟩
  rintro v H1 ⟨sv, c1, G1, ρ1, e1, p1, h1, r1, q1⟩
  cases hd : deref sv c1 with
  | none => simp only [hd] at q1; exact q1.elim
  | some d =>
    cases d with
    | obj k2 xs =>
      simp only [hd] at q1
      cases hl : look tbl k2 with
      | none => simp only [hl] at q1; exact q1.elim
      | some i =>
        simp only [hl] at q1
        cases hx : xs[i]? with
        | none => simp only [hx] at q1; exact q1.elim
        | some x =>
          simp only [hx] at q1
          obtain ⟨hc, hn, hi, nd, hlen⟩ := hf.get (look_mem hl)
          obtain ⟨a, dx, fv, rfl, ea, hfl, rr⟩ := deref_view h1 r1 hd
          obtain ⟨w, hw, rw'⟩ := rr.get hx
          have hil : i < xs.length := (List.getElem?_eq_some_iff.mp hx).1
          refine ⟨a, T.cl k2, dx, fv, w, rfl, ea, hc, hn, lookup_at (i := i) (by rw [hfl]; exact nd_take nd _) ?_ hw, q1 w H1 G1 ρ1 (.refl _) (List.prefix_refl _) h1 rw'⟩
          rw [hfl, List.getElem?_take_of_lt hil]
          exact hi
    | _ => simp only [hd] at q1; exact q1.elim
/-- o.f = e, o an object that is being made (a cell) -/
def setF (i : Nat) (x : D) (xs : List D) : Option (List D) := if i < xs.length then some (xs.set i x) else if i = xs.length then some (xs ++ [x]) else none
def sFldSet (tbl : List (Nat × Nat)) (A V : M) : MS := fun δ c => (V δ c).andS δ fun s c => (A δ c).andS δ fun o c => match s, o with
  | .d x, .c n => match c[n]? with
    | some (.obj k xs) => match look tbl k with
      | some i => match setF i x xs with
        | some ys => .nx δ (c.set n (.obj k ys))
        | none => .bad
      | none => .bad
    | _ => .bad
  | _, _ => .bad
theorem putF_new {f : Str} {v : V} : ∀ {fv : List (Str × V)}, f ∉ fv.map (·.1) → putF f v fv = fv ++ [(f, v)]
  | [], _ => rfl
  | (g, x) :: r, h => by
    simp only [List.map_cons, List.mem_cons, not_or] at h
    show (if g = f then (g, v) :: r else (g, x) :: putF f v r) = _
    rw [if_neg (Ne.symm h.1), putF_new h.2]
    rfl
theorem putF_old {f : Str} {v : V} : ∀ {fv : List (Str × V)} {i : Nat}, (fv.map (·.1)).Nodup → (fv.map (·.1))[i]? = some f → (putF f v fv).map (·.1) = fv.map (·.1) ∧ (putF f v fv).map (·.2) = (fv.map (·.2)).set i v
  | [], i, _, h => by simp at h
  | (g, x) :: r, 0, nd, h => by
    simp at h; subst h
    show List.map _ (if g = g then (g, v) :: r else (g, x) :: putF g v r) = _ ∧ _
    rw [if_pos rfl]
    refine ⟨rfl, ?_⟩
    show List.map _ (if g = g then (g, v) :: r else (g, x) :: putF g v r) = _
    rw [if_pos rfl]; rfl
  | (g, x) :: r, i + 1, nd, h => by
    simp only [List.map_cons, List.nodup_cons] at nd
    have h' : (r.map (·.1))[i]? = some f := by simpa using h
    have ne : ¬ g = f := fun z => nd.1 (z ▸ List.mem_of_getElem? h')
    obtain ⟨i1, i2⟩ := putF_old (v := v) nd.2 h'
    have e : putF f v ((g, x) :: r) = (g, x) :: putF f v r := by
      show (if g = f then (g, v) :: r else (g, x) :: putF f v r) = _
      rw [if_neg ne]
    rw [e]
    exact ⟨by simp [i1], by simp [i2]⟩
theorem RelH.cell {H : Hp} {c : Cs} {G : Hp} {ρ : List Addr} (r : RelH T H c G ρ) {n : Nat} {p : Addr} {ob : HO} {x : CC} (hp : ρ[n]? = some p) (hx : ∀ H', H' p = some ob → Ex G H' → CellOk T G H' (ρ.take n) p x) : RelH T (upd H p ob) (c.set n x) G ρ := by
  have hn : n < ρ.length := (List.getElem?_eq_some_iff.mp hp).1
  have hc : n < c.length := by rw [← r.len]; exact hn
  obtain ⟨y, hy⟩ : ∃ y, c[n]? = some y := ⟨c[n], List.getElem?_eq_getElem hc⟩
  obtain ⟨g, _⟩ := r.at_ n p y hp hy
  have ex' : Ex G (upd H p ob) := fun a u q => by
    rw [upd_ne (ne_of_none q g)]
    exact r.ex a u q
  refine ⟨ex', by simp [r.len], r.nd, fun i q z a b => ?_⟩
  by_cases hi : n = i
  · subst hi
    rw [List.getElem?_set_self hc] at b
    cases b
    rw [hp] at a; cases a
    exact ⟨g, hx _ upd_same ex'⟩
  · rw [List.getElem?_set_ne hi] at b
    obtain ⟨g2, k⟩ := r.at_ i q z a b
    have ne : q ≠ p := by
      intro e
      subst e
      obtain ⟨h1, e1⟩ := List.getElem?_eq_some_iff.mp a
      obtain ⟨h2, e2⟩ := List.getElem?_eq_some_iff.mp hp
      exact hi ((List.getElem_inj r.nd).mp (e1.trans e2.symm)).symm
    exact ⟨g2, k.keep (.refl _) (upd_ne ne) (List.prefix_refl _)⟩
theorem ds_fld {f : Str} {tbl : List (Nat × Nat)} {VV : M} {value : Expr} {pos' : Pos} (ha : PE X o (tD T W A)) (hv : PE X value (tD T W VV)) (hf : FldsAt X.K T f tbl) (hs : swapsWith value (some (.Attribute o f pos')) pos.line X.env = pure false := by rfl) :
    PS X (.Assign [.Attribute o f pos'] value pos) (tS T W (sFldSet tbl A VV)) := by
  refine PS.imp (ps_fld ha hv hs) fun E σ H ⟨δ, c, G, ρ, hs, hh, p⟩ => ?_
  refine ⟨δ, c, G, ρ, hs, hh, (PostS.andS (rel := SRep T) hs p).imp ?_⟩
  rintro y H1 ⟨s1, c1, G1, ρ1, e1, p1, h1, r1, q1⟩
  refine ⟨δ, c1, G1, ρ1, hs.mono e1 p1, h1, (PostS.andS (rel := SRep T) (hs.mono e1 p1) q1).imp ?_⟩
  rintro v H2 ⟨s2, c2, G2, ρ2, e2, p2, h2, r2, q2⟩
  cases s1 with
  | c _ => exact q2.elim
  | x _ _ => exact q2.elim
  | f => exact q2.elim
  | d x =>
    cases s2 with
    | d _ => exact q2.elim
    | x _ _ => exact q2.elim
    | f => exact q2.elim
    | c n =>
      obtain ⟨pa, hpa, rfl⟩ := r2
      cases hc : c2[n]? with
      | none => simp only [hc] at q2; exact q2.elim
      | some cc =>
        cases cc with
        | lst _ => simp only [hc] at q2; exact q2.elim
        | lS _ => simp only [hc] at q2; exact q2.elim
        | tS _ => simp only [hc] at q2; exact q2.elim
        | tb _ => simp only [hc] at q2; exact q2.elim
        | dT _ => simp only [hc] at q2; exact q2.elim
        | dct _ => simp only [hc] at q2; exact q2.elim
        | obj k2 xs =>
          simp only [hc] at q2
          cases hl : look tbl k2 with
          | none => simp only [hl] at q2; exact q2.elim
          | some i =>
            simp only [hl] at q2
            cases hz : setF i x xs with
            | none => simp only [hz] at q2; exact q2.elim
            | some ys =>
              simp only [hz] at q2
              obtain ⟨hcl, hn, hi, nd, hlen⟩ := hf.get (look_mem hl)
              obtain ⟨g, dx, fv, ho, hfl, rr⟩ := h2.at_ n pa _ hpa hc
              have hfvl : fv.length ≤ (T.fl k2).length := by
                have := congrArg List.length hfl
                simp at this; omega
              refine ⟨pa, T.cl k2, dx, fv, rfl, ho, hcl, hn, by omega, ?_⟩
              refine q2 σ _ G2 ρ2 (.refl _) (List.prefix_refl _) ((hs.mono e1 p1).mono e2 p2) (h2.cell hpa fun H' hH' ex' => ?_)
              have hfx : fv.length = xs.length := by have := rr.length; simpa using this
              refine ⟨dx, _, hH', ?_⟩
              have rx := Rep.mono e2 x y r1
              unfold setF at hz
              by_cases hlt : i < xs.length
              · rw [if_pos hlt] at hz; cases hz
                obtain ⟨z1, z2⟩ := putF_old (v := y) (i := i) (f := f) (fv := fv) (by rw [hfl]; exact nd_take nd _) (by rw [hfl, List.getElem?_take_of_lt hlt]; exact hi)
                exact ⟨by rw [z1, hfl, List.length_set], by rw [z2]; exact Reps.set i rr rx⟩
              · rw [if_neg hlt] at hz
                by_cases heq : i = xs.length
                · rw [if_pos heq] at hz; cases hz
                  subst heq
                  have hil := (List.getElem?_eq_some_iff.mp hi).1
                  have hgi := (List.getElem?_eq_some_iff.mp hi).2
                  have hnf : f ∉ fv.map (·.1) := by
                    rw [hfl]
                    intro hm
                    obtain ⟨j, hj, ej⟩ := List.getElem_of_mem hm
                    rw [List.getElem_take] at ej
                    rw [List.length_take] at hj
                    have := (List.getElem_inj nd).mp (ej.trans hgi.symm)
                    omega
                  rw [putF_new hnf]
                  refine ⟨?_, by rw [List.map_append]; exact Reps.append rr (Reps.cons rx Reps.nil)⟩
                  rw [List.map_append, hfl, List.length_append]
                  show _ ++ [f] = List.take (xs.length + 1) _
                  rw [List.take_succ_eq_append_getElem hil, hgi]
                · rw [if_neg heq] at hz; cases hz

/-! ### new objects -/
def fin (k nf n : Nat) : R S → R S
  | .ok (.d .non) c => match c[n]? with
    | some (.obj k2 xs) => if k2 = k ∧ xs.length = nf ∧ c.length = n + 1 then .ok (.d (.obj k xs)) (c.take n) else .bad
    | _ => .bad
  | .ex e xs c => if refsOk n xs = true then .ex e xs (c.take n) else .bad
  | _ => .bad
def mMake (k nf : Nat) (fn : List S → Cs → R S) (B : MA) : M := fun δ c => (B δ c).bind fun ss c => fin k nf c.length (fn (.c c.length :: ss) (c ++ [.obj k []]))
theorem make_core {k nf : Nat} {σ : L2.St} {H : Hp} {Q : VK} {ss : List S} {vs : List V} {c : Cs} {G : Hp} {ρ : List Addr} (hfl : (T.fl k).length = nf) (hh : RelH T H c G ρ) (rs : SReps T G ρ ss vs) (q : Post (SRep T) T W σ G ρ (fin k nf c.length (fn (.c c.length :: ss) (c ++ [.obj k []]))) Q) :
    ∀ x dx, H x = none → H dx = none → dx ≠ x → spD T fn (.ref x :: vs) (upd (upd H dx (.own x)) x (.ins (T.cl k) dx [])) (fun v H2 => v = .non ∧ Q (.ref x) H2) (WE W σ) := by
  intro x dx hx hdx ne
  have s1 : Step G H (upd G dx (.own x)) (upd H dx (.own x)) := Step.new hh.ex hdx
  have h1 := hh.step s1
  have hx1 : upd H dx (.own x) x = none := by rw [upd_ne (Ne.symm ne)]; exact hx
  have gx : upd G dx (.own x) x = none := h1.ex.back hx1
  have exx : Ex (upd G dx (.own x)) (upd (upd H dx (.own x)) x (.ins (T.cl k) dx [])) := h1.ex.trans (Ex.new hx1)
  have h2 : RelH T (upd (upd H dx (.own x)) x (.ins (T.cl k) dx [])) (c ++ [.obj k []]) (upd G dx (.own x)) (ρ ++ [x]) := by
    refine ⟨exx, by simp [h1.len], ?_, fun i p y a b => ?_⟩
    · refine List.nodup_append.mpr ⟨h1.nd, by simp, fun a ha b hb => ?_⟩
      have e : b = x := by simpa using hb
      subst e
      intro z
      subst z
      obtain ⟨i, hi, e⟩ := List.getElem_of_mem ha
      have hic : i < c.length := by rw [← h1.len]; exact hi
      obtain ⟨_, k1⟩ := h1.at_ i a c[i] (by rw [List.getElem?_eq_getElem hi, e]) (List.getElem?_eq_getElem hic)
      obtain ⟨o, ho⟩ := k1.some
      rw [hx1] at ho; cases ho
    · by_cases hi : i < ρ.length
      · rw [List.getElem?_append_left hi] at a
        rw [List.getElem?_append_left (by rw [← h1.len]; exact hi)] at b
        obtain ⟨g1, k1⟩ := h1.at_ i p y a b
        obtain ⟨o, ho⟩ := k1.some
        have np : p ≠ x := ne_of_none ho hx1
        exact ⟨g1, k1.keep (.refl _) (upd_ne np) (by rw [List.take_append_of_le_length (Nat.le_of_lt hi)]; exact List.prefix_refl _)⟩
      · have hc2 : i < (c ++ [CC.obj k []]).length := (List.getElem?_eq_some_iff.mp b).1
        have hi2 : i = ρ.length := by rw [List.length_append, ← h1.len] at hc2; simp at hc2; omega
        subst hi2
        rw [List.getElem?_append_right (Nat.le_refl _), Nat.sub_self] at a
        rw [List.getElem?_append_right (by rw [h1.len]; exact Nat.le_refl _), h1.len, Nat.sub_self] at b
        cases a; cases b
        exact ⟨gx, dx, [], upd_same, rfl, Reps.nil⟩
  refine ⟨.c c.length :: ss, c ++ [.obj k []], _, ρ ++ [x], .cons ⟨x, by rw [← hh.len]; simp, rfl⟩ (rs.mono s1.g (List.prefix_append _ _)), h2, ?_⟩
  cases hr : fn (.c c.length :: ss) (c ++ [.obj k []]) with
  | bad => rw [hr] at q; exact q
  | ex e xs c' =>
    rw [hr] at q
    have q : Post (SRep T) T W σ G ρ (if refsOk c.length xs = true then .ex e xs (c'.take c.length) else .bad) Q := q
    by_cases hr2 : refsOk c.length xs = true
    · rw [if_pos hr2] at q
      intro d H' G' eg rh xr
      refine q d H' G' ρ (s1.g.trans eg) (List.prefix_refl _) ?_ (xr.cut (List.prefix_append _ _) hh.len.symm hr2)
      have := rh.take (ρ := ρ) (List.prefix_append _ _)
      rw [hh.len] at this
      exact this
    · rw [if_neg hr2] at q; exact q.elim
  | ok s c' =>
    rw [hr] at q
    cases s with
    | c n => exact q.elim
    | x _ _ => exact q.elim
    | f => exact q.elim
    | d y =>
      cases y with
      | non =>
        unfold fin at q
        cases hc : c'[c.length]? with
        | none => simp only [hc] at q; exact q.elim
        | some cc =>
          cases cc with
          | lst _ => simp only [hc] at q; exact q.elim
          | lS _ => simp only [hc] at q; exact q.elim
          | tS _ => simp only [hc] at q; exact q.elim
          | tb _ => simp only [hc] at q; exact q.elim
          | dT _ => simp only [hc] at q; exact q.elim
          | dct _ => simp only [hc] at q; exact q.elim
          | obj k2 xs =>
            simp only [hc] at q
            by_cases hz : k2 = k ∧ xs.length = nf ∧ c'.length = c.length + 1
            · rw [if_pos hz] at q
              obtain ⟨rfl, hxl, hcl⟩ := hz
              intro v H' G' ρ' eg pr rh rv
              obtain rfl : ρ ++ [x] = ρ' := pr.eq_of_length (by rw [rh.len, hcl, List.length_append, hh.len]; rfl)
              have ev : v = .non := SRep.non_inv rv
              subst ev
              refine ⟨rfl, ?_⟩
              have hpx : (ρ ++ [x])[c.length]? = some x := by rw [← hh.len]; simp
              obtain ⟨g3, dx3, fv, ho, hfl3, rr⟩ := rh.at_ c.length x _ hpx hc
              obtain ⟨e3, r3⟩ := rh.frozen (ρ := ρ) (k := c.length) (List.prefix_append _ _) (by rw [hh.len]; exact Nat.le_refl _) hpx ho g3
              rw [hh.len] at r3
              refine q _ H' _ ρ ((s1.g.trans eg).trans e3) (List.prefix_refl _) r3 (Rep.obj upd_same ?_ (Reps.mono e3 _ _ rr))
              rw [hfl3, hxl, ← hfl, List.take_length]
            · rw [if_neg hz] at q; exact q.elim
      | _ => exact q.elim
theorem run_makeS {CX : CXT} {f C : Addr} {fd : FuncData} {ps : List Str} {sp : Sp} {E : L2.St → XK} {pins : List (Addr × Obj)} {σ : L2.St} {H : Hp} {s : Shared} {Q : VK} {us : List Value} {vs : List V} (M : Mk X.K C f) (F : FnOk X.prog X.w X.K X.mg X.base CX k f fd ps sp) (hr : Room (k + 1) X.A) (hb : Binds X.K fd ps [])
    (hx : PassesAt CX X σ (E σ)) (I : Inv X pins σ H s) (r : Vals vs us)
    (h : ∀ x dx, H x = none → H dx = none → dx ≠ x → sp (.ref x :: vs) (upd (upd H dx (.own x)) x (.ins C dx [])) (fun v H2 => v = .non ∧ Q (.ref x) H2) (E σ)) :
    wpAny (model X.prog X.w) X.A (call (.ref C) us) (EP X pins σ Q) X.xe s := by
  have hq := h (s.heap.objs.size + 1) s.heap.objs.size (I.hok.fresh (Nat.le_succ _)) (I.hok.fresh (Nat.le_refl _)) (Nat.ne_of_lt (Nat.lt_succ_self _))
  have I2 := Inv.made (C := C) I
  have r2 : Vals (V.ref (s.heap.objs.size + 1) :: vs) (Value.ref (s.heap.objs.size + 1) :: us) := .cons rfl r
  have hl : (Value.ref (s.heap.objs.size + 1) :: us).length = ps.length := by
    have e := r2.length
    rw [F.len _ _ _ _ hq] at e
    exact e.symm
  have b := hb _ (Value.ref (s.heap.objs.size + 1) :: us) I2.kIn (by rw [List.append_nil]; exact hl)
  rw [List.append_nil] at b
  refine wpAny_call (make_map (f := f) I.kIn M.makes M.init (beq_iff_eq.mp M.fn) (codeAny_mono (F.run _ X.stack _ _ ⟨Value.ref (s.heap.objs.size + 1) :: us, []⟩ (Value.ref (s.heap.objs.size + 1) :: us) _ _ (E σ) (hr.make C us [])
    (I2.env0.make C us []) b r2 hq) fun r s' hq' => ?_))
  cases r with
  | error e => exact hx pins _ _ e s' I2 hq'
  | ok fl =>
    cases fl with
    | ret u =>
      obtain ⟨v, H', I3, rv, ev, q3⟩ := I2.after hq'
      subst ev
      exact ⟨rv, ⟨V.ref (s.heap.objs.size + 1), H', I3, rfl, q3⟩⟩
    | next => exact False.elim hq'
    | brk => exact False.elim hq'
    | cont => exact False.elim hq'
theorem dn_make {x : Str} {n nf : Nat} {B : MA} (hf : MakeAt X.prog X.w X.K X.mg X.base T x n nf k fn) (hr : Room (k + 1) X.A) (tk : Takes X W) (hg : Gl X x) (ha : PA X (e :: es) (tDA T W B)) (hdb : (x == ("__debug__" : Str)) = false := by decide)
    (he : starEach (e :: es) X.env = (false, eval e X.env) :: starEach es X.env := by rfl) (hpl : (backTo pos (starEach es X.env)).any (·.1) = false := by rfl) : PE X (.Call (.Name x p) (e :: es) [] pos) (tD T W (mMake n nf fn B)) := by
  obtain ⟨f, fd, ps, F, hM, hm, hn, hb⟩ := hf
  refine ⟨fun pins s σ H Q I ⟨δ, c, G, ρ, hs, hh, p⟩ => ?_⟩
  refine wpAny_Call_Name_kw (ld_glob I hg hm ?_ hdb)
  refine PySem.W.callWith_K (h₀ := X.base) I.ok.mod.kin hM.kp (thn (ha.run pos pins s σ H _ I ⟨δ, c, G, ρ, hs, hh, Post.bind (rel := SReps T) p⟩) ?_) he hpl
  rintro us s1 ⟨vs, H1, I1, r, ss, c1, G1, ρ1, e1, p1, h1, r1, q1⟩
  exact ⟨I1.kIn, run_makeS (E := WE W) hM F hr hb (passAt tk σ) I1 r (make_core hn h1 r1 q1)⟩
end
end Dn

end
section
/-! Dn4: displays, what is walked, comprehensions, cells. -/
namespace Dn
open PySem PySem.Spec PyProof.Rows L2

section
variable {X : Cx} {T : Tb} {W : WX} {a b o e : Expr} {es : List Expr} {A B : M} {pos p apos : Pos}
/-! ### displays -/
def datas : List S → Option (List D)
  | [] => some []
  | .d x :: r => match datas r with
    | some xs => some (x :: xs)
    | none => none
  | _ :: _ => none
theorem datas_reps {G : Hp} {ρ : List Addr} : ∀ {ss : List S} {vs : List V} {ds : List D}, SReps T G ρ ss vs → datas ss = some ds → Reps T G ds vs
  | [], _, _, h, e => by cases h; cases e; exact Reps.nil
  | .c _ :: _, _, _, _, e => by cases e
  | .x _ _ :: _, _, _, _, e => by cases e
  | .f :: _, _, _, _, e => by cases e
  | .d x :: r, _, ds, h, e => by
    cases h with
    | cons h1 h2 =>
      unfold datas at e
      cases e2 : datas r with
      | none => rw [e2] at e; cases e
      | some xs =>
        rw [e2] at e
        cases e
        exact Reps.cons h1 (datas_reps h2 e2)
def mkLst (ss : List S) (c : Cs) : R S := match datas ss with
  | some xs => if xs.length ≤ sizeLine then .ok (.d (.lst xs)) c else .bad
  | none => .bad
def mkTup (ss : List S) (c : Cs) : R S := match datas ss with
  | some xs => if xs.length ≤ sizeLine then .ok (.d (.tup xs)) c else .bad
  | none => .bad
def mkCell (ss : List S) (c : Cs) : R S := match datas ss with
  | some xs => if xs.length ≤ sizeLine then .ok (.c c.length) (c ++ [.lst xs]) else .bad
  | none => .bad
def mLst (B : MA) : M := fun δ c => (B δ c).bind mkLst
def mTup (B : MA) : M := fun δ c => (B δ c).bind mkTup
/-- a list that will be changed -/
def mCell (B : MA) : M := fun δ c => (B δ c).bind mkCell
theorem dn_lst {B : MA} (h : PA X es (tDA T W B)) : PE X (.List es pos) (tD T W (mLst B)) := by
  refine PE.imp (pe_lst h) fun σ H Q ⟨δ, c, G, ρ, hs, hh, p⟩ => ?_
  refine ⟨δ, c, G, ρ, hs, hh, (Post.bind (rel := SReps T) p).imp ?_⟩
  rintro vs H1 ⟨ss, c1, G1, ρ1, e1, p1, h1, r1, q1⟩
  unfold mkLst at q1
  cases hd : datas ss with
  | none => simp only [hd] at q1; exact q1.elim
  | some xs =>
    simp only [hd] at q1
    have rr := datas_reps r1 hd
    by_cases hl : xs.length ≤ sizeLine
    · rw [if_pos hl] at q1
      refine ⟨by rw [rr.length]; exact hl, fun p hp => ?_⟩
      have st : Step G1 H1 (upd G1 p (.lst vs)) (upd H1 p (.lst vs)) := Step.new h1.ex hp
      exact q1 _ _ _ ρ1 st.g (List.prefix_refl _) (h1.step st) (Rep.lst upd_same hl (Reps.mono st.g _ _ rr))
    · rw [if_neg hl] at q1; exact q1.elim
theorem dn_tup {B : MA} {x1} (h : PA X es (tDA T W B)) : PE X (.Tuple es x1 pos) (tD T W (mTup B)) := by
  refine PE.imp (pe_tup h) fun σ H Q ⟨δ, c, G, ρ, hs, hh, p⟩ => ?_
  refine ⟨δ, c, G, ρ, hs, hh, (Post.bind (rel := SReps T) p).imp ?_⟩
  rintro vs H1 ⟨ss, c1, G1, ρ1, e1, p1, h1, r1, q1⟩
  unfold mkTup at q1
  cases hd : datas ss with
  | none => simp only [hd] at q1; exact q1.elim
  | some xs =>
    simp only [hd] at q1
    have rr := datas_reps r1 hd
    by_cases hl : xs.length ≤ sizeLine
    · rw [if_pos hl] at q1
      refine ⟨by rw [rr.length]; exact hl, fun p hp => ?_⟩
      have st : Step G1 H1 (upd G1 p (.tup vs)) (upd H1 p (.tup vs)) := Step.new h1.ex hp
      exact q1 _ _ _ ρ1 st.g (List.prefix_refl _) (h1.step st) (Rep.tup upd_same hl (Reps.mono st.g _ _ rr))
    · rw [if_neg hl] at q1; exact q1.elim
/-- a new cell -/
theorem RelH.newCell {H : Hp} {c : Cs} {G : Hp} {ρ : List Addr} {p : Addr} {ob : HO} {x : CC} (r : RelH T H c G ρ) (hp : H p = none) (hx : ∀ H', H' p = some ob → CellOk T G H' ρ p x) : RelH T (upd H p ob) (c ++ [x]) G (ρ ++ [p]) := by
  have gp : G p = none := r.ex.back hp
  have ex' : Ex G (upd H p ob) := r.ex.trans (Ex.new hp)
  refine ⟨ex', by simp [r.len], ?_, fun i q z a b => ?_⟩
  · refine List.nodup_append.mpr ⟨r.nd, by simp, fun a ha b hb => ?_⟩
    have e : b = p := by simpa using hb
    subst e
    intro z
    subst z
    obtain ⟨i, hi, e⟩ := List.getElem_of_mem ha
    have hic : i < c.length := by rw [← r.len]; exact hi
    obtain ⟨_, k1⟩ := r.at_ i a c[i] (by rw [List.getElem?_eq_getElem hi, e]) (List.getElem?_eq_getElem hic)
    obtain ⟨o, ho⟩ := k1.some
    rw [hp] at ho; cases ho
  · by_cases hi : i < ρ.length
    · rw [List.getElem?_append_left hi] at a
      rw [List.getElem?_append_left (by rw [← r.len]; exact hi)] at b
      obtain ⟨g1, k1⟩ := r.at_ i q z a b
      obtain ⟨o, ho⟩ := k1.some
      have np : q ≠ p := ne_of_none ho hp
      exact ⟨g1, k1.keep (.refl _) (upd_ne np) (by rw [List.take_append_of_le_length (Nat.le_of_lt hi)]; exact List.prefix_refl _)⟩
    · have hc2 : i < (c ++ [x]).length := (List.getElem?_eq_some_iff.mp b).1
      have hi2 : i = ρ.length := by rw [List.length_append, ← r.len] at hc2; simp at hc2; omega
      subst hi2
      rw [List.getElem?_append_right (Nat.le_refl _), Nat.sub_self] at a
      rw [List.getElem?_append_right (by rw [r.len]; exact Nat.le_refl _), r.len, Nat.sub_self] at b
      cases a; cases b
      rw [List.take_append_of_le_length (Nat.le_refl _), List.take_length]
      exact ⟨gp, hx _ upd_same⟩
theorem dn_cell {B : MA} (h : PA X es (tDA T W B)) : PE X (.List es pos) (tD T W (mCell B)) := by
  refine PE.imp (pe_lst h) fun σ H Q ⟨δ, c, G, ρ, hs, hh, p⟩ => ?_
  refine ⟨δ, c, G, ρ, hs, hh, (Post.bind (rel := SReps T) p).imp ?_⟩
  rintro vs H1 ⟨ss, c1, G1, ρ1, e1, p1, h1, r1, q1⟩
  unfold mkCell at q1
  cases hd : datas ss with
  | none => simp only [hd] at q1; exact q1.elim
  | some xs =>
    simp only [hd] at q1
    have rr := datas_reps r1 hd
    by_cases hl : xs.length ≤ sizeLine
    · rw [if_pos hl] at q1
      refine ⟨by rw [rr.length]; exact hl, fun p hp => ?_⟩
      exact q1 _ _ G1 (ρ1 ++ [p]) (.refl _) (List.prefix_append _ _) (h1.newCell hp fun H' hH' => ⟨vs, hH', hl, rr⟩) ⟨p, by rw [← h1.len]; simp, rfl⟩
    · rw [if_neg hl] at q1; exact q1.elim

/-! ### what is walked -/
theorem walk_tup {G : Hp} {ρ : List Addr} {q : Addr} {xs : List S} {vs : List V} (h : SqT T.K G q vs) (r : SReps T G ρ xs vs) : Walk T G ρ xs (Itt T.K q) := by
  refine ⟨fun i H e hi => ⟨vs, vs[i]'(by rw [r.length]; exact hi), ex_t e h, List.getElem?_eq_getElem _⟩, fun i H e hi => ⟨vs, ex_t e h, by rw [r.length]; exact hi⟩, fun i H G1 ρ1 x H' e1 pr e2 y d hd => ?_⟩
  obtain ⟨rfl, y⟩ := y
  obtain ⟨v, hv, rv⟩ := r.get hd
  have := y vs (ex_t (e1.trans e2) h)
  rw [hv] at this; cases this
  exact ⟨G1, Step.refl e2, rv.mono e1 pr⟩
theorem PI.or {tg l : Expr} {t u : TI} (h : PI X tg l t) (k : PI X tg l u) : PI X tg l (fun σ H Q => t σ H Q ∨ u σ H Q) := ⟨fun pins s σ H Q I q => q.elim (h.run pins s σ H Q I) (k.run pins s σ H Q I)⟩
/-- the items of a list or a tuple -/
def items : S → Cs → R Src
  | .d (.scr ns), c => .ok (.xs (ns.map fun n => S.d (D.int n))) c
  | .d (.lst xs), c => .ok (.xs (xs.map S.d)) c
  | .d (.tup xs), c => .ok (.xs (xs.map S.d)) c
  | .c n, c => match cellL n c with
    | some _ => .ok (.cell n) c
    | none => .bad
  | _, _ => .bad
def iSeq (A : M) : MI := fun δ c => (A δ c).bind items
theorem walk_list' {G : Hp} {ρ : List Addr} {q : Addr} {xs : List S} {vs : List V} (h : SqL T.K G q vs) (r : SReps T G ρ xs vs) : Walk T G ρ xs (Itl T.K q) := by
  refine ⟨fun i H e hi => ⟨vs, vs[i]'(by rw [r.length]; exact hi), ex_l e h, List.getElem?_eq_getElem _⟩, fun i H e hi => ⟨vs, ex_l e h, by rw [r.length]; exact hi⟩, fun i H G1 ρ1 x H' e1 pr e2 y d hd => ?_⟩
  obtain ⟨rfl, y⟩ := y
  obtain ⟨v, hv, rv⟩ := r.get hd
  have := y vs (ex_l (e1.trans e2) h)
  rw [hv] at this; cases this
  exact ⟨G1, Step.refl e2, rv.mono e1 pr⟩
theorem di_seq {tg l : Expr} (hT : X.K = T.K) (hl : PE X l (tD T W A)) : PI X tg l (tI T W (iSeq A)) := by
  refine PI.imp (PI.or (pi_list hl) (pi_tup hl)) fun σ H Q ⟨δ, c, G, ρ, hs, hh, p⟩ => ?_
  rw [hT]
  unfold iSeq at p
  cases hA : A δ c with
  | bad => rw [hA] at p; exact p.elim
  | ex k xs c' =>
    rw [hA] at p
    exact .inl ⟨δ, c, G, ρ, hs, hh, by rw [hA]; exact p⟩
  | ok s c' =>
    rw [hA] at p
    cases s with
    | c n =>
      have p : Post (relI T) T W σ G ρ (items (.c n) c') Q := p
      unfold items at p
      cases hc : cellL n c' with
      | none => simp only [hc] at p; exact p.elim
      | some xs =>
        simp only [hc] at p
        refine .inl ⟨δ, c, G, ρ, hs, hh, ?_⟩
        rw [hA]
        intro v H1 G1 ρ1 e1 p1 h1 r1
        obtain ⟨q, hq, rfl⟩ := r1
        obtain ⟨us, ho, hl, rr⟩ := cellL_rep h1 hq hc
        exact ⟨q, rfl, ⟨us, SqL.of ho⟩, p _ H1 G1 ρ1 e1 p1 h1 ⟨q, hq, rfl⟩⟩
    | x _ _ => exact p.elim
    | f => exact p.elim
    | d x =>
      cases x with
      | lst xs =>
        refine .inl ⟨δ, c, G, ρ, hs, hh, ?_⟩
        rw [hA]
        intro v H1 G1 ρ1 e1 p1 h1 r1
        obtain ⟨q, vs, rfl, sq, hl, rr⟩ := Rep.lst_inv (show Rep T G1 (.lst xs) v from r1)
        exact ⟨q, rfl, ⟨vs, SqL.of (h1.ex _ _ sq)⟩, p _ H1 G1 ρ1 e1 p1 h1 ⟨walk_list' (SqL.of sq) (.ofD rr), by simpa using hl⟩⟩
      | scr ns =>
        refine .inl ⟨δ, c, G, ρ, hs, hh, ?_⟩
        rw [hA]
        intro v H1 G1 ρ1 e1 p1 h1 r1
        obtain ⟨q, rfl, sq, hl⟩ := Rep.scr_inv (show Rep T G1 (.scr ns) v from r1)
        refine ⟨q, rfl, ⟨_, ex_l h1.ex sq⟩, p _ H1 G1 ρ1 e1 p1 h1 ⟨walk_list' sq ?_, by simpa using hl⟩⟩
        have := SReps.ofD (T := T) (ρ := ρ1) (Reps.map_int (T := T) (G := G1) ns)
        rw [List.map_map] at this
        exact this
      | tup xs =>
        refine .inr ⟨δ, c, G, ρ, hs, hh, ?_⟩
        rw [hA]
        intro v H1 G1 ρ1 e1 p1 h1 r1
        obtain ⟨q, vs, rfl, sq, hl, rr⟩ := Rep.tup_inv (show Rep T G1 (.tup xs) v from r1)
        exact ⟨q, rfl, ⟨vs, SqT.of (h1.ex _ _ sq)⟩, p _ H1 G1 ρ1 e1 p1 h1 ⟨walk_tup (SqT.of sq) (.ofD rr), by simpa using hl⟩⟩
      | _ => exact p.elim
def rngL (lo : Int) (n : Nat) : List D := (List.range n).map fun (i : Nat) => D.int (lo + (i : Int))
theorem rngL_len {lo : Int} {n : Nat} : (rngL lo n).length = n := by simp [rngL]
theorem walk_range {G : Hp} {ρ : List Addr} {lo : Int} {n : Nat} : Walk T G ρ ((rngL lo n).map S.d) (Itr lo n) := by
  refine ⟨fun i H e hi => by rw [List.length_map, rngL_len] at hi; exact hi, fun i H e hi => by rw [List.length_map, rngL_len] at hi; exact hi, fun i H G1 ρ1 x H' e1 pr e2 y d hd => ?_⟩
  obtain ⟨rfl, rfl⟩ := y
  refine ⟨G1, Step.refl e2, ?_⟩
  unfold rngL at hd
  rw [List.getElem?_map, List.getElem?_map] at hd
  cases h : (List.range n)[i]? with
  | none => rw [h] at hd; cases hd
  | some j =>
    rw [h] at hd
    have := (List.getElem?_eq_some_iff.mp h).2
    simp at this
    subst this
    cases hd
    exact SRep.int
def rng1 : List S → Cs → R Src
  | [.d (.int j)], c => if j ≤ 16777216 ∧ -(2 ^ 62) ≤ j then .ok (.xs ((rngL 0 j.toNat).map S.d)) c else .bad
  | _, _ => .bad
def iRng (B : MA) : MI := fun δ c => (B δ c).bind rng1
theorem SReps.one {G : Hp} {ρ : List Addr} {s : S} {vs : List V} (h : SReps T G ρ [s] vs) : ∃ v, vs = [v] ∧ SRep T G ρ s v := by
  cases h with
  | cons a b => cases b; exact ⟨_, rfl, a⟩
theorem SReps.two {G : Hp} {ρ : List Addr} {s t : S} {vs : List V} (h : SReps T G ρ [s, t] vs) : ∃ v u, vs = [v, u] ∧ SRep T G ρ s v ∧ SRep T G ρ t u := by
  cases h with
  | cons a b =>
    obtain ⟨u, rfl, r⟩ := b.one
    exact ⟨_, _, rfl, a, r⟩
theorem di_range {tg : Expr} {B : MA} (hg : Gl X "range") (hm : X.mg "range" = none) (ha : PA X [a] (tDA T W B)) (hs : starEach [a] X.env = [(false, eval a X.env)] := by rfl) : PI X tg (.Call (.Name "range" p) [a] [] pos) (tI T W (iRng B)) := by
  refine PI.imp (pi_range1 hg hm ha hs) fun σ H Q ⟨δ, c, G, ρ, hs, hh, p⟩ => ?_
  refine ⟨δ, c, G, ρ, hs, hh, (Post.bind (rel := SReps T) p).imp ?_⟩
  rintro vs H1 ⟨ss, c1, G1, ρ1, e1, p1, h1, r1, q1⟩
  unfold rng1 at q1
  split at q1
  · rename_i c j
    split at q1
    · rename_i hj
      obtain ⟨v, rfl, r⟩ := r1.one
      have := SRep.int_inv r
      subst this
      refine ⟨j, rfl, by omega, by omega, q1 _ H1 G1 ρ1 (.refl _) (List.prefix_refl _) h1 ⟨walk_range, ?_⟩⟩
      rw [List.length_map, rngL_len, sizeLine_eq]; omega
    · exact q1.elim
  · exact q1.elim
/-- zip of two lists, or of two tuples -/
def zipL : List D → List D → List D
  | x :: xs, y :: ys => .tup [x, y] :: zipL xs ys
  | _, _ => []
theorem zipL_get : ∀ {xs ys : List D} {i : Nat} {x y : D}, xs[i]? = some x → ys[i]? = some y → (zipL xs ys)[i]? = some (.tup [x, y])
  | [], _, _, _, _, h, _ => by simp at h
  | _ :: _, [], _, _, _, _, h => by simp at h
  | x :: xs, y :: ys, 0, _, _, h, k => by simp at h k; subst h; subst k; rfl
  | x :: xs, y :: ys, i + 1, _, _, h, k => by
    show (zipL xs ys)[i]? = _
    exact zipL_get (by simpa using h) (by simpa using k)
theorem zipL_len : ∀ (xs ys : List D), (zipL xs ys).length = min xs.length ys.length
  | [], ys => by simp [zipL]
  | _ :: _, [] => by simp [zipL]
  | x :: xs, y :: ys => by simp [zipL, zipL_len xs ys]
theorem zipL_inv {xs ys : List D} {i : Nat} {d : D} (h : (zipL xs ys)[i]? = some d) : ∃ x y, xs[i]? = some x ∧ ys[i]? = some y ∧ d = .tup [x, y] := by
  have hi := (List.getElem?_eq_some_iff.mp h).1
  rw [zipL_len] at hi
  have h1 : i < xs.length := by omega
  have h2 : i < ys.length := by omega
  have := zipL_get (List.getElem?_eq_getElem h1) (List.getElem?_eq_getElem h2)
  rw [h] at this
  exact ⟨_, _, List.getElem?_eq_getElem h1, List.getElem?_eq_getElem h2, Option.some.inj this⟩
theorem walk_zip {G : Hp} {ρ : List Addr} {p q : Addr} {xs ys : List D} {vs us : List V} (h : SqL T.K G p vs) (k : SqL T.K G q us) (r : Reps T G xs vs) (r' : Reps T G ys us) : Walk T G ρ ((zipL xs ys).map S.d) (Itz T.K p q) := by
  refine ⟨fun i H e hi => ?_, fun i H e hi => ⟨vs, us, ex_l e h, ex_l e k, ?_⟩, fun i H G1 ρ1 x H' e1 pr e2 y d hd => ?_⟩
  · rw [List.length_map, zipL_len] at hi
    exact ⟨vs, us, vs[i]'(by rw [r.length]; omega), us[i]'(by rw [r'.length]; omega), ex_l e h, ex_l e k, List.getElem?_eq_getElem _, List.getElem?_eq_getElem _⟩
  · rw [List.length_map, zipL_len] at hi
    rw [r.length, r'.length]; omega
  · obtain ⟨Tt, x1, y1, rfl, hT, rfl, y1h, y2h⟩ := y
    rw [List.getElem?_map] at hd
    obtain ⟨d0, hd0, rfl⟩ := Option.map_eq_some_iff.mp hd
    obtain ⟨d1, d2, hd1, hd2, rfl⟩ := zipL_inv hd0
    obtain ⟨v1, hv1, rv1⟩ := r.get hd1
    obtain ⟨v2, hv2, rv2⟩ := r'.get hd2
    have z1 := y1h vs (ex_l (e1.trans e2) h)
    have z2 := y2h us (ex_l (e1.trans e2) k)
    rw [hv1] at z1
    rw [hv2] at z2
    obtain rfl : v1 = x1 := Option.some.inj z1
    obtain rfl : v2 = y1 := Option.some.inj z2
    have st : Step G1 H (upd G1 Tt (.tup [v1, v2])) (upd H Tt (.tup [v1, v2])) := Step.new e2 hT
    exact ⟨_, st, Rep.tup upd_same (by show 2 ≤ sizeLine; decide) (Reps.cons (Rep.mono (e1.trans st.g) _ _ rv1) (Reps.cons (Rep.mono (e1.trans st.g) _ _ rv2) Reps.nil))⟩
theorem walk_zipT {G : Hp} {ρ : List Addr} {p q : Addr} {xs ys : List D} {vs us : List V} (h : SqT T.K G p vs) (k : SqT T.K G q us) (r : Reps T G xs vs) (r' : Reps T G ys us) : Walk T G ρ ((zipL xs ys).map S.d) (RZ.ItzT T.K p q) := by
  refine ⟨fun i H e hi => ?_, fun i H e hi => ⟨vs, us, ex_t e h, ex_t e k, ?_⟩, fun i H G1 ρ1 x H' e1 pr e2 y d hd => ?_⟩
  · rw [List.length_map, zipL_len] at hi
    exact ⟨vs, us, vs[i]'(by rw [r.length]; omega), us[i]'(by rw [r'.length]; omega), ex_t e h, ex_t e k, List.getElem?_eq_getElem _, List.getElem?_eq_getElem _⟩
  · rw [List.length_map, zipL_len] at hi
    rw [r.length, r'.length]; omega
  · obtain ⟨Tt, x1, y1, rfl, hT, rfl, y1h, y2h⟩ := y
    rw [List.getElem?_map] at hd
    obtain ⟨d0, hd0, rfl⟩ := Option.map_eq_some_iff.mp hd
    obtain ⟨d1, d2, hd1, hd2, rfl⟩ := zipL_inv hd0
    obtain ⟨v1, hv1, rv1⟩ := r.get hd1
    obtain ⟨v2, hv2, rv2⟩ := r'.get hd2
    have z1 := y1h vs (ex_t (e1.trans e2) h)
    have z2 := y2h us (ex_t (e1.trans e2) k)
    rw [hv1] at z1
    rw [hv2] at z2
    obtain rfl : v1 = x1 := Option.some.inj z1
    obtain rfl : v2 = y1 := Option.some.inj z2
    have st : Step G1 H (upd G1 Tt (.tup [v1, v2])) (upd H Tt (.tup [v1, v2])) := Step.new e2 hT
    exact ⟨_, st, Rep.tup upd_same (by show 2 ≤ sizeLine; decide) (Reps.cons (Rep.mono (e1.trans st.g) _ _ rv1) (Reps.cons (Rep.mono (e1.trans st.g) _ _ rv2) Reps.nil))⟩
def zip2 : List S → Cs → R Src
  | [.d (.lst xs), .d (.lst ys)], c => .ok (.xs ((zipL xs ys).map S.d)) c
  | [.d (.tup xs), .d (.tup ys)], c => .ok (.xs ((zipL xs ys).map S.d)) c
  | _, _ => .bad
def iZip' (B : MA) : MI := fun δ c => (B δ c).bind zip2
theorem di_zip {elts : List Expr} {kk : Nat} {tpos : Pos} {B : MA} (hT : X.K = T.K) (hg : Gl X "zip") (hm : X.mg "zip" = none) (ha : PA X [a, b] (tDA T W B)) (hs : starEach [a, b] X.env = (false, eval a X.env) :: starEach [b] X.env := by rfl) (hpl : (backTo pos (starEach [b] X.env)).any (·.1) = false := by rfl) :
    PI X (.Tuple elts kk tpos) (.Call (.Name "zip" p) [a, b] [] pos) (tI T W (iZip' B)) := by
  refine PI.imp (RZ.pi_zipA hg hm ha hs hpl) fun σ H Q ⟨δ, c, G, ρ, hs, hh, p⟩ => ?_
  refine ⟨δ, c, G, ρ, hs, hh, (Post.bind (rel := SReps T) p).imp ?_⟩
  rintro vs H1 ⟨ss, c1, G1, ρ1, e1, p1, h1, r1, q1⟩
  unfold zip2 at q1
  rw [hT]
  split at q1
  · rename_i c xs ys
    obtain ⟨v, u, rfl, r, r'⟩ := r1.two
    obtain ⟨q, vs, rfl, sq, hl, rr⟩ := Rep.lst_inv (show Rep T G1 (.lst xs) v from r)
    obtain ⟨q', vs', rfl, sq', hl', rr'⟩ := Rep.lst_inv (show Rep T G1 (.lst ys) u from r')
    refine ⟨q, q', vs, vs', rfl, .inl ⟨SqL.of (h1.ex _ _ sq), SqL.of (h1.ex _ _ sq'), q1 _ H1 G1 ρ1 (.refl _) (List.prefix_refl _) h1 ⟨walk_zip (SqL.of sq) (SqL.of sq') rr rr', ?_⟩⟩⟩
    rw [List.length_map, zipL_len]; omega
  · rename_i c xs ys
    obtain ⟨v, u, rfl, r, r'⟩ := r1.two
    obtain ⟨q, vs, rfl, sq, hl, rr⟩ := Rep.tup_inv (show Rep T G1 (.tup xs) v from r)
    obtain ⟨q', vs', rfl, sq', hl', rr'⟩ := Rep.tup_inv (show Rep T G1 (.tup ys) u from r')
    refine ⟨q, q', vs, vs', rfl, .inr ⟨SqT.of (h1.ex _ _ sq), SqT.of (h1.ex _ _ sq'), q1 _ H1 G1 ρ1 (.refl _) (List.prefix_refl _) h1 ⟨walk_zipT (SqT.of sq) (SqT.of sq') rr rr', ?_⟩⟩⟩
    rw [List.length_map, zipL_len]; omega
  · exact q1.elim

/-! ### comprehensions -/
def wipeD (δ : Sl) : List Nat → Sl
  | [] => δ
  | v :: vs => (wipeD δ vs).set v none
theorem RelS.wipe {G : Hp} {ρ : List Addr} {σ : L2.St} {δ : Sl} (r : RelS T G ρ σ δ) : ∀ vs : List Nat, RelS T G ρ (wipe σ vs) (wipeD δ vs)
  | [] => r
  | v :: vs => by unfold L2.wipe wipeD; exact (RelS.wipe r vs).unset v none
def mtYes : MT := fun _ c => .ok true c
theorem dts_nil : PTs X [] (tDT T W mtYes) := by
  refine ⟨fun pins s σ H Q I ⟨δ, c, G, ρ, hs, hh, p⟩ => ?_⟩
  exact pts_nil.run pins s σ H Q I (p true H G ρ (.refl _) (List.prefix_refl _) hh rfl)
theorem dts_one {c : Expr} {C : MT} (h : PT X c (tDT T W C)) : PTs X [c] (tDT T W C) := pts_one h
abbrev W0 : WX := fun _ _ _ _ => False
theorem wipe_get {σ : L2.St} {j : Nat} : ∀ {vs : List Nat}, (wipe σ vs)[j]? = if j ∈ vs then (if j < σ.length then some none else none) else σ[j]?
  | [] => by simp [L2.wipe]
  | v :: vs => by
    unfold L2.wipe
    by_cases h : v = j
    · subst h
      by_cases hl : v < σ.length
      · rw [List.getElem?_set_self (by rw [wipe_length]; exact hl)]; simp [hl]
      · rw [List.getElem?_eq_none (by rw [List.length_set, wipe_length]; omega)]; simp [hl]
    · rw [List.getElem?_set_ne h, wipe_get]
      have : ¬ j = v := fun z => h z.symm
      simp [this]
theorem wipe_set {σ : L2.St} {vs : List Nat} {i : Nat} {o : Option V} (h : i ∈ vs) : wipe (σ.set i o) vs = wipe σ vs := by
  apply List.ext_getElem?
  intro j
  rw [wipe_get, wipe_get]
  by_cases hj : j ∈ vs
  · simp [hj]
  · simp only [hj, if_false]
    rw [List.getElem?_set_ne]
    intro z
    subst z
    exact hj h
theorem wipe_wipe {σ : L2.St} {vs : List Nat} : wipe (wipe σ vs) vs = wipe σ vs := by
  apply List.ext_getElem?
  intro j
  rw [wipe_get, wipe_get, wipe_length]
  by_cases hj : j ∈ vs
  · simp [hj]
  · simp [hj]
/-- targets of a comprehension: the slots vs alone are changed -/
def tGv (T : Tb) (g : GT) (vs : List Nat) : TG := fun v σ H Q => ∃ s δ c G ρ δ', RelH T H c G ρ ∧ SRep T G ρ s v ∧ RelS T G ρ σ δ ∧ g s c δ = some δ' ∧ ∀ σ', RelS T G ρ σ' δ' → wipe σ' vs = wipe σ vs → Q σ' H
def tGvs (T : Tb) (g : GTs) (vs : List Nat) : TGs := fun v σ H Q => ∃ ss δ c G ρ δ', RelH T H c G ρ ∧ SReps T G ρ ss v ∧ RelS T G ρ σ δ ∧ g ss c δ = some δ' ∧ ∀ σ', RelS T G ρ σ' δ' → wipe σ' vs = wipe σ vs → Q σ' H
theorem dv_name {i : Nat} {x : Str} {vs : List Nat} (hN : X.N.Nodup) (hi : X.N[i]? = some x) (hx : Loc X.env.scope x) (hv : i ∈ vs) (hf : X.fn x = true ∨ X.env.scope.names.lookup x = some .local := by first | exact .inl rfl | exact .inr rfl | assumption) : PG X (.Name x pos) (tGv T (gtName i) vs) := by
  refine PG.imp (pg_name hN hi hx hf) ?_
  rintro v σ H Q ⟨s, δ, c, G, ρ, δ', e, r, hs, hd, q⟩
  cases hd
  exact q _ (hs.set i r) (wipe_set hv)
theorem dvs_nil {vs : List Nat} : PGs X [] (tGvs T gtNil vs) := PGs.imp pgs_nil fun v σ H Q ⟨ds, δ, c, G, ρ, δ', e, r, hs, hd, q⟩ => by
  cases ds with
  | nil => cases hd; exact ⟨r.nil_inv, q _ hs rfl⟩
  | cons _ _ => cases hd
theorem dvs_cons {e : Expr} {es : List Expr} {g : GT} {gs : GTs} {vs : List Nat} (h1 : PG X e (tGv T g vs)) (h2 : PGs X es (tGvs T gs vs))
    (hs : (assignEach (e :: es) X.env).map (·.2) = assign e X.env :: (assignEach es X.env).map (·.2) := by rfl) : PGs X (e :: es) (tGvs T (gtCons g gs) vs) := by
  refine PGs.imp (pgs_cons h1 h2 hs) fun v σ H Q ⟨ds, δ, c, G, ρ, δ', e, r, hs, hd, q⟩ => ?_
  cases ds with
  | nil => cases hd
  | cons d ds =>
    obtain ⟨v0, vr, rfl, r0, rr⟩ := r.cons_inv
    unfold gtCons at hd
    cases h : g d c δ with
    | none => simp only [h] at hd; cases hd
    | some δ1 =>
      simp only [h] at hd
      exact ⟨v0, vr, rfl, d, δ, c, G, ρ, δ1, e, r0, hs, h, fun σ' s' w1 => ⟨ds, δ1, c, G, ρ, δ', e, rr, s', hd, fun σ2 s2 w2 => q σ2 s2 (w2.trans w1)⟩⟩
theorem dv_tup {es : List Expr} {k : Nat} {gs : GTs} {n : Nat} {vs : List Nat} (hc : X.calm = true) (hT : X.K = T.K) (h : PGs X es (tGvs T gs vs)) (hl : ∀ ds c δ δ', gs ds c δ = some δ' → ds.length = n)
    (hn : (assignEach es X.env).length = n := by rfl) (hst : (assignEach es X.env).findIdx? (·.1) = none := by rfl) : PG X (.Tuple es k pos) (tGv T (gtTup gs) vs) := by
  refine PG.imp (pg_tup hc h hn hst) fun v σ H Q ⟨s, δ, c, G, ρ, δ', e, r, hs, hd, q⟩ => ?_
  unfold gtTup at hd
  cases ht : tupOf s c with
  | none => simp only [ht] at hd; cases hd
  | some ss =>
    simp only [ht] at hd
    obtain ⟨p, vs, rfl, hp, rr⟩ := tupOf_rep e r ht
    exact ⟨p, vs, rfl, SqT.of hp, by rw [rr.length]; exact hl ss c δ δ' hd, ss, δ, c, G, ρ, δ', e, rr, hs, hd, q⟩
/-- an error is not carried on -/
def R.bindN {α β : Type} : R α → (α → Cs → R β) → R β
  | .ok a c, f => f a c
  | _, _ => .bad
theorem Post.bindN {α β γ ε : Type} {rel : Hp → List Addr → α → β → Prop} {rel2 : Hp → List Addr → γ → ε → Prop} {r : R α} {f : α → Cs → R γ} {Q2 : ε → Hp → Prop} {σ σ' : L2.St} {Go G : Hp} {ρo ρ : List Addr} {Wx : WX} (h : Post rel2 T W σ Go ρo (r.bindN f) Q2) :
    Post rel T Wx σ' G ρ r (fun v H1 => ∃ a c G1 ρ1, Ex G G1 ∧ ρ <+: ρ1 ∧ RelH T H1 c G1 ρ1 ∧ rel G1 ρ1 a v ∧ Post rel2 T W σ Go ρo (f a c) Q2) := by
  cases r with
  | ok a c => exact fun v H' G' ρ' e p q z => ⟨a, c, G', ρ', e, p, q, z, h⟩
  | ex k xs c => exact False.elim h
  | bad => exact h
def cloop (g : GT) (C : MT) (body : Sl → Cs → R Unit) (δ : Sl) : List S → Cs → R Unit
  | [], c => .ok () c
  | d :: ds, c => match g d c δ with
    | none => .bad
    | some δ1 => (C δ1 c).bindN fun k c => if k = true then (body δ1 c).bindN fun _ c => cloop g C body δ ds c else cloop g C body δ ds c
theorem bindN_assoc {α β γ : Type} {r : R α} {f : α → Cs → R β} {k : β → Cs → R γ} : (r.bindN f).bindN k = r.bindN fun a c => (f a c).bindN k := by
  cases r <;> rfl
theorem lc_loop {G1 Gw : Hp} {ρm ρw : List Addr} {xs : List S} {J : It} {g : GT} {C : MT} {body : Sl → Cs → R Unit} {δ : Sl} {σw : L2.St} {vs : List Nat} {H0 : Hp} {c0 : Cs} {Go : Hp} {ρo : List Addr} {σ : L2.St} {Q : VK} {kf : Unit → Cs → R S} {BODY : L2.St → Hp → (Hp → Prop) → Prop} {Qend : Hp → Prop}
    (hw : Walk T Gw ρw xs J) (hwg : Ex Gw G1) (hwr : ρw <+: ρm) (hs : RelS T G1 ρm σw δ) (hww : wipe σw vs = σw) (h0 : RelH T H0 c0 G1 ρm) (p0 : Post (SRep T) T W σ Go ρo ((cloop g C body δ xs c0).bindN kf) Q)
    (hend : ∀ H c G ρ', Ex G1 G → ρm <+: ρ' → RelH T H c G ρ' → Post (SRep T) T W σ Go ρo (kf () c) Q → Qend H)
    (hbody : ∀ (δ1 : Sl) (σ2 : L2.St) (H3 : Hp) (c : Cs) (G : Hp) (ρ' : List Addr) (N : Hp → Prop) (f : Unit → Cs → R S), Ex G1 G → ρm <+: ρ' → RelS T G ρ' σ2 δ1 → RelH T H3 c G ρ' → Post (SRep T) T W σ Go ρo ((body δ1 c).bindN f) Q →
      (∀ H' c' G' ρ'', Ex G G' → ρ' <+: ρ'' → RelH T H' c' G' ρ'' → Post (SRep T) T W σ Go ρo (f () c') Q → N H') → BODY σ2 H3 N) :
    ∃ Wv : Nat → Nat → Hp → Prop, (∃ m, Wv 0 m H0) ∧ ∀ i m H, Wv i m H → (J.stop i H ∧ Qend H) ∨ (J.go i H ∧ ∃ Nx : Hp → Prop, (∀ H', Nx H' → ∃ m', m' < m ∧ Wv (i + 1) m' H') ∧ ∀ x H', J.yld i H x H' →
      tGv T g vs x σw H' fun σ2 H2 => wipe σ2 vs = σw ∧ tDT T W0 C σ2 H2 fun b H3 => if b = true then BODY σ2 H3 Nx else Nx H3) := by
  refine ⟨fun i m H => m = xs.length - i ∧ i ≤ xs.length ∧ ∃ c G ρ', Ex G1 G ∧ ρm <+: ρ' ∧ RelH T H c G ρ' ∧ Post (SRep T) T W σ Go ρo ((cloop g C body δ (xs.drop i) c).bindN kf) Q,
    ⟨xs.length, by simp, Nat.zero_le _, c0, G1, ρm, .refl _, List.prefix_refl _, h0, by simpa using p0⟩, ?_⟩
  rintro i m H ⟨rfl, hi, c, G, ρ', e1, q1, hh, p⟩
  by_cases hlt : i < xs.length
  · refine .inr ⟨hw.go i H ((hwg.trans e1).trans hh.ex) hlt, fun H' => i + 1 ≤ xs.length ∧ ∃ c G ρ', Ex G1 G ∧ ρm <+: ρ' ∧ RelH T H' c G ρ' ∧ Post (SRep T) T W σ Go ρo ((cloop g C body δ (xs.drop (i + 1)) c).bindN kf) Q,
      fun H' ⟨z1, z2⟩ => ⟨xs.length - (i + 1), by omega, rfl, z1, z2⟩, fun x H' y => ?_⟩
    obtain ⟨G3, st, rx⟩ := hw.yld i H G ρ' x H' (hwg.trans e1) (hwr.trans q1) hh.ex y xs[i] (List.getElem?_eq_getElem hlt)
    rw [List.drop_eq_getElem_cons hlt] at p
    unfold cloop at p
    cases hg : g xs[i] c δ with
    | none => simp only [hg] at p; exact p.elim
    | some δ1 =>
      simp only [hg] at p
      rw [bindN_assoc] at p
      refine ⟨xs[i], δ, c, G3, ρ', δ1, hh.step st, rx, (hs.mono e1 q1).mono st.g (List.prefix_refl _), hg, fun σ2 s2 w2 => ⟨w2.trans hww, ?_⟩⟩
      refine ⟨δ1, c, G3, ρ', s2, hh.step st, (Post.bindN (rel := relB) p).imp ?_⟩
      rintro v H3 ⟨k, c3, G4, ρ4, e4, p4, h4, r4, q4⟩
      have r4 : v = k := r4
      subst r4
      cases v with
      | false => exact ⟨hlt, c3, G4, ρ4, (e1.trans st.g).trans e4, q1.trans p4, h4, q4⟩
      | true =>
        have q4 : Post (SRep T) T W σ Go ρo (((body δ1 c3).bindN fun _ c => cloop g C body δ (List.drop (i + 1) xs) c).bindN kf) Q := q4
        rw [bindN_assoc] at q4
        refine hbody δ1 σ2 H3 c3 G4 ρ4 _ (fun _ c => (cloop g C body δ (List.drop (i + 1) xs) c).bindN kf) ((e1.trans st.g).trans e4) (q1.trans p4) (s2.mono e4 p4) h4 q4 ?_
        exact fun H' c' G' ρ'' e' p' h' q' => ⟨hlt, c', G', ρ'', ((e1.trans st.g).trans e4).trans e', (q1.trans p4).trans p', h', q'⟩
  · have e : i = xs.length := by omega
    subst e
    rw [List.drop_length] at p
    exact .inl ⟨hw.stop _ H ((hwg.trans e1).trans hh.ex) (Nat.le_refl _), hend H c G ρ' e1 q1 hh p⟩
def cloopC (n : Nat) (g : GT) (C : MT) (body : Sl → Cs → R Unit) (δ : Sl) : Nat → Nat → Cs → R Unit
  | 0, _, _ => .bad
  | f + 1, i, c => match cellL n c with
    | some xs => match xs[i]? with
      | none => .ok () c
      | some d => match g d c δ with
        | none => .bad
        | some δ1 => (C δ1 c).bindN fun k c => if k = true then (body δ1 c).bindN fun _ c => cloopC n g C body δ f (i + 1) c else cloopC n g C body δ f (i + 1) c
    | none => .bad
theorem lc_loopC {n : Nat} {q : Addr} {f0 : Nat} {G1 : Hp} {ρm : List Addr} {g : GT} {C : MT} {body : Sl → Cs → R Unit} {δ : Sl} {σw : L2.St} {vs : List Nat} {H0 : Hp} {c0 : Cs} {Go : Hp} {ρo : List Addr} {σ : L2.St} {Q : VK} {kf : Unit → Cs → R S} {BODY : L2.St → Hp → (Hp → Prop) → Prop} {Qend : Hp → Prop}
    (hn : ρm[n]? = some q) (hs : RelS T G1 ρm σw δ) (hww : wipe σw vs = σw) (h0 : RelH T H0 c0 G1 ρm) (p0 : Post (SRep T) T W σ Go ρo ((cloopC n g C body δ f0 0 c0).bindN kf) Q)
    (hend : ∀ H c G ρ', Ex G1 G → ρm <+: ρ' → RelH T H c G ρ' → Post (SRep T) T W σ Go ρo (kf () c) Q → Qend H)
    (hbody : ∀ (δ1 : Sl) (σ2 : L2.St) (H3 : Hp) (c : Cs) (G : Hp) (ρ' : List Addr) (N : Hp → Prop) (f : Unit → Cs → R S), Ex G1 G → ρm <+: ρ' → RelS T G ρ' σ2 δ1 → RelH T H3 c G ρ' → Post (SRep T) T W σ Go ρo ((body δ1 c).bindN f) Q →
      (∀ H' c' G' ρ'', Ex G G' → ρ' <+: ρ'' → RelH T H' c' G' ρ'' → Post (SRep T) T W σ Go ρo (f () c') Q → N H') → BODY σ2 H3 N) :
    ∃ Wv : Nat → Nat → Hp → Prop, (∃ m, Wv 0 m H0) ∧ ∀ i m H, Wv i m H → ((Itl T.K q).stop i H ∧ Qend H) ∨ ((Itl T.K q).go i H ∧ ∃ Nx : Hp → Prop, (∀ H', Nx H' → ∃ m', m' < m ∧ Wv (i + 1) m' H') ∧ ∀ x H', (Itl T.K q).yld i H x H' →
      tGv T g vs x σw H' fun σ2 H2 => wipe σ2 vs = σw ∧ tDT T W0 C σ2 H2 fun b H3 => if b = true then BODY σ2 H3 Nx else Nx H3) := by
  refine ⟨fun i m H => ∃ c G ρ', Ex G1 G ∧ ρm <+: ρ' ∧ RelH T H c G ρ' ∧ Post (SRep T) T W σ Go ρo ((cloopC n g C body δ m i c).bindN kf) Q, ⟨f0, c0, G1, ρm, .refl _, List.prefix_refl _, h0, p0⟩, ?_⟩
  rintro i m H ⟨c, G, ρ', e1, q1, hh, p⟩
  cases m with
  | zero => exact p.elim
  | succ m =>
    unfold cloopC at p
    cases hc : cellL n c with
    | none => simp only [hc] at p; exact p.elim
    | some xs =>
      simp only [hc] at p
      obtain ⟨us, ho, hl, rr⟩ := cellL_rep hh (pre_get q1 hn) hc
      cases hx : xs[i]? with
      | none =>
        simp only [hx] at p
        refine .inl ⟨⟨us, SqL.of ho, ?_⟩, hend H c G ρ' e1 q1 hh p⟩
        rw [rr.length]
        exact List.getElem?_eq_none_iff.mp hx
      | some d =>
        simp only [hx] at p
        obtain ⟨u, hu, ru⟩ := rr.get hx
        refine .inr ⟨⟨us, u, SqL.of ho, hu⟩, fun H' => ∃ c G ρ', Ex G1 G ∧ ρm <+: ρ' ∧ RelH T H' c G ρ' ∧ Post (SRep T) T W σ Go ρo ((cloopC n g C body δ m (i + 1) c).bindN kf) Q, fun H' z => ⟨m, Nat.lt_succ_self m, z⟩, fun x H' y => ?_⟩
        obtain ⟨rfl, y⟩ := y
        have ex := y us (SqL.of ho)
        rw [hu] at ex
        cases ex
        cases hg : g d c δ with
        | none => simp only [hg] at p; exact p.elim
        | some δ1 =>
          simp only [hg] at p
          rw [bindN_assoc] at p
          refine ⟨d, δ, c, G, ρ', δ1, hh, ru, hs.mono e1 q1, hg, fun σ2 s2 w2 => ⟨w2.trans hww, ?_⟩⟩
          refine ⟨δ1, c, G, ρ', s2, hh, (Post.bindN (rel := relB) p).imp ?_⟩
          rintro v H3 ⟨k, c3, G4, ρ4, e4, p4, h4, r4, q4⟩
          have r4 : v = k := r4
          subst r4
          cases v with
          | false => exact ⟨c3, G4, ρ4, e1.trans e4, q1.trans p4, h4, q4⟩
          | true =>
            have q4 : Post (SRep T) T W σ Go ρo (((body δ1 c3).bindN fun _ c => cloopC n g C body δ m (i + 1) c).bindN kf) Q := q4
            rw [bindN_assoc] at q4
            exact hbody δ1 σ2 H3 c3 G4 ρ4 _ (fun _ c => (cloopC n g C body δ m (i + 1) c).bindN kf) (e1.trans e4) (q1.trans p4) (s2.mono e4 p4) h4 q4 fun H' c' G' ρ'' e' p' h' q' => ⟨c', G', ρ'', (e1.trans e4).trans e', (q1.trans p4).trans p', h', q'⟩
def cloopI (g : GT) (C : MT) (body : Sl → Cs → R Unit) (δ : Sl) (s : Src) (c : Cs) : R Unit := match s with
  | .xs l => cloop g C body δ l c
  | .cell n => match cellL n c with
    | some xs => cloopC n g C body δ (xs.length + 1) 0 c
    | none => .bad
theorem lc_loopI {G1 Gw : Hp} {ρm ρw : List Addr} {src : Src} {J : It} {g : GT} {C : MT} {body : Sl → Cs → R Unit} {δ : Sl} {σw : L2.St} {vs : List Nat} {H0 : Hp} {c0 : Cs} {Go : Hp} {ρo : List Addr} {σ : L2.St} {Q : VK} {kf : Unit → Cs → R S} {BODY : L2.St → Hp → (Hp → Prop) → Prop} {Qend : Hp → Prop}
    (hw : relI T Gw ρw src J) (hwg : Ex Gw G1) (hwr : ρw <+: ρm) (hs : RelS T G1 ρm σw δ) (hww : wipe σw vs = σw) (h0 : RelH T H0 c0 G1 ρm) (p0 : Post (SRep T) T W σ Go ρo ((cloopI g C body δ src c0).bindN kf) Q)
    (hend : ∀ H c G ρ', Ex G1 G → ρm <+: ρ' → RelH T H c G ρ' → Post (SRep T) T W σ Go ρo (kf () c) Q → Qend H)
    (hbody : ∀ (δ1 : Sl) (σ2 : L2.St) (H3 : Hp) (c : Cs) (G : Hp) (ρ' : List Addr) (N : Hp → Prop) (f : Unit → Cs → R S), Ex G1 G → ρm <+: ρ' → RelS T G ρ' σ2 δ1 → RelH T H3 c G ρ' → Post (SRep T) T W σ Go ρo ((body δ1 c).bindN f) Q →
      (∀ H' c' G' ρ'', Ex G G' → ρ' <+: ρ'' → RelH T H' c' G' ρ'' → Post (SRep T) T W σ Go ρo (f () c') Q → N H') → BODY σ2 H3 N) :
    ∃ Wv : Nat → Nat → Hp → Prop, (∃ m, Wv 0 m H0) ∧ ∀ i m H, Wv i m H → (J.stop i H ∧ Qend H) ∨ (J.go i H ∧ ∃ Nx : Hp → Prop, (∀ H', Nx H' → ∃ m', m' < m ∧ Wv (i + 1) m' H') ∧ ∀ x H', J.yld i H x H' →
      tGv T g vs x σw H' fun σ2 H2 => wipe σ2 vs = σw ∧ tDT T W0 C σ2 H2 fun b H3 => if b = true then BODY σ2 H3 Nx else Nx H3) := by
  cases src with
  | xs l => exact lc_loop hw.1 hwg hwr hs hww h0 p0 hend hbody
  | cell n =>
    obtain ⟨q, hq, rfl⟩ := hw
    unfold cloopI at p0
    cases hc : cellL n c0 with
    | none => simp only [hc] at p0; exact p0.elim
    | some xs =>
      simp only [hc] at p0
      exact lc_loopC (pre_get hwr hq) hs hww h0 p0 hend hbody
/-- a new item at the end of cell n -/
def push (n : Nat) : S → Cs → R Unit
  | .d x, c => match c[n]? with
    | some (.lst acc) => if acc.length < sizeLine then .ok () (c.set n (.lst (acc ++ [x]))) else .bad
    | _ => .bad
  | _, _ => .bad
/-- the cell n becomes data; the cells from n on are left -/
def finC (n : Nat) (c : Cs) : R S := match c[n]? with
  | some (.lst acc) => .ok (.d (.lst acc)) (c.take n)
  | _ => .bad
/-- .. it stays a cell -/
def finK (n : Nat) (c : Cs) : R S := if c.length = n + 1 then .ok (.c n) c else .bad
def mComp (I : MI) (g : GT) (C : MT) (A : M) (vs : List Nat) : M := fun δ c => (I δ c).bind fun xs c => (cloopI g C (fun δ1 c1 => (A δ1 c1).bindN (push c.length)) (wipeD δ vs) xs (c ++ [.lst []])).bindN fun _ c2 => finC c.length c2
def mCompK (I : MI) (g : GT) (C : MT) (A : M) (vs : List Nat) : M := fun δ c => (I δ c).bind fun xs c => (cloopI g C (fun δ1 c1 => (A δ1 c1).bindN (push c.length)) (wipeD δ vs) xs (c ++ [.lst []])).bindN fun _ c2 => finK c.length c2
def mComp2 (I : MI) (g : GT) (C : MT) (I1 : MI) (g1 : GT) (C1 : MT) (A : M) (vs vs1 : List Nat) : M := fun δ c => (I δ c).bind fun xs c =>
  (cloopI g C (fun δ1 c1 => (I1 δ1 c1).bindN fun ys c1 => cloopI g1 C1 (fun δ2 c2 => (A δ2 c2).bindN (push c.length)) (wipeD δ1 vs1) ys c1) (wipeD δ vs) xs (c ++ [.lst []])).bindN fun _ c2 => finC c.length c2
theorem push_ok {D0 : Addr} {n : Nat} {s : S} {y : V} {c : Cs} {G H : Hp} {ρ : List Addr} {Go : Hp} {ρo : List Addr} {σ : L2.St} {Q : VK} {f : Unit → Cs → R S} {N : Hp → Prop} (hh : RelH T H c G ρ) (hD : ρ[n]? = some D0) (rs : SRep T G ρ s y) (p : Post (SRep T) T W σ Go ρo ((push n s c).bindN f) Q)
    (k : ∀ H' c' G' ρ'', Ex G G' → ρ <+: ρ'' → RelH T H' c' G' ρ'' → Post (SRep T) T W σ Go ρo (f () c') Q → N H') : ∃ acc, H D0 = some (.lst acc) ∧ acc.length < sizeLine ∧ N (upd H D0 (.lst (acc ++ [y]))) := by
  cases s with
  | c _ => exact p.elim
  | x _ _ => exact p.elim
  | f => exact p.elim
  | d x =>
    unfold push at p
    cases hc : c[n]? with
    | none => simp only [hc] at p; exact p.elim
    | some cc =>
      cases cc with
      | lst acc =>
        simp only [hc] at p
        by_cases hl : acc.length < sizeLine
        · rw [if_pos hl] at p
          obtain ⟨g, vs, ho, hl2, rr⟩ := hh.at_ n D0 _ hD hc
          refine ⟨vs, ho, by rw [rr.length]; exact hl, k _ (c.set n (.lst (acc ++ [x]))) G ρ (.refl _) (List.prefix_refl _) (hh.cell (x := .lst (acc ++ [x])) hD fun H' hH' _ => ⟨_, hH', by rw [List.length_append]; simp; omega, Reps.append rr (Reps.cons rs Reps.nil)⟩) p⟩
        · rw [if_neg hl] at p; exact p.elim
      | dct _ => simp only [hc] at p; exact p.elim
      | lS _ => simp only [hc] at p; exact p.elim
      | tS _ => simp only [hc] at p; exact p.elim
      | tb _ => simp only [hc] at p; exact p.elim
      | dT _ => simp only [hc] at p; exact p.elim
      | obj _ _ => simp only [hc] at p; exact p.elim
theorem finC_ok {D0 : Addr} {c : Cs} {G H : Hp} {ρ : List Addr} {Go : Hp} {ρo : List Addr} {σ : L2.St} {Q : VK} (eg : Ex Go G) (hp : ρo ++ [D0] <+: ρ) (hh : RelH T H c G ρ) (p : Post (SRep T) T W σ Go ρo (finC ρo.length c) Q) : Q (.ref D0) H := by
  have hD : ρ[ρo.length]? = some D0 := pre_get hp (by simp)
  unfold finC at p
  cases hc : c[ρo.length]? with
  | none => simp only [hc] at p; exact p.elim
  | some cc =>
    cases cc with
    | lst acc =>
      simp only [hc] at p
      obtain ⟨g, vs, ho, hl2, rr⟩ := hh.at_ _ D0 _ hD hc
      obtain ⟨e3, r3⟩ := hh.frozen (ρ := ρo) ((List.prefix_append _ _).trans hp) (Nat.le_refl _) hD ho g
      exact p _ H _ ρo (eg.trans e3) (List.prefix_refl _) r3 (Rep.lst upd_same hl2 (Reps.mono e3 _ _ rr))
    | dct _ => simp only [hc] at p; exact p.elim
    | lS _ => simp only [hc] at p; exact p.elim
    | tS _ => simp only [hc] at p; exact p.elim
    | tb _ => simp only [hc] at p; exact p.elim
    | dT _ => simp only [hc] at p; exact p.elim
    | obj _ _ => simp only [hc] at p; exact p.elim
theorem finK_ok {D0 : Addr} {c : Cs} {G H : Hp} {ρ : List Addr} {Go : Hp} {ρo : List Addr} {σ : L2.St} {Q : VK} (eg : Ex Go G) (hp : ρo ++ [D0] <+: ρ) (hh : RelH T H c G ρ) (p : Post (SRep T) T W σ Go ρo (finK ρo.length c) Q) : Q (.ref D0) H := by
  have hD : ρ[ρo.length]? = some D0 := pre_get hp (by simp)
  unfold finK at p
  by_cases hl : c.length = ρo.length + 1
  · rw [if_pos hl] at p
    exact p _ H _ ρ eg ((List.prefix_append _ _).trans hp) hh ⟨D0, hD, rfl⟩
  · rw [if_neg hl] at p; exact p.elim
section
variable {elt tg iter : Expr} {ifs : List Expr} {scope : Scope} {own : List (Str × Nat)} {I : MI} {g : GT} {C : MT}
theorem tD_comp {fin : Nat → Cs → R S} (hfin : ∀ {D0 : Addr} {c : Cs} {G H : Hp} {ρ : List Addr} {Go : Hp} {ρo : List Addr} {σ : L2.St} {Q : VK}, Ex Go G → ρo ++ [D0] <+: ρ → RelH T H c G ρ → Post (SRep T) T W σ Go ρo (fin ρo.length c) Q → Q (.ref D0) H)
    {vs : List Nat} {σ : L2.St} {H : Hp} {Q : VK} (h : tD T W (fun δ c => (I δ c).bind fun xs c => (cloopI g C (fun δ1 c1 => (A δ1 c1).bindN (push c.length)) (wipeD δ vs) xs (c ++ [.lst []])).bindN fun _ c2 => fin c.length c2) σ H Q) :
    tLc (tI T W I) (tGv T g vs) (tDT T W0 C) (tD T W0 A) vs σ H Q := by
  obtain ⟨δ, c, G, ρ, hs, hh, p⟩ := h
  refine ⟨δ, c, G, ρ, hs, hh, (Post.bind (rel := relI T) p).imp ?_⟩
  rintro J H1 ⟨xs, c1, G1, ρ1, e1, p1, h1, wk, q1⟩ D0 hD0
  have hn : RelH T (upd H1 D0 (.lst [])) (c1 ++ [.lst []]) G1 (ρ1 ++ [D0]) := h1.newCell hD0 fun H' hH' => ⟨[], hH', Nat.zero_le _, Reps.nil⟩
  refine lc_loopI (ρm := ρ1 ++ [D0]) (BODY := fun σ2 H3 N => tD T W0 A σ2 H3 fun y H4 => ∃ acc, H4 D0 = some (.lst acc) ∧ acc.length < sizeLine ∧ N (upd H4 D0 (.lst (acc ++ [y])))) wk (.refl _) (List.prefix_append _ _) (((hs.mono e1 p1).mono (.refl _) (List.prefix_append _ _)).wipe vs) wipe_wipe hn q1 ?_ ?_
  · intro H c G ρ' e q hh p
    rw [← h1.len] at p
    exact hfin e q hh p
  · intro δ1 σ2 H3 c3 G3 ρ3 N f e3 p3 s3 h3 q3 kk
    rw [bindN_assoc] at q3
    refine ⟨δ1, c3, G3, ρ3, s3, h3, (Post.bindN (rel := SRep T) q3).imp ?_⟩
    rintro y H4 ⟨s, c4, G4, ρ4, e4, p4, h4, r4, q4⟩
    exact push_ok h4 (pre_get (p3.trans p4) (by rw [← h1.len]; simp)) r4 q4 fun H' c' G' ρ'' e' p' h' q' => kk H' c' G' ρ'' (e4.trans e') (p4.trans p') h' q'
theorem dn_comp (hc : X.calm = true) (hN : X.N.Nodup) (hi : PI X tg iter (tI T W I)) (ok : BlkOk X.N X.env.scope scope own)
    (hg : ∀ (s : Shared) (H : Hp) (C : Addr) (cl : List (Str × Addr)) (fp : List Addr), PG (X.blk s H scope (compEnvC scope cl C X.env) fp) tg (tGv T g (own.map (·.2)))) (ht : ∀ (s : Shared) (H : Hp) (C0 : Addr) (cl : List (Str × Addr)) (fp : List Addr), PTs (X.blk s H scope (compEnvC scope cl C0 X.env) fp) ifs (tDT T W0 C))
    (he : ∀ (s : Shared) (H : Hp) (C : Addr) (cl : List (Str × Addr)) (fp : List Addr), PE (X.blk s H scope (compEnvC scope cl C X.env) fp) elt (tD T W0 A)) (hs : ∀ x, foldedSetIterable iter X.env x = pure x := by intro _; rfl) :
    PE X (.ListComp elt [⟨tg, iter, ifs, 0⟩] scope pos) (tD T W (mComp I g C A (own.map (·.2)))) :=
  PE.imp (pe_lc hc hN hi ok hg ht he hs) fun _ _ _ h => tD_comp (fin := finC) finC_ok h
theorem tS_setR {i : Nat} {E : Ends} {σ : L2.St} {H : Hp} {te : TE} (hte : ∀ σ H Q, tD T W A σ H Q → te σ H Q) (h : tS T W (sSet i A) E σ H) : tAsg te (gName i) E σ H := hte _ _ _ (tS_set h)
theorem ds_setComp {i : Nat} {y : Str} {py spos : Pos} (hc : X.calm = true) (hN : X.N.Nodup) (hy : X.N[i]? = some y) (hyl : X.env.scope.names.lookup y = some .local)
    (hsw : swapsWith (.ListComp elt [⟨tg, iter, ifs, 0⟩] scope pos) (some (.Name y py)) spos.line X.env = pure true) (hi : PI X tg iter (tI T W I)) (ok : BlkOk X.N X.env.scope scope own)
    (hg : ∀ (s : Shared) (H : Hp) (C : Addr) (cl : List (Str × Addr)) (fp : List Addr), PG (X.blk s H scope (compEnvC scope cl C X.env) fp) tg (tGv T g (own.map (·.2)))) (ht : ∀ (s : Shared) (H : Hp) (C0 : Addr) (cl : List (Str × Addr)) (fp : List Addr), PTs (X.blk s H scope (compEnvC scope cl C0 X.env) fp) ifs (tDT T W0 C))
    (he : ∀ (s : Shared) (H : Hp) (C : Addr) (cl : List (Str × Addr)) (fp : List Addr), PE (X.blk s H scope (compEnvC scope cl C X.env) fp) elt (tD T W0 A)) (hs : ∀ x, foldedSetIterable iter X.env x = pure x := by intro _; rfl) :
    PS X (.Assign [.Name y py] (.ListComp elt [⟨tg, iter, ifs, 0⟩] scope pos) spos) (tS T W (sSet i (mComp I g C A (own.map (·.2))))) :=
  PS.imp (ps_setLc hc hN hy hyl hsw hi ok hg ht he hs) fun _ _ _ h => tS_setR (fun _ _ _ h => tD_comp (fin := finC) finC_ok h) h
theorem ds_setCompK {i : Nat} {y : Str} {py spos : Pos} (hc : X.calm = true) (hN : X.N.Nodup) (hy : X.N[i]? = some y) (hyl : X.env.scope.names.lookup y = some .local)
    (hsw : swapsWith (.ListComp elt [⟨tg, iter, ifs, 0⟩] scope pos) (some (.Name y py)) spos.line X.env = pure true) (hi : PI X tg iter (tI T W I)) (ok : BlkOk X.N X.env.scope scope own)
    (hg : ∀ (s : Shared) (H : Hp) (C : Addr) (cl : List (Str × Addr)) (fp : List Addr), PG (X.blk s H scope (compEnvC scope cl C X.env) fp) tg (tGv T g (own.map (·.2)))) (ht : ∀ (s : Shared) (H : Hp) (C0 : Addr) (cl : List (Str × Addr)) (fp : List Addr), PTs (X.blk s H scope (compEnvC scope cl C0 X.env) fp) ifs (tDT T W0 C))
    (he : ∀ (s : Shared) (H : Hp) (C : Addr) (cl : List (Str × Addr)) (fp : List Addr), PE (X.blk s H scope (compEnvC scope cl C X.env) fp) elt (tD T W0 A)) (hs : ∀ x, foldedSetIterable iter X.env x = pure x := by intro _; rfl) :
    PS X (.Assign [.Name y py] (.ListComp elt [⟨tg, iter, ifs, 0⟩] scope pos) spos) (tS T W (sSet i (mCompK I g C A (own.map (·.2))))) :=
  PS.imp (ps_setLc hc hN hy hyl hsw hi ok hg ht he hs) fun _ _ _ h => tS_setR (fun _ _ _ h => tD_comp (fin := finK) finK_ok h) h
variable {tg1 iter1 : Expr} {ifs1 : List Expr} {I1 : MI} {g1 : GT} {C1 : MT}
theorem tD_comp2 {vs vs1 : List Nat} {σ : L2.St} {H : Hp} {Q : VK} (h : tD T W (mComp2 I g C I1 g1 C1 A vs vs1) σ H Q) :
    tLc2 (tI T W I) (tGv T g vs) (tDT T W0 C) (tI T W0 I1) (tGv T g1 vs1) (tDT T W0 C1) (tD T W0 A) vs vs1 σ H Q := by
  obtain ⟨δ, c, G, ρ, hs, hh, p⟩ := h
  refine ⟨δ, c, G, ρ, hs, hh, (Post.bind (rel := relI T) p).imp ?_⟩
  rintro J H1 ⟨xs, c1, G1, ρ1, e1, p1, h1, wk, q1⟩ D0 hD0
  have hn : RelH T (upd H1 D0 (.lst [])) (c1 ++ [.lst []]) G1 (ρ1 ++ [D0]) := h1.newCell hD0 fun H' hH' => ⟨[], hH', Nat.zero_le _, Reps.nil⟩
  refine lc_loopI (ρm := ρ1 ++ [D0]) (BODY := fun σ2 H3 N => tI T W0 I1 σ2 H3 fun J1 H4 => ∃ W1 : Nat → Nat → Hp → Prop, (∃ m, W1 0 m H4) ∧ ∀ j k H, W1 j k H →
      (J1.stop j H ∧ N H) ∨ (J1.go j H ∧ ∃ Nx1 : Hp → Prop, (∀ H', Nx1 H' → ∃ k', k' < k ∧ W1 (j + 1) k' H') ∧ ∀ x H', J1.yld j H x H' → tGv T g1 vs1 x (wipe σ2 vs1) H' fun σ3 H5 => wipe σ3 vs1 = wipe σ2 vs1 ∧ tDT T W0 C1 σ3 H5 fun b H6 =>
        if b = true then tD T W0 A σ3 H6 fun y H7 => ∃ acc, H7 D0 = some (.lst acc) ∧ acc.length < sizeLine ∧ Nx1 (upd H7 D0 (.lst (acc ++ [y]))) else Nx1 H6))
    wk (.refl _) (List.prefix_append _ _) (((hs.mono e1 p1).mono (.refl _) (List.prefix_append _ _)).wipe vs) wipe_wipe hn q1 ?_ ?_
  · intro H c G ρ' e q hh p
    rw [← h1.len] at p
    exact finC_ok e q hh p
  · intro δ1 σ2 H3 c3 G3 ρ3 N f e3 p3 s3 h3 q3 kk
    rw [bindN_assoc] at q3
    refine ⟨δ1, c3, G3, ρ3, s3, h3, (Post.bindN (rel := relI T) q3).imp ?_⟩
    rintro J1 H4 ⟨ys, c4, G4, ρ4, e4, p4, h4, wk4, q4⟩
    refine lc_loopI (ρm := ρ4) (BODY := fun σ2 H3 N => tD T W0 A σ2 H3 fun y H4 => ∃ acc, H4 D0 = some (.lst acc) ∧ acc.length < sizeLine ∧ N (upd H4 D0 (.lst (acc ++ [y])))) wk4 (.refl _) (List.prefix_refl _) ((s3.mono e4 p4).wipe vs1) wipe_wipe h4 q4 ?_ ?_
    · intro H c G ρ' e q hh p
      exact kk H c G ρ' (e4.trans e) (p4.trans q) hh p
    · intro δ5 σ5 H5 c5 G5 ρ5 N5 f5 e5 p5 s5 h5 q5 kk5
      rw [bindN_assoc] at q5
      refine ⟨δ5, c5, G5, ρ5, s5, h5, (Post.bindN (rel := SRep T) q5).imp ?_⟩
      rintro y H6 ⟨s, c6, G6, ρ6, e6, p6, h6, r6, q6⟩
      exact push_ok h6 (pre_get (((p3.trans p4).trans p5).trans p6) (by rw [← h1.len]; simp)) r6 q6 fun H' c' G' ρ'' e' p' h' q' => kk5 H' c' G' ρ'' (e6.trans e') (p6.trans p') h' q'
theorem dn_comp2 {vs1 : List Nat} (hc : X.calm = true) (hN : X.N.Nodup) (hi : PI X tg iter (tI T W I)) (ok : BlkOk X.N X.env.scope scope own) (hv : ∀ i ∈ vs1, i ∈ own.map (·.2))
    (hg : ∀ (s : Shared) (H : Hp) (C : Addr) (cl : List (Str × Addr)) (fp : List Addr), PG (X.blk s H scope (compEnvC scope cl C X.env) fp) tg (tGv T g (own.map (·.2)))) (ht : ∀ (s : Shared) (H : Hp) (C0 : Addr) (cl : List (Str × Addr)) (fp : List Addr), PTs (X.blk s H scope (compEnvC scope cl C0 X.env) fp) ifs (tDT T W0 C))
    (hi1 : ∀ (s : Shared) (H : Hp) (C : Addr) (cl : List (Str × Addr)) (fp : List Addr), PI (X.blk s H scope (compEnvC scope cl C X.env) fp) tg1 iter1 (tI T W0 I1))
    (hg1 : ∀ (s : Shared) (H : Hp) (C : Addr) (cl : List (Str × Addr)) (fp : List Addr), PG (X.blk s H scope (compEnvC scope cl C X.env) fp) tg1 (tGv T g1 vs1)) (ht1 : ∀ (s : Shared) (H : Hp) (C0 : Addr) (cl : List (Str × Addr)) (fp : List Addr), PTs (X.blk s H scope (compEnvC scope cl C0 X.env) fp) ifs1 (tDT T W0 C1))
    (he : ∀ (s : Shared) (H : Hp) (C : Addr) (cl : List (Str × Addr)) (fp : List Addr), PE (X.blk s H scope (compEnvC scope cl C X.env) fp) elt (tD T W0 A)) (hs : ∀ x, foldedSetIterable iter X.env x = pure x := by intro _; rfl) (hs1 : ∀ env x, foldedSetIterable iter1 env x = pure x := by intro _ _; rfl) :
    PE X (.ListComp elt [⟨tg, iter, ifs, 0⟩, ⟨tg1, iter1, ifs1, 0⟩] scope pos) (tD T W (mComp2 I g C I1 g1 C1 A (own.map (·.2)) vs1)) :=
  PE.imp (pe_lc2 hc hN hi ok hv hg ht hi1 hg1 ht1 he hs hs1) fun _ _ _ h => tD_comp2 h
end
end
end Dn

end
section
/-! Dn5: the operations on data. -/
namespace Dn
open PySem PySem.Spec PyProof.Rows L2

section
variable {X : Cx} {T : Tb} {W : WX} {a b o e : Expr} {es : List Expr} {A B : M} {pos p apos : Pos}
/-! ### ints -/
def bitsOk (i j : Int) : Bool := decide (i.natAbs.log2 + j.natAbs.log2 < 1000000)
def repL (k : Int) (xs : List D) : List D := (List.replicate k.toNat xs).flatten
def addD : D → D → Option D
  | .int i, .int j => some (.int (i + j))
  | .str x, .str y => if x.length + y.length ≤ sizeLine then some (.str (x ++ y)) else none
  | .lst xs, .lst ys => if xs.length + ys.length ≤ sizeLine then some (.lst (xs ++ ys)) else none
  | .tup xs, .tup ys => if xs.length + ys.length ≤ sizeLine then some (.tup (xs ++ ys)) else none
  | _, _ => none
def subD : D → D → Option D
  | .int i, .int j => some (.int (i - j))
  | _, _ => none
def mulD : D → D → Option D
  | .int i, .int j => if bitsOk i j = true then some (.int (i * j)) else none
  | .lst xs, .int k => if k < 1000000 ∧ -1000000 < k ∧ xs.length * k.toNat ≤ sizeLine then some (.lst (repL k xs)) else none
  | _, _ => none
def divOk (j : Int) : Bool := decide (j ≠ 0 ∧ j.natAbs.log2 < 9000)
def fdivD : D → D → Option D
  | .int i, .int j => if divOk j = true then some (.int (i.fdiv j)) else none
  | _, _ => none
def modD : D → D → Option D
  | .int i, .int j => if j ≠ 0 then some (.int (i.fmod j)) else none
  | _, _ => none
def powOk (i j : Int) : Bool := decide (0 ≤ j ∧ j ≤ 64 ∧ i.natAbs.log2 < 100000)
def powD : D → D → Option D
  | .int i, .int j => if powOk i j = true then some (.int (i ^ j.toNat)) else none
  | _, _ => none
def negD : D → Option D
  | .int i => some (.int (-i))
  | _ => none
def rAll (K : PySem.W.Frag) : R2 := fun x y H Q => rI0 (fun i j => .int (i + j)) x y H Q ∨ (∃ i j, x = .str i ∧ y = .str j ∧ i.length + j.length ≤ sizeLine ∧ Q (.str (i ++ j)) H) ∨ rCat x y H Q ∨ rCatA K x y H Q
theorem op_addA : OpR X (binaryOp .Add) (rAll X.K) := op_add.or (op_add_str.or (op_cat.or op_catA))
theorem fresh_add : Fresh2 T addD (rAll T.K) := by
  intro G H x y d v u Q e hx hy hd k
  unfold addD at hd
  split at hd
  · cases hd
    have := View.int_inv hx; subst this
    have := View.int_inv hy; subst this
    exact .inl ⟨_, _, rfl, rfl, k _ H G (Step.refl e) Rep.int⟩
  · split at hd
    · cases hd
      have := View.str_inv hx; subst this
      have := View.str_inv hy; subst this
      rename_i h
      exact .inr (.inl ⟨_, _, rfl, rfl, h, k _ H G (Step.refl e) Rep.str⟩)
    · cases hd
  · split at hd
    · rename_i h
      cases hd
      obtain ⟨p, vs, rfl, sq, l, r⟩ := hx
      obtain ⟨q, us, rfl, sq', l', r'⟩ := hy
      refine .inr (.inr (.inl ⟨p, q, vs, us, rfl, rfl, sq, sq', by rw [r.length, r'.length]; exact h, fun t ht => ?_⟩))
      have st : Step G H (upd G t (.lst (vs ++ us))) (upd H t (.lst (vs ++ us))) := Step.new e ht
      exact k _ _ _ st (Rep.lst upd_same (by rw [List.length_append]; exact h) (Reps.mono st.g _ _ (r.append r')))
    · cases hd
  · rename_i xs ys
    split at hd
    · rename_i h
      cases hd
      obtain ⟨p, vs, rfl, sq, l, r⟩ := View.tup_inv hx
      obtain ⟨q, us, rfl, sq', l', r'⟩ := View.tup_inv hy
      refine .inr (.inr (.inr ⟨p, q, vs, us, rfl, rfl, SqT.of (e _ _ sq), SqT.of (e _ _ sq'), by rw [r.length, r'.length]; exact h, fun z => ?_, fun _ z => ?_, fun z1 z t ht => ?_⟩))
      · subst z
        have := r.length
        have hxs : xs = [] := List.length_eq_zero_iff.mp (by simpa using this.symm)
        subst hxs
        rw [List.nil_append] at k
        exact k _ H G (Step.refl e) (Rep.tup sq' l' r')
      · subst z
        have := r'.length
        have hys : ys = [] := List.length_eq_zero_iff.mp (by simpa using this.symm)
        subst hys
        rw [List.append_nil] at k
        exact k _ H G (Step.refl e) (Rep.tup sq l r)
      · have st : Step G H (upd G t (.tup (vs ++ us))) (upd H t (.tup (vs ++ us))) := Step.new e ht
        exact k _ _ _ st (Rep.tup upd_same (by rw [List.length_append]; exact h) (Reps.mono st.g _ _ (r.append r')))
    · cases hd
  · cases hd
theorem dn_add (hT : X.K = T.K) (ha : PE X a (tD T W A)) (hb : PE X b (tD T W B)) : PE X (.BinOp a .Add b pos) (tD T W (mBin (lift2 addD) A B)) := dn_op (r := rAll T.K) (by rw [← hT]; exact op_addA) (prim2 fresh_add) ha hb
theorem fresh_sub : Fresh2 T subD (rI0 fun i j => .int (i - j)) := by
  intro G H x y d v u Q e hx hy hd k
  unfold subD at hd
  split at hd
  · cases hd
    have := View.int_inv hx; subst this
    have := View.int_inv hy; subst this
    exact ⟨_, _, rfl, rfl, k _ H G (Step.refl e) Rep.int⟩
  · cases hd
theorem dn_sub (ha : PE X a (tD T W A)) (hb : PE X b (tD T W B)) : PE X (.BinOp a .Sub b pos) (tD T W (mBin (lift2 subD) A B)) := dn_op op_sub (prim2 fresh_sub) ha hb
theorem Reps.rep {G : Hp} {xs : List D} {vs : List V} (r : Reps T G xs vs) : ∀ n : Nat, Reps T G (List.replicate n xs).flatten (List.replicate n vs).flatten
  | 0 => Reps.nil
  | n + 1 => by
    rw [List.replicate_succ, List.replicate_succ, List.flatten_cons, List.flatten_cons]
    exact Reps.append r (Reps.rep r n)
theorem bitsOk_ok {i j : Int} (h : bitsOk i j = true) : CMulW i j := by unfold bitsOk at h; unfold CMulW; exact of_decide_eq_true h
theorem fresh_mul : Fresh2 T mulD (fun x y H Q => rI CMulW (fun i j => .int (i * j)) x y H Q ∨ rRep x y H Q) := by
  intro G H x y d v u Q e hx hy hd k
  unfold mulD at hd
  split at hd
  · split at hd
    · rename_i h
      cases hd
      have := View.int_inv hx; subst this
      have := View.int_inv hy; subst this
      exact .inl ⟨_, _, rfl, rfl, bitsOk_ok h, k _ H G (Step.refl e) Rep.int⟩
    · cases hd
  · split at hd
    · rename_i kk h
      cases hd
      obtain ⟨p, vs, rfl, sq, l, r⟩ := hx
      have := View.int_inv hy; subst this
      refine .inr ⟨p, kk, vs, rfl, rfl, sq, by omega, by omega, by rw [r.length]; exact h.2.2, fun t ht => ?_⟩
      have st : Step G H (upd G t (.lst (List.replicate kk.toNat vs).flatten)) (upd H t (.lst (List.replicate kk.toNat vs).flatten)) := Step.new e ht
      refine k _ _ _ st (Rep.lst upd_same ?_ (Reps.mono st.g _ _ (r.rep _)))
      unfold repL
      rw [List.length_flatten]
      simp only [List.map_replicate, List.sum_replicate_nat]
      rw [Nat.mul_comm]; exact h.2.2
    · cases hd
  · cases hd
theorem dn_mul (ha : PE X a (tD T W A)) (hb : PE X b (tD T W B)) : PE X (.BinOp a .Mult b pos) (tD T W (mBin (lift2 mulD) A B)) := dn_op (op_mulW.or op_rep) (prim2 fresh_mul) ha hb
def CDivD (_ j : Int) : Prop := j ≠ 0 ∧ j.natAbs.log2 < 9000
theorem op_fdivD : OpR X (binaryOp .FloorDiv) (rI CDivD fun i j => .int (i.fdiv j)) := opI fun _ _ _ _ _ _ _ hc q => floordiv_int hc.1 q (.inl (PyProof.noPylong_of_log2 hc.2))
theorem divOk_ok {i j : Int} (h : divOk j = true) : CDivD i j := by unfold divOk at h; unfold CDivD; exact of_decide_eq_true h
theorem fresh_fdiv : Fresh2 T fdivD (rI CDivD fun i j => .int (i.fdiv j)) := by
  intro G H x y d v u Q e hx hy hd k
  unfold fdivD at hd
  split at hd
  · split at hd
    · rename_i h
      cases hd
      have := View.int_inv hx; subst this
      have := View.int_inv hy; subst this
      exact ⟨_, _, rfl, rfl, divOk_ok h, k _ H G (Step.refl e) Rep.int⟩
    · cases hd
  · cases hd
theorem dn_fdiv (ha : PE X a (tD T W A)) (hb : PE X b (tD T W B)) : PE X (.BinOp a .FloorDiv b pos) (tD T W (mBin (lift2 fdivD) A B)) := dn_op op_fdivD (prim2 fresh_fdiv) ha hb
theorem fresh_mod : Fresh2 T modD (rI (fun _ j => j ≠ 0) fun i j => .int (i.fmod j)) := by
  intro G H x y d v u Q e hx hy hd k
  unfold modD at hd
  split at hd
  · split at hd
    · rename_i h
      cases hd
      have := View.int_inv hx; subst this
      have := View.int_inv hy; subst this
      exact ⟨_, _, rfl, rfl, h, k _ H G (Step.refl e) Rep.int⟩
    · cases hd
  · cases hd
theorem dn_mod (ha : PE X a (tD T W A)) (hb : PE X b (tD T W B)) : PE X (.BinOp a .Mod b pos) (tD T W (mBin (lift2 modD) A B)) := dn_op op_modN (prim2 fresh_mod) ha hb
def CPowD (i j : Int) : Prop := 0 ≤ j ∧ j ≤ 64 ∧ i.natAbs.log2 < 100000
theorem op_powD : OpR X (binaryOp .Pow) (rI CPowD fun i j => .int (i ^ j.toNat)) := opI fun i j _ _ _ _ _ hc q => by
  obtain ⟨h1, h2, h3⟩ := hc
  refine pow_int h1 ?_ q
  have hb : Builtin.Int.intBits i ≤ i.natAbs.log2 + 1 := by
    unfold Builtin.Int.intBits
    split <;> omega
  have hb2 : (Builtin.Int.intBits i : Int) ≤ 100000 := by omega
  have : (Builtin.Int.intBits i : Int) * j ≤ 100000 * 64 := Int.mul_le_mul hb2 h2 h1 (by decide)
  exact Int.le_trans this (by decide)
theorem powOk_ok {i j : Int} (h : powOk i j = true) : CPowD i j := by unfold powOk at h; unfold CPowD; exact of_decide_eq_true h
theorem fresh_pow : Fresh2 T powD (rI CPowD fun i j => .int (i ^ j.toNat)) := by
  intro G H x y d v u Q e hx hy hd k
  unfold powD at hd
  split at hd
  · split at hd
    · rename_i h
      cases hd
      have := View.int_inv hx; subst this
      have := View.int_inv hy; subst this
      exact ⟨_, _, rfl, rfl, powOk_ok h, k _ H G (Step.refl e) Rep.int⟩
    · cases hd
  · cases hd
theorem dn_pow (ha : PE X a (tD T W A)) (hb : PE X b (tD T W B)) : PE X (.BinOp a .Pow b pos) (tD T W (mBin (lift2 powD) A B)) := dn_op op_powD (prim2 fresh_pow) ha hb
theorem fresh_neg : Fresh1 T negD (rU fun i => .int (-i)) := by
  intro G H x d v Q e hx hd k
  unfold negD at hd
  split at hd
  · cases hd
    have := View.int_inv hx; subst this
    exact ⟨_, rfl, k _ H G (Step.refl e) Rep.int⟩
  · cases hd
theorem dn_neg (ha : PE X a (tD T W A)) : PE X (.UnaryOp .USub a pos) (tD T W (mUn (lift1 negD) A)) := dn_un un_neg (prim1 fresh_neg) ha

/-! ### comparisons of ints -/
def cmpD (f : Int → Int → Bool) : D → D → Option D
  | .int i, .int j => some (.bl (f i j))
  | _, _ => none
theorem fresh_cmp {f : Int → Int → Bool} : Fresh2 T (cmpD f) (rI0 fun i j => .bl (f i j)) := by
  intro G H x y d v u Q e hx hy hd k
  unfold cmpD at hd
  split at hd
  · cases hd
    have := View.int_inv hx; subst this
    have := View.int_inv hy; subst this
    exact ⟨_, _, rfl, rfl, k _ H G (Step.refl e) Rep.bl⟩
  · cases hd
abbrev ltD := cmpD fun i j => decide (i < j)
abbrev leD := cmpD fun i j => decide (i ≤ j)
abbrev gtD := cmpD fun i j => decide (j < i)
abbrev geD := cmpD fun i j => decide (j ≤ i)
theorem dn_lt (ha : PE X a (tD T W A)) (hb : PE X b (tD T W B)) : PE X (.Compare a [.Lt] [b] pos) (tD T W (mBin (lift2 ltD) A B)) := dn_cmp op_lt (prim2 fresh_cmp) ha hb (nomark _)
theorem dn_gt (ha : PE X a (tD T W A)) (hb : PE X b (tD T W B)) : PE X (.Compare a [.Gt] [b] pos) (tD T W (mBin (lift2 gtD) A B)) := dn_cmp op_gt (prim2 fresh_cmp) ha hb (nomark _)
theorem dt_lt (ha : PE X a (tD T W A)) (hb : PE X b (tD T W B)) : PT X (.Compare a [.Lt] [b] pos) (tDT T W (mTB (mBin (lift2 ltD) A B))) := dt_cmp op_lt (prim2 fresh_cmp) ha hb (nomark _)
theorem dt_gt (ha : PE X a (tD T W A)) (hb : PE X b (tD T W B)) : PT X (.Compare a [.Gt] [b] pos) (tDT T W (mTB (mBin (lift2 gtD) A B))) := dt_cmp op_gt (prim2 fresh_cmp) ha hb (nomark _)
theorem dt_ge (ha : PE X a (tD T W A)) (hb : PE X b (tD T W B)) : PT X (.Compare a [.GtE] [b] pos) (tDT T W (mTB (mBin (lift2 geD) A B))) := dt_cmp op_ge (prim2 fresh_cmp) ha hb (nomark _)
section
variable {c : Expr} {C : M}
theorem dn_le_lt (ha : PE X a (tD T W A)) (hb : PE X b (tD T W B)) (hc : PE X c (tD T W C)) (hm : lastMarks [.LtE, .Lt] [b, c] = false := by with_unfolding_all rfl) : PE X (.Compare a [.LtE, .Lt] [b, c] pos) (tD T W (mChain (lift2 leD) (lift2 ltD) A B C)) := PE.imp (pe_chain op_le op_lt ha hb hc hm) fun _ _ _ h => tD_chain (prim2 fresh_cmp) (prim2 fresh_cmp) h
theorem dt_chain {op op' : CmpOp} {r r' : R2} {f g : S → S → Cs → R S} (hp : Prim2 T f r) (hp' : Prim2 T g r') (h : PT X (.Compare a [op, op'] [b, c] pos) (tTest (tChain r r' (tD T W A) (tD T W B) (tD T W C)))) : PT X (.Compare a [op, op'] [b, c] pos) (tDT T W (mTB (mChain f g A B C))) :=
  PT.imp h fun σ H Q q => tD_chain hp hp' (tDT_B q)
theorem dt_le_le (ha : PE X a (tD T W A)) (hb : PE X b (tD T W B)) (hc : PE X c (tD T W C)) (hm : lastMarks [.LtE, .LtE] [b, c] = false := by with_unfolding_all rfl) : PT X (.Compare a [.LtE, .LtE] [b, c] pos) (tDT T W (mTB (mChain (lift2 leD) (lift2 leD) A B C))) := dt_chain (prim2 fresh_cmp) (prim2 fresh_cmp) (pt_chain op_le op_le ha hb hc hm)
end
end
end Dn

end
section
/-! Dn6: equality, membership, places, built-ins. -/
namespace Dn
open PySem PySem.Spec PyProof.Rows L2

/-! ### data as PyData -/
mutual
def D.py : D → PyData
  | .non => .none
  | .bl b => .bool b
  | .int i => .int i
  | .str x => .str x
  | .lst xs => .list (pys xs)
  | .tup xs => .tuple (pys xs)
  | .obj _ _ => .none
  | .scr _ => .none
  | .dct _ _ => .none
def pys : List D → List PyData
  | [] => []
  | x :: xs => D.py x :: pys xs
end
theorem pys_map : ∀ xs : List D, pys xs = xs.map D.py
  | [] => by unfold pys; rfl
  | x :: xs => by unfold pys; rw [pys_map xs]; rfl
mutual
/-- plain data, at most n deep -/
def D.ok (n : Nat) : D → Bool
  | .non => true
  | .bl _ => true
  | .int _ => true
  | .str x => PyData.strOk x
  | .lst xs => decide (0 < n) && oks (n - 1) xs
  | .tup xs => decide (0 < n) && oks (n - 1) xs
  | .obj _ _ => false
  | .scr _ => false
  | .dct _ _ => false
def oks (n : Nat) : List D → Bool
  | [] => true
  | x :: xs => D.ok n x && oks n xs
end
mutual
def eqD : D → D → Bool
  | .non, .non => true
  | .bl a, .bl b => a == b
  | .bl a, .int j => (if a then 1 else 0) == j
  | .int i, .bl b => i == (if b then 1 else 0)
  | .int i, .int j => i == j
  | .str x, .str y => x == y
  | .lst xs, .lst ys => eqDs xs ys
  | .tup xs, .tup ys => eqDs xs ys
  | _, _ => false
def eqDs : List D → List D → Bool
  | [], [] => true
  | x :: xs, y :: ys => eqD x y && eqDs xs ys
  | [], _ :: _ => false
  | _ :: _, [] => false
end
theorem oks_all (n : Nat) : ∀ xs : List D, oks n xs = xs.all (D.ok n)
  | [] => by unfold oks; rfl
  | x :: xs => by unfold oks; rw [oks_all n xs]; rfl
mutual
theorem lay_py : ∀ (n : Nat) (d : D), d.ok n = true → d.py.canLay0 = true
  | n, .non, _ => by unfold D.py; simp [PyData.canLay0]
  | n, .bl b, _ => by unfold D.py; simp [PyData.canLay0]
  | n, .int i, _ => by unfold D.py; simp [PyData.canLay0]
  | n, .str x, h => by unfold D.ok at h; unfold D.py; simp [PyData.canLay0]; exact h
  | n, .lst xs, h => by
    unfold D.ok at h
    simp only [Bool.and_eq_true, decide_eq_true_eq] at h
    unfold D.py; simp [PyData.canLay0]; exact lay_pys (n - 1) xs h.2
  | n, .tup xs, h => by
    unfold D.ok at h
    simp only [Bool.and_eq_true, decide_eq_true_eq] at h
    unfold D.py; simp [PyData.canLay0]; exact lay_pys (n - 1) xs h.2
  | n, .obj _ _, _ => by unfold D.py; simp [PyData.canLay0]
  | n, .scr _, _ => by unfold D.py; simp [PyData.canLay0]
  | n, .dct _ _, _ => by unfold D.py; simp [PyData.canLay0]
theorem lay_pys : ∀ (n : Nat) (ds : List D), oks n ds = true → PyData.canLayAll0 (pys ds) = true
  | n, [], _ => by unfold pys; simp [PyData.canLayAll0]
  | n, x :: xs, h => by
    unfold oks at h
    simp only [Bool.and_eq_true] at h
    unfold pys; simp [PyData.canLayAll0]; exact ⟨lay_py n x h.1, lay_pys n xs h.2⟩
end
mutual
theorem depth_py : ∀ (n : Nat) (d : D), d.ok n = true → d.py.depth ≤ n
  | n, .non, _ => by unfold D.py; simp [PyData.depth]
  | n, .bl b, _ => by unfold D.py; simp [PyData.depth]
  | n, .int i, _ => by unfold D.py; simp [PyData.depth]
  | n, .str x, _ => by unfold D.py; simp [PyData.depth]
  | n, .lst xs, h => by
    unfold D.py; simp only [PyData.depth]
    unfold D.ok at h
    simp only [Bool.and_eq_true, decide_eq_true_eq] at h
    have := depth_pys (n - 1) xs h.2
    omega
  | n, .tup xs, h => by
    unfold D.py; simp only [PyData.depth]
    unfold D.ok at h
    simp only [Bool.and_eq_true, decide_eq_true_eq] at h
    have := depth_pys (n - 1) xs h.2
    omega
  | n, .obj _ _, _ => by unfold D.py; simp [PyData.depth]
  | n, .scr _, _ => by unfold D.py; simp [PyData.depth]
  | n, .dct _ _, _ => by unfold D.py; simp [PyData.depth]
theorem depth_pys : ∀ (n : Nat) (ds : List D), oks n ds = true → PyData.depthAll (pys ds) ≤ n
  | n, [], _ => by unfold pys; simp [PyData.depthAll]
  | n, x :: xs, h => by
    unfold pys; simp only [PyData.depthAll]
    unfold oks at h
    simp only [Bool.and_eq_true] at h
    have := depth_py n x h.1
    have := depth_pys n xs h.2
    omega
end
theorem shaped_py {d : D} (h : d.ok 60 = true) : SeqAt.shaped d.py = true := by
  unfold SeqAt.shaped
  rw [Bool.and_eq_true]
  exact ⟨lay_py 60 d h, decide_eq_true (Nat.le_trans (depth_py 60 d h) (by decide))⟩
mutual
theorem eqv_py : ∀ (n : Nat) (x y : D), x.ok n = true → y.ok n = true → PyData.eqv x.py y.py = eqD x y
  | n, x, y, hx, hy => by
    cases x <;> cases y <;> first
      | (unfold D.ok at hx; cases hx; done)
      | (unfold D.ok at hy; cases hy; done)
      | (unfold D.py eqD; simp [PyData.eqv]; done)
      | (rename_i xs ys
         unfold D.py eqD; simp only [PyData.eqv]
         unfold D.ok at hx hy
         simp only [Bool.and_eq_true, decide_eq_true_eq] at hx hy
         exact eqv_pys (n - 1) xs ys hx.2 hy.2)
theorem eqv_pys : ∀ (n : Nat) (xs ys : List D), oks n xs = true → oks n ys = true → PyData.eqvAll (pys xs) (pys ys) = eqDs xs ys
  | n, [], [], _, _ => by unfold pys eqDs; simp [PyData.eqvAll]
  | n, [], y :: ys, _, _ => by unfold pys eqDs; simp [PyData.eqvAll]
  | n, x :: xs, [], _, _ => by unfold pys eqDs; simp [PyData.eqvAll]
  | n, x :: xs, y :: ys, hx, hy => by
    unfold oks at hx hy
    simp only [Bool.and_eq_true] at hx hy
    unfold pys eqDs
    simp only [PyData.eqvAll]
    rw [eqv_py n x y hx.1 hy.1, eqv_pys n xs ys hx.2 hy.2]
end
section
variable {T : Tb} {G H : Hp}
mutual
theorem Rep.dp : ∀ (n : Nat) (d : D) (v : V), d.ok n = true → Rep T G d v → Dp T.K G v d.py
  | n, .non, v, _, h => by have := Rep.non_inv h; subst this; unfold D.py; exact .non
  | n, .bl b, v, _, h => by have := Rep.bl_inv h; subst this; unfold D.py; exact .bl b
  | n, .int i, v, _, h => by have := Rep.int_inv h; subst this; unfold D.py; exact .int i
  | n, .str x, v, _, h => by have := Rep.str_inv h; subst this; unfold D.py; exact .str x
  | n, .lst xs, v, k, h => by
    obtain ⟨p, vs, rfl, sq, l, r⟩ := h.lst_inv
    unfold D.ok at k
    simp only [Bool.and_eq_true, decide_eq_true_eq] at k
    unfold D.py; exact .lst (SqL.of sq) (Reps.dp (n - 1) xs vs k.2 r)
  | n, .tup xs, v, k, h => by
    obtain ⟨p, vs, rfl, sq, l, r⟩ := h.tup_inv
    unfold D.ok at k
    simp only [Bool.and_eq_true, decide_eq_true_eq] at k
    unfold D.py; exact .tup (SqT.of sq) (Reps.dp (n - 1) xs vs k.2 r)
  | n, .obj _ _, v, k, h => by unfold D.ok at k; cases k
  | n, .scr _, v, k, h => by unfold D.ok at k; cases k
  | n, .dct _ _, v, k, h => by unfold D.ok at k; cases k
theorem Reps.dp : ∀ (n : Nat) (ds : List D) (vs : List V), oks n ds = true → Reps T G ds vs → DpAll T.K G vs (pys ds)
  | n, [], vs, _, h => by cases h.nil_inv; unfold pys; exact .nil
  | n, x :: xs, vs, k, h => by
    obtain ⟨v, r, rfl, a, b⟩ := h.cons_inv
    unfold oks at k
    simp only [Bool.and_eq_true] at k
    unfold pys
    exact .cons (Rep.dp n x v k.1 a) (Reps.dp n xs r k.2 b)
end
mutual
theorem Dp.mono {K : PySem.W.Frag} {G H : Hp} (e : Ex G H) : ∀ (d : PyData) (v : V), Dp K G v d → Dp K H v d
  | .none, v, h => by cases h; exact .non
  | .bool _, v, h => by cases h; exact .bl _
  | .int _, v, h => by cases h; exact .int _
  | .str _, v, h => by cases h; exact .str _
  | .list ds, v, h => by cases h with | lst s a => exact .lst (ex_l e s) (DpAll.mono e ds _ a)
  | .tuple ds, v, h => by cases h with | tup s a => exact .tup (ex_t e s) (DpAll.mono e ds _ a)
  | .dict _, v, h => by cases h
theorem DpAll.mono {K : PySem.W.Frag} {G H : Hp} (e : Ex G H) : ∀ (ds : List PyData) (vs : List V), DpAll K G vs ds → DpAll K H vs ds
  | [], vs, h => by cases h; exact .nil
  | d :: ds, vs, h => by cases h with | cons a b => exact .cons (Dp.mono e d _ a) (DpAll.mono e ds _ b)
end
theorem View.dp (e : Ex G H) {d : D} {v : V} (k : d.ok 60 = true) (h : View T G H d v) : Dp T.K H v d.py := by
  cases d with
  | lst xs =>
    obtain ⟨p, vs, rfl, sq, l, r⟩ := h
    unfold D.ok at k
    simp only [Bool.and_eq_true, decide_eq_true_eq] at k
    unfold D.py; exact .lst (SqL.of sq) (DpAll.mono e _ _ (Reps.dp _ xs vs k.2 r))
  | obj _ _ => unfold D.ok at k; cases k
  | scr _ => unfold D.ok at k; cases k
  | _ => exact Dp.mono e _ _ (Rep.dp 60 _ _ k h)
end

section
variable {X : Cx} {T : Tb} {W : WX} {a b o e : Expr} {es : List Expr} {A B : M} {pos p apos : Pos}
/-! ### == , != , in -/
def eqP (neg : Bool) (x y : D) : Option D := if (x.ok 60 && y.ok 60) = true then some (.bl (if neg then !eqD x y else eqD x y)) else none
theorem fresh_eq : Fresh2 T (eqP false) (rEqD T.K) := by
  intro G H x y d v u Q e hx hy hd k
  unfold eqP at hd
  split at hd
  · rename_i h
    simp only [Bool.and_eq_true] at h
    cases hd
    refine ⟨x.py, y.py, View.dp e h.1 hx, View.dp e h.2 hy, shaped_py h.1, shaped_py h.2, ?_⟩
    rw [eqv_py 60 x y h.1 h.2]
    exact k _ H G (Step.refl e) Rep.bl
  · cases hd
theorem fresh_ne : Fresh2 T (eqP true) (rNeD T.K) := by
  intro G H x y d v u Q e hx hy hd k
  unfold eqP at hd
  split at hd
  · rename_i h
    simp only [Bool.and_eq_true] at h
    cases hd
    refine ⟨x.py, y.py, View.dp e h.1 hx, View.dp e h.2 hy, shaped_py h.1, shaped_py h.2, ?_⟩
    rw [eqv_py 60 x y h.1 h.2]
    exact k _ H G (Step.refl e) Rep.bl
  · cases hd
theorem dn_eq {k : Nat} (hT : X.K = T.K) (hr : Room k X.A) (ha : PE X a (tD T W A)) (hb : PE X b (tD T W B)) : PE X (.Compare a [.Eq] [b] pos) (tD T W (mBin (lift2 (eqP false)) A B)) := dn_cmp (r := rEqD T.K) (by rw [← hT]; exact op_eqD hr.units) (prim2 fresh_eq) ha hb (nomark _)
theorem dn_ne {k : Nat} (hT : X.K = T.K) (hr : Room k X.A) (ha : PE X a (tD T W A)) (hb : PE X b (tD T W B)) : PE X (.Compare a [.NotEq] [b] pos) (tD T W (mBin (lift2 (eqP true)) A B)) := dn_cmp (r := rNeD T.K) (by rw [← hT]; exact op_neD hr.units) (prim2 fresh_ne) ha hb (nomark _)
theorem dt_eq {k : Nat} (hT : X.K = T.K) (hr : Room k X.A) (ha : PE X a (tD T W A)) (hb : PE X b (tD T W B)) : PT X (.Compare a [.Eq] [b] pos) (tDT T W (mTB (mBin (lift2 (eqP false)) A B))) := dt_cmp (r := rEqD T.K) (by rw [← hT]; exact op_eqD hr.units) (prim2 fresh_eq) ha hb (nomark _)
theorem dt_ne {k : Nat} (hT : X.K = T.K) (hr : Room k X.A) (ha : PE X a (tD T W A)) (hb : PE X b (tD T W B)) : PT X (.Compare a [.NotEq] [b] pos) (tDT T W (mTB (mBin (lift2 (eqP true)) A B))) := dt_cmp (r := rNeD T.K) (by rw [← hT]; exact op_neD hr.units) (prim2 fresh_ne) ha hb (nomark _)
def flatD : D → Bool
  | .non => true
  | .bl _ => true
  | .int _ => true
  | .str _ => true
  | _ => false
def inP (neg : Bool) : D → D → Option D
  | x, .lst ys => if (x.ok 60 && oks 59 ys) = true then some (.bl (if neg then !ys.any (fun z => eqD z x) else ys.any fun z => eqD z x)) else none
  | x, .tup ys => if (flatD x && ys.all flatD) = true then some (.bl (if neg then !ys.any (fun z => eqD z x) else ys.any fun z => eqD z x)) else none
  | _, _ => none
theorem flat_of {G : Hp} {x : D} {v : V} (h : flatD x = true) (r : Rep T G x v) : flatV v = true := by
  cases x <;> first
    | (cases h; done)
    | (have := Rep.non_inv r; subst this; rfl)
    | (have := Rep.bl_inv r; subst this; rfl)
    | (have := Rep.int_inv r; subst this; rfl)
    | (have := Rep.str_inv r; subst this; rfl)
theorem eqV_of {G : Hp} {x y : D} {v u : V} (hx : flatD x = true) (hy : flatD y = true) (r : Rep T G x v) (q : Rep T G y u) : eqV v u = eqD x y := by
  cases x <;> first
    | (cases hx; done)
    | (have := Rep.non_inv r; subst this
       cases y <;> first
        | (cases hy; done)
        | (have := Rep.non_inv q; subst this; unfold eqD; rfl)
        | (have := Rep.bl_inv q; subst this; unfold eqD; rfl)
        | (have := Rep.int_inv q; subst this; unfold eqD; rfl)
        | (have := Rep.str_inv q; subst this; unfold eqD; rfl))
    | (have := Rep.bl_inv r; subst this
       cases y <;> first
        | (cases hy; done)
        | (have := Rep.non_inv q; subst this; unfold eqD; rfl)
        | (have := Rep.bl_inv q; subst this; unfold eqD; rfl)
        | (have := Rep.int_inv q; subst this; unfold eqD; rfl)
        | (have := Rep.str_inv q; subst this; unfold eqD; rfl))
    | (have := Rep.int_inv r; subst this
       cases y <;> first
        | (cases hy; done)
        | (have := Rep.non_inv q; subst this; unfold eqD; rfl)
        | (have := Rep.bl_inv q; subst this; unfold eqD; rfl)
        | (have := Rep.int_inv q; subst this; unfold eqD; rfl)
        | (have := Rep.str_inv q; subst this; unfold eqD; rfl))
    | (have := Rep.str_inv r; subst this
       cases y <;> first
        | (cases hy; done)
        | (have := Rep.non_inv q; subst this; unfold eqD; rfl)
        | (have := Rep.bl_inv q; subst this; unfold eqD; rfl)
        | (have := Rep.int_inv q; subst this; unfold eqD; rfl)
        | (have := Rep.str_inv q; subst this; unfold eqD; rfl))
theorem any_of {G : Hp} {x : D} {v : V} (hx : flatD x = true) (r : Rep T G x v) : ∀ {ys : List D} {us : List V}, ys.all flatD = true → Reps T G ys us → us.all flatV = true ∧ inV v us = ys.any fun z => eqD z x
  | [], us, _, q => by cases q.nil_inv; exact ⟨rfl, rfl⟩
  | y :: ys, us, h, q => by
    obtain ⟨u, us, rfl, a, b⟩ := q.cons_inv
    simp only [List.all_cons, Bool.and_eq_true] at h
    obtain ⟨i1, i2⟩ := any_of hx r h.2 b
    refine ⟨by simp [flat_of h.1 a, i1], ?_⟩
    unfold inV at i2 ⊢
    rw [List.any_cons, List.any_cons, i2, eqV_of h.1 hx a r]
theorem eqv_any {x : D} (hx : x.ok 60 = true) : ∀ {ys : List D}, oks 59 ys = true → ((pys ys).any fun z => PyData.eqv z x.py) = ys.any fun z => eqD z x
  | [], _ => by unfold pys; rfl
  | y :: ys, h => by
    unfold oks at h
    simp only [Bool.and_eq_true] at h
    unfold pys
    have hy : y.ok 60 = true := ok_mono h.1
    rw [List.any_cons, List.any_cons, eqv_any hx h.2, eqv_py 60 y x hy hx]
where
  ok_mono : ∀ {d : D}, d.ok 59 = true → d.ok 60 = true := fun {d} h => okm 59 60 (by decide) d h
  okm : ∀ (n m : Nat), n ≤ m → ∀ d : D, d.ok n = true → d.ok m = true
    | n, m, l, .non, _ => by unfold D.ok; rfl
    | n, m, l, .bl _, _ => by unfold D.ok; rfl
    | n, m, l, .int _, _ => by unfold D.ok; rfl
    | n, m, l, .str _, h => by unfold D.ok at h ⊢; exact h
    | n, m, l, .lst xs, h => by
      unfold D.ok at h ⊢
      simp only [Bool.and_eq_true, decide_eq_true_eq] at h ⊢
      exact ⟨by omega, oksm (n - 1) (m - 1) (by omega) xs h.2⟩
    | n, m, l, .tup xs, h => by
      unfold D.ok at h ⊢
      simp only [Bool.and_eq_true, decide_eq_true_eq] at h ⊢
      exact ⟨by omega, oksm (n - 1) (m - 1) (by omega) xs h.2⟩
    | n, m, l, .obj _ _, h => by unfold D.ok at h; cases h
    | n, m, l, .scr _, h => by unfold D.ok at h; cases h
  oksm : ∀ (n m : Nat), n ≤ m → ∀ ds : List D, oks n ds = true → oks m ds = true
    | n, m, l, [], _ => by unfold oks; rfl
    | n, m, l, x :: xs, h => by
      unfold oks at h ⊢
      simp only [Bool.and_eq_true] at h ⊢
      exact ⟨okm n m l x h.1, oksm n m l xs h.2⟩
theorem ok_lst {ys : List D} (h : oks 59 ys = true) : (D.lst ys).ok 60 = true := by unfold D.ok; simp [h]
theorem fresh_in : Fresh2 T (inP false) (fun x y H Q => rInD T.K x y H Q ∨ rIn T.K false x y H Q) := by
  intro G H x y d v u Q e hx hy hd k
  unfold inP at hd
  split at hd
  · rename_i ys
    split at hd
    · rename_i h
      simp only [Bool.and_eq_true] at h
      cases hd
      have hy2 := View.dp e (ok_lst h.2) hy
      have hs := shaped_py (ok_lst h.2)
      unfold D.py at hy2 hs
      refine .inl ⟨x.py, pys ys, View.dp e h.1 hx, hy2, shaped_py h.1, hs, ?_⟩
      rw [eqv_any h.1 h.2]
      exact k _ H G (Step.refl e) Rep.bl
    · cases hd
  · rename_i ys
    split at hd
    · rename_i h
      simp only [Bool.and_eq_true] at h
      cases hd
      obtain ⟨q, us, rfl, sq, l, r⟩ := View.tup_inv hy
      have hx' : Rep T G x v := by cases x <;> first | (cases h.1; done) | exact hx
      obtain ⟨f1, f2⟩ := any_of h.1 hx' h.2 r
      refine .inr ⟨q, us, rfl, .inr (SqT.of (e _ _ sq)), flat_of h.1 hx', f1, ?_⟩
      rw [f2]
      exact k _ H G (Step.refl e) Rep.bl
    · cases hd
  · cases hd
theorem fresh_notIn : Fresh2 T (inP true) (fun x y H Q => rNotInD T.K x y H Q ∨ rIn T.K true x y H Q) := by
  intro G H x y d v u Q e hx hy hd k
  unfold inP at hd
  split at hd
  · rename_i ys
    split at hd
    · rename_i h
      simp only [Bool.and_eq_true] at h
      cases hd
      have hy2 := View.dp e (ok_lst h.2) hy
      have hs := shaped_py (ok_lst h.2)
      unfold D.py at hy2 hs
      refine .inl ⟨x.py, pys ys, View.dp e h.1 hx, hy2, shaped_py h.1, hs, ?_⟩
      rw [eqv_any h.1 h.2]
      exact k _ H G (Step.refl e) Rep.bl
    · cases hd
  · rename_i ys
    split at hd
    · rename_i h
      simp only [Bool.and_eq_true] at h
      cases hd
      obtain ⟨q, us, rfl, sq, l, r⟩ := View.tup_inv hy
      have hx' : Rep T G x v := by cases x <;> first | (cases h.1; done) | exact hx
      obtain ⟨f1, f2⟩ := any_of h.1 hx' h.2 r
      refine .inr ⟨q, us, rfl, .inr (SqT.of (e _ _ sq)), flat_of h.1 hx', f1, ?_⟩
      rw [f2]
      exact k _ H G (Step.refl e) Rep.bl
    · cases hd
  · cases hd
theorem dn_in {k : Nat} (hT : X.K = T.K) (hr : Room (k + 1) X.A) (ha : PE X a (tD T W A)) (hb : PE X b (tD T W B)) (hm : behindInMarks .In b = false := by rfl) : PE X (.Compare a [.In] [b] pos) (tD T W (mBin (lift2 (inP false)) A B)) :=
  dn_cmp (r := fun x y H Q => rInD T.K x y H Q ∨ rIn T.K false x y H Q) (by rw [← hT]; exact (op_inD (by have := hr.un; omega)).or op_in_seq) (prim2 fresh_in) ha hb hm
theorem dt_notIn {k : Nat} (hT : X.K = T.K) (hr : Room (k + 1) X.A) (ha : PE X a (tD T W A)) (hb : PE X b (tD T W B)) (hm : behindInMarks .NotIn b = false := by rfl) : PT X (.Compare a [.NotIn] [b] pos) (tDT T W (mTB (mBin (lift2 (inP true)) A B))) :=
  dt_cmp (r := fun x y H Q => rNotInD T.K x y H Q ∨ rIn T.K true x y H Q) (by rw [← hT]; exact (op_notInD (by have := hr.un; omega)).or op_notIn_seq) (prim2 fresh_notIn) ha hb hm

/-! ### places -/
def ixD : D → D → Option D
  | .lst xs, .int i => atI xs i
  | .tup xs, .int i => atI xs i
  | .scr ns, .int i => atI (ns.map D.int) i
  | .str z, .int i => if z.length ≤ sizeLine then (atI z.cps.toList i).map fun c => .str ⟨#[c]⟩ else none
  | _, _ => none
theorem Reps.atI {G : Hp} {xs : List D} {vs : List V} {i : Int} {d : D} (r : Reps T G xs vs) (h : L2.atI xs i = some d) : ∃ v, L2.atI vs i = some v ∧ Rep T G d v := by
  unfold L2.atI at h ⊢
  rw [r.length]
  cases e : ixN xs.length i with
  | none => rw [e] at h; cases h
  | some j =>
    rw [e] at h
    exact r.get h
theorem fresh_ix : Fresh2 T ixD (rIx T.K) := by
  intro G H x y d v u Q e hx hy hd k
  unfold ixD at hd
  split at hd
  · obtain ⟨q, vs, rfl, sq, l, r⟩ := hx
    have := View.int_inv hy; subst this
    obtain ⟨w, hw, rw'⟩ := r.atI hd
    exact .inl ⟨q, vs, _, w, rfl, rfl, SqL.of sq, hw, k _ H G (Step.refl e) rw'⟩
  · obtain ⟨q, vs, rfl, sq, l, r⟩ := View.tup_inv hx
    have := View.int_inv hy; subst this
    obtain ⟨w, hw, rw'⟩ := r.atI hd
    exact .inr (.inl ⟨q, vs, _, w, rfl, rfl, SqT.of (e _ _ sq), hw, k _ H G (Step.refl e) rw'⟩)
  · obtain ⟨q, rfl, sq, l⟩ := hx
    have := View.int_inv hy; subst this
    obtain ⟨w, hw, rw'⟩ := (Reps.map_int (T := T) (G := G) _).atI hd
    exact .inl ⟨q, _, _, w, rfl, rfl, sq, hw, k _ H G (Step.refl e) rw'⟩
  · rename_i z i
    split at hd
    · rename_i hl
      have := View.str_inv hx; subst this
      have := View.int_inv hy; subst this
      cases h : atI z.cps.toList i with
      | none => rw [h] at hd; cases hd
      | some c =>
        rw [h] at hd
        cases hd
        exact .inr (.inr ⟨z, i, c, rfl, rfl, hl, h, k _ H G (Step.refl e) Rep.str⟩)
    · cases hd
  · cases hd
theorem dn_ix (hT : X.K = T.K) (ha : PE X a (tD T W A)) (hb : PE X b (tD T W B)) (hs : PlainIx b := by exact fun _ _ => rfl) : PE X (.Subscript a b pos) (tD T W (mBin (lift2 ixD) A B)) :=
  PE.imp (pe_ix (r := rIx T.K) (by rw [← hT]; exact ix_seq) ha hb hs) fun _ _ _ h => tD_bin (prim2 fresh_ix) h

/-! ### built-ins -/
def lenD : List D → Option D
  | [.lst xs] => some (.int xs.length)
  | [.tup xs] => some (.int xs.length)
  | [.scr xs] => some (.int xs.length)
  | [.str z] => if z.length ≤ sizeLine then some (.int z.length) else none
  | _ => none
theorem Views.one {G H : Hp} {x : D} {vs : List V} (h : Views T G H [x] vs) : ∃ v, vs = [v] ∧ View T G H x v := by
  cases h with
  | cons a b => cases b; exact ⟨_, rfl, a⟩
theorem Views.two {G H : Hp} {x y : D} {vs : List V} (h : Views T G H [x, y] vs) : ∃ v u, vs = [v, u] ∧ View T G H x v ∧ View T G H y u := by
  cases h with
  | cons a b => obtain ⟨u, rfl, r⟩ := b.one; exact ⟨_, _, rfl, a, r⟩
theorem fresh_len : FreshN T lenD (fun xs H Q => (∃ p ys, xs = [.ref p] ∧ (SqL T.K H p ys ∨ SqT T.K H p ys) ∧ Q (.int ys.length) H) ∨ ∃ z, xs = [.str z] ∧ z.length ≤ sizeLine ∧ Q (.int z.length) H) := by
  intro G H x d v Q e hx hd k
  unfold lenD at hd
  split at hd
  · cases hd
    obtain ⟨v, rfl, q, vs, rfl, sq, l, r⟩ := hx.one
    exact .inl ⟨q, vs, rfl, .inl (SqL.of sq), by rw [r.length]; exact k _ H G (Step.refl e) Rep.int⟩
  · cases hd
    obtain ⟨v, rfl, h⟩ := hx.one
    obtain ⟨q, vs, rfl, sq, l, r⟩ := View.tup_inv h
    exact .inl ⟨q, vs, rfl, .inr (SqT.of (e _ _ sq)), by rw [r.length]; exact k _ H G (Step.refl e) Rep.int⟩
  · cases hd
    obtain ⟨v, rfl, q, rfl, sq, l⟩ := hx.one
    exact .inl ⟨q, _, rfl, .inl sq, by rw [List.length_map]; exact k _ H G (Step.refl e) Rep.int⟩
  · split at hd
    · rename_i hl
      cases hd
      obtain ⟨v, rfl, h⟩ := hx.one
      have := View.str_inv h; subst this
      exact .inr ⟨_, rfl, hl, k _ H G (Step.refl e) Rep.int⟩
    · cases hd
  · cases hd
def listD : List D → Option D
  | [.lst xs] => some (.lst xs)
  | [.tup xs] => some (.lst xs)
  | [.scr ns] => some (.lst (ns.map D.int))
  | _ => none
theorem fresh_list : FreshN T listD (fun xs H Q => ∃ p ys, xs = [.ref p] ∧ (SqL T.K H p ys ∨ SqT T.K H p ys) ∧ ∀ l, H l = none → Q (.ref l) (upd H l (.lst ys))) := by
  intro G H x d v Q e hx hd k
  have fin : ∀ {xs : List D} {vs : List V} (l : Addr), Reps T G xs vs → xs.length ≤ sizeLine → d = .lst xs → H l = none → Q (.ref l) (upd H l (.lst vs)) := fun {xs vs} l r hl hd hn => by
    subst hd
    have st : Step G H (upd G l (.lst vs)) (upd H l (.lst vs)) := Step.new e hn
    exact k _ _ _ st (Rep.lst upd_same hl (Reps.mono st.g _ _ r))
  unfold listD at hd
  split at hd
  · cases hd
    obtain ⟨v, rfl, q, vs, rfl, sq, l, r⟩ := hx.one
    exact ⟨q, vs, rfl, .inl (SqL.of sq), fun t ht => fin t r l rfl ht⟩
  · cases hd
    obtain ⟨v, rfl, h⟩ := hx.one
    obtain ⟨q, vs, rfl, sq, l, r⟩ := View.tup_inv h
    exact ⟨q, vs, rfl, .inr (SqT.of (e _ _ sq)), fun t ht => fin t r l rfl ht⟩
  · cases hd
    obtain ⟨v, rfl, q, rfl, sq, l⟩ := hx.one
    exact ⟨q, _, rfl, .inl sq, fun t ht => fin t (Reps.map_int _) (by simpa using l) rfl ht⟩
  · cases hd
theorem dn_list {B : MA} (hT : X.K = T.K) (hg : Gl X "list") (hm : X.mg "list" = none) (ha : PA X (e :: es) (tDA T W B)) (he : starEach (e :: es) X.env = (false, eval e X.env) :: starEach es X.env := by rfl) (hpl : (backTo pos (starEach es X.env)).any (·.1) = false := by rfl) : PE X (.Call (.Name "list" p) (e :: es) [] pos) (tD T W (mBlt (liftN listD) B)) :=
  dn_callTy (by have := call_list_of (X := X); rw [hT] at this; exact this) (primN fresh_list) hg hm (by decide +kernel) ha (by decide) (by decide) he hpl
def tupleD : List D → Option D
  | [.lst xs] => some (.tup xs)
  | [.tup xs] => some (.tup xs)
  | _ => none
theorem fresh_tuple : FreshN T tupleD (fun xs H Q => ∃ p ys, xs = [.ref p] ∧ ((SqL T.K H p ys ∧ ∀ l, H l = none → Q (.ref l) (upd H l (.tup ys))) ∨ (SqT T.K H p ys ∧ Q (.ref p) H))) := by
  intro G H x d v Q e hx hd k
  unfold tupleD at hd
  split at hd
  · cases hd
    obtain ⟨v, rfl, q, vs, rfl, sq, l, r⟩ := hx.one
    refine ⟨q, vs, rfl, .inl ⟨SqL.of sq, fun t ht => ?_⟩⟩
    have st : Step G H (upd G t (.tup vs)) (upd H t (.tup vs)) := Step.new e ht
    exact k _ _ _ st (Rep.tup upd_same l (Reps.mono st.g _ _ r))
  · cases hd
    obtain ⟨v, rfl, h⟩ := hx.one
    obtain ⟨q, vs, rfl, sq, l, r⟩ := View.tup_inv h
    exact ⟨q, vs, rfl, .inr ⟨SqT.of (e _ _ sq), k _ H G (Step.refl e) (Rep.tup sq l r)⟩⟩
  · cases hd
theorem dn_tuple {B : MA} (hT : X.K = T.K) (hg : Gl X "tuple") (hm : X.mg "tuple" = none) (ha : PA X (e :: es) (tDA T W B)) (he : starEach (e :: es) X.env = (false, eval e X.env) :: starEach es X.env := by rfl) (hpl : (backTo pos (starEach es X.env)).any (·.1) = false := by rfl) : PE X (.Call (.Name "tuple" p) (e :: es) [] pos) (tD T W (mBlt (liftN tupleD) B)) :=
  dn_callTy (by have := call_tuple_of (X := X); rw [hT] at this; exact this) (primN fresh_tuple) hg hm (by decide +kernel) ha (by decide) (by decide) he hpl
def ints? : List D → Option (List Int)
  | [] => some []
  | .int i :: r => match ints? r with
    | some ns => some (i :: ns)
    | none => none
  | _ :: _ => none
theorem ints?_inv : ∀ {xs : List D} {ns : List Int}, ints? xs = some ns → xs = ns.map D.int
  | [], _, h => by cases h; rfl
  | .int i :: r, ns, h => by
    unfold ints? at h
    cases e : ints? r with
    | none => rw [e] at h; cases h
    | some ms => rw [e] at h; cases h; rw [ints?_inv e]; rfl
  | .non :: _, _, h => by cases h
  | .bl _ :: _, _, h => by cases h
  | .str _ :: _, _, h => by cases h
  | .lst _ :: _, _, h => by cases h
  | .tup _ :: _, _, h => by cases h
  | .obj _ _ :: _, _, h => by cases h
  | .scr _ :: _, _, h => by cases h
theorem Reps.ints {G : Hp} : ∀ {ns : List Int} {vs : List V}, Reps T G (ns.map D.int) vs → vs = ns.map V.int
  | [], vs, h => h.nil_inv
  | n :: ns, vs, h => by
    obtain ⟨v, r, rfl, a, b⟩ := h.cons_inv
    have := Rep.int_inv a; subst this
    rw [Reps.ints b]; rfl
def sumD : List D → Option D
  | [.lst xs] => (ints? xs).map fun ns => .int ns.sum
  | [.scr ns] => some (.int ns.sum)
  | _ => none
theorem fresh_sum : FreshN T sumD (rSum T.K) := by
  intro G H x d v Q e hx hd k
  unfold sumD at hd
  split at hd
  · rename_i xs
    cases h : ints? xs with
    | none => rw [h] at hd; cases hd
    | some ns =>
      rw [h] at hd
      cases hd
      have := ints?_inv h; subst this
      obtain ⟨v, rfl, q, vs, rfl, sq, l, r⟩ := hx.one
      rw [r.ints] at sq
      exact ⟨q, ns, rfl, SqL.of sq, k _ H G (Step.refl e) Rep.int⟩
  · cases hd
    obtain ⟨v, rfl, q, rfl, sq, l⟩ := hx.one
    exact ⟨q, _, rfl, sq, k _ H G (Step.refl e) Rep.int⟩
  · cases hd
theorem dn_sum {B : MA} (hT : X.K = T.K) (hc : X.calm = true) (hg : Gl X "sum") (hm : X.mg "sum" = none) (ha : PA X (e :: es) (tDA T W B)) (he : starEach (e :: es) X.env = (false, eval e X.env) :: starEach es X.env := by rfl) (hpl : (backTo pos (starEach es X.env)).any (·.1) = false := by rfl) : PE X (.Call (.Name "sum" p) (e :: es) [] pos) (tD T W (mBlt (liftN sumD) B)) :=
  dn_callB (by have := cr_sum (X := X) hc; rw [hT] at this; exact this) (primN fresh_sum) hg hm (by decide +kernel) ha (by decide) (by decide) he hpl
def absD : List D → Option D
  | [.int i] => some (.int (if i < 0 then -i else i))
  | _ => none
theorem fresh_abs : FreshN T absD (fun xs H Q => ∃ i, xs = [.int i] ∧ Q (.int (if i < 0 then -i else i)) H) := by
  intro G H x d v Q e hx hd k
  unfold absD at hd
  split at hd
  · cases hd
    obtain ⟨v, rfl, h⟩ := hx.one
    have := View.int_inv h; subst this
    exact ⟨_, rfl, k _ H G (Step.refl e) Rep.int⟩
  · cases hd
theorem dn_abs {B : MA} (hg : Gl X "abs") (hm : X.mg "abs" = none) (ha : PA X (e :: es) (tDA T W B)) (he : starEach (e :: es) X.env = (false, eval e X.env) :: starEach es X.env := by rfl) (hpl : (backTo pos (starEach es X.env)).any (·.1) = false := by rfl) : PE X (.Call (.Name "abs" p) (e :: es) [] pos) (tD T W (mBlt (liftN absD) B)) :=
  dn_callB call_abs (primN fresh_abs) hg hm (by decide +kernel) ha (by decide) (by decide) he hpl
def intD : List D → Option D
  | [.int i] => some (.int i)
  | _ => none
theorem fresh_int : FreshN T intD (fun xs H Q => (∃ i, xs = [.int i] ∧ Q (.int i) H) ∨ ∃ k, xs = [.bl k] ∧ Q (.int (if k then 1 else 0)) H) := by
  intro G H x d v Q e hx hd k
  unfold intD at hd
  split at hd
  · cases hd
    obtain ⟨v, rfl, h⟩ := hx.one
    have := View.int_inv h; subst this
    exact .inl ⟨_, rfl, k _ H G (Step.refl e) Rep.int⟩
  · cases hd
theorem dn_intc {B : MA} (hg : Gl X "int") (hm : X.mg "int" = none) (ha : PA X (e :: es) (tDA T W B)) (he : starEach (e :: es) X.env = (false, eval e X.env) :: starEach es X.env := by rfl) (hpl : (backTo pos (starEach es X.env)).any (·.1) = false := by rfl) : PE X (.Call (.Name "int" p) (e :: es) [] pos) (tD T W (mBlt (liftN intD) B)) :=
  dn_callTy call_int1 (primN fresh_int) hg hm (by decide +kernel) ha (by decide) (by decide) he hpl
def max2D : List D → Option D
  | [.int i, .int j] => some (.int (if j > i then j else i))
  | _ => none
def min2D : List D → Option D
  | [.int i, .int j] => some (.int (if j < i then j else i))
  | _ => none
theorem fresh_max2 : FreshN T max2D (fun xs H Q => ∃ i j, xs = [.int i, .int j] ∧ Q (.int (if j > i then j else i)) H) := by
  intro G H x d v Q e hx hd k
  unfold max2D at hd
  split at hd
  · cases hd
    obtain ⟨v, u, rfl, h, h'⟩ := hx.two
    have := View.int_inv h; subst this
    have := View.int_inv h'; subst this
    exact ⟨_, _, rfl, k _ H G (Step.refl e) Rep.int⟩
  · cases hd
theorem fresh_min2 : FreshN T min2D (fun xs H Q => ∃ i j, xs = [.int i, .int j] ∧ Q (.int (if j < i then j else i)) H) := by
  intro G H x d v Q e hx hd k
  unfold min2D at hd
  split at hd
  · cases hd
    obtain ⟨v, u, rfl, h, h'⟩ := hx.two
    have := View.int_inv h; subst this
    have := View.int_inv h'; subst this
    exact ⟨_, _, rfl, k _ H G (Step.refl e) Rep.int⟩
  · cases hd
theorem dn_max2 {B : MA} (hc : X.calm = true) (hg : Gl X "max") (hm : X.mg "max" = none) (ha : PA X (e :: es) (tDA T W B)) (he : starEach (e :: es) X.env = (false, eval e X.env) :: starEach es X.env := by rfl) (hpl : (backTo pos (starEach es X.env)).any (·.1) = false := by rfl) : PE X (.Call (.Name "max" p) (e :: es) [] pos) (tD T W (mBlt (liftN max2D) B)) :=
  dn_callB (call_max2 hc) (primN fresh_max2) hg hm (by decide +kernel) ha (by decide) (by decide) he hpl
theorem dn_min2 {B : MA} (hc : X.calm = true) (hg : Gl X "min") (hm : X.mg "min" = none) (ha : PA X (e :: es) (tDA T W B)) (he : starEach (e :: es) X.env = (false, eval e X.env) :: starEach es X.env := by rfl) (hpl : (backTo pos (starEach es X.env)).any (·.1) = false := by rfl) : PE X (.Call (.Name "min" p) (e :: es) [] pos) (tD T W (mBlt (liftN min2D) B)) :=
  dn_callB (call_min2 hc) (primN fresh_min2) hg hm (by decide +kernel) ha (by decide) (by decide) he hpl
def bls? : List D → Option (List Bool)
  | [] => some []
  | .bl i :: r => match bls? r with
    | some ns => some (i :: ns)
    | none => none
  | _ :: _ => none
theorem bls?_inv : ∀ {xs : List D} {ns : List Bool}, bls? xs = some ns → xs = ns.map D.bl
  | [], _, h => by cases h; rfl
  | .bl i :: r, ns, h => by
    unfold bls? at h
    cases e : bls? r with
    | none => rw [e] at h; cases h
    | some ms => rw [e] at h; cases h; rw [bls?_inv e]; rfl
  | .non :: _, _, h => by cases h
  | .int _ :: _, _, h => by cases h
  | .str _ :: _, _, h => by cases h
  | .lst _ :: _, _, h => by cases h
  | .tup _ :: _, _, h => by cases h
  | .obj _ _ :: _, _, h => by cases h
  | .scr _ :: _, _, h => by cases h
theorem Reps.bls {G : Hp} : ∀ {ns : List Bool} {vs : List V}, Reps T G (ns.map D.bl) vs → vs = ns.map V.bl
  | [], vs, h => h.nil_inv
  | n :: ns, vs, h => by
    obtain ⟨v, r, rfl, a, b⟩ := h.cons_inv
    have := Rep.bl_inv a; subst this
    rw [Reps.bls b]; rfl
def allD : List D → Option D
  | [.lst xs] => (bls? xs).map fun ns => .bl (ns.all id)
  | _ => none
def anyD : List D → Option D
  | [.lst xs] => (bls? xs).map fun ns => .bl (ns.any id)
  | _ => none
theorem fresh_all : FreshN T allD (L2.rAll T.K) := by
  intro G H x d v Q e hx hd k
  unfold allD at hd
  split at hd
  · rename_i xs
    cases h : bls? xs with
    | none => rw [h] at hd; cases hd
    | some ns =>
      rw [h] at hd
      cases hd
      have := bls?_inv h; subst this
      obtain ⟨v, rfl, q, vs, rfl, sq, l, r⟩ := hx.one
      rw [r.bls] at sq
      exact ⟨q, ns, rfl, SqL.of sq, k _ H G (Step.refl e) Rep.bl⟩
  · cases hd
theorem fresh_any : FreshN T anyD (L2.rAny T.K) := by
  intro G H x d v Q e hx hd k
  unfold anyD at hd
  split at hd
  · rename_i xs
    cases h : bls? xs with
    | none => rw [h] at hd; cases hd
    | some ns =>
      rw [h] at hd
      cases hd
      have := bls?_inv h; subst this
      obtain ⟨v, rfl, q, vs, rfl, sq, l, r⟩ := hx.one
      rw [r.bls] at sq
      exact ⟨q, ns, rfl, SqL.of sq, k _ H G (Step.refl e) Rep.bl⟩
  · cases hd
theorem dn_all {B : MA} (hT : X.K = T.K) (hc : X.calm = true) (hg : Gl X "all") (hm : X.mg "all" = none) (ha : PA X (e :: es) (tDA T W B)) (he : starEach (e :: es) X.env = (false, eval e X.env) :: starEach es X.env := by rfl) (hpl : (backTo pos (starEach es X.env)).any (·.1) = false := by rfl) : PE X (.Call (.Name "all" p) (e :: es) [] pos) (tD T W (mBlt (liftN allD) B)) :=
  dn_callB (by have := cr_all (X := X) hc; rw [hT] at this; exact this) (primN fresh_all) hg hm (by decide +kernel) ha (by decide) (by decide) he hpl
theorem dn_any {B : MA} (hT : X.K = T.K) (hc : X.calm = true) (hg : Gl X "any") (hm : X.mg "any" = none) (ha : PA X (e :: es) (tDA T W B)) (he : starEach (e :: es) X.env = (false, eval e X.env) :: starEach es X.env := by rfl) (hpl : (backTo pos (starEach es X.env)).any (·.1) = false := by rfl) : PE X (.Call (.Name "any" p) (e :: es) [] pos) (tD T W (mBlt (liftN anyD) B)) :=
  dn_callB (by have := cr_any (X := X) hc; rw [hT] at this; exact this) (primN fresh_any) hg hm (by decide +kernel) ha (by decide) (by decide) he hpl

/-! ### sorted -/
def allAlike (xs : List D) : Bool := xs.all fun x => xs.all fun y => PySem.W.alike x.py y.py
def isTup1 : PyData → Bool
  | .tuple (_ :: _) => true
  | _ => false
def notTup : PyData → Bool
  | .tuple _ => false
  | .none => false
  | _ => true
def sortOk (xs : List D) : Bool := xs.all (D.ok 50) && allAlike xs && (xs.all (fun x => isTup1 x.py) || xs.all fun x => notTup x.py)
/-- a stable sort by putting in place, one by one -/
def insS {α : Type} (le : α → α → Bool) (x : α) : List α → List α
  | [] => [x]
  | y :: r => if le x y = true then x :: y :: r else y :: insS le x r
def isort {α : Type} (le : α → α → Bool) : List α → List α
  | [] => []
  | x :: r => insS le x (isort le r)
theorem insS_at {α : Type} {le : α → α → Bool} {a : α} : ∀ {l₁ l₂ : List α}, (∀ b, b ∈ l₁ → le a b = false) → (∀ b, b ∈ l₂.head? → le a b = true) → insS le a (l₁ ++ l₂) = l₁ ++ a :: l₂
  | [], [], _, _ => rfl
  | [], y :: r, _, h => by
    show insS le a (y :: r) = a :: y :: r
    unfold insS
    rw [if_pos (h y (by simp))]
  | b :: l₁, l₂, h, k => by
    show insS le a (b :: (l₁ ++ l₂)) = b :: (l₁ ++ a :: l₂)
    unfold insS
    rw [if_neg (by rw [h b List.mem_cons_self]; exact Bool.false_ne_true), insS_at (fun x hx => h x (List.mem_cons_of_mem _ hx)) k]
theorem isort_merge {α : Type} {le : α → α → Bool} (trans : ∀ (a b c : α), le a b = true → le b c = true → le a c = true) (total : ∀ (a b : α), (le a b || le b a) = true) : ∀ xs : List α, isort le xs = xs.mergeSort le
  | [] => by simp [isort]
  | x :: r => by
    obtain ⟨l₁, l₂, h1, h2, h3⟩ := List.mergeSort_cons trans total x r
    unfold isort
    rw [isort_merge trans total r, h2, h1, insS_at (fun b hb => by simpa using h3 b hb)]
    intro b hb
    have sorted : (l₁ ++ x :: l₂).Pairwise fun a b => le a b = true := by rw [← h1]; exact List.pairwise_mergeSort trans total _
    have := (List.pairwise_append.mp sorted).2.1
    have := (List.pairwise_cons.mp this).1
    cases l₂ with
    | nil => cases hb
    | cons y r => cases hb; exact this _ List.mem_cons_self
def sortL (xs : List D) : List D := isort (PySem.W.dataLe false D.py) xs
theorem sortL_merge (xs : List D) : sortL xs = xs.mergeSort (PySem.W.dataLe false D.py) := by
  have tot := PySem.W.sortLe_total (PyProof.Rows.listOrd PyProof.Rows.itemOrd) false fun b : D => PySem.W.keyToks b.py
  exact isort_merge (fun a b c h1 h2 => tot.trans a b c h1 h2) (fun a b => by
    rcases tot.total a b with h | h
    · exact Bool.or_eq_true_iff.mpr (.inl h)
    · exact Bool.or_eq_true_iff.mpr (.inr h)) xs
def sortedD : List D → Option D
  | [.lst xs] => if sortOk xs = true then some (.lst (sortL xs)) else none
  | _ => none
def rSrt (T : Tb) : List V → Hp → VK → Prop := fun vs H Q => ∃ G q us xs, vs = [.ref q] ∧ Ex G H ∧ H q = some (.lst us) ∧ Reps T G xs us ∧ sortOk xs = true ∧ xs.length ≤ sizeLine ∧ ∀ t ws, H t = none → Reps T G (sortL xs) ws → Q (.ref t) (upd H t (.lst ws))
theorem alike_ok {xs : List D} (h : allAlike xs = true) : PySem.W.AllAlike (xs.map D.py) := by
  intro d hd d' hd'
  obtain ⟨x, hx, rfl⟩ := List.mem_map.mp hd
  obtain ⟨y, hy, rfl⟩ := List.mem_map.mp hd'
  unfold allAlike at h
  rw [List.all_eq_true] at h
  have := h x hx
  rw [List.all_eq_true] at this
  exact this y hy
theorem sortable_ok {xs : List D} (h : (xs.all (fun x => isTup1 x.py) || xs.all fun x => notTup x.py) = true) : PySem.W.Sortable (xs.map D.py) := by
  rw [Bool.or_eq_true] at h
  rcases h with h | h
  · refine .inl fun d hd => ?_
    obtain ⟨x, hx, rfl⟩ := List.mem_map.mp hd
    rw [List.all_eq_true] at h
    have := h x hx
    unfold isTup1 at this
    split at this
    · rename_i a r hh; exact ⟨a, r, hh⟩
    · cases this
  · refine .inr fun d hd => ?_
    obtain ⟨x, hx, rfl⟩ := List.mem_map.mp hd
    rw [List.all_eq_true] at h
    have := h x hx
    unfold notTup at this
    split at this
    · cases this
    · cases this
    · rename_i h1 h2
      exact ⟨h2, h1⟩
theorem each_of {G H : Hp} (e : Ex G H) {pins : List (Addr × Obj)} {σ : L2.St} {s : Shared} (hT : X.K = T.K) (I : Inv X pins σ H s) : ∀ {xs : List D} {us : List V} {its : List Value}, xs.all (D.ok 50) = true → Reps T G xs us → Vals us its →
    PySem.W.EachIs (fun (v : Value) (d : D) => ∃ x : V, RelV x v ∧ Rep T G d x) its xs ∧ PySem.W.EachIs (fun (v : Value) (d : D) => ∃ as, Reads s.heap v d.py as) its xs
  | [], us, its, _, r, v => by cases r.nil_inv; cases v; exact ⟨.nil, .nil⟩
  | x :: xs, us, its, h, r, v => by
    obtain ⟨u, us, rfl, a, b⟩ := r.cons_inv
    simp only [List.all_cons, Bool.and_eq_true] at h
    cases v with
    | cons v1 v2 =>
      obtain ⟨i1, i2⟩ := each_of e hT I h.2 b v2
      have hd : Dp X.K H u x.py := by rw [hT]; exact Dp.mono e _ _ (Rep.dp 50 _ _ h.1 a)
      exact ⟨.cons ⟨u, v1, a⟩ i1, .cons (Dp.reads I _ _ _ hd v1) i2⟩
theorem each_back {G : Hp} : ∀ {its : List Value} {xs : List D}, PySem.W.EachIs (fun (v : Value) (d : D) => ∃ x : V, RelV x v ∧ Rep T G d x) its xs → ∃ us, Vals us its ∧ Reps T G xs us
  | _, _, .nil => ⟨[], .nil, Reps.nil⟩
  | _, _, .cons ⟨x, r, q⟩ t => let ⟨us, a, b⟩ := each_back t; ⟨x :: us, .cons r a, Reps.cons q b⟩
theorem cr_srt (hT : X.K = T.K) (hu : X.A.units + 64 < cLine) : CallR X (.builtin "sorted") (rSrt T) := by
  intro pins s σ H vs us0 Q I r h
  obtain ⟨G, q, us, xs, rfl, e, hq, rr, ok, hlen, k⟩ := h
  rw [Vals.ref1 r]
  unfold sortOk at ok
  simp only [Bool.and_eq_true] at ok
  obtain ⟨⟨o1, o2⟩, o3⟩ := ok
  obtain ⟨its, rv, hl, hz⟩ := I.list (SqL.of hq)
  obtain ⟨e1, e2⟩ := each_of e hT I o1 rr rv
  refine PySem.W.sorted_data (enc := D.py) hl.isList e1 e2 (alike_ok o2) (sortable_ok o3) hlen (fun b hb => ?_) fun out hol hout => ?_
  · rw [List.all_eq_true] at o1
    have := depth_py 50 b (o1 b hb)
    omega
  · rw [← sortL_merge] at hout
    obtain ⟨ws, hv, hr⟩ := each_back hout
    obtain ⟨ep, he'⟩ := PyProof.Rows.sortedAll_at s.heap its out.toArray
    have hwl : ws.length ≤ sizeLine := by rw [hr.length, sortL_merge, List.length_mergeSort]; exact hlen
    exact ⟨.ref _, upd H (s.heap.objs.size + 1) (.lst ws), I.laid (t' := s.toks) (fun _ _ => PyProof.Rows.sortedAll_old) (Nat.le_succ _) ⟨hwl, out, ep, hv, he'⟩, rfl, k _ ws (I.hok.fresh (Nat.le_succ _)) hr⟩
theorem fresh_sorted : FreshN T sortedD (rSrt T) := by
  intro G H x d v Q e hx hd k
  unfold sortedD at hd
  split at hd
  · rename_i xs
    split at hd
    · rename_i ok
      cases hd
      obtain ⟨v, rfl, q, vs, rfl, sq, l, r⟩ := hx.one
      refine ⟨G, q, vs, xs, rfl, e, sq, r, ok, l, fun t ws ht hr => ?_⟩
      have st : Step G H (upd G t (.lst ws)) (upd H t (.lst ws)) := Step.new e ht
      exact k _ _ _ st (Rep.lst upd_same (by rw [sortL_merge, List.length_mergeSort]; exact l) (Reps.mono st.g _ _ hr))
    · cases hd
  · cases hd
theorem dn_sorted {B : MA} {k : Nat} (hT : X.K = T.K) (hr : Room k X.A) (hg : Gl X "sorted") (hm : X.mg "sorted" = none) (ha : PA X (e :: es) (tDA T W B)) (he : starEach (e :: es) X.env = (false, eval e X.env) :: starEach es X.env := by rfl) (hpl : (backTo pos (starEach es X.env)).any (·.1) = false := by rfl) : PE X (.Call (.Name "sorted" p) (e :: es) [] pos) (tD T W (mBlt (liftN sortedD) B)) :=
  dn_callB (cr_srt hT hr.units) (primN fresh_sorted) hg hm (by decide +kernel) ha (by decide) (by decide) he hpl
end
end Dn

end
section
set_option maxHeartbeats 4000000
/-! Dn7: == and != where objects with an own == stand among the items. -/
namespace Dn
open PySem PySem.Spec PyProof.Rows L2
open PySem.SeqAt
open AutoSeq1 (wpAny_loadPart')
open MeetsSeq MeetsSeq2 MeetsSeq3 SeqRoads2
section
variable {prog : Program} {w : World} {A : Around} {R : Result → Shared → Prop}
def codeOf (neg : Bool) : Int := if neg then 3 else 2
def Both (l b : Addr) (N : Nat) (s : Shared) : Prop := ∃ (x y : Array Value) (n m : Nat), s.heap.get? l = some { cls := .type "list", data := .seq x n } ∧ s.heap.get? b = some { cls := .type "list", data := .seq y m } ∧ x.size = N ∧ y.size = N
/-- at each turn the two lists are read anew; what the i-th two are found to be -/
def Pairs (prog : Program) (w : World) (A : Around) (E : Value → Shared → Prop) (l b : Addr) (N : Nat) (I : Nat → Shared → Prop) (Z : Shared → Prop) : Prop :=
  ∀ (i : Nat) (s : Shared), I i s → ∃ (x y : Array Value) (n m : Nat), s.heap.get? l = some { cls := .type "list", data := .seq x n } ∧ s.heap.get? b = some { cls := .type "list", data := .seq y m } ∧ x.size = N ∧ y.size = N ∧
    ∀ (h1 : i < x.size) (h2 : i < y.size), wpAny (model prog w) A.in1 (eqBool x[i] y[i]) (fun r t => (r = true ∧ I (i + 1) t) ∨ (r = false ∧ Z t)) E s
theorem cmp_loop (neg : Bool) {l b : Addr} {N : Nat} {I : Nat → Shared → Prop} {Z : Shared → Prop} (hl : Pairs prog w A (fun e t => R (.error e) t) l b N I Z) (hB : ∀ t, Z t → Both l b N t)
    (hN : ∀ t, I N t → R (.ok (.ret (.bool (!neg)))) t) (hZ : ∀ t, Z t → R (.ok (.ret (.bool neg))) t) :
    ∀ k i : Nat, N - i = k → i ≤ N → ∀ s, I i s → wpAny (model prog w) A.in1 (Builtin.«list.__eq__.loop» ⟨[.ref l, .ref b, rawInt i, rawInt (codeOf neg)], []⟩) (GQ.FinOf prog w A R) (fun e t => R (.error e) t) s := by
  intro k
  induction k with
  | zero =>
    intro i hk hi s hI
    obtain ⟨x, y, n, m, hx, hy, sx, sy, _⟩ := hl i s hI
    have e : i = N := by omega
    subst e
    have fin := hN s hI
    have nx : x[((i : Nat) : Int).toNat]? = none := by simp; omega
    have ny : y[((i : Nat) : Int).toNat]? = none := by simp; omega
    obtain ⟨hp, g, d, tk, os⟩ := s
    cases neg with
    | false =>
      wp_walk using wpAny_loadPart' hx, wpAny_loadPart' hy
      rw [nx, ny]
      wp_walk using wpAny_loadPart' hx, wpAny_loadPart' hy
      show R (.ok (.ret (.bool (x.size == y.size)))) _
      rw [sx, sy]
      simpa using fin
    | true =>
      wp_walk using wpAny_loadPart' hx, wpAny_loadPart' hy
      rw [nx, ny]
      wp_walk using wpAny_loadPart' hx, wpAny_loadPart' hy
      show R (.ok (.ret (.bool (x.size != y.size)))) _
      rw [sx, sy]
      simpa using fin
  | succ k ih =>
    intro i hk hi s hI
    obtain ⟨x, y, n, m, hx, hy, sx, sy, turn⟩ := hl i s hI
    have h1 : i < x.size := by omega
    have h2 : i < y.size := by omega
    have ht := turn h1 h2
    have gx : x[((i : Nat) : Int).toNat]? = some x[i] := by simp [h1]
    have gy : y[((i : Nat) : Int).toNat]? = some y[i] := by simp [h2]
    have hc : ((i : Int) + 1) = ((i + 1 : Nat) : Int) := by omega
    have two : ∀ t : Shared, Z t → ∃ (x y : Array Value) (n m : Nat), t.heap.get? l = some { cls := .type "list", data := .seq x n } ∧ t.heap.get? b = some { cls := .type "list", data := .seq y m } ∧ (∃ u, x[((i : Nat) : Int).toNat]? = some u) ∧ ∃ u, y[((i : Nat) : Int).toNat]? = some u := fun t z => by
      obtain ⟨x', y', n', m', q1, q2, q3, q4⟩ := hB t z
      have k1 : i < x'.size := by omega
      have k2 : i < y'.size := by omega
      exact ⟨x', y', n', m', q1, q2, ⟨x'[i], by simp [k1]⟩, ⟨y'[i], by simp [k2]⟩⟩
    obtain ⟨hp, g, d, tk, os⟩ := s
    cases neg with
    | false =>
      wp_walk using wpAny_loadPart' hx, wpAny_loadPart' hy
      rw [gx, gy]
      refine wpAny_bind (wpAny_mono ht (fun r t q => ?_) fun _ _ z => z)
      rcases q with ⟨rfl, q⟩ | ⟨rfl, q⟩
      · have next := ih (i + 1) (by omega) (by omega) t q
        obtain ⟨hp2, g2, d2, tk2, os2⟩ := t
        wp_walk
        rw [hc]
        exact ⟨plainId_quiet plain_eq_loop _, codeAny_builtin entry_eq_loop (by rw [Around.under_plainId plain_eq_loop _]; exact next)⟩
      · obtain ⟨x', y', n', m', q1, q2, ⟨u1, q3⟩, u2, q4⟩ := two t q
        have fin := hZ t q
        obtain ⟨hp2, g2, d2, tk2, os2⟩ := t
        wp_walk using wpAny_loadPart' q1, wpAny_loadPart' q2
        rw [q3, q4]
        wp_walk
        exact fin
    | true =>
      wp_walk using wpAny_loadPart' hx, wpAny_loadPart' hy
      rw [gx, gy]
      refine wpAny_bind (wpAny_mono ht (fun r t q => ?_) fun _ _ z => z)
      rcases q with ⟨rfl, q⟩ | ⟨rfl, q⟩
      · have next := ih (i + 1) (by omega) (by omega) t q
        obtain ⟨hp2, g2, d2, tk2, os2⟩ := t
        wp_walk
        rw [hc]
        exact ⟨plainId_quiet plain_eq_loop _, codeAny_builtin entry_eq_loop (by rw [Around.under_plainId plain_eq_loop _]; exact next)⟩
      · obtain ⟨x', y', n', m', q1, q2, ⟨u1, q3⟩, u2, q4⟩ := two t q
        have fin := hZ t q
        obtain ⟨hp2, g2, d2, tk2, os2⟩ := t
        wp_walk using wpAny_loadPart' q1, wpAny_loadPart' q2
        rw [q3, q4]
        wp_walk
        exact fin
def cmpOf (neg : Bool) : CmpOp := if neg then .NotEq else .Eq
theorem list_cmp (neg : Bool) {E : Value → Shared → Prop} {l b : Addr} {N : Nat} {I : Nat → Shared → Prop} {Z : Shared → Prop} {Q : Value → Shared → Prop} {s : Shared} (hu : A.units < cLine) (hl : Pairs prog w A E l b N I Z) (hB : ∀ t, Z t → Both l b N t)
    (hN : ∀ t, I N t → Q (.bool (!neg)) t) (hZ : ∀ t, Z t → Q (.bool neg) t) (h0 : I 0 s) : wpAny (model prog w) A (richCompare (cmpOf neg) (.ref l) (.ref b)) Q E s := by
  obtain ⟨x, y, n, m, hx, hy, sx, sy, _⟩ := hl 0 s h0
  have f3 := AutoSeq1.sub_list_list
  have hne : ¬ (x.size != y.size) = true := by simp [sx, sy]
  have lp := cmp_loop (R := wants (fun v t => v ≠ .notImplemented ∧ Q v t) E) neg hl hB (fun t q => ⟨(fun z => nomatch z), hN t q⟩) (fun t q => ⟨(fun z => nomatch z), hZ t q⟩) N 0 rfl (Nat.zero_le _) s h0
  cases neg with
  | false =>
    refine wpAny_richCompare_same_room (op := .Eq) ⟨_, hx, rfl⟩ ⟨_, hy, rfl⟩ F.slot_list_eq (GQ.call_here F.slot_list_eq ⟨_, hx, rfl⟩ F.entry_list_eq (F.args_list_eq_2 _ _) ?_) hu
    obtain ⟨hp, g, d, tk, os⟩ := s
    wp_walk using wpAny_loadPart' hx, wpAny_loadPart' hy
    exact ⟨plainId_quiet plain_eq_loop _, codeAny_builtin entry_eq_loop (by rw [Around.under_plainId plain_eq_loop _]; exact lp)⟩
  | true =>
    refine wpAny_richCompare_same_room (op := .NotEq) ⟨_, hx, rfl⟩ ⟨_, hy, rfl⟩ F.slot_list_ne (GQ.call_here F.slot_list_ne ⟨_, hx, rfl⟩ F.entry_list_ne (F.args_list_ne_2 _ _) ?_) hu
    obtain ⟨hp, g, d, tk, os⟩ := s
    wp_walk using wpAny_loadPart' hx, wpAny_loadPart' hy
    exact ⟨plainId_quiet plain_eq_loop _, codeAny_builtin entry_eq_loop (by rw [Around.under_plainId plain_eq_loop _]; exact lp)⟩
end

section
variable {X : Cx} {T : Tb} {W : WX} {a b o e : Expr} {es : List Expr} {A B : M} {pos p apos : Pos}
theorem RelH.grow {H H' : Hp} {c : Cs} {G : Hp} {ρ : List Addr} (r : RelH T H c G ρ) (e : Ex H H') : RelH T H' c G ρ := by
  refine ⟨r.ex.trans e, r.len, r.nd, fun i p x a b => ?_⟩
  obtain ⟨g, k⟩ := r.at_ i p x a b
  obtain ⟨o, ho⟩ := k.some
  exact ⟨g, k.keep (.refl _) ((e _ _ ho).trans ho.symm) (List.prefix_refl _)⟩
theorem RelH.none (H : Hp) : RelH T H [] H [] := ⟨.refl _, rfl, List.nodup_nil, fun i p x a _ => by simp at a⟩
/-- the own == of two objects of a class, anywhere below the body -/
theorem rc_own {fn : List S → Cs → R S} {n j k : Nat} (M : MethAt X.prog X.w X.K X.mg X.base T "__eq__" k j fn) (hj : j ≤ n) {Ar : Around} {pins : List (Addr × Obj)} {s : Shared} {σ : L2.St} {H : Hp} {x y : Addr} {xs ys : List D} {r : Bool} (sb : Sub X n Ar) (I : Inv X pins σ H s)
    (hx : Rep T H (.obj k xs) (.ref x)) (hy : Rep T H (.obj k ys) (.ref y)) (hf : fn [.d (.obj k xs), .d (.obj k ys)] [] = .ok (.d (.bl r)) []) :
    wpAny (model X.prog X.w) Ar (richCompare .Eq (.ref x) (.ref y)) (fun v s' => v = .bool r ∧ ∃ H', Inv X pins σ H' s' ∧ Ex H H') X.xe s := by
  obtain ⟨f, fd, ps, F, hm, hc, _, hb⟩ := M
  obtain ⟨_, dx, fv, e1, hx1, _⟩ := hx.obj_inv
  cases e1
  obtain ⟨_, dy, gv, e2, hy1, _⟩ := hy.obj_inv
  cases e2
  obtain ⟨mA, J, _⟩ := ins_get I.hok hx1
  obtain ⟨mB, J', _⟩ := ins_get I.hok hy1
  obtain ⟨od, J, _⟩ := J.look
  obtain ⟨od', J', _⟩ := J'.look
  obtain ⟨m, hF⟩ := I.fr
  refine PySem.W.cmp_K (op := .Eq) (tb := .ref (T.cl k)) sb.room.units0 hF I.ok.mod.kin J J'.type (by simp [PySem.W.notFirst]) hm.at_ hm.fn ?_
  have hsp : spD T fn [.ref x, .ref y] H (fun v H' => v = .bl r ∧ Ex H H') (fun _ _ _ => False) := by
    refine ⟨[.d (.obj k xs), .d (.obj k ys)], [], H, [], .cons hx (.cons hy .nil), RelH.none H, ?_⟩
    rw [hf]
    exact fun v H' G' ρ' eg pr rh rv => ⟨SRep.bl_inv rv, eg.trans rh.ex⟩
  have e0 : Env0 X.prog X.w X.K X.mg X.base Ar X.stack s H := by
    have e := I.env0
    exact ⟨by rw [sb.fr]; exact e.frames, e.mod, e.bs, e.bsz, e.funs, e.frf, e.hok, e.bare⟩
  have hl := F.len _ _ _ _ hsp
  have bb := hb s [.ref x, .ref y] I.kIn (by simpa using hl)
  rw [List.append_nil] at bb
  refine wpAny_call (codeAny_mono (F.run Ar X.stack s H ⟨[.ref x, .ref y], []⟩ [.ref x, .ref y] [.ref x, .ref y] _ _ (sb.room.mono hj) e0 bb (.cons rfl (.cons rfl .nil)) hsp) fun fl s' hq => ?_)
  cases fl with
  | error e =>
    obtain ⟨_, _, _, _, _, _, _, _, _, _, _, _, z⟩ := hq
    exact z.elim
  | ok fl =>
    cases fl with
    | ret w =>
      obtain ⟨z, H', I', rz, ez, ex⟩ := I.after hq
      subst ez
      cases rz
      exact ⟨rfl, H', I', ex⟩
    | next => exact False.elim hq
    | brk => exact False.elim hq
    | cont => exact False.elim hq
/-- two items: plain data, or objects that are equal by their own == -/
def isB (r : R S) : Option Bool := match r with
  | .ok (.d (.bl b)) [] => some b
  | _ => none
theorem isB_inv {r : R S} {b : Bool} (h : isB r = some b) : r = .ok (.d (.bl b)) [] := by
  unfold isB at h
  split at h
  · cases h; rfl
  · cases h
section
variable {tbl : List (Nat × (List S → Cs → R S))} {n : Nat} (hM : MethsAt X.prog X.w X.K X.mg X.base T "__eq__" n tbl) (hT : X.K = T.K) (hr : Room (n + 1) X.A) (ha : PE X a (tD T W A)) (hb : PE X b (tD T W B))
include hM hT hr ha hb
end
section
variable {tbl : List (Nat × (List S → Cs → R S))} {n : Nat} (hM : MethsAt X.prog X.w X.K X.mg X.base T "__eq__" n tbl) (hr : Room n X.A) (ha : PE X a (tD T W A)) (hb : PE X b (tD T W B))
include hM hr ha hb
end
end
end Dn

end
section
set_option maxHeartbeats 1000000
/-! Dn8: list(range), isinstance, cells changed, dicts, errors, len of own objects. -/
namespace Dn
open PySem PySem.Spec PyProof.Rows L2
section
variable {X : Cx} {T : Tb} {W : WX} {a b o e : Expr} {es : List Expr} {A B : M} {pos p p2 pos2 apos : Pos}
/-! ### list(range(n)) -/
/-! ### isinstance -/
/-- what isinstance says of each kind of data -/
structure Kinds where
  non : Option Bool
  bl : Option Bool
  int : Option Bool
  str : Option Bool
  lst : Option Bool
  tup : Option Bool
  obj : List (Nat × Bool)
  dct : Option Bool := none
def Kinds.ask (k : Kinds) : D → Option Bool
  | .non => k.non
  | .bl _ => k.bl
  | .int _ => k.int
  | .str _ => k.str
  | .lst _ => k.lst
  | .tup _ => k.tup
  | .obj c _ => look k.obj c
  | .scr _ => none
  | .dct _ _ => k.dct
/-- a class whose instances may be asked for their class -/
structure Asked (K : PySem.W.Frag) (C : Addr) : Prop where
  cl : Cls K C
  ha : PySem.W.findIn K (.ref C) "__class__" = some (some (.builtin "object.__class__"))
  hn : PySem.W.specialIn K (.builtin "object.__class__") "__get__" = some (some (.builtin "getset_descriptor.__get__"))
  htk : PySem.W.takesIn K (.builtin "object.__class__") = some true
  hm : PySem.W.mroIn K C (.type "object") = some true
structure KindsOk (K : PySem.W.Frag) (T : Tb) (f : Value → Option Bool) (k : Kinds) : Prop where
  non : ∀ r, k.non = some r → f (.type "NoneType") = some r
  bl : ∀ r, k.bl = some r → f (.type "bool") = some r
  int : ∀ r, k.int = some r → f (.type "int") = some r
  str : ∀ r, k.str = some r → f (.type "str") = some r
  lst : ∀ r, k.lst = some r → f (.type "list") = some r
  tup : ∀ r, k.tup = some r → f (.type "tuple") = some r
  obj : ∀ c r, (c, r) ∈ k.obj → Asked K (T.cl c) ∧ f (.ref (T.cl c)) = some r
  dct : ∀ r, k.dct = some r → f (.type "dict") = some r
theorem Kinds.ty {K : PySem.W.Frag} {G H : Hp} {f : Value → Option Bool} {k : Kinds} (ok : KindsOk K T f k) (e : Ex G H) {d : D} {v : V} {r : Bool} (h : View T G H d v) (hk : k.ask d = some r) : ∃ t, TyX K H v t ∧ f t = some r := by
  cases d with
  | non => have := View.non_inv h; subst this; exact ⟨_, .base .non, ok.non r hk⟩
  | bl b => have := View.bl_inv h; subst this; exact ⟨_, .base (.bl b), ok.bl r hk⟩
  | int i => have := View.int_inv h; subst this; exact ⟨_, .base (.int i), ok.int r hk⟩
  | str x => have := View.str_inv h; subst this; exact ⟨_, .base (.str x), ok.str r hk⟩
  | lst xs => obtain ⟨q, vs, rfl, sq, _⟩ := h; exact ⟨_, .base (.lst sq), ok.lst r hk⟩
  | tup xs => obtain ⟨q, vs, rfl, sq, _⟩ := View.tup_inv h; exact ⟨_, .base (.tup (e _ _ sq)), ok.tup r hk⟩
  | obj c xs =>
    obtain ⟨q, dx, fv, rfl, sq, _⟩ := h
    obtain ⟨A, hf⟩ := ok.obj c r (look_mem hk)
    exact ⟨_, .base (.ins sq A.cl A.ha A.hn A.htk A.hm), hf⟩
  | scr _ => cases hk
  | dct ks xs => obtain ⟨q, kv, rfl, sq, _⟩ := Rep.dct_inv (T := T) (G := G) h; exact ⟨_, .base (.dK (e _ _ sq)), ok.dct r hk⟩
/-- as much of it as isinstance asks -/
def topD (s : S) (c : Cs) : Option D := match s with
  | .c n => match c[n]? with
    | some (.lS _) => some (.lst [])
    | some (.tS _) => some (.tup [])
    | _ => deref s c
  | _ => deref s c
theorem top_ty {K : PySem.W.Frag} {G H : Hp} {c : Cs} {ρ : List Addr} {f : Value → Option Bool} {k : Kinds} (ok : KindsOk K T f k) (h : RelH T H c G ρ) {s : S} {v : V} {d : D} {r : Bool} (rs : SRep T G ρ s v) (e : topD s c = some d) (hk : k.ask d = some r) : ∃ t, TyX K H v t ∧ f t = some r := by
  have old : ∀ {s : S} {v : V} {d : D}, SRep T G ρ s v → deref s c = some d → k.ask d = some r → ∃ t, TyX K H v t ∧ f t = some r := fun rs e hk => Kinds.ty ok h.ex (deref_view h rs e) hk
  cases s with
  | d x => exact old rs e hk
  | x _ _ => exact old rs e hk
  | f => exact old rs e hk
  | c n =>
    obtain ⟨p, hp, rfl⟩ := id rs
    unfold topD at e
    cases hc : c[n]? with
    | none => simp only [hc] at e; exact old rs e hk
    | some cc =>
      cases cc with
      | lS xs =>
        simp only [hc] at e
        cases e
        obtain ⟨_, vs, a, _⟩ := h.at_ n p _ hp hc
        exact ⟨_, .base (.lst a), ok.lst r hk⟩
      | tS xs =>
        simp only [hc] at e
        cases e
        obtain ⟨_, vs, a, _⟩ := h.at_ n p _ hp hc
        exact ⟨_, .base (.tup a), ok.tup r hk⟩
      | lst _ => simp only [hc] at e; exact old rs e hk
      | dct _ => simp only [hc] at e; exact old rs e hk
      | obj _ _ => simp only [hc] at e; exact old rs e hk
      | tb _ => simp only [hc] at e; exact old rs e hk
      | dT _ => simp only [hc] at e; exact old rs e hk
def askD (k : Kinds) (s : S) (c : Cs) : R S := match topD s c with
  | some d => match k.ask d with
    | some r => .ok (.d (.bl r)) c
    | none => .bad
  | none => .bad
def mIsi (k : Kinds) (A : M) : M := fun δ c => (A δ c).bind (askD k)
theorem dn_isi {cls : Expr} {u : Value} {vc : V} {k : Kinds} (hT : X.K = T.K) (hc : PE X cls (tC vc)) (hv : ClsV vc u) (ok : KindsOk X.K T (fun t => PySem.W.kitOne X.K t u) k) (hg : Gl X "isinstance") (hm : X.mg "isinstance" = none) (ha : PE X a (tD T W A))
    (h1 : starEach [a, cls] X.env = (false, eval a X.env) :: starEach [cls] X.env := by rfl) (h2 : starEach [cls] X.env = (false, eval cls X.env) :: starEach [] X.env := by rfl) (hpl : (backTo pos (starEach [cls] X.env)).any (·.1) = false := by rfl) : PE X (.Call (.Name "isinstance" p) [a, cls] [] pos) (tD T W (mIsi k A)) := by
  refine PE.imp (pe_callB call_isi hg hm (by decide +kernel) (pa_cons ha (pa_cons hc pa_nil h2) h1) (by decide) (by decide) h1 hpl) fun σ H Q ⟨δ, c, G, ρ, hs, hh, p⟩ => ?_
  refine ⟨δ, c, G, ρ, hs, hh, (Post.bind (rel := SRep T) p).imp ?_⟩
  rintro v H1 ⟨s, c1, G1, ρ1, e1, p1, h1, r1, q1⟩
  unfold askD at q1
  cases e2 : topD s c1 with
  | none => simp only [e2] at q1; exact q1.elim
  | some d =>
    simp only [e2] at q1
    cases e3 : k.ask d with
    | none => simp only [e3] at q1; exact q1.elim
    | some r =>
      simp only [e3] at q1
      obtain ⟨t, ty, hf⟩ := top_ty ok h1 r1 e2 e3
      exact ⟨v, vc, t, u, r, rfl, hv, ty, hf, q1 _ H1 G1 ρ1 (.refl _) (List.prefix_refl _) h1 SRep.bl⟩
/-- isinstance(x, (C, D)) -/
theorem dn_isi2 {c1 c2 : Expr} {u1 u2 : Value} {v1 v2 : V} {k : Kinds} {kt : Nat} {tpos : Pos} (hT : X.K = T.K) (hc1 : PE X c1 (tC v1)) (hc2 : PE X c2 (tC v2)) (hv1 : ClsV v1 u1) (hv2 : ClsV v2 u2) (ok : KindsOk X.K T (fun t => PySem.W.kitAny X.K t [u1, u2]) k) (hg : Gl X "isinstance") (hm : X.mg "isinstance" = none) (ha : PE X a (tD T W A))
    (h1 : starEach [a, .Tuple [c1, c2] kt tpos] X.env = (false, eval a X.env) :: starEach [.Tuple [c1, c2] kt tpos] X.env := by rfl) (h2 : starEach [.Tuple [c1, c2] kt tpos] X.env = (false, eval (.Tuple [c1, c2] kt tpos) X.env) :: starEach [] X.env := by rfl)
    (h3 : starEach [c1, c2] X.env = (false, eval c1 X.env) :: starEach [c2] X.env := by rfl) (h4 : starEach [c2] X.env = (false, eval c2 X.env) :: starEach [] X.env := by rfl) (hpl : (backTo pos (starEach [.Tuple [c1, c2] kt tpos] X.env)).any (·.1) = false := by rfl) :
    PE X (.Call (.Name "isinstance" p) [a, .Tuple [c1, c2] kt tpos] [] pos) (tD T W (mIsi k A)) := by
  refine PE.imp (pe_callB call_isiT hg hm (by decide +kernel) (pa_cons ha (pa_cons (pe_tup (pa_cons hc1 (pa_cons hc2 pa_nil h4) h3)) pa_nil h2) h1) (by decide) (by decide) h1 hpl) fun σ H Q ⟨δ, c, G, ρ, hs, hh, p⟩ => ?_
  refine ⟨δ, c, G, ρ, hs, hh, (Post.bind (rel := SRep T) p).imp ?_⟩
  rintro v H1 ⟨s, cc, G1, ρ1, e1, p1, h1, r1, q1⟩
  refine ⟨by show 2 ≤ sizeLine; decide, fun t ht => ?_⟩
  have st : Step G1 H1 (upd G1 t (.tup [v1, v2])) (upd H1 t (.tup [v1, v2])) := Step.new h1.ex ht
  have h1' := h1.step st
  have r1' : SRep T (upd G1 t (.tup [v1, v2])) ρ1 s v := r1.mono st.g (List.prefix_refl _)
  unfold askD at q1
  cases e2 : topD s cc with
  | none => simp only [e2] at q1; exact q1.elim
  | some d =>
    simp only [e2] at q1
    cases e3 : k.ask d with
    | none => simp only [e3] at q1; exact q1.elim
    | some r =>
      simp only [e3] at q1
      obtain ⟨ty, tyh, hf⟩ := top_ty ok h1' r1' e2 e3
      exact ⟨v, t, [v1, v2], ty, [u1, u2], r, rfl, upd_same, .cons hv1 (.cons hv2 .nil), tyh, hf, q1 _ _ _ ρ1 st.g (List.prefix_refl _) h1' SRep.bl⟩

/-! ### cells changed -/
def appendC : S → List S → Cs → R S
  | .c n, [.d x], c => match c[n]? with
    | some (.lst acc) => if acc.length < sizeLine then .ok (.d .non) (c.set n (.lst (acc ++ [x]))) else .bad
    | _ => .bad
  | _, _, _ => .bad
def mAppend (A : M) (B : MA) : M := fun δ c => (A δ c).bind fun o c => match o with
  | .c n => match c[n]? with
    | some (.lst _) => (B δ c).bind fun ss c => appendC o ss c
    | _ => .bad
  | _ => .bad
theorem dn_append {B : MA} (ho : PE X o (tD T W A)) (ha : PA X (e :: es) (tDA T W B)) (h : ∀ {to : TE} {t : TA}, PE X o to → PA X (e :: es) t → PE X (.Call (.Attribute o "append" apos) (e :: es) [] pos) (tBM X.K "list" rAppend to t)) : PE X (.Call (.Attribute o "append" apos) (e :: es) [] pos) (tD T W (mAppend A B)) := by
  refine PE.imp (h ho ha) fun σ H Q ⟨δ, c, G, ρ, hs, hh, p⟩ => ?_
  refine ⟨δ, c, G, ρ, hs, hh, (Post.bind (rel := SRep T) p).imp ?_⟩
  rintro v H1 ⟨s, c1, G1, ρ1, e1, p1, h1, r1, q1⟩
  cases s with
  | d _ => exact q1.elim
  | x _ _ => exact q1.elim
  | f => exact q1.elim
  | c n =>
    obtain ⟨pa, hpa, rfl⟩ := r1
    cases hc : c1[n]? with
    | none => simp only [hc] at q1; exact q1.elim
    | some cc =>
      cases cc with
      | dct _ => simp only [hc] at q1; exact q1.elim
      | lS _ => simp only [hc] at q1; exact q1.elim
      | tS _ => simp only [hc] at q1; exact q1.elim
      | tb _ => simp only [hc] at q1; exact q1.elim
      | dT _ => simp only [hc] at q1; exact q1.elim
      | obj _ _ => simp only [hc] at q1; exact q1.elim
      | lst acc0 =>
        simp only [hc] at q1
        obtain ⟨_, vs0, ho0, _⟩ := h1.at_ n pa _ hpa hc
        refine ⟨.inl ⟨rfl, _, SqL.of ho0⟩, δ, c1, G1, ρ1, hs.mono e1 p1, h1, (Post.bind (rel := SReps T) q1).imp ?_⟩
        rintro us H2 ⟨ss, c2, G2, ρ2, e2, p2, h2, r2, q2⟩
        unfold appendC at q2
        split at q2
        · rename_i c2 _ _ cc n' x heq1
          cases heq1
          obtain ⟨u, rfl, ru⟩ := r2.one
          cases hc2 : c2[n]? with
          | none => simp only [hc2] at q2; exact q2.elim
          | some cc =>
            cases cc with
            | dct _ => simp only [hc2] at q2; exact q2.elim
            | lS _ => simp only [hc2] at q2; exact q2.elim
            | tS _ => simp only [hc2] at q2; exact q2.elim
            | tb _ => simp only [hc2] at q2; exact q2.elim
            | dT _ => simp only [hc2] at q2; exact q2.elim
            | obj _ _ => simp only [hc2] at q2; exact q2.elim
            | lst acc =>
              simp only [hc2] at q2
              have hpa2 := pre_get p2 hpa
              obtain ⟨_, vs, ho2, hl, rr⟩ := h2.at_ n pa _ hpa2 hc2
              by_cases hlt : acc.length < sizeLine
              · rw [if_pos hlt] at q2
                exact ⟨pa, vs, u, rfl, rfl, ho2, by rw [rr.length]; exact hlt, q2 _ _ G2 ρ2 (.refl _) (List.prefix_refl _) (h2.cell (x := .lst (acc ++ [x])) hpa2 fun H' hH' _ => ⟨_, hH', by rw [List.length_append]; simp; omega, Reps.append rr (Reps.cons ru Reps.nil)⟩) SRep.non⟩
              · rw [if_neg hlt] at q2; exact q2.elim
        · exact q2.elim
/-- cell[i] = x -/
def setC : S → S → S → Cs → Option Cs
  | .c n, .d (.int i), .d x, c => match c[n]? with
    | some (.lst acc) => match ixN acc.length i with
      | some j => some (c.set n (.lst (acc.set j x)))
      | none => none
    | _ => none
  | _, _, _, _ => none
def sSetIx (A I V : M) : MS := fun δ c => (V δ c).andS δ fun s c => (A δ c).andS δ fun o c => (I δ c).andS δ fun i c => match setC o i s c with
  | some c => .nx δ c
  | none => .bad
theorem ds_setIx {i value : Expr} {I V : M} {tpos : Pos} (ho : PE X o (tD T W A)) (hi : PE X i (tD T W I)) (hv : PE X value (tD T W V))
    (h : ∀ {to ti tv : TE}, PE X o to → PE X i ti → PE X value tv → PS X (.Assign [.Subscript o i tpos] value pos) (tAsg tv (gSub to ti rSetL))) : PS X (.Assign [.Subscript o i tpos] value pos) (tS T W (sSetIx A I V)) := by
  refine PS.imp (h ho hi hv) fun E σ H ⟨δ, c, G, ρ, hs, hh, p⟩ => ?_
  refine ⟨δ, c, G, ρ, hs, hh, (PostS.andS (rel := SRep T) hs p).imp ?_⟩
  rintro y H1 ⟨s1, c1, G1, ρ1, e1, p1, h1, r1, q1⟩
  refine ⟨δ, c1, G1, ρ1, hs.mono e1 p1, h1, (PostS.andS (rel := SRep T) (hs.mono e1 p1) q1).imp ?_⟩
  rintro v H2 ⟨s2, c2, G2, ρ2, e2, p2, h2, r2, q2⟩
  refine ⟨δ, c2, G2, ρ2, (hs.mono e1 p1).mono e2 p2, h2, (PostS.andS (rel := SRep T) ((hs.mono e1 p1).mono e2 p2) q2).imp ?_⟩
  rintro u H3 ⟨s3, c3, G3, ρ3, e3, p3, h3, r3, q3⟩
  have r1' := (r1.mono e2 p2).mono e3 p3
  have r2' := r2.mono e3 p3
  unfold setC at q3
  split at q3
  · rename_i c' hset
    split at hset
    · rename_i cc n ii x
      obtain ⟨pa, hpa, rfl⟩ := r2'
      have := SRep.int_inv r3; subst this
      cases hc : c3[n]? with
      | none => simp only [hc] at hset; cases hset
      | some ccc =>
        cases ccc with
        | dct _ => simp only [hc] at hset; cases hset
        | lS _ => simp only [hc] at hset; cases hset
        | tS _ => simp only [hc] at hset; cases hset
        | tb _ => simp only [hc] at hset; cases hset
        | dT _ => simp only [hc] at hset; cases hset
        | obj _ _ => simp only [hc] at hset; cases hset
        | lst acc =>
          simp only [hc] at hset
          cases hj : ixN acc.length ii with
          | none => simp only [hj] at hset; cases hset
          | some j =>
            simp only [hj] at hset
            cases hset
            obtain ⟨_, vs, ho3, hl, rr⟩ := h3.at_ n pa _ hpa hc
            refine ⟨pa, vs, ii, j, rfl, rfl, ho3, by rw [rr.length]; exact hj, q3 σ _ G3 ρ3 (.refl _) (List.prefix_refl _) (((hs.mono e1 p1).mono e2 p2).mono e3 p3) (h3.cell (x := .lst (acc.set j x)) hpa fun H' hH' _ => ⟨_, hH', by rw [List.length_set]; exact hl, Reps.set j rr r1'⟩)⟩
    · cases hset
  · exact q3.elim

/-! ### dicts (cells) -/
end
end Dn

end
section
set_option maxHeartbeats 1000000
/-! Dn9: what is not walked, errors raised and caught, len of own objects, lists repeated, enumerate of a tuple. -/
namespace Dn
open PySem PySem.Spec PyProof.Rows L2
/-! ### code that is never reached -/
section
variable {X : Cx} {T : Tb} {W : WX} {a b o e : Expr} {es : List Expr} {A B : M} {pos p p2 pos2 apos : Pos} {st : Stmt}
/-! ### raise X(), X an own class without own __init__ -/
/-- class number n is an exception class, its name x -/
structure ExcAt (X : Cx) (T : Tb) (x : Str) (n : Nat) (bmB : List Value) (newId : String) : Prop where
  q : PySem.W.excIn X.K (T.cl n) bmB newId = true
  g : X.mg x = some (.ref (T.cl n))
  k : PySem.W.keepIn X.K (.ref (T.cl n)) = true
  r : Raises X (.ref (T.cl n))
def sRaise0 (n : Nat) : MS := fun δ c => .ex n [] δ c
theorem pmk_own0 {C : Addr} {bmB : List Value} {B newId initId : String} {x : Str} {p : Pos} (F : ExcBaseFacts B newId initId bmB) (q : PySem.W.excIn X.K C bmB newId = true) (gC : X.mg x = some (.ref C))
    (kC : PySem.W.keepIn X.K (.ref C) = true) (r : Raises X (.ref C)) (hg : Gl X x) (hdb : (x == ("__debug__" : Str)) = false := by decide) :
    PMk X (.Call (.Name x p) [] [] pos) (fun σ H Q => Q (.ref C) none H) := by
  intro pins s σ H Q I h
  refine wpAny_Call_Name_kw (ld_glob I hg gC ?_ hdb)
  refine PySem.W.callWith_K0 I.kIn kC ?_
  show wpAny _ _ (call (.ref C) []) _ _ _
  obtain ⟨bm, N, nm, qn, bs, hdct, sn, sub, ab, col, dd, k0, k1, k2, k3, k5, mN, hC, hN, hni, T⟩ := exc_obj I.kIn q
  refine wpAny_call_exc_subT F T hC hN hni (fun h' e hm => ?_) (by decide)
  exact mk_of I hm r h (I.hok.gone hm.new)
theorem ds_raise0 {B newId initId : String} {bmB : List Value} {x : Str} {n : Nat} (F : ExcBaseFacts B newId initId bmB) (E : ExcAt X T x n bmB newId) (hc : X.calm = true) (tk : Takes X W) (hg : Gl X x) (hdb : (x == ("__debug__" : Str)) = false := by decide) :
    PS X (.Raise (some (.Call (.Name x p) [] [] pos2)) none pos) (tS T W (sRaise0 n)) := by
  refine PS.imp (ps_raise hc tk (pmk_own0 F E.q E.g E.k E.r hg hdb)) fun D σ H ⟨δ, c, G, ρ, hs, hh, p⟩ => ?_
  exact p none σ H G ρ (.refl _) (List.prefix_refl _) hs hh (.inl ⟨rfl, rfl⟩)

/-! ### try .. except X: -/
def noEx : RS → RS
  | .ex _ _ _ _ => .bad
  | r => r
def Catches (K : PySem.W.Frag) (T : Tb) (u : Value) (r : Bool) : List Nat → Prop
  | [] => True
  | n :: l => PySem.W.exmOne K (.ref (T.cl n)) u = some r ∧ Catches K T u r l
theorem Catches.get {K : PySem.W.Frag} {u : Value} {r : Bool} : ∀ {l : List Nat} {n : Nat}, Catches K T u r l → n ∈ l → PySem.W.exmOne K (.ref (T.cl n)) u = some r
  | m :: l, n, h, hm => by
    cases hm with
    | head => exact h.1
    | tail _ hm => exact Catches.get h.2 hm
theorem PostS.noEx {G : Hp} {ρ : List Addr} {r : RS} {E : Ends} (h : PostS T W G ρ (noEx r) E) : PostS T W0 G ρ r E := by
  cases r with
  | ex k xs δ c => exact False.elim h
  | nx δ c => exact h
  | bk δ c => exact h
  | ct δ c => exact h
  | rt s c => exact h
  | bad => exact h
/-! ### len of own objects -/
def lenO (tbl : List (Nat × (Nat × (List S → Cs → R S)))) : List D → Option D
  | [.obj k xs] => match look tbl k with
    | some (nf, fn) => if xs.length = nf then (match fn [.d (.obj k xs)] [] with
      | .ok (.d (.int r)) [] => if 0 ≤ r ∧ r < 2 ^ 63 then some (.int r) else none
      | _ => none) else none
    | none => none
  | xs => lenD xs
inductive LensAt (P : Program) (w : World) (K : PySem.W.Frag) (mg : Str → Option Value) (base : Heap) (T : Tb) (k : Nat) : List (Nat × (Nat × (List S → Cs → R S))) → Prop
  | nil : LensAt P w K mg base T k []
  | cons {c j nf : Nat} {fn : List S → Cs → R S} {l : List (Nat × (Nat × (List S → Cs → R S)))} : MethAt P w K mg base T "__len__" c j fn → j ≤ k → (T.fl c).length = nf → LensAt P w K mg base T k l → LensAt P w K mg base T k ((c, nf, fn) :: l)
theorem LensAt.get {P : Program} {w : World} {K : PySem.W.Frag} {mg : Str → Option Value} {base : Heap} {k : Nat} {l : List (Nat × (Nat × (List S → Cs → R S)))} (h : LensAt P w K mg base T k l) {c nf : Nat} {fn : List S → Cs → R S} (hm : (c, nf, fn) ∈ l) :
    ∃ j, j ≤ k ∧ MethAt P w K mg base T "__len__" c j fn ∧ (T.fl c).length = nf := by
  induction h with
  | nil => cases hm
  | cons a b c _ ih =>
    cases hm with
    | head => exact ⟨_, b, a, c⟩
    | tail _ hm => exact ih hm
/-- len(o) by the own __len__ -/
def rLenO (T : Tb) (tbl : List (Nat × (Nat × (List S → Cs → R S)))) : List V → Hp → VK → Prop := fun xs H Q => ∃ p k nf ds fn r, xs = [.ref p] ∧ Rep T H (.obj k ds) (.ref p) ∧ (k, nf, fn) ∈ tbl ∧ fn [.d (.obj k ds)] [] = .ok (.d (.int r)) [] ∧ (0 ≤ r ∧ r < 2 ^ 63) ∧ ∀ H', Ex H H' → Q (.int r) H'
theorem call_lenO {k : Nat} {tbl : List (Nat × (Nat × (List S → Cs → R S)))} (hr : Room (k + 1) X.A) (hM : LensAt X.prog X.w X.K X.mg X.base T k tbl) : CallR X (.builtin "len") (rLenO T tbl) := by
  intro pins s σ H xs us Q I rv h
  obtain ⟨x, k, nf, ds, fn, r, rfl, hx, hm, hf, hb0, q⟩ := h
  obtain rfl := Vals.ref1 rv
  obtain ⟨j, hj, ⟨f, fd, ps, F, hm, hc, _, hb⟩, _⟩ := hM.get hm
  obtain ⟨_, dx, fv, e1, hx1, _⟩ := hx.obj_inv
  cases e1
  obtain ⟨mA, J, _⟩ := ins_get I.hok hx1
  obtain ⟨od, J, _⟩ := J.look
  obtain ⟨m, hF⟩ := I.fr
  refine PySem.W.len_K hF I.ok.mod.kin J hm.at_ hm.fn ?_
  have hsp : spD T fn [.ref x] H (fun v H' => v = .int r ∧ Ex H H') (fun _ _ _ => False) := by
    refine ⟨[.d (.obj k ds)], [], H, [], .cons hx .nil, RelH.none H, ?_⟩
    rw [hf]
    exact fun v H' G' ρ' eg pr rh rv => ⟨SRep.int_inv rv, eg.trans rh.ex⟩
  have hl := F.len _ _ _ _ hsp
  have bb := hb s [.ref x] I.kIn (by simpa using hl)
  rw [List.append_nil] at bb
  refine wpAny_call (codeAny_mono (F.run X.A.in1 X.stack s H ⟨[.ref x], []⟩ [.ref x] [.ref x] _ _ (hr.in1.mono hj) I.env0.in1 bb (.cons rfl .nil) hsp) fun fl s' hq => ?_)
  cases fl with
  | error e =>
    obtain ⟨_, _, _, _, _, _, _, _, _, _, _, _, z⟩ := hq
    exact z.elim
  | ok fl =>
    cases fl with
    | ret w =>
      obtain ⟨z, H', I', rz, ez, ex⟩ := I.after hq
      subst ez
      obtain ⟨t, rfl⟩ := rz
      exact ⟨hb0, .int r, H', I'.tok _, ⟨_, rfl⟩, q H' ex⟩
    | next => exact False.elim hq
    | brk => exact False.elim hq
    | cont => exact False.elim hq
theorem Step.grow {G H H' : Hp} (e : Ex G H) (k : Ex H H') : Step G H G H' := ⟨.refl _, k, e.trans k, fun _ _ _ q => q⟩
theorem fresh_lenO {tbl : List (Nat × (Nat × (List S → Cs → R S)))} (hT : ∀ c nf fn, (c, nf, fn) ∈ tbl → (T.fl c).length = nf) : FreshN T (lenO tbl) (fun xs H Q => ((∃ p ys, xs = [.ref p] ∧ (SqL T.K H p ys ∨ SqT T.K H p ys) ∧ Q (.int ys.length) H) ∨ ∃ z, xs = [.str z] ∧ z.length ≤ sizeLine ∧ Q (.int z.length) H) ∨ rLenO T tbl xs H Q) := by
  intro G H x d v Q e hx hd k
  unfold lenO at hd
  split at hd
  · rename_i n xs
    cases hl : look tbl n with
    | none => simp only [hl] at hd; cases hd
    | some y =>
      obtain ⟨nf, fn⟩ := y
      simp only [hl] at hd
      split at hd
      · rename_i hnf
        split at hd
        · rename_i r hfn
          split at hd
          · rename_i hr
            cases hd
            obtain ⟨v, rfl, q, dx, fv, rfl, sq, hfl, rr⟩ := hx.one
            have hm := look_mem hl
            refine .inr ⟨q, n, nf, xs, fn, r, rfl, Rep.obj sq ?_ (Reps.mono e _ _ rr), hm, hfn, hr, fun H' ex => k _ H' G (Step.grow e ex) Rep.int⟩
            rw [hfl, hnf, ← hT n nf fn hm, List.take_length]
          · cases hd
        · cases hd
      · cases hd
  · exact .inl (fresh_len _ _ _ _ _ _ e hx hd k)
end
end Dn

end
section
/-! Dn10: enumerate of a tuple or a list. -/
namespace Dn
open PySem PySem.Spec PyProof.Rows L2
set_option maxHeartbeats 1000000 in
theorem meets_enum1 {v : Value} {o : Obj} {H : Heap → Prop} (B : Begins v o H) :
    Meets (Builtin.«enumerate.__new__» ⟨[.type "enumerate", v], []⟩) (fun _ R s => H s.heap ∧
      R (.ok (.ret (.ref (s.heap.push o).objs.size))) { s with heap := (s.heap.push o).push { cls := .type "enumerate", data := .fields #[.none, .bool false, .ref s.heap.objs.size, rawInt 0, .none, .none] } }) :=
  .of_wp fun prog w A R s h => by
    obtain ⟨hp, g, d, tk, os⟩ := s; obtain ⟨h1, h⟩ := h
    have hsub := sub_enumerate
    have q1 : ∀ {A' : Around} {E : Value → Shared → Prop} {Q : Value → Shared → Prop}, Q (.ref hp.objs.size) ⟨hp.push o, g, d, tk, os⟩ → wpAny (model prog w) A' (pyIter v) Q E ⟨hp, g, d, tk, os⟩ :=
      fun q => B.iter prog w _ _ ⟨hp, g, d, tk, os⟩ _ h1 q
    wp_walk using q1
    refine wpAny_stack_any fun st => wpAny_pure ?_
    split
    · rename_i c _ _ _ _ _
      cases (c == Value.type "enumerate")
      · wp_walk using q1
        exact ⟨_, rfl, h⟩
      · wp_walk using q1
        exact ⟨_, rfl, h⟩
    · wp_walk using q1
      exact ⟨_, rfl, h⟩
theorem enum_begins1 {prog : Program} {w : World} {A : Around} {E : Value → Shared → Prop} {s : Shared} {v : Value} {o : Obj} {H : Heap → Prop} {Q : Value → Shared → Prop} (B : Begins v o H) (h1 : H s.heap)
    (h : ∀ h', IsEnum h' (s.heap.objs.size + 1) s.heap.objs.size 0 .none → h'.get? s.heap.objs.size = some o → h'.objs.size = s.heap.objs.size + 2 →
      (∀ b o, s.heap.get? b = some o → h'.get? b = some o) → Q (.ref (s.heap.objs.size + 1)) { s with heap := h' }) :
    wpAny (model prog w) A (call (.type "enumerate") [v]) Q E s := by
  refine callType_new F.called_enumerate (by decide) (F.typeCall_enumerate_1 _) (F.newCall_enumerate_1 _) (fun obj => F.args_object_init_2 obj _) F.entry_enumerate_new
    (meets_enum1 B) ⟨h1, ?_⟩
  have hz : (s.heap.push o).objs.size = s.heap.objs.size + 1 := Heap.size_push ..
  show _ ∧ _
  rw [hz]
  have he : IsEnum ((s.heap.push o).push { cls := .type "enumerate", data := .fields #[.none, .bool false, .ref s.heap.objs.size, rawInt 0, .none, .none] }) (s.heap.objs.size + 1) s.heap.objs.size 0 .none := by
    have := Heap.get?_push_size (s.heap.push o) (o := { cls := .type "enumerate", data := .fields #[.none, .bool false, .ref s.heap.objs.size, rawInt 0, .none, .none] }) rfl
    rw [hz] at this; exact this
  refine ⟨⟨_, he, rfl⟩, h _ he (Heap.get?_push_of_some _ (Heap.get?_push_size _ B.free)) (by rw [Heap.size_push, hz]) fun b o x => Heap.get?_push_of_some _ (Heap.get?_push_of_some _ x)⟩

theorem next_enum_endT {prog : Program} {w : World} {A : Around} {E : Value → Shared → Prop} {s : Shared} {e it t : Addr} {items : Array Value} {j : Nat} {i : Int} {old : Value} {Q : Option Value → Shared → Prop} (hh : A.handled = none)
    (he : IsEnum s.heap e it i old) (hit : s.heap.IsTupleIter it t j) (ht : s.heap.IsTuple t items) (hj : items[j]? = none)
    (hQ : ∀ h', Heap.ExtBut it s.heap h' → Q none { s with heap := h' }) : wpAny (model prog w) A (pyNext (.ref e)) Q E s := by
  have hT : s.TypeIs (.ref e) "enumerate" := ⟨_, he, rfl⟩
  unfold pyNext
  refine wpAny_bind (wpAny_attempt (wpAny_callSpecial?_slot (name := Str.ofString "__next__") hT F.slot_enumerate_next
    (wpAny_call_entry F.slot_enumerate_next hT F.entry_enumerate_next ?_ (F.args_enumerate_next_1 _))))
  show wpAny _ _ (field (.ref e) 2 >>= _) _ _ _
  refine wpAny_bind (wpAny_field he rfl (x := .ref it) rfl ?_)
  refine wpAny_bind (wpAny_nextOf_tuple_end (A := A.in1) hh hit ht hj fun h' x he' hx' => ?_)
  obtain ⟨o, ho, hc⟩ := hx'
  refine wpAny_bind (wpAny_isInstance (T := "StopIteration") (b := true) ⟨o, ho, hc⟩ isSubtype_stop ?_)
  exact wpAny_pure (hQ _ he')
/-- the tuple at a, each item in a new pair -/
def IteT (K : PySem.W.Frag) (a : Addr) : It :=
  ⟨fun i H => ∃ (xs : List V) (x : V), SqT K H a xs ∧ xs[i]? = some x, fun i H v H' => ∃ T x, v = .ref T ∧ H T = none ∧ H' = upd H T (.tup [.int (i : Nat), x]) ∧ ∀ xs, SqT K H a xs → xs[i]? = some x, fun i H => ∃ xs : List V, SqT K H a xs ∧ xs.length ≤ i⟩
theorem turn_enumT {P : Program} {w : World} {K : PySem.W.Frag} {elts : List Expr} {kk : Nat} {tpos : Pos} (a e it : Addr) :
    Turn P w K (.Tuple elts kk tpos) (IteT K a) [e, it] e (fun i h => (∃ old, IsEnum h e it ((i : Nat) : Int) old) ∧ h.IsTupleIter it a i ∧ e ≠ it ∧ a ≠ it ∧ a ≠ e) where
  mem := by simp
  obj := fun i h st b hb => by
    obtain ⟨⟨old, he⟩, ⟨o, ho, hc, hd⟩, _⟩ := st
    have e' : b = e ∨ b = it := by simpa using hb
    rcases e' with z | z
    · rw [z]; exact ⟨_, he, fun v q => nomatch q⟩
    · rw [z]; exact ⟨o, ho, fun v q => by rw [hd] at q; cases q⟩
  keep := fun i h h' st k => let ⟨⟨old, he⟩, hi, hne⟩ := st; ⟨⟨old, k e (by simp) _ he⟩, hi.at fun o q => k it (by simp) o q, hne⟩
  item := by
    intro X hP hw hK hc i pins s σ H E I hf st hg
    subst hP hw hK
    obtain ⟨⟨old, he⟩, hit, hne, nai, nae⟩ := st
    obtain ⟨xs, x, hq, hx⟩ := hg
    obtain ⟨its, rv, p, hz⟩ := I.tuple hq
    obtain ⟨u, hu, ru⟩ := rv.get hx
    have hel : e < s.heap.objs.size := Heap.lt_size he
    have hil : it < s.heap.objs.size := by obtain ⟨_, q, _⟩ := hit; exact Heap.lt_size q
    have hi : i < its.toArray.size := by rw [List.size_toArray]; exact (List.getElem?_eq_some_iff.mp hu).1
    refine wpAny_pyNext_enum_itemD (Draws.tuple (A := X.A.in1) (I.ok.hd hc) it a nai its.toArray) he ⟨hit, p⟩ hi hne (by simp [hne, Ne.symm nae]) fun x' h' tk hP ho hit' hT hsz hk => ?_
    have ex' : x' = u := by
      have h1 : its[i]? = some x' := by simpa using hP
      rw [hu] at h1; exact (Option.some.inj h1).symm
    subst ex'
    refine ⟨_, rfl, wpAny_letOwnedTupleGo_enum (s := { s with heap := h', toks := tk + 1 }) ho fun h'' he' sb => ?_⟩
    have hT2 : h''.get? s.heap.objs.size = some { cls := .type "tuple", data := .seq #[.int i tk, x'] } := (sb.2 _ (Nat.ne_of_gt hel)).trans hT
    have new : ObjOk X.prog X.w (upd H s.heap.objs.size (.tup [.int (i : Nat), x])) h'' s.heap.objs.size (.tup [.int (i : Nat), x]) :=
      ⟨by show 2 ≤ sizeLine; decide, [.int i tk, x'], .cons ⟨_, rfl⟩ (.cons ru .nil), ⟨_, hT2, rfl, _, rfl⟩⟩
    have I1 : Inv X pins σ (upd H s.heap.objs.size (.tup [.int (i : Nat), x])) { s with heap := h'', toks := tk + 1 } :=
      I.turnedNew (ch := [e, it]) (fun b ob hb q => (sb.2 b (fun z => hb (by simp [z]))).trans (hk b ob (fun z => hb (by simp [z])) (fun z => hb (by simp [z])) q)) hf (Nat.le_refl _) new
    refine ⟨.ref s.heap.objs.size, _, I1, rfl, ⟨_, x, rfl, I.hok.fresh (Nat.le_refl _), rfl, fun ys hy => by rw [I.tuple_inj hy hq]; exact hx⟩, ⟨⟨x', ?_⟩, hit'.1.at fun o q => (sb.2 it (Ne.symm hne)).trans q, hne, nai, nae⟩, fun b hb => ?_⟩
    · have e1 : ((i + 1 : Nat) : Int) = (i : Int) + 1 := by omega
      rw [e1]; exact he'
    · have hb' : b < s.heap.objs.size := by
        have e' : b = e ∨ b = it := by simpa using hb
        rcases e' with z | z
        · rw [z]; exact hel
        · rw [z]; exact hil
      rw [upd_ne (Nat.ne_of_lt hb')]
      exact (hf b hb).1
  done := by
    intro X hP hw hK hc i pins s σ H E I hf st hg
    subst hP hw hK
    obtain ⟨⟨old, he⟩, hit, hne, nai, nae⟩ := st
    obtain ⟨xs, hq, hx⟩ := hg
    obtain ⟨its, rv, p, hz⟩ := I.tuple hq
    obtain ⟨f0, f1, f2, f3, f4, f5⟩ := hf it (by simp)
    have hl := rv.length
    exact next_enum_endT (I.ok.hd hc) he hit p (by simp; omega) fun h' eb => ⟨rfl, I.turned (t' := s.toks) (fun b o hb q => eb b o hb q) f0 f1 f3 f4 f5⟩
  self := fun A i s Q E st h => let ⟨⟨_, he⟩, _⟩ := st; wpAny_pyIter_enum he h
def iEnumA (K : PySem.W.Frag) (ta : TA) : TI := fun σ H R => ta σ H fun vs H1 => (∃ a xs, vs = [.ref a] ∧ SqL K H1 a xs ∧ R (Ite K a) H1) ∨ ∃ a xs, vs = [.ref a] ∧ SqT K H1 a xs ∧ R (IteT K a) H1
theorem pi_enumA {X : Cx} {e : Expr} {ta : TA} {p pos tpos : Pos} {elts : List Expr} {kk : Nat} (hg : Gl X "enumerate") (hm : X.mg "enumerate" = none) (ha : PA X [e] ta) (hs : starEach [e] X.env = [(false, eval e X.env)] := by rfl) :
    PI X (.Tuple elts kk tpos) (.Call (.Name "enumerate" p) [e] [] pos) (iEnumA X.K ta) := by
  refine ⟨fun pins s σ H R I h => ?_⟩
  refine Call_ (ld_blt I hg hm boot_enumerate (PyProof.Rows.callWith_type1 (thn (ha.run pos pins s σ H _ I h) fun us s1 ⟨vs, H1, I1, r1, q1⟩ => ?_) hs rfl))
  have fp : ∀ b ∈ [s1.heap.objs.size + 1, s1.heap.objs.size], s1.heap.objs.size ≤ b := fun b hb => by
    have e' : b = s1.heap.objs.size + 1 ∨ b = s1.heap.objs.size := by simpa using hb
    rcases e' with z | z
    · rw [z]; exact Nat.le_add_right _ _
    · rw [z]; exact Nat.le_refl _
  rcases q1 with ⟨a, xs, ex, hq, q⟩ | ⟨a, xs, ex, hq, q⟩
  · subst ex
    cases r1 with
    | cons r rr =>
      cases rr
      cases r
      obtain ⟨its, rv, p', hz⟩ := I1.list hq
      refine call_enumerate_list p'.isList fun h' he hit hsz hk => wpAny_pyIter_enum he ?_
      have I2 : Inv X pins σ H1 { s1 with heap := h' } := I1.kept (t' := s1.toks) hk
      exact ⟨s1.heap.objs.size + 1, [s1.heap.objs.size + 1, s1.heap.objs.size], _, _, H1, rfl, I2, turn_enum a (s1.heap.objs.size + 1) s1.heap.objs.size, ⟨⟨.none, he⟩, hit, Nat.succ_ne_self _⟩, fun b hb => I1.fpOk (fp b hb) (I1.hok.fresh (fp b hb)), q⟩
  · subst ex
    cases r1 with
    | cons r rr =>
      cases rr
      cases r
      obtain ⟨its, rv, p', hz⟩ := I1.tuple hq
      have hal : a < s1.heap.objs.size := by obtain ⟨_, q, _⟩ := p'; exact Heap.lt_size q
      refine enum_begins1 (begins_tuple a its.toArray) p' fun h' he hit hsz hk => wpAny_pyIter_enum he ?_
      have I2 : Inv X pins σ H1 { s1 with heap := h' } := I1.kept (t' := s1.toks) hk
      exact ⟨s1.heap.objs.size + 1, [s1.heap.objs.size + 1, s1.heap.objs.size], _, _, H1, rfl, I2, turn_enumT a (s1.heap.objs.size + 1) s1.heap.objs.size, ⟨⟨.none, he⟩, ⟨_, hit, rfl, rfl⟩, Nat.succ_ne_self _, Nat.ne_of_lt hal, Nat.ne_of_lt (Nat.lt_succ_of_lt hal)⟩, fun b hb => I1.fpOk (fp b hb) (I1.hok.fresh (fp b hb)), q⟩

section
variable {X : Cx} {T : Tb} {W : WX} {a b o e : Expr} {es : List Expr} {A B : M} {pos p p2 pos2 apos : Pos}
def enumL : Nat → List D → List D
  | _, [] => []
  | n, x :: xs => .tup [.int n, x] :: enumL (n + 1) xs
theorem enumL_len : ∀ (n : Nat) (xs : List D), (enumL n xs).length = xs.length
  | _, [] => rfl
  | n, x :: xs => by simp [enumL, enumL_len (n + 1) xs]
theorem enumL_get : ∀ {xs : List D} {n i : Nat} {d : D}, (enumL n xs)[i]? = some d → ∃ x, xs[i]? = some x ∧ d = .tup [.int (n + i : Nat), x]
  | [], n, i, d, h => by simp [enumL] at h
  | x :: xs, n, 0, d, h => by simp [enumL] at h; exact ⟨x, rfl, h.symm⟩
  | x :: xs, n, i + 1, d, h => by
    obtain ⟨y, h1, h2⟩ := enumL_get (xs := xs) (n := n + 1) (i := i) (d := d) (by simpa [enumL] using h)
    exact ⟨y, by simpa using h1, by rw [h2, Nat.add_assoc, Nat.add_comm 1 i]⟩
theorem walk_enum {G : Hp} {ρ : List Addr} {p : Addr} {xs : List D} {vs : List V} (h : SqL T.K G p vs) (r : Reps T G xs vs) : Walk T G ρ ((enumL 0 xs).map S.d) (Ite T.K p) := by
  refine ⟨fun i H e hi => ?_, fun i H e hi => ⟨vs, ex_l e h, ?_⟩, fun i H G1 ρ1 x H' e1 pr e2 y d hd => ?_⟩
  · rw [List.length_map, enumL_len] at hi
    exact ⟨vs, vs[i]'(by rw [r.length]; omega), ex_l e h, List.getElem?_eq_getElem _⟩
  · rw [List.length_map, enumL_len] at hi
    rw [r.length]; omega
  · obtain ⟨Tt, x1, rfl, hT, rfl, y1h⟩ := y
    rw [List.getElem?_map] at hd
    obtain ⟨d0, hd0, rfl⟩ := Option.map_eq_some_iff.mp hd
    obtain ⟨d1, hd1, rfl⟩ := enumL_get hd0
    obtain ⟨v1, hv1, rv1⟩ := r.get hd1
    have z1 := y1h vs (ex_l (e1.trans e2) h)
    rw [hv1] at z1
    obtain rfl : v1 = x1 := Option.some.inj z1
    have st : Step G1 H (upd G1 Tt (.tup [.int (i : Nat), v1])) (upd H Tt (.tup [.int (i : Nat), v1])) := Step.new e2 hT
    exact ⟨_, st, Rep.tup upd_same (by show 2 ≤ sizeLine; decide) (Reps.cons (by rw [Nat.zero_add]; exact Rep.int) (Reps.cons (Rep.mono (e1.trans st.g) _ _ rv1) Reps.nil))⟩
theorem walk_enumT {G : Hp} {ρ : List Addr} {p : Addr} {xs : List D} {vs : List V} (h : SqT T.K G p vs) (r : Reps T G xs vs) : Walk T G ρ ((enumL 0 xs).map S.d) (IteT T.K p) := by
  refine ⟨fun i H e hi => ?_, fun i H e hi => ⟨vs, ex_t e h, ?_⟩, fun i H G1 ρ1 x H' e1 pr e2 y d hd => ?_⟩
  · rw [List.length_map, enumL_len] at hi
    exact ⟨vs, vs[i]'(by rw [r.length]; omega), ex_t e h, List.getElem?_eq_getElem _⟩
  · rw [List.length_map, enumL_len] at hi
    rw [r.length]; omega
  · obtain ⟨Tt, x1, rfl, hT, rfl, y1h⟩ := y
    rw [List.getElem?_map] at hd
    obtain ⟨d0, hd0, rfl⟩ := Option.map_eq_some_iff.mp hd
    obtain ⟨d1, hd1, rfl⟩ := enumL_get hd0
    obtain ⟨v1, hv1, rv1⟩ := r.get hd1
    have z1 := y1h vs (ex_t (e1.trans e2) h)
    rw [hv1] at z1
    obtain rfl : v1 = x1 := Option.some.inj z1
    have st : Step G1 H (upd G1 Tt (.tup [.int (i : Nat), v1])) (upd H Tt (.tup [.int (i : Nat), v1])) := Step.new e2 hT
    exact ⟨_, st, Rep.tup upd_same (by show 2 ≤ sizeLine; decide) (Reps.cons (by rw [Nat.zero_add]; exact Rep.int) (Reps.cons (Rep.mono (e1.trans st.g) _ _ rv1) Reps.nil))⟩
def enum1 : List S → Cs → R Src
  | [.d (.lst xs)], c => .ok (.xs ((enumL 0 xs).map S.d)) c
  | [.d (.tup xs)], c => .ok (.xs ((enumL 0 xs).map S.d)) c
  | _, _ => .bad
def iEnum' (B : MA) : MI := fun δ c => (B δ c).bind enum1
theorem di_enum {elts : List Expr} {kk : Nat} {tpos : Pos} {B : MA} (hT : X.K = T.K) (hg : Gl X "enumerate") (hm : X.mg "enumerate" = none) (ha : PA X [a] (tDA T W B)) (hs : starEach [a] X.env = [(false, eval a X.env)] := by rfl) :
    PI X (.Tuple elts kk tpos) (.Call (.Name "enumerate" p) [a] [] pos) (tI T W (iEnum' B)) := by
  refine PI.imp (pi_enumA hg hm ha hs) fun σ H Q ⟨δ, c, G, ρ, hs, hh, p⟩ => ?_
  refine ⟨δ, c, G, ρ, hs, hh, (Post.bind (rel := SReps T) p).imp ?_⟩
  rintro vs H1 ⟨ss, c1, G1, ρ1, e1, p1, h1, r1, q1⟩
  unfold enum1 at q1
  rw [hT]
  split at q1
  · rename_i c xs
    obtain ⟨v, rfl, r⟩ := r1.one
    obtain ⟨q, vs, rfl, sq, hl, rr⟩ := Rep.lst_inv (show Rep T G1 (.lst xs) v from r)
    exact .inl ⟨q, vs, rfl, SqL.of (h1.ex _ _ sq), q1 _ H1 G1 ρ1 (.refl _) (List.prefix_refl _) h1 ⟨walk_enum (SqL.of sq) rr, by rw [List.length_map, enumL_len]; exact hl⟩⟩
  · rename_i c xs
    obtain ⟨v, rfl, r⟩ := r1.one
    obtain ⟨q, vs, rfl, sq, hl, rr⟩ := Rep.tup_inv (show Rep T G1 (.tup xs) v from r)
    exact .inr ⟨q, vs, rfl, SqT.of (h1.ex _ _ sq), q1 _ H1 G1 ρ1 (.refl _) (List.prefix_refl _) h1 ⟨walk_enumT (SqT.of sq) rr, by rw [List.length_map, enumL_len]; exact hl⟩⟩
  · exact q1.elim

end
end Dn

end
section
set_option maxHeartbeats 1000000
/-! Dn11: short forms for the printed derivations; what the top has written. -/
namespace Dn
open PySem PySem.Spec PyProof.Rows L2
section
variable {X : Cx} {T : Tb} {W : WX} {a b o e : Expr} {es : List Expr} {A B : M} {pos p p2 pos2 apos : Pos}
theorem takes0 : Takes X W0 := fun u s' ⟨_, _, _, _, _, _, _, _, _, _, _, _, _, _, _, _, w⟩ => w.elim
theorem vv (i : Nat) {x : Str} {pos : Pos} (hN : X.N[i]? = some x := by rfl) (hv : Vis X.env.scope x := by first | exact Or.inl rfl | exact Or.inr (Or.inl rfl) | exact Or.inr (Or.inr rfl)) (hd : (x == ("__debug__" : Str)) = false := by decide)
    (hcd : (x == ("__classdict__" : Str)) = false := by decide) : PE X (.Name x pos) (tD T W (mVar i)) := dn_var hN hv hd hcd
theorem dn_app {B : MA} (ho : PE X o (tD T W A)) (ha : PA X (e :: es) (tDA T W B)) (hbase : attributeBase o "append" X.env (eval o X.env) = eval o X.env := by rfl)
    (hfew : ((backTo pos (starEach (e :: es) X.env)).all (fun x => !x.1) && (backToKw pos (keywordEach [] X.env)).all (fun x => x.1.isSome)
      && decide ((e :: es).length + ([] : List Keyword).length + (if ([] : List Keyword).isEmpty then 0 else 1) < 30)) = true := by rfl)
    (hline : (apos.endLine == pos.line) = true := by rfl) (hs : starEach (e :: es) X.env = (false, eval e X.env) :: starEach es X.env := by rfl) (hplain : (backTo pos (starEach es X.env)).any (·.1) = false := by rfl) :
    PE X (.Call (.Attribute o "append" apos) (e :: es) [] pos) (tD T W (mAppend A B)) :=
  dn_append ho ha fun h1 h2 => pe_bm PySem.F.plainAttrs_list PySem.F.slot_list_append PySem.F.type_list_append mt_append h1 h2 hbase hfew hline hs hplain
theorem ds_setAt {i value : Expr} {I V : M} {tpos : Pos} (ho : PE X o (tD T W A)) (hi : PE X i (tD T W I)) (hv : PE X value (tD T W V))
    (ha : ∀ v, assign (.Subscript o i tpos) X.env v = (do
      let ov ← holding [v] (eval o X.env)
      let iv ← holding [v, ov] (eval i X.env)
      standAt tpos
      holding [v, ov, iv] (setItem ov iv v)
      release [v, ov, iv] []) := by intro _; rfl)
    (hs : swapsWithSole [.Subscript o i tpos] value pos.line X.env = pure false := by rfl) (hw : swappedStores [.Subscript o i tpos] value X.env = pure none := by rfl)
    (h1 : (assignEach [.Subscript o i tpos] X.env).map (·.2) = [assign (.Subscript o i tpos) X.env] := by rfl) : PS X (.Assign [.Subscript o i tpos] value pos) (tS T W (sSetIx A I V)) :=
  ds_setIx ho hi hv fun a b c => ps_asg c (pg_sub a b set_list ha) hs hw h1

/-! ### == of all kinds -/
section
variable {tbl : List (Nat × (List S → Cs → R S))} {n : Nat} (hM : MethsAt X.prog X.w X.K X.mg X.base T "__eq__" n tbl) (hT : X.K = T.K) (hr : Room (n + 1) X.A) (ha : PE X a (tD T W A)) (hb : PE X b (tD T W B))
end

/-! ### list(zip(..)), sorted(set(..)) -/
def intsOf : List D → Option (List Int)
  | [] => some []
  | .int i :: r => match intsOf r with
    | some is => some (i :: is)
    | none => none
  | _ :: _ => none
def insU (x : Int) : List Int → List Int
  | [] => [x]
  | y :: r => if x < y then x :: y :: r else if x = y then y :: r else y :: insU x r
/-- the members, from the least one on, each once -/
def sortU : List Int → List Int
  | [] => []
  | x :: r => insU x (sortU r)
def sortSet (s : S) (c : Cs) : R S := match deref s c with
  | some (.lst xs) => match intsOf xs with
    | some ns => if ns.length ≤ 50 then .ok (.d (.lst ((sortU ns).map D.int))) c else .bad
    | none => .bad
  | _ => .bad
def mSortSet (A : M) : M := fun δ c => (A δ c).bind sortSet

/-! ### classes as values, kinds of built-in types -/
theorem pe_ty {x : Str} {n : String} {pos : Pos} (hg : Gl X x) (hm : X.mg x = none) (hv : bootBuiltins x = some (.type n)) (hn : x ≠ "__name__" := by decide) (hdb : (x == ("__debug__" : Str)) = false := by decide) : PE X (.Name x pos) (tC (.ty n)) :=
  ⟨fun pins s σ H Q I h => ld_blt I hg hm hv ⟨_, H, I, (show RelV (.ty n) (.type n) from rfl), h⟩ hn hdb⟩
theorem boot_ty_int : bootBuiltins "int" = some (.type "int") := by decide +kernel
theorem boot_ty_bool : bootBuiltins "bool" = some (.type "bool") := by decide +kernel
theorem boot_ty_list : bootBuiltins "list" = some (.type "list") := by decide +kernel
theorem boot_ty_tuple : bootBuiltins "tuple" = some (.type "tuple") := by decide +kernel
theorem dn_gint {x : Str} {i : Int} {pos : Pos} (hg : Gl X x) (hm : ∃ t, X.mg x = some (.int i t)) (hd : (x == ("__debug__" : Str)) = false := by decide) : PE X (.Name x pos) (tD T W (mC (.int i))) := by
  obtain ⟨t, hm⟩ := hm
  exact dn_glob (v := .int i) hg hm ⟨t, rfl⟩ (fun _ => Rep.int) hd
section
variable {K : PySem.W.Frag} {obj : List (Nat × Bool)}
/-- any kinds, all told -/
def kAll (non bl int str lst tup dct : Bool) (obj : List (Nat × Bool)) : Kinds := ⟨some non, some bl, some int, some str, some lst, some tup, obj, some dct⟩
theorem kAll_ok {f : Value → Option Bool} {non bl int str lst tup dct : Bool} (h1 : f (.type "NoneType") = some non) (h2 : f (.type "bool") = some bl) (h3 : f (.type "int") = some int) (h4 : f (.type "str") = some str) (h5 : f (.type "list") = some lst) (h6 : f (.type "tuple") = some tup) (h7 : f (.type "dict") = some dct)
    (h : ∀ c r, (c, r) ∈ obj → Asked K (T.cl c) ∧ f (.ref (T.cl c)) = some r) : KindsOk K T f (kAll non bl int str lst tup dct obj) :=
  ⟨(fun r e => by cases e; exact h1), (fun r e => by cases e; exact h2), (fun r e => by cases e; exact h3), (fun r e => by cases e; exact h4), (fun r e => by cases e; exact h5), (fun r e => by cases e; exact h6), h, (fun r e => by cases e; exact h7)⟩
theorem more_obj {p : Nat → Bool → Prop} {n : Nat} {q : Bool} {l : List (Nat × Bool)} (h : p n q) (k : ∀ c r, (c, r) ∈ l → p c r) : ∀ c r, (c, r) ∈ (n, q) :: l → p c r := fun c r e => by
  cases e with
  | head => exact h
  | tail _ e => exact k c r e
theorem no_obj {p : Nat → Bool → Prop} : ∀ c r, (c, r) ∈ ([] : List (Nat × Bool)) → p c r := fun _ _ h => by cases h
end

/-! ### what the top has written -/
def DefAt (K : PySem.W.Frag) (mg : Str → Option Value) (x : Str) (st : Stmt) (ps : List Str) : Prop :=
  ∃ f fd, Fun K x x st f fd ∧ mg x = some (.ref f) ∧ PySem.W.keepIn K (.ref f) = true ∧ Binds K fd ps []
def MDefAt (K : PySem.W.Frag) (C : Addr) (m qual : Str) (st : Stmt) (ps : List Str) : Prop :=
  ∃ f fd, Fun K m qual st f fd ∧ Meth K C m f ∧ Binds K fd ps []
def IDefAt (K : PySem.W.Frag) (C : Addr) (qual : Str) (st : Stmt) (ps : List Str) : Prop :=
  ∃ f fd, Fun K "__init__" qual st f fd ∧ Mk K C f ∧ Binds K fd ps []
section
variable {P : Program} {w : World} {K : PySem.W.Frag} {mg : Str → Option Value} {base : Heap} {k : Nat}
theorem cx_takes {N : List Str} {x : Str} {sc : Scope} {f : Addr} {cdv : Value} {A : Around} {outer : List Env} {s : Shared} {H : Hp} {E : XK} : Takes (cxOf (L2.CX P w) P w K mg base N x sc f cdv A outer s H E) (fun cls d _ H => E cls d H) := takes_of rfl rfl rfl rfl
theorem fn_okT {kp : Bool} {x qual : Str} {st : Stmt} {f : Addr} {fd : FuncData} {N ps : List Str} {body : MS} (F : Fun K x qual st f fd) (S : FnScope N ps (defScope st))
    (hbody : ∀ (f : Addr) (cdv : Value) (A : Around) (outer : List Env) (s : Shared) (H : Hp) (E : XK), Room k (A.deeper (envOfC qual (defScope st) s.heap.objs.size f cdv)) → Takes (cxOf (L2.CX P w) P w K mg base N qual (defScope st) f cdv A outer s H E) (fun cls d _ H => E cls d H) →
      PSs (cxOf (L2.CX P w) P w K mg base N qual (defScope st) f cdv A outer s H E) (defBody st) (tS T (fun cls d _ H => E cls d H) body)) : FnOk P w K mg base (L2.CX P w) (k + 1) f fd ps (spD T (fnG kp ps.length N.length body)) :=
  fn_ok F S fun cdv A outer s H E hr => hbody f cdv A outer s H E hr cx_takes
theorem fn_at {kp : Bool} {x : Str} {st : Stmt} {N ps : List Str} {body : MS} (D : DefAt K mg x st ps) (S : FnScope N ps (defScope st))
    (hbody : ∀ (f : Addr) (cdv : Value) (A : Around) (outer : List Env) (s : Shared) (H : Hp) (E : XK), Room k (A.deeper (envOfC x (defScope st) s.heap.objs.size f cdv)) → Takes (cxOf (L2.CX P w) P w K mg base N x (defScope st) f cdv A outer s H E) (fun cls d _ H => E cls d H) →
      PSs (cxOf (L2.CX P w) P w K mg base N x (defScope st) f cdv A outer s H E) (defBody st) (tS T (fun cls d _ H => E cls d H) body)) : FnAt P w K mg base T x (k + 1) (fnG kp ps.length N.length body) := by
  obtain ⟨f, fd, F, hm, hk, hb⟩ := D
  exact ⟨f, fd, ps, fn_okT F S hbody, hm, hk, hb⟩
theorem meth_at {kp : Bool} {c : Nat} {m qual : Str} {st : Stmt} {N ps : List Str} {body : MS} (D : MDefAt K (T.cl c) m qual st ps) (hc : Cls K (T.cl c)) (hn : m ∉ T.fl c) (S : FnScope N ps (defScope st))
    (hbody : ∀ (f : Addr) (cdv : Value) (A : Around) (outer : List Env) (s : Shared) (H : Hp) (E : XK), Room k (A.deeper (envOfC qual (defScope st) s.heap.objs.size f cdv)) → Takes (cxOf (L2.CX P w) P w K mg base N qual (defScope st) f cdv A outer s H E) (fun cls d _ H => E cls d H) →
      PSs (cxOf (L2.CX P w) P w K mg base N qual (defScope st) f cdv A outer s H E) (defBody st) (tS T (fun cls d _ H => E cls d H) body)) : MethAt P w K mg base T m c (k + 1) (fnG kp ps.length N.length body) := by
  obtain ⟨f, fd, F, hm, hb⟩ := D
  exact ⟨f, fd, ps, fn_okT F S hbody, hm, hc, hn, hb⟩
theorem make_at {kp : Bool} {c nf : Nat} {x qual : Str} {st : Stmt} {N ps : List Str} {body : MS} (D : IDefAt K (T.cl c) qual st ps) (hm : mg x = some (.ref (T.cl c))) (hn : (T.fl c).length = nf) (S : FnScope N ps (defScope st))
    (hbody : ∀ (f : Addr) (cdv : Value) (A : Around) (outer : List Env) (s : Shared) (H : Hp) (E : XK), Room k (A.deeper (envOfC qual (defScope st) s.heap.objs.size f cdv)) → Takes (cxOf (L2.CX P w) P w K mg base N qual (defScope st) f cdv A outer s H E) (fun cls d _ H => E cls d H) →
      PSs (cxOf (L2.CX P w) P w K mg base N qual (defScope st) f cdv A outer s H E) (defBody st) (tS T (fun cls d _ H => E cls d H) body)) : MakeAt P w K mg base T x c nf (k + 1) (fnG kp ps.length N.length body) := by
  obtain ⟨f, fd, F, hM, hb⟩ := D
  exact ⟨f, fd, ps, fn_okT F S hbody, hM, hm, hn, hb⟩
/-! ### the end -/
theorem exm_self {S : Addr} (h1 : PySem.W.subIn K (.ref S) (.type "BaseException") = some true) (h2 : PySem.W.isClsIn K S = true) (h3 : PySem.W.typeIn K (.ref S) = some (.type "type")) (h4 : PySem.W.subIn K (.ref S) (.ref S) = some true) :
    PySem.W.exmOne K (.ref S) (.ref S) = some true := by
  have e1 : (PySem.W.subIn K (.ref S) (.type "BaseException") == some true) = true := by rw [h1] <;> rfl
  have e2 : ((PySem.W.clsIn K S).isSome && PySem.W.typeIn K (.ref S) == some (.type "type")) = true := by
    have h2' : (PySem.W.clsIn K S).isSome = true := h2
    rw [h2', h3] <;> rfl
  show (if (PySem.W.subIn K (.ref S) (.type "BaseException") == some true) = true then (if ((PySem.W.clsIn K S).isSome && PySem.W.typeIn K (.ref S) == some (.type "type")) = true then PySem.W.subIn K (.ref S) (.ref S) else none) else none) = some true
  rw [if_pos e1, if_pos e2]
  exact h4
theorem kit_self {C : Addr} : PySem.W.kitOne K (.ref C) (.ref C) = some true := if_pos (beq_self_eq_true _)
end
end
end Dn

end
section
/-! Dn12: sorted(set(a list of ints)). -/
namespace Dn
open PySem PySem.Spec PyProof.Rows L2
section
variable {P : Program} {w : World} {A : Around} {E : Value → Shared → Prop} {s : Shared}
abbrev newSet (w : World) : Obj := { cls := .type "set", dict := none, data := .set #[] 0 (.fresh 0 0 (!w.params.followText "set-order")) }
/-- what stands behind the filling of the new set at a -/
def Filled (w : World) (s : Shared) (a : Addr) (ns : List Int) (t : Shared) : Prop :=
  ∃ h' tk c, t = { s with heap := h', toks := tk } ∧ SetR w h' a (fun j => decide (j ∈ ns)) c ∧ c ≤ ns.length ∧ ∀ b o, b ≠ a → s.heap.get? b = some o → h'.get? b = some o
set_option maxHeartbeats 3200000 in
theorem init_of_list {a l : Addr} {items : Array Value} (ns : List Int) (hh : A.handled = none) (hS : s.heap.get? a = some (newSet w)) (hl : s.heap.IsList l items) (hit : IntsAre items.toList ns) (hb : ns.length + 1 < scanBound) :
    wpAny (model P w) A.in1 (Builtin.«set.__init__» ⟨[.ref a, .ref l], []⟩) (fun fin t => fin = .done (.ret .none) ∧ Filled w s a ns t) E s := by
  have hisz : items.size = ns.length := by
    have q := IntsAre.length hit
    rw [Array.length_toList] at q
    exact q
  have hal : a ≠ l := by
    intro e
    obtain ⟨o, ho, hc, _⟩ := hl
    rw [← e, hS] at ho
    cases ho
    exact absurd (show Value.type "set" = Value.type "list" from hc) (by decide)
  have hT : s.TypeIs (.ref a) "set" := ⟨_, hS, rfl⟩
  obtain ⟨ol, hol, hcl, nl, hdl⟩ := id hl
  obtain ⟨ocls, odict, odata, oslots⟩ := ol
  simp only at hcl hdl
  subst hcl; subst hdl
  have n1 := F.sub_list_set
  have n2 := F.sub_list_frozenset
  have n3 : (Value.type "list" == Value.type "dict") = false := by decide
  unfold Builtin.«set.__init__» noKeywords Builtin.Frozenset.updateFrom
  generalize hPI : pyIter = PI
  wp_walk
  subst hPI
  refine wpAny_pyIter_list hl ?_
  refine wpAny_bind (wpAny_runValue ?_)
  have la : a < s.heap.objs.size := Heap.lt_size hS
  have ll : l < s.heap.objs.size := Heap.lt_size hol
  have hval : ∀ (i : Nat) (v : Value), items[i]? = some v → ∃ k t, ns[i]? = some k ∧ v = .int k t := fun i v hv => by
    have hi : i < ns.length := by rw [← hisz]; exact (Array.getElem?_eq_some_iff.mp hv).1
    obtain ⟨t, e⟩ := PyProof.Rows.IntsAre.int_at hit i v (by rw [Array.getElem?_toList]; exact hv)
    refine ⟨ns[i], t, List.getElem?_eq_getElem hi, ?_⟩
    rw [e, List.getD_eq_getElem?_getD, List.getElem?_eq_getElem hi] <;> rfl
  refine set_update_ints ((Walks.list (A := A.in1.in1) (by simp [hh]) s.heap.objs.size l (Nat.ne_of_lt ll) items).toS) a (by simp; exact ⟨Nat.ne_of_lt la, hal⟩) ns hisz hb hval (items.size - 0) 0 _ (by omega) (Nat.zero_le _)
    ⟨⟨_, Heap.get?_push_size _ rfl, rfl, rfl⟩, hl.push _⟩ ⟨0, Nat.le_refl 0, setR_new_at (Heap.get?_push_of_some _ hS)⟩ ?_
  intro s' c' hm hc' hS'
  obtain ⟨h', g2, d', tk', os'⟩ := s'
  obtain rfl : g2 = s.gens := hm.gens
  obtain rfl : d' = s.drawn := hm.drawn
  obtain rfl : os' = s.os := hm.os
  refine wpAny_pure ?_
  show wpAny _ _ (ret Value.none) _ _ _
  refine wpAny_pure ⟨rfl, h', tk', c', rfl, hS', by omega, fun b o hba e => hm.heap b o ?_ (Heap.get?_push_of_some _ e)⟩
  simp
  exact ⟨hba, Nat.ne_of_lt (Heap.lt_size e)⟩
set_option maxHeartbeats 3200000 in
theorem set_of_list {l : Addr} {items : Array Value} (ns : List Int) {Q : Value → Shared → Prop} (hh : A.handled = none) (hl : s.heap.IsList l items) (hit : IntsAre items.toList ns) (hb : ns.length + 1 < scanBound)
    (h : ∀ (h' : Heap) (tk c : Nat), SetR w h' s.heap.objs.size (fun j => decide (j ∈ ns)) c → c ≤ ns.length → (∀ b o, s.heap.get? b = some o → h'.get? b = some o) → Q (.ref s.heap.objs.size) { s with heap := h', toks := tk }) :
    wpAny (model P w) A (call (.type "set") [.ref l]) Q E s := by
  obtain ⟨_, _, z1⟩ := F.called_set.mro
  have z2 := F.called_set.made
  have z3 := F.called_set.sub
  have z4 := F.called_set.notType
  have z5 := F.called_set.canCreate
  have z6 := F.typeCall_set_1 (.ref l)
  refine wpAny_call (codeAny_of_tree ?_)
  show wpAny _ _ (callAny (.type "set") _) _ _ _
  refine wpAny_pure ⟨Code.quiet_builtin _ (by decide +kernel), codeAny_builtin F.entry_type_call ?_⟩
  rw [Around.under_plain (weight_type_call_type "set" [.ref l] []) rfl]
  repeat (any_goals (first | assumption | wp_step))
  refine codeAny_mono (code_set_led1 (.ref l) (E := E) (Q₁ := fun obj s₁ => obj = .ref s.heap.objs.size ∧ s₁ = { s with heap := s.heap.push (newSet w) }) ⟨rfl, rfl⟩) fun r s₁ hr => ?_
  cases r with
  | error e => exact hr
  | ok fl =>
    cases fl with
    | ret obj =>
      obtain ⟨rfl, rfl⟩ := hr
      have hS : (s.heap.push (newSet w)).get? s.heap.objs.size = some (newSet w) := Heap.get?_push_size _ rfl
      have hT : Shared.TypeIs { s with heap := s.heap.push (newSet w) } (.ref s.heap.objs.size) "set" := ⟨_, hS, rfl⟩
      have z7 := F.called_set.init.lookup
      have z8 := F.called_set.init.bind (.ref s.heap.objs.size)
      repeat (any_goals (first | assumption | wp_step))
      refine codeAny_mono (codeAny_call_builtin (R := wants (fun r s₂ => r = .none ∧ Filled w { s with heap := s.heap.push (newSet w) } s.heap.objs.size ns s₂) E) F.called_set.init.plain F.entry_set_init (check_set_init_1 hT ?_)) fun r₂ s₂ hr₂ => ?_
      · refine wpAny_mono (init_of_list ns (by simp [hh]) hS (hl.push _) hit hb) (fun fin t ⟨e, hf⟩ => ?_) fun e t z => z
        subst e
        exact ⟨rfl, hf⟩
      · cases r₂ with
        | error e => exact hr₂
        | ok fl₂ =>
          cases fl₂ with
          | ret r =>
            obtain ⟨rfl, h', tk, c', rfl, hS', hc', hk'⟩ := hr₂
            repeat (any_goals (first | assumption | wp_step))
            exact h _ _ _ hS' hc' fun b o e => hk' b o (Nat.ne_of_lt (Heap.lt_size e)) (Heap.get?_push_of_some _ e)
          | _ => exact hr₂.elim
    | _ => exact hr.elim
end

theorem mem_insU {x y : Int} : ∀ {l : List Int}, y ∈ insU x l ↔ y = x ∨ y ∈ l
  | [] => by simp [insU]
  | z :: r => by
    unfold insU
    split
    · simp
    · split
      · rename_i h; subst h; simp
      · simp only [List.mem_cons, mem_insU (l := r)]
        constructor
        · rintro (h | h | h)
          · exact .inr (.inl h)
          · exact .inl h
          · exact .inr (.inr h)
        · rintro (h | h | h)
          · exact .inr (.inl h)
          · exact .inl h
          · exact .inr (.inr h)
theorem mem_sortU {y : Int} : ∀ {l : List Int}, y ∈ sortU l ↔ y ∈ l
  | [] => by simp [sortU]
  | x :: r => by simp only [sortU, mem_insU, mem_sortU (l := r), List.mem_cons]
theorem lt_insU {x : Int} : ∀ {l : List Int}, l.Pairwise (· < ·) → (insU x l).Pairwise (· < ·)
  | [], _ => by simp [insU]
  | z :: r, h => by
    obtain ⟨h1, h2⟩ := List.pairwise_cons.mp h
    unfold insU
    split
    · rename_i hx
      refine List.pairwise_cons.mpr ⟨fun y hy => ?_, h⟩
      rcases List.mem_cons.mp hy with e | e
      · rw [e]; exact hx
      · have := h1 y e; omega
    · split
      · exact h
      · rename_i n1 n2
        refine List.pairwise_cons.mpr ⟨fun y hy => ?_, lt_insU h2⟩
        rcases mem_insU.mp hy with e | e
        · rw [e]; omega
        · exact h1 y e
theorem lt_sortU : ∀ (l : List Int), (sortU l).Pairwise (· < ·)
  | [] => List.Pairwise.nil
  | x :: r => lt_insU (lt_sortU r)
theorem lt_unique : ∀ {l m : List Int}, l.Pairwise (· < ·) → m.Pairwise (· < ·) → (∀ k, k ∈ l ↔ k ∈ m) → l = m
  | [], [], _, _, _ => rfl
  | [], y :: m, _, _, e => by have := (e y).mpr List.mem_cons_self; cases this
  | x :: l, [], _, _, e => by have := (e x).mp List.mem_cons_self; cases this
  | x :: l, y :: m, h, k, e => by
    obtain ⟨h1, h2⟩ := List.pairwise_cons.mp h
    obtain ⟨k1, k2⟩ := List.pairwise_cons.mp k
    have hxy : x = y := by
      rcases List.mem_cons.mp ((e x).mp List.mem_cons_self) with z | z
      · exact z
      · rcases List.mem_cons.mp ((e y).mpr List.mem_cons_self) with w | w
        · exact w.symm
        · have := k1 x z; have := h1 y w; omega
    subst hxy
    rw [lt_unique h2 k2 fun j => ?_]
    constructor
    · intro hj
      rcases List.mem_cons.mp ((e j).mp (List.mem_cons_of_mem _ hj)) with z | z
      · have := h1 j hj; omega
      · exact z
    · intro hj
      rcases List.mem_cons.mp ((e j).mpr (List.mem_cons_of_mem _ hj)) with z | z
      · have := k1 j hj; omega
      · exact z
theorem sortU_len : ∀ (l : List Int), (sortU l).length ≤ l.length
  | [] => Nat.le_refl _
  | x :: r => by
    have ins : ∀ l : List Int, (insU x l).length ≤ l.length + 1 := by
      intro l
      induction l with
      | nil => simp [insU]
      | cons z r ih =>
        unfold insU
        split
        · simp
        · split
          · simp
          · simp; omega
    have := ins (sortU r)
    have := sortU_len r
    simp only [sortU, List.length_cons]
    omega
section
variable {X : Cx} {T : Tb} {W : WX} {a b o e : Expr} {es : List Expr} {A B : M} {pos p p2 pos2 apos : Pos}
def rSetL (K : PySem.W.Frag) (w : World) : List V → Hp → VK → Prop := fun xs H Q => ∃ (q : Addr) (ns : List Int), xs = [.ref q] ∧ SqL K H q (ns.map V.int) ∧ ns.length ≤ 50 ∧ ∀ r c, H r = none → c ≤ ns.length → Q (.ref r) (upd H r (SetO w r (fun j => decide (j ∈ ns)) c))
theorem cr_setL (hc : X.calm = true) : CallR X (.type "set") (rSetL X.K X.w) := by
  intro pins s σ H xs us Q I r h
  obtain ⟨q, ns, rfl, hq, hl, k⟩ := h
  obtain rfl := Vals.ref1 r
  obtain ⟨its, rv, pl, hz⟩ := I.list hq
  refine set_of_list ns (I.ok.hd hc) pl.isList (by simpa using ints_of_vals rv) (by unfold scanBound; omega) fun h' tk c R hcn kp => ?_
  exact ⟨.ref _, upd H s.heap.objs.size (SetO X.w s.heap.objs.size (fun j => decide (j ∈ ns)) c), I.laid (t' := tk) kp (Nat.le_refl _) (setO_new R), rfl, k _ _ (I.hok.fresh (Nat.le_refl _)) hcn⟩
theorem intsOf_eq : ∀ {xs : List D} {ns : List Int}, intsOf xs = some ns → xs = ns.map D.int
  | [], ns, h => by cases h; rfl
  | x :: r, ns, h => by
    cases x with
    | int i =>
      unfold intsOf at h
      cases e : intsOf r with
      | none => simp only [e] at h; cases h
      | some m =>
        simp only [e] at h
        cases h
        rw [intsOf_eq e]; rfl
    | _ => cases h
theorem reps_ints {G : Hp} : ∀ {ns : List Int} {vs : List V}, Reps T G (ns.map D.int) vs → vs = ns.map V.int
  | [], vs, h => h.nil_inv
  | n :: ns, vs, h => by
    obtain ⟨v, r, rfl, a, b⟩ := Reps.cons_inv (d := .int n) (ds := ns.map D.int) h
    rw [Rep.int_inv a, reps_ints b]; rfl
theorem dn_sortSet (hT : X.K = T.K) (hc : X.calm = true) (hg : Gl X "sorted") (hm : X.mg "sorted" = none) (hg2 : Gl X "set") (hm2 : X.mg "set" = none) (ha : PE X a (tD T W A))
    (na : starEach [a] X.env = (false, eval a X.env) :: starEach [] X.env := by rfl) (nb : starEach [.Call (.Name "set" p2) [a] [] pos2] X.env = (false, eval (.Call (.Name "set" p2) [a] [] pos2) X.env) :: starEach [] X.env := by rfl) :
    PE X (.Call (.Name "sorted" p) [.Call (.Name "set" p2) [a] [] pos2] [] pos) (tD T W (mSortSet A)) := by
  have h1 := pe_callTy (p := p2) (pos := pos2) (cr_setL hc) hg2 hm2 PyProof.Rows.boot_set (pa_cons ha pa_nil na) (by decide) (by decide) na rfl
  refine PE.imp (pe_callB (cr_sortedSet hc) hg hm (by decide +kernel) (pa_cons h1 pa_nil nb) (by decide) (by decide) nb rfl) fun σ H Q ⟨δ, c, G, ρ, hs, hh, p⟩ => ?_
  refine ⟨δ, c, G, ρ, hs, hh, (Post.bind (rel := SRep T) p).imp ?_⟩
  rintro v H1 ⟨s, c1, G1, ρ1, e1, p1, h1, r1, q1⟩
  unfold sortSet at q1
  cases e2 : deref s c1 with
  | none => simp only [e2] at q1; exact q1.elim
  | some d =>
    cases d with
    | lst xs =>
      simp only [e2] at q1
      cases e3 : intsOf xs with
      | none => simp only [e3] at q1; exact q1.elim
      | some ns =>
        simp only [e3] at q1
        by_cases hl : ns.length ≤ 50
        · rw [if_pos hl] at q1
          obtain ⟨q, vs, rfl, sq, hz, rr⟩ := deref_view h1 r1 e2
          rw [intsOf_eq e3] at rr
          have := reps_ints rr; subst this
          refine ⟨q, ns, rfl, SqL.of sq, hl, fun r n hr hn => ⟨r, _, n, rfl, upd_same, by omega, fun ms t hp hme hlen ht => ?_⟩⟩
          have em : ms = sortU ns := lt_unique hp (lt_sortU ns) fun k => by rw [hme k, mem_sortU, decide_eq_true_eq]
          subst em
          have htr : t ≠ r := by
            intro e; subst e; rw [upd_same] at ht; cases ht
          rw [upd_ne htr] at ht
          have st0 := Step.grow (G := G1) h1.ex (Ex.new (o := SetO X.w r (fun j => decide (j ∈ ns)) n) hr)
          have ht' : upd H1 r (SetO X.w r (fun j => decide (j ∈ ns)) n) t = none := by rw [upd_ne htr]; exact ht
          have st1 := Step.new (G := G1) (o := .lst ((sortU ns).map V.int)) st0.gh ht'
          have st := st0.trans st1
          refine q1 _ _ _ ρ1 st.g (List.prefix_refl _) (h1.step st) (Rep.lst upd_same ?_ (Reps.map_int _))
          rw [List.length_map, sizeLine_eq]
          have := sortU_len ns
          omega
        · rw [if_neg hl] at q1; exact q1.elim
    | _ => simp only [e2] at q1; exact q1.elim
end
end Dn

end
section
/-! Dn13: list(zip(..)) of two lists or two tuples. -/
namespace Dn
open PySem PySem.Spec PyProof.Rows L2
section
variable {prog : Program} {w : World} {A : Around} {E : Value → Shared → Prop} {s : Shared} {z TI TO i1 i2 S : Addr} {fp1 fp2 : List Addr} {n1 n2 i : Nat} {P1 P2 : Nat → Value → Prop} {St1 St2 : Nat → Heap → Prop}
/-- what has been put into the list so far: new tuples, from B on -/
def Prs (B : Nat) (P1 P2 : Nat → Value → Prop) (h : Heap) (acc : Array Value) (i : Nat) : Prop :=
  acc.size = i ∧ ∀ j v, acc[j]? = some v → ∃ (T : Addr) (x1 x2 : Value), v = .ref T ∧ B ≤ T ∧ IsTupOf2 h T x1 x2 ∧ P1 j x1 ∧ P2 j x2
theorem Prs.keep {B : Nat} {h h' : Heap} {acc : Array Value} (p : Prs B P1 P2 h acc i) (k : ∀ c o, B ≤ c → h.get? c = some o → h'.get? c = some o) : Prs B P1 P2 h' acc i :=
  ⟨p.1, fun j v e => let ⟨T, x1, x2, a, b, c, d⟩ := p.2 j v e; ⟨T, x1, x2, a, b, k T _ b c, d⟩⟩
theorem Prs.push {B : Nat} {h : Heap} {acc : Array Value} {T : Addr} {x1 x2 : Value} (p : Prs B P1 P2 h acc i) (hB : B ≤ T) (hT : IsTupOf2 h T x1 x2) (h1 : P1 i x1) (h2 : P2 i x2) : Prs B P1 P2 h (acc.push (.ref T)) (i + 1) := by
  refine ⟨by rw [Array.size_push, p.1], fun j v hj => ?_⟩
  rw [Array.getElem?_push] at hj
  split at hj
  · rename_i e
    rw [p.1] at e
    cases hj
    subst e
    exact ⟨T, x1, x2, rfl, hB, hT, h1, h2⟩
  · exact p.2 j v hj
end

section
variable {X : Cx} {T : Tb} {W : WX} {a b o e : Expr} {es : List Expr} {A B : M} {pos p p2 pos2 apos : Pos}
end
end Dn

end
section
/-! Dn14: errors that carry a value: their making, several except clauses, with and without a name, their fields. -/
namespace Dn
open PySem PySem.Spec PyProof.Rows L2

/-! ### Base.__init__(self, text), Base an own class over ValueError -/
section
variable {X : Cx} {o e : Expr} {es : List Expr} {ta : TA} {p p1 p2 pos : Pos}
/-- the class at B, by its name, lends ValueError's __init__ -/
structure Lends (K : PySem.W.Frag) (B : Addr) : Prop where
  sp : PySem.W.specialIn K (.ref B) "__getattribute__" = some (some (.builtin "type.__getattribute__"))
  rd : PySem.W.readsIn K B (.type "type") = true
  fc : PySem.W.findCls K (.ref B) (.type "type") "__init__" = some (.val (.builtin "ValueError.__init__"))
theorem pe_lent {x : Str} {B : Addr} {pl : Sem Bool} (hg : Gl X x) (hm : X.mg x = some (.ref B)) (L : Lends X.K B) (ha : PA X (e :: es) ta) (hdb : (x == ("__debug__" : Str)) = false := by decide)
    (hc : eval (.Call (.Attribute (.Name x p1) "__init__" p2) (e :: es) [] pos) X.env = (do
      let ov ← eval (.Name x p1) X.env
      standAt p2.atName
      let (f, first) ← holding [ov] (getMethod ov "__init__" pl)
      callWith pos f first (backTo pos (starEach (e :: es) X.env)) (backToKw pos (keywordEach [] X.env))) := by rfl)
    (he : starEach (e :: es) X.env = (false, eval e X.env) :: starEach es X.env := by rfl) (hpl : (backTo pos (starEach es X.env)).any (·.1) = false := by rfl) :
    PE X (.Call (.Attribute (.Name x p1) "__init__" p2) (e :: es) [] pos) (tVeI X.K ta) := by
  refine ⟨fun pins s σ H Q I h => ?_⟩
  refine PySem.W.methodCall_KW (ld_glob I hg hm ?_ hdb) hc
  refine PySem.W.method_cls I.kIn L.sp (PySem.W.cls_value I.kIn L.rd L.fc (by decide +kernel) ?_)
  show wpAny _ _ (callWith pos (Value.builtin "ValueError.__init__") [] (backTo pos (starEach (e :: es) X.env)) []) _ _ _
  refine PyProof.Rows.callWith_method1 (thn (ha.run pos pins _ σ H _ (I.tok _) h) fun us s1 ⟨vs, H1, I1, r1, a, C, ws, ev, hl, T, ea, q⟩ => ?_) he hpl
  subst ev
  cases r1 with
  | @cons _ u0 _ ur ra rw' =>
    obtain rfl : u0 = Value.ref a := ra
    have hlen : ur.length ≤ sizeLine := by
      rw [← Paired.length rw', sizeLine_eq]
      omega
    exact oinit_ok T I1 ea hlen fun s' J => ⟨.non, H1, J, rfl, q⟩
end
/-- the two statements of such an __init__ -/
def tXI (K : PySem.W.Frag) (f : Str) : TS := fun D σ H => ∃ (a C : Addr) (v : V), σ[0]? = some (some (.ref a)) ∧ σ[1]? = some (some v) ∧ OexC K C ∧ PySem.W.findIn K (.ref C) f = some none ∧ H a = some (exo a C none) ∧
  ∀ dx, H dx = none → dx ≠ a → D.nx σ (upd (upd H dx (exd dx [(f, v)])) a (exo a C (some dx)))
theorem pss_xi {X : Cx} {B : Addr} {y g f t : Str} {j} {p1 p2 p3 p4 p5 p6 p7 p8 p9 p10 : Pos} (hg : Gl X y) (hm : X.mg y = some (.ref B)) (L : Lends X.K B) (h0 : X.N[0]? = some ("self" : Str)) (v0 : Vis X.env.scope "self") (h1 : X.N[1]? = some g) (v1 : Vis X.env.scope g)
    (hdb : (y == ("__debug__" : Str)) = false := by decide) (hd : (g == ("__debug__" : Str)) = false := by decide) (hcd : (g == ("__classdict__" : Str)) = false := by decide)
    (hc : ∀ pl : Sem Bool, pl = pl → ∃ pl : Sem Bool, eval (.Call (.Attribute (.Name y p1) "__init__" p2) [.Name "self" p3, .Constant (.str t) j p4] [] p5) X.env = (do
      let ov ← eval (.Name y p1) X.env
      standAt p2.atName
      let (f, first) ← holding [ov] (getMethod ov "__init__" pl)
      callWith p5 f first (backTo p5 (starEach [.Name "self" p3, .Constant (.str t) j p4] X.env)) (backToKw p5 (keywordEach [] X.env))) := by exact fun _ _ => ⟨_, rfl⟩)
    (he : starEach [.Name "self" p3, .Constant (.str t) j p4] X.env = (false, eval (.Name "self" p3) X.env) :: starEach [.Constant (.str t) j p4] X.env := by rfl)
    (he2 : starEach [.Constant (.str t) j p4] X.env = (false, eval (.Constant (.str t) j p4) X.env) :: starEach [] X.env := by rfl)
    (hpl : (backTo p5 (starEach [.Constant (.str t) j p4] X.env)).any (·.1) = false := by rfl)
    (hs : swapsWith (.Call (.Attribute (.Name y p1) "__init__" p2) [.Name "self" p3, .Constant (.str t) j p4] [] p5) none p6.line X.env = pure false := by rfl)
    (hs2 : swapsWith (.Name g p9) (some (.Attribute (.Name "self" p7) f p8)) p10.line X.env = pure false := by rfl) :
    PSs X [.Expr (.Call (.Attribute (.Name y p1) "__init__" p2) [.Name "self" p3, .Constant (.str t) j p4] [] p5) p6, .Assign [.Attribute (.Name "self" p7) f p8] (.Name g p9) p10] (tXI X.K f) := by
  obtain ⟨pl, hc⟩ := hc (pure true) rfl
  have s0 : ∀ {p}, PE X (.Name "self" p) (tVar 0) := pe_var h0 v0
  have s1 : PE X (.Name g p9) (tVar 1) := pe_var h1 v1 hd hcd
  refine PSs.imp (pss_cons (ps_expr (pe_lent (pl := pl) hg hm L (pa_cons s0 (pa_cons pe_str pa_nil he2) he) hdb hc he hpl) hs) (pss_one (ps_ost s0 s1 hs2))) fun D σ H h => ?_
  obtain ⟨a, C, v, e0, e1, T, hf, ea, q⟩ := h
  refine ⟨.ref a, e0, ?_⟩
  refine ⟨a, C, [.str t], rfl, by simp, T, ea, ?_⟩
  refine ⟨v, e1, .ref a, e0, a, C, rfl, T, hf, .inl ⟨ea, q⟩⟩
/-- what the __init__ of an error class with one field promises -/
def spXI (K : PySem.W.Frag) (f : Str) : Sp := fun vs H Q _ => ∃ (a C : Addr) (v : V), vs = [.ref a, v] ∧ OexC K C ∧ PySem.W.findIn K (.ref C) f = some none ∧ H a = some (exo a C none) ∧
  ∀ dx, H dx = none → dx ≠ a → Q .non (upd (upd H dx (exd dx [(f, v)])) a (exo a C (some dx)))
section
variable {P : Program} {w : World} {K : PySem.W.Frag} {mg : Str → Option Value} {base : Heap} {T : Tb} {k : Nat}
theorem xi_ok {qual : Str} {st : Stmt} {f : Addr} {fd : FuncData} {g fld : Str} (F : Fun K "__init__" qual st f fd) (S : FnScope ["self", g] ["self", g] (defScope st))
    (hb : ∀ (f : Addr) (cdv : Value) (A : Around) (outer : List Env) (s : Shared) (H : Hp) (E : XK), PSs (cxOf (L2.CX P w) P w K mg base ["self", g] qual (defScope st) f cdv A outer s H E) (defBody st) (tXI K fld)) :
    FnOk P w K mg base (L2.CX P w) (k + 1) f fd ["self", g] (spXI K fld) := by
  refine F.okX S ?_ ?_
  · rintro vs H Q E ⟨a, C, v, rfl, _⟩
    rfl
  · rintro cdv A outer s H vs Q E hr ⟨a, C, v, rfl, T, hf, ea, q⟩
    exact ⟨_, hb f cdv A outer s H E, a, C, v, rfl, rfl, T, hf, ea, q⟩
/-- the error class x, number n, with the one field fld -/
def XAt (P : Program) (w : World) (K : PySem.W.Frag) (mg : Str → Option Value) (base : Heap) (T : Tb) (x : Str) (n : Nat) (fld : Str) : Prop :=
  ∃ f fd ps, FnOk P w K mg base (L2.CX P w) 1 f fd ps (spXI K fld) ∧ OexC K (T.cl n) ∧ PySem.W.findIn K (.ref (T.cl n)) "__init__" = some (some (.ref f)) ∧ PySem.W.typeIn K (.ref f) = some (.type "function") ∧ Binds K fd ps [] ∧
    mg x = some (.ref (T.cl n)) ∧ PySem.W.findIn K (.ref (T.cl n)) fld = some none ∧ T.fl n = [fld]
end
section
variable {X : Cx} {T : Tb} {W : WX} {a b o e : Expr} {es : List Expr} {A B : M} {pos p p2 pos2 apos : Pos}
/-- raise X(e) -/
def sRaise1 (n : Nat) (A : M) : MS := fun δ c => (A δ c).andS δ fun s c => match s with
  | .d x => .ex n [.d x] δ c
  | .c j => .ex n [.c j] δ c
  | _ => .bad
theorem ds_raise1 {x fld : Str} {n : Nat} (E : XAt X.prog X.w X.K X.mg X.base T x n fld) (hr : Room 2 X.A) (hc : X.calm = true) (tk : Takes X W) (hg : Gl X x) (ha : PE X e (tD T W A)) (hdb : (x == ("__debug__" : Str)) = false := by decide)
    (he : starEach [e] X.env = (false, eval e X.env) :: starEach [] X.env := by rfl) (hpl : (backTo pos2 (starEach [] X.env)).any (·.1) = false := by rfl) :
    PS X (.Raise (some (.Call (.Name x p) [e] [] pos2)) none pos) (tS T W (sRaise1 n A)) := by
  obtain ⟨f, fd, ps, F, O, iC, tI, hb, hm, hf, hfl⟩ := E
  refine PS.imp (ps_raise hc tk (pmk_oex (k := 1) (dvs := []) O iC tI F hr hb .nil (fun _ _ _ _ _ _ _ h => by
    obtain ⟨_, _, _, _, _, _, _, _, _, _, _, _, z⟩ := h
    exact z.elim) hg hm (pa_cons ha pa_nil he) hdb he hpl)) fun D σ H ⟨δ, c, G, ρ, hs, hh, p⟩ => ?_
  refine ⟨δ, c, G, ρ, hs, hh, (PostS.andS (rel := SRep T) hs p).imp ?_⟩
  rintro v H1 ⟨s, c1, G1, ρ1, e1, p1, h1, r1, q1⟩
  obtain ⟨s', r2, q2⟩ : ∃ s', CRep T G1 ρ1 s' v ∧ PostS T W G1 ρ1 (.ex n [s'] δ c1) D := by
    cases s with
    | d y => exact ⟨.d y, r1, q1⟩
    | c j => exact ⟨.c j, r1, q1⟩
    | x _ _ => exact q1.elim
    | f => exact q1.elim
  refine ⟨by simp, fun a ha => ⟨a, T.cl n, v, rfl, O, hf, upd_same, fun dx hdx ne => ⟨rfl, dx, [(fld, v)], upd_same, ?_, ?_, ?_⟩⟩⟩
  · rw [upd_ne ne]; exact upd_same
  · rw [upd_ne ne] at hdx; exact hdx
  · rw [upd_ne ne] at hdx
    have eh : upd (del (upd (upd (upd H1 a (exo a (T.cl n) none)) dx (exd dx [(fld, v)])) a (exo a (T.cl n) (some dx))) a) dx (.xd [(fld, v)]) = upd H1 dx (.xd [(fld, v)]) := by
      funext b
      by_cases hb : b = dx
      · subst hb; rw [upd_same, upd_same]
      · rw [upd_ne hb, upd_ne hb]
        by_cases hb2 : b = a
        · subst hb2; rw [del_same, ha]
        · rw [del_ne hb2, upd_ne hb2, upd_ne hb, upd_ne hb2]
    rw [eh]
    have st : Step G1 H1 (upd G1 dx (.xd [(fld, v)])) (upd H1 dx (.xd [(fld, v)])) := Step.new h1.ex hdx
    exact q2 (some dx) σ _ _ ρ1 st.g (List.prefix_refl _) ((hs.mono e1 p1).mono st.g (List.prefix_refl _)) (h1.step st) (.inr ⟨dx, _, rfl, upd_same, by rw [hfl]; rfl, CReps.cons (r2.mono st.g (List.prefix_refl _)) CReps.nil⟩)
end
end Dn

end
section
/-! Dn15: try with any number of clauses, each with or without a name. -/
namespace Dn
open PySem PySem.Spec PyProof.Rows L2

abbrev SuT := Addr → Value → Option Addr → TS
/-- behind a suite with the name at slot i -/
def offE (i : Nat) (D : Ends) : Ends := { nx := fun s h => D.nx (s.set i none) h, rt := D.rt, bk := fun s h => D.bk (s.set i none) h, ct := fun s h => D.ct (s.set i none) h }
/-- what one clause wishes -/
def wCl (D : Ends) (t : SuT) : Option Nat → Value → Option Addr → L2.St → Hp → Prop
  | none, cls, d, σ, H => ∀ a, H a = none → t a cls d D σ H
  | some i, cls, d, σ, H => ∀ a, H a = none → t a cls d (offE i D) (σ.set i (some (.ref a))) H
def wMix (K : PySem.W.Frag) (Wo : WX) (D : Ends) : List (Value × Option Nat × SuT) → WX
  | [] => Wo
  | (c, n, t) :: r => fun cls d σ H => ∃ b, PySem.W.exmOne K cls c = some b ∧ (b = true → wCl D t n cls d σ H) ∧ (b = false → wMix K Wo D r cls d σ H)
/-- a clause's name -/
def NameOk (X : Cx) : Option Str → Option Nat → Prop
  | none, none => True
  | some n, some i => X.N.Nodup ∧ X.N[i]? = some n ∧ X.env.kindOf n = some .local
  | _, _ => False
inductive ClsOk (X : Cx) : List ExceptHandler → List (Value × Option Nat × SuT) → Prop
  | nil : ClsOk X [] []
  | cons {x : Str} {c : Value} {n : Option Str} {i : Option Nat} {t : SuT} {st : Stmt} {sts : List Stmt} {np ps : Pos} {hs : List ExceptHandler} {l : List (Value × Option Nat × SuT)} (hc : Names X x c) (hn : NameOk X n i)
      (hsu : ∀ (a : Addr) (oe : Obj) (cls : Value) (d : Option Addr) (pn : List (Addr × Obj)), Zc cls d oe → (∃ vs, oe.data = .fields vs) → PSs (X.suite a ((a, oe) :: pn)) (st :: sts) (t a cls d)) (r : ClsOk X hs l) :
      ClsOk X (.ExceptHandler (some (.Name x np)) n (st :: sts) ps :: hs) ((c, i, t) :: l)
section
variable {X : Cx} {body : List Stmt} {h0 : ExceptHandler} {hs : List ExceptHandler} {l : List (Value × Option Nat × SuT)} {pos : Pos} {tb : WX → TS} {Wo : WX}
theorem ps_try_mix (hk : X.stack = X.env :: X.outer) (hf : X.env.frame = some X.env.locals) (tk : Takes X Wo)
    (hb : ∀ (W : WX) (pn : List (Addr × Obj)) (xe : Value → Shared → Prop), Takes (X.tr pn xe) W → PassesOwn (model X.prog X.w) X.A X.env xe → PSs (X.tr pn xe) body (tb W)) (hh : ClsOk X (h0 :: hs) l) :
    PS X (.Try body (h0 :: hs) [] [] pos) (fun D σ H => tb (wMix X.K Wo D l) D σ H) := by
  refine ⟨fun pins s σ H D I h => ?_⟩
  have ok := I.ok
  have hfr : X.A.frames = some (X.env :: X.outer) := by rw [ok.frames, hk]
  refine wpAny_Try_except (wpAny_mono ((hb (wMix X.K Wo D l) (X.pn ++ pins) (fun u t1 => wpAny (model X.prog X.w) X.A (noteFrame u X.env) (fun _ t2 => wpAny (model X.prog X.w) X.A (setFlight u none) (fun _ t3 => wpAny (model X.prog X.w) X.A (handleBy u X.env (h0 :: hs)) (SP X pins D) X.xe t3) X.xe t2) X.xe t1)
    (fun u s' xx => ?_) PassesOwn.looking).run [] s σ H D (I.toTry _) h) (fun f s1 hsp => ?_) (fun e s1 he => he))
  · obtain ⟨a, B, sI, pins', σ1, H1, cls, d, rfl, J0, nb, up, sky, na, os, ag, w⟩ := xx
    have J : Inv X pins σ1 H1 sI := J0.ofTry ok
    have sk : Sky B (X.env :: X.outer) a (Zc cls d) X.env.locals s'.heap := by rw [← hk]; exact sky
    show wpAny (model X.prog X.w) X.A (noteFrame (.ref a) X.env) _ _ _
    refine Sky.land Zc.steady hfr hf sk fun h3 fl3 up3 => ?_
    have J3 : Inv X pins σ1 H1 { s' with heap := h3 } := J.landed nb fl3.1 (up.trans up3) os ag
    obtain ⟨o3, v3, he3, hz3, hd3⟩ := fl3.there
    have nfr : a ∉ frs (X.env :: X.outer) := fun hm => by obtain ⟨_, o', e', hnf⟩ := fl3.2.2.1.mem hm; rw [he3] at e'; cases e'; exact hnf _ hd3
    have nL : a ≠ X.env.locals := fun z => nfr (List.mem_filterMap.mpr ⟨X.env, List.mem_cons_self, by rw [hf, z]⟩)
    have nF : a ∉ X.fs := fun hm => by obtain ⟨e, he, q⟩ := List.mem_filterMap.mp hm; exact nfr (List.mem_filterMap.mpr ⟨e, List.mem_cons_of_mem _ he, q⟩)
    have S3 := J3.suite he3 hd3 na nL nF
    have go : ∀ {hs' : List ExceptHandler} {l' : List (Value × Option Nat × SuT)}, ClsOk X hs' l' → wMix X.K Wo D l' cls d σ1 H1 → wpAny (model X.prog X.w) X.A (handleBy (.ref a) X.env hs') (SP X pins D) X.xe { s' with heap := h3 } := by
      intro hs' l' hk'
      induction hk' with
      | nil =>
        intro w
        obtain ⟨k1, k2, k3, oe, vs, T, oT, ts', he, hz, hd, h1, hr⟩ := id fl3
        refine wpAny_handleBy_nil ?_
        unfold PySem.passOn
        refine wpAny_bind (wpAny_field he hd h1 ?_)
        rw [if_neg (show ¬ ((Value.ref T == Value.none) = true) from by simp)]
        have fin : wpAny (model X.prog X.w) X.A (setFlight (.ref a) X.env.frame) (fun _ t4 => wpAny (model X.prog X.w) X.A (throw (.ref a) : Sem Flow) (SP X pins D) X.xe t4) X.xe { s' with heap := h3 } := by
          rw [hf]; exact HandSPX.setFlight_upZ fl3 fun h4 hh4 up4 => wpAny_throw (tk _ _ ⟨a, B, sI, pins, σ1, H1, cls, d, rfl, J, nb, (up.trans up3).trans up4, .inr (.inr (by rw [hk]; exact hh4)), na, os, ag, w⟩)
        first | exact wpAny_bind (wpAny_pure (wpAny_bind fin)) | exact wpAny_bind fin
      | @cons x c n i t st sts np ps hs2 l2 hc hn hsu r ih =>
        intro w
        obtain ⟨b, hb1, hyes, hno⟩ := w
        refine wpAny_handleBy_cons (codeAny_handlers_test ?_) (by intro q; cases q)
        have LT : PySem.W.Looks (model X.prog X.w) h3 (typeOf (.ref a)) cls := fun A Q E s k q => wpAny_typeOf_ref (k _ _ he3) (by rw [hz3.1]; exact q)
        have LM := PySem.W.exm_one (M := model X.prog X.w) (J3.kIn) LT hb1
        have test : ∀ {Q : Value → Shared → Prop} {E : Value → Shared → Prop}, Q c { s' with heap := h3 } → wpAny (model X.prog X.w) (X.A.mark (some (.ref a))) (eval (.Name x np) X.env) Q E { s' with heap := h3 } := fun {Q E} q => by
          rcases hc with ⟨hg, hdbg, hm | ⟨hm, hv, hnn⟩⟩
          · exact ld_glob (X := X.suite a ((a, o3) :: (X.pn ++ pins))) S3 hg hm q hdbg
          · exact ld_blt (X := X.suite a ((a, o3) :: (X.pn ++ pins))) S3 hg hm hv q hnn hdbg
        refine test (LM.here ?_)
        cases b with
        | false =>
          show wpAny _ X.A (handleBy (.ref a) X.env hs2) _ _ _
          exact ih (hno rfl)
        | true =>
          have hy := hyes rfl
          cases n with
          | none =>
            cases i with
            | some _ => exact hn.elim
            | none =>
              refine codeAny_handlers_suite (HandSPX.lands_againZ fl3 fun h4 fl4 up4 => ?_)
              have J4 : Inv X pins σ1 H1 { s' with heap := h4 } := J.landed nb fl4.1 ((up.trans up3).trans up4) os ag
              obtain ⟨o4, v4, he4, hz4, hd4⟩ := fl4.there
              refine wpAny_mono ((hsu a o4 cls d (X.pn ++ pins) hz4 ⟨_, hd4⟩).run [] _ _ H1 _ (J4.suite he4 hd4 na nL nF) (hy a na)) (fun f s6 hsp => ?_) (fun _ _ z => False.elim z)
              cases f with
              | next => obtain ⟨σ6, H6, S6, q6⟩ := hsp; exact ⟨_, _, S6.unsuite ok, q6⟩
              | brk => obtain ⟨σ6, H6, S6, q6⟩ := hsp; exact ⟨_, _, S6.unsuite ok, q6⟩
              | cont => obtain ⟨σ6, H6, S6, q6⟩ := hsp; exact ⟨_, _, S6.unsuite ok, q6⟩
              | ret u => obtain ⟨v6, σ6, H6, S6, r6, q6⟩ := hsp; exact ⟨_, _, _, S6.unsuite ok, r6, q6⟩
          | some n =>
            cases i with
            | none => exact hn.elim
            | some i =>
              obtain ⟨hN, hi, hln⟩ := hn
              refine codeAny_handlers_suite_as (HandSPX.lands_againZ fl3 fun h4 fl4 up4 => ?_)
              have J4 : Inv X pins σ1 H1 { s' with heap := h4 } := J.landed nb fl4.1 ((up.trans up3).trans up4) os ag
              obtain ⟨o4, v4, he4, hz4, hd4⟩ := fl4.there
              refine store_ok (X := X.suite a ((a, o4) :: (X.pn ++ pins))) (v := .ref a) (J4.suite he4 hd4 na nL nF) hN hi (.inl hln) rfl (fun s5 S5 => ?_) (.inr hln)
              refine wpAny_mono ((hsu a o4 cls d (X.pn ++ pins) hz4 ⟨_, hd4⟩).run [] s5 _ H1 _ S5 (hy a na)) (fun f s6 hsp => ?_) (fun _ _ z => False.elim z)
              have end_ : ∀ {σ6 : L2.St} {H6 : Hp} {Q : Shared → Prop}, Inv (X.suite a ((a, o4) :: (X.pn ++ pins))) [] σ6 H6 s6 → (∀ s7, Inv X pins (σ6.set i none) H6 s7 → Q s7) → wpAny (model X.prog X.w) X.A (do bindName X.env n .none; unbindBehindTheSuite X.env n ps) (fun _ s7 => Q s7) X.xe s6 := fun {σ6 H6 Q} S6 hq => gone_ok (S6.unsuite ok) hN hi hln hq
              cases f with
              | next => obtain ⟨σ6, H6, S6, q6⟩ := hsp; exact end_ S6 fun s7 J7 => ⟨_, _, J7, q6⟩
              | brk => obtain ⟨σ6, H6, S6, q6⟩ := hsp; exact end_ S6 fun s7 J7 => ⟨_, _, J7, q6⟩
              | cont => obtain ⟨σ6, H6, S6, q6⟩ := hsp; exact end_ S6 fun s7 J7 => ⟨_, _, J7, q6⟩
              | ret u => obtain ⟨v6, σ6, H6, S6, r6, q6⟩ := hsp; exact end_ S6 fun s7 J7 => ⟨_, _, _, J7, r6, q6⟩
    exact go hh w
  · cases f with
    | next => obtain ⟨σ1, H1, J1, q⟩ := hsp; exact wpAny_execs_nil ⟨σ1, H1, J1.ofTry ok, q⟩
    | brk => obtain ⟨σ1, H1, J1, q⟩ := hsp; exact ⟨σ1, H1, J1.ofTry ok, q⟩
    | cont => obtain ⟨σ1, H1, J1, q⟩ := hsp; exact ⟨σ1, H1, J1.ofTry ok, q⟩
    | ret u => obtain ⟨v, σ1, H1, J1, r, q⟩ := hsp; exact ⟨v, σ1, H1, J1.ofTry ok, r, q⟩
end
end Dn

end
section
/-! Dn16: the readings of try; an error in hand and its fields. -/
namespace Dn
open PySem PySem.Spec PyProof.Rows L2

def Tb.wx (T : Tb) (x : Option (Addr × Option Addr × Nat)) : Tb := { T with x := x }
section
variable {T : Tb} {x : Option (Addr × Option Addr × Nat)} {G H : Hp} {ρ : List Addr} {c : Cs} {σ : L2.St} {δ : Sl} {W : WX}
mutual
theorem Rep.wx : ∀ (d : D) (v : V), Rep T G d v → Rep (T.wx x) G d v
  | .non, v, e => by unfold Rep at *; exact e
  | .bl _, v, e => by unfold Rep at *; exact e
  | .int _, v, e => by unfold Rep at *; exact e
  | .str _, v, e => by unfold Rep at *; exact e
  | .scr ns, v, e => by unfold Rep at *; exact e
  | .lst xs, v, e => by unfold Rep at *; obtain ⟨p, vs, a, b, l, q⟩ := e; exact ⟨p, vs, a, b, l, Reps.wx xs vs q⟩
  | .tup xs, v, e => by unfold Rep at *; obtain ⟨p, vs, a, b, l, q⟩ := e; exact ⟨p, vs, a, b, l, Reps.wx xs vs q⟩
  | .obj _ xs, v, e => by unfold Rep at *; obtain ⟨p, dx, fv, a, b, l, q⟩ := e; exact ⟨p, dx, fv, a, b, l, Reps.wx xs _ q⟩
  | .dct _ xs, v, e => by unfold Rep at *; obtain ⟨p, kv, a, b, l, q⟩ := e; exact ⟨p, kv, a, b, l, Reps.wx xs _ q⟩
theorem Reps.wx : ∀ (d : List D) (v : List V), Reps T G d v → Reps (T.wx x) G d v
  | [], v, e => by unfold Reps at *; exact e
  | d :: ds, v, e => by unfold Reps at *; obtain ⟨y, r, a, b, q⟩ := e; exact ⟨y, r, a, Rep.wx d y b, Reps.wx ds r q⟩
end
mutual
theorem Rep.xw : ∀ (d : D) (v : V), Rep (T.wx x) G d v → Rep T G d v
  | .non, v, e => by unfold Rep at *; exact e
  | .bl _, v, e => by unfold Rep at *; exact e
  | .int _, v, e => by unfold Rep at *; exact e
  | .str _, v, e => by unfold Rep at *; exact e
  | .scr ns, v, e => by unfold Rep at *; exact e
  | .lst xs, v, e => by unfold Rep at *; obtain ⟨p, vs, a, b, l, q⟩ := e; exact ⟨p, vs, a, b, l, Reps.xw xs vs q⟩
  | .tup xs, v, e => by unfold Rep at *; obtain ⟨p, vs, a, b, l, q⟩ := e; exact ⟨p, vs, a, b, l, Reps.xw xs vs q⟩
  | .obj _ xs, v, e => by unfold Rep at *; obtain ⟨p, dx, fv, a, b, l, q⟩ := e; exact ⟨p, dx, fv, a, b, l, Reps.xw xs _ q⟩
  | .dct _ xs, v, e => by unfold Rep at *; obtain ⟨p, kv, a, b, l, q⟩ := e; exact ⟨p, kv, a, b, l, Reps.xw xs _ q⟩
theorem Reps.xw : ∀ (d : List D) (v : List V), Reps (T.wx x) G d v → Reps T G d v
  | [], v, e => by unfold Reps at *; exact e
  | d :: ds, v, e => by unfold Reps at *; obtain ⟨y, r, a, b, q⟩ := e; exact ⟨y, r, a, Rep.xw d y b, Reps.xw ds r q⟩
end
theorem CRep.wx : ∀ {s : S} {v : V}, CRep T G ρ s v → CRep (T.wx x) G ρ s v
  | .d _, _, e => Rep.wx _ _ e
  | .c _, _, e => e
theorem CRep.xw : ∀ {s : S} {v : V}, CRep (T.wx x) G ρ s v → CRep T G ρ s v
  | .d _, _, e => Rep.xw _ _ e
  | .c _, _, e => e
theorem CReps.wx {ss : List S} {vs : List V} (r : CReps T G ρ ss vs) : CReps (T.wx x) G ρ ss vs := by
  induction r with
  | nil => exact .nil
  | cons a _ ih => exact .cons a.wx ih
theorem CReps.xw {ss : List S} {vs : List V} (r : CReps (T.wx x) G ρ ss vs) : CReps T G ρ ss vs := by
  induction r with
  | nil => exact .nil
  | cons a _ ih => exact .cons a.xw ih
theorem CellOk.wx {p : Addr} : ∀ {y : CC}, CellOk T G H ρ p y → CellOk (T.wx x) G H ρ p y
  | .lst xs, ⟨vs, a, b, r⟩ => ⟨vs, a, b, Reps.wx _ _ r⟩
  | .dct kvs, ⟨kv, a, b, k, r⟩ => ⟨kv, a, b, k, Reps.wx _ _ r⟩
  | .obj c xs, ⟨dx, fv, a, b, r⟩ => ⟨dx, fv, a, b, Reps.wx _ _ r⟩
  | .lS xs, ⟨vs, a, b, r⟩ => ⟨vs, a, b, r.wx⟩
  | .tS xs, ⟨vs, a, b, r⟩ => ⟨vs, a, b, r.wx⟩
  | .tb j, ⟨z, ps, a, b⟩ => ⟨z, ps, a, b⟩
  | .dT kvs, ⟨kv, a, b, k, r⟩ => ⟨kv, a, b, k, Reps.wx _ _ r⟩
theorem CellOk.xw {p : Addr} : ∀ {y : CC}, CellOk (T.wx x) G H ρ p y → CellOk T G H ρ p y
  | .lst xs, ⟨vs, a, b, r⟩ => ⟨vs, a, b, Reps.xw _ _ r⟩
  | .dct kvs, ⟨kv, a, b, k, r⟩ => ⟨kv, a, b, k, Reps.xw _ _ r⟩
  | .obj c xs, ⟨dx, fv, a, b, r⟩ => ⟨dx, fv, a, b, Reps.xw _ _ r⟩
  | .lS xs, ⟨vs, a, b, r⟩ => ⟨vs, a, b, r.xw⟩
  | .tS xs, ⟨vs, a, b, r⟩ => ⟨vs, a, b, r.xw⟩
  | .tb j, ⟨z, ps, a, b⟩ => ⟨z, ps, a, b⟩
  | .dT kvs, ⟨kv, a, b, k, r⟩ => ⟨kv, a, b, k, Reps.xw _ _ r⟩
theorem RelH.wx (r : RelH T H c G ρ) : RelH (T.wx x) H c G ρ := ⟨r.ex, r.len, r.nd, fun i p y a b => let ⟨g, k⟩ := r.at_ i p y a b; ⟨g, k.wx⟩⟩
theorem RelH.xw (r : RelH (T.wx x) H c G ρ) : RelH T H c G ρ := ⟨r.ex, r.len, r.nd, fun i p y a b => let ⟨g, k⟩ := r.at_ i p y a b; ⟨g, k.xw⟩⟩
theorem XRep.wx {k : Nat} {xs : List S} {d : Option Addr} (r : XRep T G ρ k xs d) : XRep (T.wx x) G ρ k xs d := by
  rcases r with r | ⟨dx, fv, a, b, e, r⟩
  · exact .inl r
  · exact .inr ⟨dx, fv, a, b, e, r.wx⟩
theorem XRep.xw {k : Nat} {xs : List S} {d : Option Addr} (r : XRep (T.wx x) G ρ k xs d) : XRep T G ρ k xs d := by
  rcases r with r | ⟨dx, fv, a, b, e, r⟩
  · exact .inl r
  · exact .inr ⟨dx, fv, a, b, e, r.xw⟩
theorem SRep.xw (hx : T.x = none) : ∀ {s : S} {v : V}, SRep (T.wx x) G ρ s v → SRep T G ρ s v
  | .d _, _, e => Rep.xw _ _ e
  | .c _, _, e => e
  | .x _ _, _, _ => fun a d k z => by rw [hx] at z; cases z
  | .f, _, e => e
theorem SReps.xw (hx : T.x = none) {ss : List S} {vs : List V} (r : SReps (T.wx x) G ρ ss vs) : SReps T G ρ ss vs := by
  induction r with
  | nil => exact .nil
  | cons a _ ih => exact .cons (a.xw hx) ih
/-- no error is in the slots -/
def clrX : Sl → Sl
  | [] => []
  | some (.x _ _) :: r => none :: clrX r
  | o :: r => o :: clrX r
theorem clrX_len : ∀ δ : Sl, (clrX δ).length = δ.length
  | [] => rfl
  | o :: r => by
    cases o with
    | none => simp [clrX, clrX_len r]
    | some s => cases s <;> simp [clrX, clrX_len r]
theorem clrX_get : ∀ {δ : Sl} {i : Nat} {s : S}, (clrX δ)[i]? = some (some s) → δ[i]? = some (some s) ∧ ∀ k xs, s ≠ .x k xs
  | [], _, _, e => by simp [clrX] at e
  | o :: r, 0, s, e => by
    cases o with
    | none => simp [clrX] at e
    | some t => cases t <;> simp [clrX] at e <;> subst e <;> exact ⟨rfl, fun _ _ z => by cases z⟩
  | o :: r, i + 1, s, e => by
    cases o with
    | none => simpa [clrX] using clrX_get (δ := r) (i := i) (by simpa [clrX] using e)
    | some t => cases t <;> simpa [clrX] using clrX_get (δ := r) (i := i) (by simpa [clrX] using e)
theorem RelS.wx (r : RelS T G ρ σ δ) : RelS (T.wx x) G ρ σ (clrX δ) := by
  refine ⟨by rw [clrX_len]; exact r.len, fun i s e => ?_⟩
  obtain ⟨e1, ne⟩ := clrX_get e
  obtain ⟨v, hv, rv⟩ := r.at_ i s e1
  refine ⟨v, hv, ?_⟩
  cases s with
  | d _ => exact Rep.wx _ _ rv
  | c _ => exact rv
  | x k xs => exact absurd rfl (ne k xs)
  | f => exact rv
theorem RelS.xw (hx : T.x = none) (r : RelS (T.wx x) G ρ σ δ) : RelS T G ρ σ δ :=
  ⟨r.len, fun i s e => let ⟨v, a, b⟩ := r.at_ i s e; ⟨v, a, b.xw hx⟩⟩
theorem PostS.xw (hx : T.x = none) {r : RS} {E : Ends} (h : PostS T W0 G ρ r E) : PostS (T.wx x) W0 G ρ r E := by
  cases r with
  | nx δ c => exact fun σ' H' G' ρ' e p s q => h σ' H' G' ρ' e p (s.xw hx) q.xw
  | bk δ c => exact fun σ' H' G' ρ' e p s q => h σ' H' G' ρ' e p (s.xw hx) q.xw
  | ct δ c => exact fun σ' H' G' ρ' e p s q => h σ' H' G' ρ' e p (s.xw hx) q.xw
  | rt s c => exact fun v H' G' ρ' e p s q => h v H' G' ρ' e p (s.xw hx) q.xw
  | ex k xs δ c => exact fun d σ' H' G' ρ' e p s q z => h d σ' H' G' ρ' e p (s.xw hx) q.xw z.xw
  | bad => exact h
end
/-- a clause: what it catches, what it lets by, its name's slot, its suite -/
structure Hd where
  yes : List Nat
  no : List Nat
  as_ : Option Nat
  su : MS
def offS (i : Nat) : RS → RS
  | .nx δ c => .nx (δ.set i none) c
  | .bk δ c => .bk (δ.set i none) c
  | .ct δ c => .ct (δ.set i none) c
  | r => r
def suH (h : Hd) (k : Nat) (xs : List S) (δ : Sl) (c : Cs) : RS := match h.as_ with
  | none => noEx (h.su δ c)
  | some i => offS i (noEx (h.su ((clrX δ).set i (some (.x k xs))) c))
def runH : List Hd → Nat → List S → Sl → Cs → RS
  | [], k, xs, δ, c => .ex k xs δ c
  | h :: r, k, xs, δ, c => if k ∈ h.yes then suH h k xs δ c else if k ∈ h.no then runH r k xs δ c else .bad
def sTryM (hs : List Hd) (m : MS) : MS := fun δ c => match m δ c with
  | .ex k xs δ c => runH hs k xs δ c
  | r => r
section
variable {X : Cx} {T : Tb} {W : WX} {a b o e : Expr} {es : List Expr} {A B : M} {pos p p2 pos2 apos : Pos} {m ms : MS}
/-- a suite's reading: with an error of class k in hand -/
def tSu (T : Tb) (as_ : Option Nat) (ms : MS) : SuT := fun a cls d D σ H => match as_ with
  | none => tS T W0 ms D σ H
  | some _ => ∃ k, cls = .ref (T.cl k) ∧ tS (T.wx (some (a, d, k))) W0 ms D σ H
inductive HdsOkD (X : Cx) (T : Tb) : List ExceptHandler → List Hd → List (Value × Option Nat × SuT) → Prop
  | nil : HdsOkD X T [] [] []
  | cons {x : Str} {u : Value} {n : Option Str} {i : Option Nat} {yes no : List Nat} {ms : MS} {st : Stmt} {sts : List Stmt} {np ps : Pos} {hs : List ExceptHandler} {hds : List Hd} {l : List (Value × Option Nat × SuT)} (hc : Names X x u) (hn : NameOk X n i)
      (hy : Catches X.K T u true yes) (hno : Catches X.K T u false no)
      (hsu : ∀ (a : Addr) (oe : Obj) (cls : Value) (d : Option Addr) (pn : List (Addr × Obj)), Zc cls d oe → (∃ vs, oe.data = .fields vs) → PSs (X.suite a ((a, oe) :: pn)) (st :: sts) (tSu T i ms a cls d)) (r : HdsOkD X T hs hds l) :
      HdsOkD X T (.ExceptHandler (some (.Name x np)) n (st :: sts) ps :: hs) (⟨yes, no, i, ms⟩ :: hds) ((u, i, tSu T i ms) :: l)
theorem HdsOkD.cls {hs : List ExceptHandler} {hds : List Hd} {l : List (Value × Option Nat × SuT)} (h : HdsOkD X T hs hds l) : ClsOk X hs l := by
  induction h with
  | nil => exact .nil
  | cons hc hn _ _ hsu _ ih => exact .cons hc hn hsu ih
theorem offS_ok {i : Nat} {r : RS} {G : Hp} {ρ : List Addr} {D : Ends} (h : PostS T W0 G ρ (offS i r) D) : PostS T W0 G ρ r (offE i D) := by
  cases r with
  | nx δ c => exact fun σ' H' G' ρ' e p s q => h _ H' G' ρ' e p (s.unset i none) q
  | bk δ c => exact fun σ' H' G' ρ' e p s q => h _ H' G' ρ' e p (s.unset i none) q
  | ct δ c => exact fun σ' H' G' ρ' e p s q => h _ H' G' ρ' e p (s.unset i none) q
  | rt s c => exact h
  | ex k xs δ c => exact h
  | bad => exact h
theorem noEx_off {i : Nat} {r : RS} : noEx (offS i (noEx r)) = offS i (noEx r) := by cases r <;> rfl
theorem runH_ok (hx : T.x = none) {hs : List ExceptHandler} {hds : List Hd} {l : List (Value × Option Nat × SuT)} (h : HdsOkD X T hs hds l) {k : Nat} {xs : List S} {δ : Sl} {c : Cs} {D : Ends} :
    ∀ {d : Option Addr} {σ : L2.St} {H G : Hp} {ρ : List Addr}, RelS T G ρ σ δ → RelH T H c G ρ → XRep T G ρ k xs d → PostS T W G ρ (runH hds k xs δ c) D → wMix X.K W D l (.ref (T.cl k)) d σ H := by
  induction h with
  | nil =>
    intro d σ H G ρ rs rh xr q
    exact q d σ H G ρ (.refl _) (List.prefix_refl _) rs rh xr
  | @cons x u n i yes no ms st sts np ps hs hds l hc hn hy hno hsu r ih =>
    intro d σ H G ρ rs rh xr q
    unfold runH at q
    by_cases hk : k ∈ yes
    · rw [if_pos hk] at q
      refine ⟨true, hy.get hk, fun _ => ?_, fun z => by cases z⟩
      cases i with
      | none => exact fun a na => ⟨δ, c, G, ρ, rs, rh, PostS.noEx q⟩
      | some i =>
        intro a na
        refine ⟨k, rfl, (clrX δ).set i (some (.x k xs)), c, G, ρ, ?_, rh.wx, ?_⟩
        · exact (rs.wx (x := some (a, d, k))).set i (s := .x k xs) (v := .ref a) (fun a' d' k' z => by
            cases z
            exact ⟨rfl, rfl, xr.wx⟩)
        · have q : PostS T W G ρ (offS i (noEx (ms ((clrX δ).set i (some (.x k xs))) c))) D := q
          rw [← noEx_off] at q
          have q1 := offS_ok (PostS.noEx q)
          have q2 : PostS T W0 G ρ (ms ((clrX δ).set i (some (.x k xs))) c) (offE i D) := by
            cases hm : ms ((clrX δ).set i (some (.x k xs))) c with
            | ex _ _ _ _ => rw [hm] at q1; exact q1.elim
            | _ => rw [hm] at q1; exact q1
          exact q2.xw hx
    · rw [if_neg hk] at q
      by_cases hk2 : k ∈ no
      · rw [if_pos hk2] at q
        exact ⟨false, hno.get hk2, (fun z => by cases z), fun _ => ih rs rh xr q⟩
      · rw [if_neg hk2] at q; exact q.elim
theorem ds_tryM {h0 : ExceptHandler} {hs : List ExceptHandler} {hds : List Hd} {l : List (Value × Option Nat × SuT)} {body : List Stmt} (hx : T.x = none) (hk : X.stack = X.env :: X.outer) (hf : X.env.frame = some X.env.locals) (tk : Takes X W)
    (hb : ∀ (W : WX) (pn : List (Addr × Obj)) (xe : Value → Shared → Prop), Takes (X.tr pn xe) W → PassesOwn (model X.prog X.w) X.A X.env xe → PSs (X.tr pn xe) body (tS T W m)) (h : HdsOkD X T (h0 :: hs) hds l) :
    PS X (.Try body (h0 :: hs) [] [] pos) (tS T W (sTryM hds m)) := by
  refine PS.imp (ps_try_mix (tb := fun W => tS T W m) hk hf tk hb h.cls) fun E σ H ⟨δ, c, G, ρ, hs, hh, p⟩ => ?_
  refine ⟨δ, c, G, ρ, hs, hh, ?_⟩
  unfold sTryM at p
  cases e : m δ c with
  | nx δ1 c1 => rw [e] at p; exact p
  | bk δ1 c1 => rw [e] at p; exact p
  | ct δ1 c1 => rw [e] at p; exact p
  | rt s1 c1 => rw [e] at p; exact p
  | bad => rw [e] at p; exact p
  | ex k xs δ1 c1 =>
    rw [e] at p
    intro d σ' H' G' ρ' eg pr rs rh xr
    exact runH_ok hx h rs rh xr (PostS.mono (r := runH hds k xs δ1 c1) p eg pr)
theorem su_some {i : Nat} {a : Addr} {oe : Obj} {cls : Value} {d : Option Addr} {pn : List (Addr × Obj)} {sts : List Stmt} (h : ∀ k, cls = .ref (T.cl k) → PSs (X.suite a ((a, oe) :: pn)) sts (tS (T.wx (some (a, d, k))) W0 ms)) :
    PSs (X.suite a ((a, oe) :: pn)) sts (tSu T (some i) ms a cls d) := ⟨fun pins s σ H D I ⟨k, hk, q⟩ => (h k hk).run pins s σ H D I q⟩
/-- e.f, e the error in hand -/
def XFldAt (K : PySem.W.Frag) (T : Tb) (f : Str) (n j : Nat) : Prop := XfC K (T.cl n) ∧ PySem.W.findIn K (.ref (T.cl n)) f = some none ∧ (T.fl n)[j]? = some f ∧ (T.fl n).Nodup
inductive XFldsAt (K : PySem.W.Frag) (T : Tb) (f : Str) : List (Nat × Nat) → Prop
  | nil : XFldsAt K T f []
  | cons {n j : Nat} {l : List (Nat × Nat)} : XFldAt K T f n j → XFldsAt K T f l → XFldsAt K T f ((n, j) :: l)
theorem XFldsAt.get {K : PySem.W.Frag} {f : Str} {l : List (Nat × Nat)} (h : XFldsAt K T f l) {c i : Nat} (hm : (c, i) ∈ l) : XFldAt K T f c i := by
  induction h with
  | nil => cases hm
  | cons a _ ih =>
    cases hm with
    | head => exact a
    | tail _ hm => exact ih hm
theorem creps_at {T : Tb} {G : Hp} {ρ : List Addr} {ss : List S} {vs : List V} (r : CReps T G ρ ss vs) : ∀ {j : Nat} {u : S}, ss[j]? = some u → ∃ v, vs[j]? = some v ∧ CRep T G ρ u v := by
  induction r with
  | nil => intro j u e; cases e
  | @cons s ss v vs a _ ih =>
    intro j u e
    cases j with
    | zero => cases e; exact ⟨v, rfl, a⟩
    | succ j => exact ih e
def mXf (tbl : List (Nat × Nat)) (i : Nat) : M := fun δ c => match δ[i]? with
  | some (some (.x k xs)) => match look tbl k with
    | some j => match xs[j]? with
      | some (.x _ _) => .bad
      | some x => .ok x c
      | none => .bad
    | none => .bad
  | _ => .bad
theorem dn_xf {a : Addr} {oe : Obj} {cls : Value} {d : Option Addr} {pn : List (Addr × Obj)} {k i : Nat} {n f : Str} {tbl : List (Nat × Nat)} (hk : cls = .ref (T.cl k)) (hz : Zc cls d oe) (hf : ∃ vs, oe.data = .fields vs) (ht : XFldsAt X.K T f tbl)
    (hN : X.N[i]? = some n) (hv : Vis X.env.scope n) (hd : (n == ("__debug__" : Str)) = false := by decide) (hcd : (n == ("__classdict__" : Str)) = false := by decide)
    (hb : attributeBase (.Name n p) f X.env (eval (.Name n p) X.env) = eval (.Name n p) X.env := by rfl) :
    PE (X.suite a ((a, oe) :: pn)) (.Attribute (.Name n p) f pos) (tD (T.wx (some (a, d, k))) W0 (mXf tbl i)) := by
  have pv : PE (X.suite a ((a, oe) :: pn)) (.Name n p) (tVar i) := pe_var (X := X.suite a ((a, oe) :: pn)) hN hv hd hcd
  refine ⟨fun pins s σ H Q I ⟨δ, c, G, ρ, hs, hh, p⟩ => ?_⟩
  unfold mXf at p
  cases e1 : δ[i]? with
  | none => simp only [e1] at p; exact p.elim
  | some o1 =>
    cases o1 with
    | none => simp only [e1] at p; exact p.elim
    | some s1 =>
      cases s1 with
      | d _ => simp only [e1] at p; exact p.elim
      | c _ => simp only [e1] at p; exact p.elim
      | f => simp only [e1] at p; exact p.elim
      | x k2 xs =>
        simp only [e1] at p
        obtain ⟨v, hv1, rv⟩ := hs.at_ i _ e1
        obtain ⟨rfl, rfl, xr⟩ := rv a d k rfl
        cases e2 : look tbl k with
        | none => simp only [e2] at p; exact p.elim
        | some j =>
          simp only [e2] at p
          cases e3 : xs[j]? with
          | none => simp only [e3] at p; exact p.elim
          | some x =>
            simp only [e3] at p
            obtain ⟨hxf, hno, hj, hnd⟩ := ht.get (look_mem e2)
            rcases xr with ⟨hxs, _⟩ | ⟨dx, fv, hdx, hg, hfl, rr⟩
            · subst hxs; cases e3
            · obtain ⟨w, hw, rw'⟩ := creps_at rr e3
              have hlk : fv.lookup f = some w := lookup_at (by rw [hfl]; exact hnd) (by rw [hfl]; exact hj) hw
              refine (pe_xf hxf hno hz hf pv hb).run pins s σ H Q I ⟨.ref a, hv1, rfl, hk, dx, fv, w, hdx, hh.ex _ _ hg, hlk, ?_⟩
              cases x with
              | d _ => exact p w H G ρ (.refl _) (List.prefix_refl _) hh rw'
              | c _ => exact p w H G ρ (.refl _) (List.prefix_refl _) hh rw'
              | x _ _ => exact rw'.elim
              | f => exact rw'.elim
end
end Dn

end
section
set_option maxHeartbeats 4000000
/-! Dn17: tuples compared, lists searched, where the items' == may be a def's. -/
namespace Dn
open PySem PySem.Spec PyProof.Rows L2
open PySem.SeqAt
open AutoSeq1 (wpAny_loadPart')
open MeetsSeq MeetsSeq2 MeetsSeq3 SeqRoads2
section
variable {prog : Program} {w : World} {A : Around} {R : Result → Shared → Prop} {E : Value → Shared → Prop}
/-- what the i-th two of two tuples are found to be -/
def TPairs (prog : Program) (w : World) (A : Around) (E : Value → Shared → Prop) (x y : Array Value) (I : Nat → Shared → Prop) (Z : Shared → Prop) : Prop :=
  ∀ (i : Nat) (s : Shared), I i s → ∀ (h1 : i < x.size) (h2 : i < y.size), wpAny (model prog w) A.in1 (eqBool x[i] y[i]) (fun r t => (r = true ∧ I (i + 1) t) ∨ (r = false ∧ Z t)) E s
theorem tup_tree {l b : Addr} {x y : Array Value} {n m : Nat} {dl db : Option Addr} {sl sb : Array (Option Value)} {I : Nat → Shared → Prop} {Z : Shared → Prop} {s : Shared}
    (hx : s.heap.get? l = some { cls := .type "tuple", dict := dl, data := .seq x n, slots := sl }) (hy : s.heap.get? b = some { cls := .type "tuple", dict := db, data := .seq y m, slots := sb }) (hs : x.size = y.size)
    (hl : TPairs prog w A (fun e t => R (.error e) t) x y I Z) (hN : ∀ t, I x.size t → R (.ok (.ret (.bool true))) t) (hZ : ∀ t, Z t → R (.ok (.ret (.bool false))) t) (h0 : I 0 s) :
    wpAny (model prog w) A.in1 (Builtin.«tuple.__eq__» ⟨[.ref l, .ref b], []⟩) (GQ.FinOf prog w A R) (fun e t => R (.error e) t) s := by
  obtain ⟨hp, g, d, tk, os⟩ := s
  have f2 := AutoSeq1.sub_tuple_tuple
  have zl : (x.toList.zip y.toList).length = x.size := by simp [hs]
  wp_walk using wpAny_loadPart' hx, wpAny_loadPart' hy, wpAny_forIn_list _ (fun rest b s' => b.1 = none ∧ ∃ i, i ≤ x.size ∧ rest = (x.toList.zip y.toList).drop i ∧ I i s') _
  case turn =>
    rintro ⟨u, v⟩ rest b s' ⟨hb', i, hi, hz, hI⟩
    have hlt : i < (x.toList.zip y.toList).length := by
      rcases Nat.lt_or_ge i (x.toList.zip y.toList).length with q | q
      · exact q
      · rw [List.drop_of_length_le q] at hz; cases hz
    have h1 : i < x.size := by omega
    have h2 : i < y.size := by omega
    rw [List.drop_eq_getElem_cons hlt] at hz
    injection hz with e1 e2
    have eu : u = x[i] := by have := congrArg Prod.fst e1; simpa using this
    have ev : v = y[i] := by have := congrArg Prod.snd e1; simpa using this
    subst eu ev
    refine wpAny_bind (wpAny_mono (hl i s' hI h1 h2) (fun r t q => ?_) fun _ _ z => z)
    rcases q with ⟨rfl, q⟩ | ⟨rfl, q⟩
    · wp_walk
      exact ⟨rfl, i + 1, h1, e2, q⟩
    · have fin := hZ t q
      obtain ⟨hp2, g2, d2, tk2, os2⟩ := t
      wp_walk
      exact fin
  case fin =>
    rintro ⟨b1, b2⟩ s' ⟨hb', i, hi, hz, hI⟩
    simp only at hb'
    subst hb'
    have hge : x.size ≤ i := by
      rcases Nat.lt_or_ge i (x.toList.zip y.toList).length with q | q
      · rw [List.drop_eq_getElem_cons q] at hz; cases hz
      · omega
    have e : i = x.size := by omega
    subst e
    have fin := hN s' hI
    obtain ⟨hp2, g2, d2, tk2, os2⟩ := s'
    wp_walk
    simpa [Builtin.Tuple.tupleCompareSizes, hs] using fin
  case h => exact ⟨rfl, 0, Nat.zero_le _, rfl, h0⟩
theorem tup_cmp {l b : Addr} {x y : Array Value} {I : Nat → Shared → Prop} {Z : Shared → Prop} {s : Shared} {Q : Value → Shared → Prop} (hx : IsTup s.heap l x) (hy : IsTup s.heap b y) (hs : x.size = y.size) (hu : A.units < cLine)
    (hl : TPairs prog w A E x y I Z) (hN : ∀ t, I x.size t → Q (.bool true) t) (hZ : ∀ t, Z t → Q (.bool false) t) (h0 : I 0 s) : wpAny (model prog w) A (richCompare .Eq (.ref l) (.ref b)) Q E s := by
  obtain ⟨⟨c1, d1, k1, s1⟩, q1, q2, n, q3⟩ := hx
  obtain ⟨⟨c2, d2, k2, s2⟩, r1, r2, m, r3⟩ := hy
  simp only at q2 q3 r2 r3
  subst q2 q3 r2 r3
  exact wpAny_richCompare_same_room (op := .Eq) ⟨_, q1, rfl⟩ ⟨_, r1, rfl⟩ F.slot_tuple_eq (GQ.call_here F.slot_tuple_eq ⟨_, q1, rfl⟩ F.entry_tuple_eq (F.args_tuple_eq_2 _ _)
    (tup_tree (R := wants (fun v t => v ≠ .notImplemented ∧ Q v t) E) q1 r1 hs hl (fun t q => ⟨(fun z => nomatch z), hN t q⟩) (fun t q => ⟨(fun z => nomatch z), hZ t q⟩) h0)) hu
end
end Dn

end
section
set_option maxHeartbeats 4000000
/-! Dn18: == at any depth, in, not in, index: by plain data, own ==, lists and tuples of such. -/
namespace Dn
open PySem PySem.Spec PyProof.Rows L2
open PySem.SeqAt
/-! ### one value, one datum -/
mutual
theorem eqD_refl : ∀ (n : Nat) (d : D), d.ok n = true → eqD d d = true
  | n, .non, _ => by unfold eqD; rfl
  | n, .bl b, _ => by unfold eqD; simp
  | n, .int i, _ => by unfold eqD; simp
  | n, .str x, _ => by unfold eqD; simp
  | n, .lst xs, h => by
    unfold D.ok at h
    simp only [Bool.and_eq_true] at h
    unfold eqD; exact eqDs_refl (n - 1) xs h.2
  | n, .tup xs, h => by
    unfold D.ok at h
    simp only [Bool.and_eq_true] at h
    unfold eqD; exact eqDs_refl (n - 1) xs h.2
  | n, .obj _ _, h => by unfold D.ok at h; cases h
  | n, .scr _, h => by unfold D.ok at h; cases h
  | n, .dct _ _, h => by unfold D.ok at h; cases h
theorem eqDs_refl : ∀ (n : Nat) (ds : List D), oks n ds = true → eqDs ds ds = true
  | n, [], _ => by unfold eqDs; rfl
  | n, x :: xs, h => by
    unfold oks at h
    simp only [Bool.and_eq_true] at h
    unfold eqDs; simp [eqD_refl n x h.1, eqDs_refl n xs h.2]
end
section
variable {T : Tb} {G : Hp}
mutual
theorem Rep.same : ∀ (n m : Nat) (x y : D) (v : V), x.ok n = true → y.ok m = true → Rep T G x v → Rep T G y v → x = y
  | n, m, x, y, v, hx, hy, rx, ry => by
    cases x with
    | non => have := rx.non_inv; subst this; cases y <;> first | rfl | (unfold Rep at ry; simp at ry; done) | (unfold D.ok at hy; cases hy; done)
    | bl b => have := rx.bl_inv; subst this; cases y <;> first | (unfold Rep at ry; cases ry; rfl) | (unfold Rep at ry; simp at ry; done) | (unfold D.ok at hy; cases hy; done)
    | int i => have := rx.int_inv; subst this; cases y <;> first | (unfold Rep at ry; cases ry; rfl) | (unfold Rep at ry; simp at ry; done) | (unfold D.ok at hy; cases hy; done)
    | str s => have := rx.str_inv; subst this; cases y <;> first | (unfold Rep at ry; cases ry; rfl) | (unfold Rep at ry; simp at ry; done) | (unfold D.ok at hy; cases hy; done)
    | obj _ _ => unfold D.ok at hx; cases hx
    | scr _ => unfold D.ok at hx; cases hx
    | dct _ _ => unfold D.ok at hx; cases hx
    | lst xs =>
      obtain ⟨p, vs, rfl, sq, _, r⟩ := rx.lst_inv
      unfold D.ok at hx
      simp only [Bool.and_eq_true] at hx
      cases y with
      | lst ys =>
        obtain ⟨q, us, e, sq2, _, r2⟩ := ry.lst_inv
        cases e
        rw [sq] at sq2; cases sq2
        unfold D.ok at hy
        simp only [Bool.and_eq_true] at hy
        rw [Reps.same (n - 1) (m - 1) xs ys vs hx.2 hy.2 r r2]
      | tup ys =>
        obtain ⟨q, us, e, sq2, _, r2⟩ := ry.tup_inv
        cases e
        rw [sq] at sq2; cases sq2
      | obj _ _ => unfold D.ok at hy; cases hy
      | scr _ => unfold D.ok at hy; cases hy
      | dct _ _ => unfold D.ok at hy; cases hy
      | _ => unfold Rep at ry; cases ry
    | tup xs =>
      obtain ⟨p, vs, rfl, sq, _, r⟩ := rx.tup_inv
      unfold D.ok at hx
      simp only [Bool.and_eq_true] at hx
      cases y with
      | tup ys =>
        obtain ⟨q, us, e, sq2, _, r2⟩ := ry.tup_inv
        cases e
        rw [sq] at sq2; cases sq2
        unfold D.ok at hy
        simp only [Bool.and_eq_true] at hy
        rw [Reps.same (n - 1) (m - 1) xs ys vs hx.2 hy.2 r r2]
      | lst ys =>
        obtain ⟨q, us, e, sq2, _, r2⟩ := ry.lst_inv
        cases e
        rw [sq] at sq2; cases sq2
      | obj _ _ => unfold D.ok at hy; cases hy
      | scr _ => unfold D.ok at hy; cases hy
      | dct _ _ => unfold D.ok at hy; cases hy
      | _ => unfold Rep at ry; cases ry
theorem Reps.same : ∀ (n m : Nat) (xs ys : List D) (vs : List V), oks n xs = true → oks m ys = true → Reps T G xs vs → Reps T G ys vs → xs = ys
  | n, m, [], ys, vs, _, _, r, r2 => by
    cases r.nil_inv
    cases ys with
    | nil => rfl
    | cons y ys => obtain ⟨_, _, e, _⟩ := r2.cons_inv; cases e
  | n, m, x :: xs, ys, vs, hx, hy, r, r2 => by
    obtain ⟨v, vr, rfl, a, b⟩ := r.cons_inv
    cases ys with
    | nil => cases r2.nil_inv
    | cons y ys =>
      obtain ⟨_, _, e, a2, b2⟩ := r2.cons_inv
      cases e
      unfold oks at hx hy
      simp only [Bool.and_eq_true] at hx hy
      rw [Rep.same n m x y v hx.1 hy.1 a a2, Reps.same n m xs ys vr hx.2 hy.2 b b2]
end
end
/-! ### hiding lists and dicts -/
def hid (l : List Addr) (H : Hp) : Hp := fun b => if b ∈ l then none else H b
theorem hid_in {l : List Addr} {H : Hp} {b : Addr} (h : b ∈ l) : hid l H b = none := if_pos h
theorem hid_out {l : List Addr} {H : Hp} {b : Addr} (h : b ∉ l) : hid l H b = H b := if_neg h
def isLD (o : HO) : Prop := (∃ xs, o = .lst xs) ∨ ∃ kvs, o = .dK kvs
/-- what was hidden comes back -/
def back (l : List Addr) (H H' : Hp) : Hp := fun b => if b ∈ l then H b else H' b
theorem back_in {l : List Addr} {H H' : Hp} {b : Addr} (h : b ∈ l) : back l H H' b = H b := if_pos h
theorem back_out {l : List Addr} {H H' : Hp} {b : Addr} (h : b ∉ l) : back l H H' b = H' b := if_neg h
section
variable {X : Cx} {pins : List (Addr × Obj)} {σ : L2.St} {H H' : Hp} {s s' : Shared} {l : List Addr}
theorem ld_obj (I : Inv X pins σ H s) {b : Addr} {o : HO} (e : H b = some o) (k : isLD o) : ∃ ob, s.heap.get? b = some ob ∧ ∀ v, ob.data ≠ .cell v := by
  have q := I.hok b o e
  rcases k with ⟨xs, rfl⟩ | ⟨kvs, rfl⟩
  · obtain ⟨_, its, n, _, g⟩ := q
    exact ⟨_, g, fun v z => by cases z⟩
  · obtain ⟨_, _, vs, _, ob, es, ep, g, _, d, _⟩ := q
    exact ⟨ob, g, fun v z => by rw [d] at z; cases z⟩
theorem Inv.hide (I : Inv X pins σ H s) (hl : ∀ b ∈ l, ∃ o, H b = some o ∧ isLD o) : L2.Inv X (pins ++ pinsAt l s.heap) σ (hid l H) s := by
  have ne : ∀ {b o}, H b = some o → ¬ isLD o → b ∉ l := fun {b o} e n z => by
    obtain ⟨o', e', k⟩ := hl b z
    rw [e] at e'; cases e'
    exact n k
  have le : ∀ {b}, H b = none → hid l H b = none := fun {b} e => by
    unfold hid
    split
    · rfl
    · exact e
  have I1 : L2.Inv X pins σ (hid l H) s := by
    refine ⟨I.ok, I.os, I.bare, ⟨I.base.keep, I.base.slot, fun b o q n hx => le (I.base.free b o q n hx), I.base.there, fun b xs q => ?_, fun b o u q => ?_, fun b ps q => ?_⟩, I.loc, I.cell, le I.free, fun x c e => le (I.freeC x c e), fun p hp => let ⟨a, b, c⟩ := I.pin p hp; ⟨a, le b, c⟩, fun b o e => ?_, I.len⟩
    · have := I.base.tups b xs q
      rw [hid_out (ne this (by rintro (⟨_, z⟩ | ⟨_, z⟩) <;> cases z))]; exact this
    · have := I.base.frzs b o u q
      rw [hid_out (ne this (by rintro (⟨_, z⟩ | ⟨_, z⟩) <;> cases z))]; exact this
    · obtain ⟨m, this⟩ := I.base.tbls b ps q
      exact ⟨m, by rw [hid_out (ne this (by rintro (⟨_, z⟩ | ⟨_, z⟩) <;> cases z))]; exact this⟩
    · by_cases hb : b ∈ l
      · rw [hid_in hb] at e; cases e
      · rw [hid_out hb] at e
        exact (I.hok b o e).stay (fun _ _ _ q => q) (fun d q => by rw [hid_out (ne q (by rintro (⟨_, z⟩ | ⟨_, z⟩) <;> cases z))]; exact q) fun d xs q => by rw [hid_out (ne q (by rintro (⟨_, z⟩ | ⟨_, z⟩) <;> cases z))]; exact q
  refine I1.pins_of fun p hp => (List.mem_append.mp hp).elim (fun z => I1.pin p (List.mem_append_right _ z)) fun z => ?_
  obtain ⟨hb, e⟩ := of_pinsAt z
  obtain ⟨o, ho, k⟩ := hl p.1 hb
  obtain ⟨ob, g, d⟩ := ld_obj I ho k
  rw [e] at g
  cases g
  refine ⟨e, hid_in hb, fun z => ?_, fun z => ?_, d⟩
  · rw [z, I.free] at ho; cases ho
  · have : H p.1 = none := by
      rcases I.ok.stk with q | ⟨q, _⟩
      · exact I.stkFree p.1 (by rw [q]; exact z)
      · refine I.stkFree p.1 ?_
        rw [q]
        unfold frs
        rw [List.filterMap_cons]
        split
        · exact z
        · exact List.mem_cons_of_mem _ z
    rw [ho] at this; cases this
theorem Inv.unhide (I : Inv X pins σ H s) (hl : ∀ b ∈ l, ∃ o, H b = some o ∧ isLD o) (J : L2.Inv X (pins ++ pinsAt l s.heap) σ H' s') : L2.Inv X pins σ (back l H H') s' ∧ ∀ b ∈ l, H' b = none := by
  have gone : ∀ b ∈ l, H' b = none := fun b hb => by
    obtain ⟨o, ho, k⟩ := hl b hb
    obtain ⟨ob, g, _⟩ := ld_obj I ho k
    exact (J.pin (b, ob) (List.mem_append_right _ (List.mem_append_right _ (mem_pinsAt hb g)))).2.1
  have kept : ∀ b ∈ l, ∀ o, s.heap.get? b = some o → s'.heap.get? b = some o := fun b hb o e => (J.pin (b, o) (List.mem_append_right _ (List.mem_append_right _ (mem_pinsAt hb e)))).1
  have nl : ∀ {b o}, H' b = some o → b ∉ l := fun {b o} e z => by rw [gone b z] at e; cases e
  have up : ∀ {b o}, H' b = some o → back l H H' b = some o := fun {b o} e => by rw [back_out (nl e)]; exact e
  refine ⟨⟨J.ok, J.os, J.bare, ⟨J.base.keep, J.base.slot, fun b o q n hx => ?_, J.base.there, fun b xs q => up (J.base.tups b xs q), fun b o u q => up (J.base.frzs b o u q), fun b ps q => let ⟨m, z⟩ := J.base.tbls b ps q; ⟨m, up z⟩⟩, J.loc, J.cell, ?_, fun x c e => ?_, fun p hp => ?_, fun b o e => ?_, J.len⟩, gone⟩
  · by_cases hb : b ∈ l
    · rw [back_in hb]; exact I.base.free b o q n hx
    · rw [back_out hb]; exact J.base.free b o q n hx
  · by_cases hb : X.env.locals ∈ l
    · rw [back_in hb]; exact I.free
    · rw [back_out hb]; exact J.free
  · by_cases hb : c ∈ l
    · rw [back_in hb]; exact I.freeC x c e
    · rw [back_out hb]; exact J.freeC x c e
  · have hp2 : p ∈ X.pn ++ (pins ++ pinsAt l s.heap) := (List.mem_append.mp hp).elim (fun z => List.mem_append_left _ z) fun z => List.mem_append_right _ (List.mem_append_left _ z)
    obtain ⟨a, b, c⟩ := J.pin p hp2
    refine ⟨a, ?_, c⟩
    by_cases hb : p.1 ∈ l
    · rw [back_in hb]; exact (I.pin p hp).2.1
    · rw [back_out hb]; exact b
  · by_cases hb : b ∈ l
    · rw [back_in hb] at e
      obtain ⟨o', ho, k⟩ := hl b hb
      rw [e] at ho; cases ho
      have q := I.hok b o e
      rcases k with ⟨xs, rfl⟩ | ⟨kvs, rfl⟩
      · obtain ⟨z, its, n, r, g⟩ := q
        exact ⟨z, its, n, r, kept b hb _ g⟩
      · obtain ⟨z, y, vs, r, ob, es, ep, g, c⟩ := q
        exact ⟨z, y, vs, r, ob, es, ep, kept b hb _ g, c⟩
    · rw [back_out hb] at e
      exact (J.hok b o e).stay (fun _ _ _ q => q) (fun d q => up q) fun d xs q => up q
end
/-! ### dicts of one key, their values compared by any == -/
section
open PySem.W PySem.Calls PyProof.V
section
variable {prog : Program} {w : World} {K : Type} [DecidableEq K] {knd : KeyKind prog w K} {A : Around} {E : Value → Shared → Prop} {s : Shared}
theorem same1 {nm : String} {a b : Addr} {k : K} {v y : Value} {Q : Bool → Shared → Prop} (ha : (a == sysModules) = false) (hb : (b == sysModules) = false)
    (da : s.heap.DictOf knd a [(k, v)]) (db : s.heap.DictOf knd b [(k, y)]) (h : wpAny (model prog w) A (eqBool v y) (fun z s' => z = true ∧ s'.heap.get? a = s.heap.get? a ∧ Q true s') E s) :
    wpAny (model prog w) A (Builtin.Dict.samePairs nm a b) Q E s := by
  obtain ⟨oa, es, ep, hoa, _, hda, hka, hpa, _⟩ := da
  obtain ⟨ob, es', ep', hob, _, hdb, hkb, hpb, _⟩ := db
  have hla : es.size = 1 := by have := hpa.length; simpa using this
  have hlb : es'.size = 1 := by have := hpb.length; simpa using this
  have hfind : ∀ k', findBy knd.is es' k' = valueAt [(k, y)] k' := fun k' => by
    rw [← hpb.find k']
    clear hlb hpb hkb hdb hob
    obtain ⟨l⟩ := es'
    simp [findBy]
  unfold Builtin.Dict.samePairs Builtin.Dict.showsAll
  rw [if_neg (show ¬ (a == sysModules) = true by rw [ha]; exact Bool.false_ne_true), if_neg (show ¬ (b == sysModules) = true by rw [hb]; exact Bool.false_ne_true)]
  refine wpAny_bind (wpAny_pure (wpAny_bind (wpAny_pure ?_)))
  refine wpAny_bind (wpAny_dictEntries hoa hda ?_)
  dsimp only
  refine wpAny_bind (wpAny_dictEntries hob hdb ?_)
  rw [if_neg (by rw [hla, hlb]; simp)]
  refine wpAny_bind (wpAny_dictEpoch hoa hda ?_)
  refine wpAny_bind ?_
  rw [Std.Legacy.Range.forIn_eq_forIn_range']
  simp only [Std.Legacy.Range.size, Nat.sub_zero, Nat.add_sub_cancel, Nat.div_one, hla]
  refine wpAny_forIn_list _
    (fun rest q s' => (s' = s ∧ q = (none, ()) ∧ rest = [0]) ∨ (q = (none, ()) ∧ rest = [] ∧ Q true s'))
    _ ?_ ?_ _ _ (.inl ⟨rfl, rfl, rfl⟩)
  · rintro x rest q s' (⟨rfl, rfl, hr⟩ | ⟨_, hr, _⟩)
    · injection hr with h1 h2
      subst h1 h2
      have hlt : 0 < es.size := by omega
      refine wpAny_bind (wpAny_dictEntries hoa hda ?_)
      rw [Array.getElem?_eq_getElem hlt]
      obtain ⟨hkey, hval⟩ := hpa.get? (i := 0) (e := es[0]) (k := k) (v := v) (by rw [Array.getElem?_toList]; exact Array.getElem?_eq_getElem hlt) rfl
      obtain ⟨k', hk', hh⟩ := hka es[0] (Array.getElem_mem hlt)
      have ekk : k' = k := knd.inj _ _ _ hk' hkey
      rw [ekk] at hh
      show wpAny _ _ (holding [es[0].key, es[0].val] _ >>= _) _ _ _
      rw [hh]
      refine wpAny_bind (wpAny_holding (wpAny_bind (wpAny_dictFind_of hkey hob hdb hkb ?_)))
      cases hj : es'.findIdx? fun e => knd.is k e.key with
      | none =>
        have hn : valueAt [(k, y)] k = none := by rw [← hfind k, findBy_of_findIdx?, hj]
        simp [valueAt] at hn
      | some j =>
        obtain ⟨hjlt, _, _⟩ := Array.findIdx?_eq_some_iff_getElem.mp hj
        have hv' : valueAt [(k, y)] k = some es'[j].val := by
          rw [← hfind k, findBy_of_findIdx?, hj]
          simp [Array.getElem?_eq_getElem hjlt]
        refine wpAny_bind (wpAny_dictEntries hob hdb ?_)
        rw [Array.getElem?_eq_getElem hjlt]
        have ey : es'[j].val = y := by simp [valueAt] at hv'; exact hv'.symm
        rw [← ey, ← hval] at h
        refine wpAny_holding (wpAny_mono h (fun z s2 hz => ?_) fun _ _ e => e)
        obtain ⟨rfl, hk2, hq⟩ := hz
        show wpAny _ _ (if (!true) = true then _ else _) _ _ _
        rw [if_neg (by decide)]
        refine wpAny_bind (wpAny_dictEpoch (hk2.trans hoa) hda ?_)
        rw [if_neg (by simp)]
        exact wpAny_pure (.inr ⟨rfl, rfl, hq⟩)
    · cases hr
  · rintro q s' (⟨_, _, hr⟩ | ⟨rfl, _, hq⟩)
    · cases hr
    · exact wpAny_pure hq
theorem rc_dict1 {a b : Addr} {k : K} {v y : Value} (ha : (a == sysModules) = false) (hb : (b == sysModules) = false)
    (da : s.heap.DictOf knd a [(k, v)]) (db : s.heap.DictOf knd b [(k, y)]) (hu : A.units < cLine) {Q : Value → Shared → Prop} (h : wpAny (model prog w) A.in1 (eqBool v y) (fun z s' => z = true ∧ s'.heap.get? a = s.heap.get? a ∧ Q (.bool true) s') E s) : wpAny (model prog w) A (richCompare .Eq (.ref a) (.ref b)) Q E s := by
  refine wpAny_richCompare_same_room (op := .Eq) da.typeIs db.typeIs PySem.F.slot_dict_eq (wpAny_call_entry PySem.F.slot_dict_eq da.typeIs PySem.F.entry_dict_eq ?_ (PySem.F.args_dict_eq_2 _ _)) hu
  show wpAny _ _ (Builtin.Dict.dictSlotArgs "__eq__" ⟨[.ref a, .ref b], []⟩ >>= _) _ _ s
  refine wpAny_bind ?_
  unfold Builtin.Dict.dictSlotArgs
  refine wpAny_bind (wpAny_notOrdered_dict da.typeIs ?_)
  show wpAny _ _ (pure (Value.ref a, Value.ref b)) _ _ s
  refine wpAny_pure ?_
  refine wpAny_bind (wpAny_isInstance (T := "dict") db.typeIs PySem.F.sub_dict_dict ?_)
  simp only [Bool.not_true, Bool.false_eq_true, if_false]
  refine wpAny_bind (wpAny_pure (wpAny_bind (wpAny_pure ?_)))
  refine wpAny_bind (wpAny_mono (same1 (Q := fun r s' => r = true ∧ Q (.bool true) s') ha hb da db (wpAny_mono h (fun z s' hz => ⟨hz.1, hz.2.1, rfl, hz.2.2⟩) fun _ _ e => e)) (fun r s' hr => ?_) fun _ _ e => e)
  obtain ⟨rfl, hq⟩ := hr
  refine wpAny_pure ⟨_, rfl, ?_, ?_⟩
  · exact fun x => nomatch x
  · exact hq
end
end
/-! ### data without a dict, the heap without one dict -/
theorem kv_one {k : Key} {v : V} {va : List (Key × Value)} (h : KV [(k, v)] va) : ∃ u, va = [(k, u)] ∧ RelV v u := by
  unfold KV at h
  cases h with
  | cons h t =>
    cases t
    rename_i q
    obtain ⟨k2, u⟩ := q
    obtain ⟨rfl, r⟩ := h
    exact ⟨u, rfl, r⟩
mutual
def noDct : D → Bool
  | .lst xs => noDcts xs
  | .tup xs => noDcts xs
  | .obj _ xs => noDcts xs
  | .dct _ _ => false
  | .scr _ => false
  | _ => true
def noDcts : List D → Bool
  | [] => true
  | x :: xs => noDct x && noDcts xs
end
mutual
theorem Rep.skip {T : Tb} {G : Hp} {p : Addr} {kv : List (Key × V)} (hp : G p = some (.dK kv)) : ∀ (d : D) (v : V), noDct d = true → Rep T G d v → Rep T (hid [p] G) d v
  | .non, v, _, h => by unfold Rep at h ⊢; exact h
  | .bl _, v, _, h => by unfold Rep at h ⊢; exact h
  | .int _, v, _, h => by unfold Rep at h ⊢; exact h
  | .str _, v, _, h => by unfold Rep at h ⊢; exact h
  | .lst xs, v, n, h => by
    obtain ⟨q, vs, rfl, e, l, r⟩ := h.lst_inv
    unfold noDct at n
    exact Rep.lst (by rw [hid_out (fun z => by rw [List.mem_singleton.mp z, hp] at e; cases e)]; exact e) l (Reps.skip hp xs vs n r)
  | .tup xs, v, n, h => by
    obtain ⟨q, vs, rfl, e, l, r⟩ := h.tup_inv
    unfold noDct at n
    exact Rep.tup (by rw [hid_out (fun z => by rw [List.mem_singleton.mp z, hp] at e; cases e)]; exact e) l (Reps.skip hp xs vs n r)
  | .obj k xs, v, n, h => by
    obtain ⟨q, dx, fv, rfl, e, l, r⟩ := h.obj_inv
    unfold noDct at n
    exact Rep.obj (by rw [hid_out (fun z => by rw [List.mem_singleton.mp z, hp] at e; cases e)]; exact e) l (Reps.skip hp xs _ n r)
  | .dct _ _, v, n, h => by unfold noDct at n; cases n
  | .scr _, v, n, h => by unfold noDct at n; cases n
theorem Reps.skip {T : Tb} {G : Hp} {p : Addr} {kv : List (Key × V)} (hp : G p = some (.dK kv)) : ∀ (ds : List D) (vs : List V), noDcts ds = true → Reps T G ds vs → Reps T (hid [p] G) ds vs
  | [], vs, _, h => by rw [h.nil_inv]; exact Reps.nil
  | d :: ds, vs, n, h => by
    obtain ⟨v, r, rfl, a, b⟩ := h.cons_inv
    unfold noDcts at n
    rw [Bool.and_eq_true] at n
    exact Reps.cons (Rep.skip hp d v n.1 a) (Reps.skip hp ds r n.2 b)
end
/-! ### == by fuel -/
abbrev Tbl := List (Nat × (List S → Cs → R S))
def eqRs (e : D → D → Option Bool) : List D → List D → Option Bool
  | [], [] => some true
  | x :: xs, y :: ys => match e x y with
    | some true => eqRs e xs ys
    | some false => some false
    | none => none
  | _, _ => none
def objEq (tbl : Tbl) (k : Nat) (xs : List D) (k2 : Nat) (ys : List D) : Option Bool := if k = k2 then (match look tbl k with
    | some fn => match isB (fn [.d (.obj k xs), .d (.obj k2 ys)] []) with
      | some true => some true
      | some false => if (oks 50 xs && oks 50 ys && !eqDs xs ys) = true then some false else none
      | none => none
    | none => none) else none
def flatEq : D → D → Bool
  | .non, .non => true
  | .bl a, .bl b => a == b
  | .int a, .int b => a == b
  | .str a, .str b => a == b
  | _, _ => false
def eqR (tbl : Tbl) : Nat → D → D → Option Bool
  | 0, x, y => if (x.ok 50 && y.ok 50) = true then some (eqD x y) else none
  | f + 1, x, y => if (x.ok 50 && y.ok 50) = true then some (eqD x y) else match x, y with
    | .obj k xs, .obj k2 ys => objEq tbl k xs k2 ys
    | .lst xs, .lst ys => if xs.length = ys.length then eqRs (eqR tbl f) xs ys else some false
    | .tup xs, .tup ys => if xs.length = ys.length then eqRs (eqR tbl f) xs ys else none
    | .dct [k] [x], .dct [k2] [y] => if (decide (k = k2) && flatEq x y) = true then some true else if (decide (k = k2) && (noDct x && noDct y)) = true then (match eqR tbl f x y with
        | some true => some true
        | _ => none) else none
    | _, _ => none
section
variable {X : Cx} {T : Tb} {W : WX} {a b o e : Expr} {es : List Expr} {A B : M} {pos p apos : Pos}
def EqOk (X : Cx) (T : Tb) (n : Nat) (e : D → D → Option Bool) : Prop :=
  (∀ {Ar : Around} {pins : List (Addr × Obj)} {s : Shared} {σ : L2.St} {H G : Hp} {x y : D} {v u : V} {vv uu : Value} {r : Bool}, Sub X n Ar → Inv X pins σ H s → Ex G H → Rep T G x v → Rep T G y u → RelV v vv → RelV u uu → e x y = some r →
    wpAny (model X.prog X.w) Ar (eqBool vv uu) (fun z s' => z = r ∧ ∃ H', Inv X pins σ H' s' ∧ Ex H H') X.xe s) ∧
  ∀ {G : Hp} {x y : D} {v : V} {r : Bool}, Rep T G x v → Rep T G y v → e x y = some r → r = true
theorem eqRs_same {n : Nat} {e : D → D → Option Bool} (h : EqOk X T n e) {G : Hp} : ∀ {xs ys : List D} {vs : List V} {r : Bool}, Reps T G xs vs → Reps T G ys vs → eqRs e xs ys = some r → r = true
  | [], [], _, r, _, _, q => by unfold eqRs at q; cases q; rfl
  | [], _ :: _, _, r, _, _, q => by unfold eqRs at q; cases q
  | _ :: _, [], _, r, _, _, q => by unfold eqRs at q; cases q
  | x :: xs, y :: ys, vs, r, r1, r2, q => by
    obtain ⟨v, vr, rfl, a, b⟩ := r1.cons_inv
    obtain ⟨_, _, e1, a2, b2⟩ := r2.cons_inv
    cases e1
    unfold eqRs at q
    cases hq : e x y with
    | none => simp only [hq] at q; cases q
    | some z =>
      have := h.2 a a2 hq
      subst this
      simp only [hq] at q
      exact eqRs_same h b b2 q
/-- two lists -/
theorem lists_ok (neg : Bool) {n : Nat} {e : D → D → Option Bool} (he : EqOk X T n e) {Ar : Around} {pins : List (Addr × Obj)} {s : Shared} {σ : L2.St} {H G : Hp} {p q : Addr} {vs us : List V} {xs ys : List D} {r : Bool} (sb : Sub X (n + 1) Ar) (I : Inv X pins σ H s) (eg : Ex G H)
    (hp : H p = some (.lst vs)) (hq : H q = some (.lst us)) (rx : Reps T G xs vs) (ry : Reps T G ys us) (hl : xs.length = ys.length) (h : eqRs e xs ys = some r) :
    wpAny (model X.prog X.w) Ar (richCompare (cmpOf neg) (.ref p) (.ref q)) (fun z s' => z = .bool (if neg then !r else r) ∧ ∃ H', Inv X pins σ H' s' ∧ Ex H H') X.xe s := by
  refine list_cmp neg (N := xs.length) (I := fun i t => ∃ H', Inv X pins σ H' t ∧ Ex H H' ∧ eqRs e (xs.drop i) (ys.drop i) = some r) (Z := fun t => ∃ H', Inv X pins σ H' t ∧ Ex H H' ∧ r = false) sb.room.units0 (fun i t hI => ?_) (fun t hZ => ?_) (fun t hI => ?_) (fun t hZ => ?_) ⟨H, I, .refl _, by simpa using h⟩
  · obtain ⟨H1, I1, e1, q1⟩ := hI
    obtain ⟨z1, its, k1, r1, g1⟩ := I1.hok p _ (e1 _ _ hp)
    obtain ⟨z2, its2, k2, r2, g2⟩ := I1.hok q _ (e1 _ _ hq)
    have l1 : its.length = xs.length := by rw [← r1.length, rx.length]
    have l2 : its2.length = xs.length := by rw [← r2.length, ry.length, hl]
    refine ⟨its.toArray, its2.toArray, k1, k2, g1, g2, by simpa using l1, by simpa using l2, fun h1 h2 => ?_⟩
    have i1 : i < xs.length := by rw [← l1]; simpa using h1
    have i2 : i < ys.length := by rw [← hl]; exact i1
    rw [List.drop_eq_getElem_cons i1, List.drop_eq_getElem_cons i2] at q1
    unfold eqRs at q1
    obtain ⟨v, hv, rv⟩ := rx.get (List.getElem?_eq_getElem i1)
    obtain ⟨u, hu, ru⟩ := ry.get (List.getElem?_eq_getElem i2)
    obtain ⟨vv, hvv, rvv⟩ := r1.get hv
    obtain ⟨uu, huu, ruu⟩ := r2.get hu
    have ev : its.toArray[i] = vv := by have := (List.getElem?_eq_some_iff.mp hvv).2; simpa using this
    have eu : its2.toArray[i] = uu := by have := (List.getElem?_eq_some_iff.mp huu).2; simpa using this
    rw [ev, eu]
    cases hit : e xs[i] ys[i] with
    | none => simp only [hit] at q1; cases q1
    | some b =>
      simp only [hit] at q1
      refine wpAny_mono (he.1 sb.in1 I1 (eg.trans e1) rv ru rvv ruu hit) (fun z t' q' => ?_) fun _ _ z => z
      obtain ⟨rfl, H2, I2, e2⟩ := q'
      cases z with
      | true => exact .inl ⟨rfl, H2, I2, e1.trans e2, q1⟩
      | false => exact .inr ⟨rfl, H2, I2, e1.trans e2, (Option.some.inj q1).symm⟩
  · obtain ⟨H1, I1, e1, q1⟩ := hZ
    obtain ⟨z1, its, k1, r1, g1⟩ := I1.hok p _ (e1 _ _ hp)
    obtain ⟨z2, its2, k2, r2, g2⟩ := I1.hok q _ (e1 _ _ hq)
    exact ⟨its.toArray, its2.toArray, k1, k2, g1, g2, by rw [List.size_toArray, ← r1.length, rx.length], by rw [List.size_toArray, ← r2.length, ry.length, hl]⟩
  · obtain ⟨H1, I1, e1, q1⟩ := hI
    rw [List.drop_length, hl, List.drop_length] at q1
    have : r = true := (Option.some.inj q1).symm
    subst this
    exact ⟨by cases neg <;> rfl, H1, I1, e1⟩
  · obtain ⟨H1, I1, e1, q1⟩ := hZ
    subst q1
    exact ⟨by cases neg <;> rfl, H1, I1, e1⟩
/-- two tuples -/
theorem tuples_ok {n : Nat} {e : D → D → Option Bool} (he : EqOk X T n e) {Ar : Around} {pins : List (Addr × Obj)} {s : Shared} {σ : L2.St} {H G : Hp} {p q : Addr} {vs us : List V} {xs ys : List D} {r : Bool} (sb : Sub X (n + 1) Ar) (I : Inv X pins σ H s) (eg : Ex G H)
    (hp : H p = some (.tup vs)) (hq : H q = some (.tup us)) (rx : Reps T G xs vs) (ry : Reps T G ys us) (hl : xs.length = ys.length) (h : eqRs e xs ys = some r) :
    wpAny (model X.prog X.w) Ar (richCompare .Eq (.ref p) (.ref q)) (fun z s' => z = .bool r ∧ ∃ H', Inv X pins σ H' s' ∧ Ex H H') X.xe s := by
  obtain ⟨z1, its, r1, g1⟩ := I.hok p _ hp
  obtain ⟨z2, its2, r2, g2⟩ := I.hok q _ hq
  have l1 : its.length = xs.length := by rw [← r1.length, rx.length]
  have l2 : its2.length = xs.length := by rw [← r2.length, ry.length, hl]
  refine tup_cmp (I := fun i t => ∃ H', Inv X pins σ H' t ∧ Ex H H' ∧ eqRs e (xs.drop i) (ys.drop i) = some r) (Z := fun t => ∃ H', Inv X pins σ H' t ∧ Ex H H' ∧ r = false) g1 g2 (by simp [l1, l2]) sb.room.units0 (fun i t hI h1 h2 => ?_) (fun t hI => ?_) (fun t hZ => ?_) ⟨H, I, .refl _, by simpa using h⟩
  · obtain ⟨H1, I1, e1, q1⟩ := hI
    have i1 : i < xs.length := by rw [← l1]; simpa using h1
    have i2 : i < ys.length := by rw [← hl]; exact i1
    rw [List.drop_eq_getElem_cons i1, List.drop_eq_getElem_cons i2] at q1
    unfold eqRs at q1
    obtain ⟨v, hv, rv⟩ := rx.get (List.getElem?_eq_getElem i1)
    obtain ⟨u, hu, ru⟩ := ry.get (List.getElem?_eq_getElem i2)
    obtain ⟨vv, hvv, rvv⟩ := r1.get hv
    obtain ⟨uu, huu, ruu⟩ := r2.get hu
    have ev : its.toArray[i] = vv := by have := (List.getElem?_eq_some_iff.mp hvv).2; simpa using this
    have eu : its2.toArray[i] = uu := by have := (List.getElem?_eq_some_iff.mp huu).2; simpa using this
    rw [ev, eu]
    cases hit : e xs[i] ys[i] with
    | none => simp only [hit] at q1; cases q1
    | some b =>
      simp only [hit] at q1
      refine wpAny_mono (he.1 sb.in1 I1 (eg.trans e1) rv ru rvv ruu hit) (fun z t' q' => ?_) fun _ _ z => z
      obtain ⟨rfl, H2, I2, e2⟩ := q'
      cases z with
      | true => exact .inl ⟨rfl, H2, I2, e1.trans e2, q1⟩
      | false => exact .inr ⟨rfl, H2, I2, e1.trans e2, (Option.some.inj q1).symm⟩
  · obtain ⟨H1, I1, e1, q1⟩ := hI
    have hz : its.toArray.size = xs.length := by simp [l1]
    rw [hz, List.drop_length, hl, List.drop_length] at q1
    have : r = true := (Option.some.inj q1).symm
    subst this
    exact ⟨rfl, H1, I1, e1⟩
  · obtain ⟨H1, I1, e1, q1⟩ := hZ
    subst q1
    exact ⟨rfl, H1, I1, e1⟩
theorem flatEq_rep {G : Hp} {x y : D} {v u : V} (h : flatEq x y = true) (rx : Rep T G x v) (ry : Rep T G y u) : v = u ∧ flatB v = true := by
  cases x <;> cases y <;> first
    | (simp [flatEq] at h; done)
    | (unfold Rep at rx ry; subst rx ry; simp [flatEq] at h; try subst h
       exact ⟨rfl, rfl⟩)
theorem plain_ok {n : Nat} {e : D → D → Option Bool} {Ar : Around} {pins : List (Addr × Obj)} {s : Shared} {σ : L2.St} {H G : Hp} {x y : D} {v u : V} {vv uu : Value} (hT : X.K = T.K) (sb : Sub X n Ar) (I : Inv X pins σ H s) (eg : Ex G H) (hx : Rep T G x v) (hy : Rep T G y u) (rv : RelV v vv) (ru : RelV u uu) (ok : (x.ok 50 && y.ok 50) = true) :
    wpAny (model X.prog X.w) Ar (eqBool vv uu) (fun z s' => z = eqD x y ∧ ∃ H', Inv X pins σ H' s' ∧ Ex H H') X.xe s := by
  simp only [Bool.and_eq_true] at ok
  have d1 : Dp X.K H v x.py := by rw [hT]; exact Dp.mono eg _ _ (Rep.dp 50 _ _ ok.1 hx)
  have d2 : Dp X.K H u y.py := by rw [hT]; exact Dp.mono eg _ _ (Rep.dp 50 _ _ ok.2 hy)
  obtain ⟨as, q1⟩ := Dp.reads I _ _ _ d1 rv
  obtain ⟨bs, q2⟩ := Dp.reads I _ _ _ d2 ru
  have dd := depth_py 50 x ok.1
  have hu := sb.room.units
  exact eqAt_reads x.py y.py Ar s vv uu as bs q1 q2 (lay_py 50 x ok.1) (lay_py 50 y ok.2) (by have := Nat.min_le_left x.py.depth y.py.depth; omega) X.prog X.w X.xe _ ⟨eqv_py 50 x y ok.1 ok.2, H, I, .refl _⟩
theorem plain_same {G : Hp} {x y : D} {v : V} (hx : Rep T G x v) (hy : Rep T G y v) (ok : (x.ok 50 && y.ok 50) = true) : eqD x y = true := by
  simp only [Bool.and_eq_true] at ok
  have := Rep.same 50 50 x y v ok.1 ok.2 hx hy
  subst this
  exact eqD_refl 50 x ok.1
theorem same_ok {Ar : Around} {pins : List (Addr × Obj)} {s : Shared} {σ : L2.St} {H : Hp} {u : Value} (I : Inv X pins σ H s) : wpAny (model X.prog X.w) Ar (eqBool u u) (fun z s' => z = true ∧ ∃ H', Inv X pins σ H' s' ∧ Ex H H') X.xe s :=
  SeqAt.EqAt.same (A := Ar) (s := s) u X.prog X.w X.xe _ ⟨rfl, H, I, .refl _⟩
theorem eqR_ok {tbl : Tbl} {n : Nat} (hM : MethsAt X.prog X.w X.K X.mg X.base T "__eq__" n tbl) (hT : X.K = T.K) : ∀ f, EqOk X T (n + f) (eqR tbl f)
  | 0 => by
    refine ⟨fun sb I eg hx hy rv ru h => ?_, fun hx hy h => ?_⟩
    · unfold eqR at h
      split at h
      · rename_i ok; cases h; exact plain_ok (e := eqR tbl 0) hT sb I eg hx hy rv ru ok
      · cases h
    · unfold eqR at h
      split at h
      · rename_i ok; cases h; exact plain_same hx hy ok
      · cases h
  | f + 1 => by
    have ih := eqR_ok hM hT f
    refine ⟨fun {Ar pins s σ H G x y v u vv uu r} sb I eg hx hy rv ru h => ?_, fun {G x y v r} hx hy h => ?_⟩
    · unfold eqR at h
      split at h
      · rename_i ok; cases h; exact plain_ok (e := eqR tbl 0) hT sb I eg hx hy rv ru ok
      · split at h
        · rename_i k xs k2 ys _
          unfold objEq at h
          split at h
          · rename_i hk
            subst hk
            cases hl : look tbl k with
            | none => simp only [hl] at h; cases h
            | some fn =>
              simp only [hl] at h
              obtain ⟨j, hj, M⟩ := hM.get (look_mem hl)
              obtain ⟨pa, dx, fv, rfl, ha, hfl, ra⟩ := hx.obj_inv
              obtain ⟨pb, dy, gv, rfl, hb, hgl, rb⟩ := hy.obj_inv
              cases rv
              cases ru
              cases hB : isB (fn [.d (.obj k xs), .d (.obj k ys)] []) with
              | none => simp only [hB] at h; cases h
              | some z =>
                have go : pa ≠ pb → r = z → wpAny (model X.prog X.w) Ar (eqBool (.ref pa) (.ref pb)) (fun z s' => z = r ∧ ∃ H', Inv X pins σ H' s' ∧ Ex H H') X.xe s := fun hab hr => by
                  refine GQ.eqBool_refG hab (wpAny_mono (rc_own M (Nat.le_trans hj (Nat.le_add_right _ _)) sb I (Rep.mono eg _ _ hx) (Rep.mono eg _ _ hy) (isB_inv hB)) (fun w s' q => ?_) fun _ _ z => z)
                  obtain ⟨q1, q2⟩ := q
                  exact ⟨z, q1, hr.symm, q2⟩
                cases z with
                | true =>
                  simp only [hB] at h
                  cases h
                  by_cases hab : pa = pb
                  · subst hab; exact same_ok I
                  · exact go hab rfl
                | false =>
                  simp only [hB] at h
                  split at h
                  · rename_i hc
                    cases h
                    refine go (fun hab => ?_) rfl
                    subst hab
                    rw [ha] at hb
                    cases hb
                    simp only [Bool.and_eq_true, Bool.not_eq_true'] at hc
                    have := Reps.same 50 50 xs ys _ hc.1.1 hc.1.2 ra rb
                    subst this
                    rw [eqDs_refl 50 xs hc.1.1] at hc
                    cases hc.2
                  · cases h
          · cases h
        · rename_i xs ys _
          obtain ⟨pa, vs, rfl, ha, la, ra⟩ := hx.lst_inv
          obtain ⟨pb, us, rfl, hb, lb, rb⟩ := hy.lst_inv
          cases rv
          cases ru
          by_cases hab : pa = pb
          · subst hab
            rw [ha] at hb
            cases hb
            have hl : xs.length = ys.length := by rw [← ra.length, ← rb.length]
            rw [if_pos hl] at h
            rw [eqRs_same ih ra rb h]
            exact same_ok I
          · split at h
            · rename_i hl
              refine GQ.eqBool_refG hab (wpAny_mono (lists_ok false ih sb I eg (eg _ _ ha) (eg _ _ hb) ra rb hl h) (fun w s' q => ?_) fun _ _ z => z)
              obtain ⟨q1, q2⟩ := q
              exact ⟨r, q1, rfl, q2⟩
            · rename_i hl
              cases h
              obtain ⟨z1, its, k1, r1, g1⟩ := I.hok pa _ (eg _ _ ha)
              obtain ⟨z2, its2, k2, r2, g2⟩ := I.hok pb _ (eg _ _ hb)
              have ne : (its.toArray.size != its2.toArray.size) = true := by
                have e1 : its.length = xs.length := by rw [← r1.length, ra.length]
                have e2 : its2.length = ys.length := by rw [← r2.length, rb.length]
                simp only [List.size_toArray, bne_iff_ne, ne_eq]
                omega
              exact EqAt.of_refs hab (RcAt.lists_lengths ⟨_, g1, rfl, _, rfl⟩ ⟨_, g2, rfl, _, rfl⟩ ne sb.room.units0) X.prog X.w X.xe _ ⟨rfl, H, I, .refl _⟩
        · rename_i xs ys _
          obtain ⟨pa, vs, rfl, ha, la, ra⟩ := hx.tup_inv
          obtain ⟨pb, us, rfl, hb, lb, rb⟩ := hy.tup_inv
          cases rv
          cases ru
          split at h
          · rename_i hl
            by_cases hab : pa = pb
            · subst hab
              rw [ha] at hb
              cases hb
              rw [eqRs_same ih ra rb h]
              exact same_ok I
            · refine GQ.eqBool_refG hab (wpAny_mono (tuples_ok ih sb I eg (eg _ _ ha) (eg _ _ hb) ra rb hl h) (fun w s' q => ?_) fun _ _ z => z)
              obtain ⟨q1, q2⟩ := q
              exact ⟨r, q1, rfl, q2⟩
          · cases h
        · rename_i k x k2 y _
          obtain ⟨pa, kv, rfl, ha, la, ra⟩ := hx.dct_inv
          obtain ⟨pb, kw, rfl, hb, lb, rb⟩ := hy.dct_inv
          cases rv
          cases ru
          split at h
          · rename_i hc
            cases h
            simp only [Bool.and_eq_true, decide_eq_true_eq] at hc
            obtain ⟨rfl, hf⟩ := hc
            by_cases hab : pa = pb
            · subst hab; exact same_ok I
            · match kv, la, ra, ha with
              | [(k', v1)], la, ra, ha =>
                match kw, lb, rb, hb with
                | [(k3, v2)], lb, rb, hb =>
                  simp only [List.map_cons, List.map_nil, List.cons.injEq, and_true] at la lb
                  subst la lb
                  obtain ⟨_, _, e1, r1, _⟩ := ra.cons_inv
                  cases e1
                  obtain ⟨_, _, e2, r2, _⟩ := rb.cons_inv
                  cases e2
                  obtain ⟨rfl, hfl⟩ := flatEq_rep hf r1 r2
                  obtain ⟨_, ya, va, rra, da⟩ := (show ObjOk X.prog X.w H s.heap pa (.dK [(_, v1)]) from I.hok pa _ (eg _ _ ha))
                  obtain ⟨_, yb, vb, rrb, db⟩ := (show ObjOk X.prog X.w H s.heap pb (.dK [(_, v1)]) from I.hok pb _ (eg _ _ hb))
                  have hl : va.length = vb.length := by rw [← rra.length, ← rrb.length]
                  refine GQ.eqBool_refG hab ?_
                  exact PySem.W.keq_eq (knd := mixKind X.prog X.w) (r := true) ya yb da db sb.room.units0 (fun _ => hits_all rrb rra (fun p hp => by
                    simp only [List.mem_singleton] at hp
                    subst hp
                    exact ⟨by simp [valV], hfl⟩)) ⟨true, by simp [hl], rfl, H, I, .refl _⟩
          · split at h
            · rename_i hc2
              simp only [Bool.and_eq_true, decide_eq_true_eq] at hc2
              obtain ⟨rfl, nx, ny⟩ := hc2
              cases hE : eqR tbl f x y with
              | none => rw [hE] at h; cases h
              | some z =>
                cases z with
                | false => rw [hE] at h; cases h
                | true =>
                  rw [hE] at h
                  cases h
                  by_cases hab : pa = pb
                  · subst hab; exact same_ok I
                  · match kv, la, ra, ha with
                    | [(k', v1)], la, ra, ha =>
                      match kw, lb, rb, hb with
                      | [(k3, v2)], lb, rb, hb =>
                        simp only [List.map_cons, List.map_nil, List.cons.injEq, and_true] at la lb
                        subst la lb
                        obtain ⟨_, _, e1, r1, _⟩ := ra.cons_inv
                        cases e1
                        obtain ⟨_, _, e2, r2, _⟩ := rb.cons_inv
                        cases e2
                        obtain ⟨_, ya, va, rra, da⟩ := (show ObjOk X.prog X.w H s.heap pa (.dK [(_, v1)]) from I.hok pa _ (eg _ _ ha))
                        obtain ⟨_, yb, vb, rrb, db⟩ := (show ObjOk X.prog X.w H s.heap pb (.dK [(_, v2)]) from I.hok pb _ (eg _ _ hb))
                        obtain ⟨u1, rfl, ru1⟩ := kv_one rra
                        obtain ⟨u2, rfl, ru2⟩ := kv_one rrb
                        have hl1 : ∀ b ∈ [pa], ∃ o, H b = some o ∧ isLD o := fun b hb => by
                          rw [List.mem_singleton.mp hb]; exact ⟨_, eg _ _ ha, .inr ⟨_, rfl⟩⟩
                        have I1 := Inv.hide I hl1
                        have hn : G pb ≠ none := by rw [hb]; exact fun z => by cases z
                        have eg' : Ex (hid [pa] G) (hid [pa] H) := fun b o e => by
                          by_cases hbp : b ∈ [pa]
                          · rw [hid_in hbp] at e; cases e
                          · rw [hid_out hbp] at e ⊢; exact eg _ _ e
                        have run := ih.1 (r := true) sb.in1 I1 eg' (Rep.skip ha _ _ nx r1) (Rep.skip ha _ _ ny r2) ru1 ru2 hE
                        obtain ⟨oba, es, ep, goa, rest⟩ := id da
                        refine GQ.eqBool_refG hab (wpAny_mono (rc_dict1 (knd := mixKind X.prog X.w) (Q := fun v s' => v = .bool true ∧ ∃ H', Inv X pins σ H' s' ∧ Ex H H') ya yb da db sb.room.units0 (wpAny_mono run (fun z s' q => ?_) fun _ _ z => z)) (fun w s' q => ⟨true, q.1, rfl, q.2⟩) fun _ _ z => z)
                        obtain ⟨rfl, H', J, ex⟩ := q
                        obtain ⟨K, gone⟩ := Inv.unhide I hl1 J
                        have same := (J.pin (pa, oba) (List.mem_append_right _ (List.mem_append_right _ (mem_pinsAt List.mem_cons_self goa)))).1
                        refine ⟨rfl, by rw [same, goa], rfl, _, K, fun b o e => ?_⟩
                        by_cases hbp : b ∈ [pa]
                        · rw [back_in hbp]; exact e
                        · rw [back_out hbp]; exact ex _ _ (by rw [hid_out hbp]; exact e)
            · cases h
        · cases h
    · unfold eqR at h
      split at h
      · rename_i ok; cases h; exact plain_same hx hy ok
      · split at h
        · rename_i k xs k2 ys _
          unfold objEq at h
          split at h
          · rename_i hk
            subst hk
            cases hl : look tbl k with
            | none => simp only [hl] at h; cases h
            | some fn =>
              simp only [hl] at h
              obtain ⟨pa, dx, fv, rfl, ha, hfl, ra⟩ := hx.obj_inv
              obtain ⟨pb, dy, gv, e1, hb, hgl, rb⟩ := hy.obj_inv
              cases e1
              rw [ha] at hb
              cases hb
              cases hB : isB (fn [.d (.obj k xs), .d (.obj k ys)] []) with
              | none => simp only [hB] at h; cases h
              | some z =>
                cases z with
                | true => simp only [hB] at h; cases h; rfl
                | false =>
                  simp only [hB] at h
                  split at h
                  · rename_i hc
                    simp only [Bool.and_eq_true, Bool.not_eq_true'] at hc
                    have := Reps.same 50 50 xs ys _ hc.1.1 hc.1.2 ra rb
                    subst this
                    rw [eqDs_refl 50 xs hc.1.1] at hc
                    cases hc.2
                  · cases h
          · cases h
        · rename_i xs ys _
          obtain ⟨pa, vs, rfl, ha, la, ra⟩ := hx.lst_inv
          obtain ⟨pb, us, e1, hb, lb, rb⟩ := hy.lst_inv
          cases e1
          rw [ha] at hb
          cases hb
          have hl : xs.length = ys.length := by rw [← ra.length, ← rb.length]
          rw [if_pos hl] at h
          exact eqRs_same ih ra rb h
        · rename_i xs ys _
          obtain ⟨pa, vs, rfl, ha, la, ra⟩ := hx.tup_inv
          obtain ⟨pb, us, e1, hb, lb, rb⟩ := hy.tup_inv
          cases e1
          rw [ha] at hb
          cases hb
          have hl : xs.length = ys.length := by rw [← ra.length, ← rb.length]
          rw [if_pos hl] at h
          exact eqRs_same ih ra rb h
        · rename_i k x k2 y _
          split at h
          · cases h; rfl
          · split at h
            · cases hE : eqR tbl f x y with
              | none => rw [hE] at h; cases h
              | some z =>
                rw [hE] at h
                cases z with
                | false => cases h
                | true => cases h; rfl
            · cases h
        · cases h
end
end Dn

end
section
set_option maxHeartbeats 4000000
/-! Dn19: the operators over Dn18; clear, slices, a dict with one key, min of a list, is None. -/
namespace Dn
open PySem PySem.Spec PyProof.Rows L2
open PySem.SeqAt
section
variable {X : Cx} {T : Tb} {W : WX} {a b o e : Expr} {es : List Expr} {A B : M} {pos p p2 apos : Pos}
/-- an operation that answers r and only makes objects -/
def rSem (X : Cx) (f : Value → Value → Sem Value) : R2 := fun v u H Q => ∃ r : Bool, (∀ (pins : List (Addr × Obj)) (s : Shared) (σ : L2.St) (vv uu : Value), Inv X pins σ H s → RelV v vv → RelV u uu →
  wpAny (model X.prog X.w) X.A (f vv uu) (fun z s' => z = .bool r ∧ ∃ H', Inv X pins σ H' s' ∧ Ex H H') X.xe s) ∧ ∀ H', Ex H H' → Q (.bl r) H'
theorem op_sem {f : Value → Value → Sem Value} : OpR X f (rSem X f) := by
  intro pins s σ H v u vv uu Q I rv ru ⟨r, h, q⟩
  refine wpAny_mono (h pins s σ vv uu I rv ru) (fun z s' ⟨e, H', I', ex⟩ => ?_) fun _ _ z => z
  subst e
  exact ⟨.bl r, H', I', rfl, q H' ex⟩
/-! ### == and != -/
def eqY (tbl : Tbl) (f : Nat) (neg : Bool) : S → S → Cs → R S := fun s t c => match deref s c, deref t c with
  | some x, some y => if (x.ok 60 && y.ok 60) = true then .ok (.d (.bl (if neg then !eqD x y else eqD x y))) c else match x, y with
    | .lst xs, .lst ys => if xs.length = ys.length then (match eqRs (eqR tbl f) xs ys with
        | some r => .ok (.d (.bl (if neg then !r else r))) c
        | none => .bad) else .ok (.d (.bl neg)) c
    | .tup xs, .tup ys => if neg = false ∧ xs.length = ys.length then (match eqRs (eqR tbl f) xs ys with
        | some r => .ok (.d (.bl r)) c
        | none => .bad) else .bad
    | _, _ => .bad
  | _, _ => .bad
theorem prim_eqY {tbl : Tbl} {f n : Nat} {neg : Bool} (hM : MethsAt X.prog X.w X.K X.mg X.base T "__eq__" n tbl) (hT : X.K = T.K) (hr : Room (n + f + 1) X.A) : Prim2 T (eqY tbl f neg) (rSem X (compareOp (cmpOf neg))) := by
  intro W σ G ρ H c s t v u Q hh rs rt p
  have sb : Sub X (n + f + 1) X.A := ⟨hr, rfl⟩
  unfold eqY at p
  cases e1 : deref s c with
  | none => simp only [e1] at p; exact p.elim
  | some x =>
    cases e2 : deref t c with
    | none => simp only [e1, e2] at p; exact p.elim
    | some y =>
      simp only [e1, e2] at p
      have vx := deref_view hh rs e1
      have vy := deref_view hh rt e2
      by_cases ok : (x.ok 60 && y.ok 60) = true
      · rw [if_pos ok] at p
        have okk := ok
        simp only [Bool.and_eq_true] at okk
        refine ⟨if neg then !eqD x y else eqD x y, fun pins s σ vv uu I rv ru => ?_, fun H' e' => p _ H' G ρ (.refl _) (List.prefix_refl _) (hh.grow e') SRep.bl⟩
        have d1 := View.dp hh.ex okk.1 vx
        have d2 := View.dp hh.ex okk.2 vy
        rw [← hT] at d1 d2
        obtain ⟨as, r1⟩ := Dp.reads I _ _ _ d1 rv
        obtain ⟨bs, r2⟩ := Dp.reads I _ _ _ d2 ru
        cases neg with
        | false => exact SeqAt.compareEq_shaped r1 r2 (shaped_py okk.1) (shaped_py okk.2) hr.units ⟨by rw [eqv_py 60 x y okk.1 okk.2]; rfl, H, I, .refl _⟩
        | true => exact SeqAt.compareNe_shaped r1 r2 (shaped_py okk.1) (shaped_py okk.2) hr.units ⟨by rw [eqv_py 60 x y okk.1 okk.2]; rfl, H, I, .refl _⟩
      · rw [if_neg ok] at p
        cases x with
        | lst xs =>
          cases y with
          | lst ys =>
            simp only at p
            by_cases hl : xs.length = ys.length
            · rw [if_pos hl] at p
              cases he : eqRs (eqR tbl f) xs ys with
              | none => simp only [he] at p; exact p.elim
              | some r =>
                simp only [he] at p
                obtain ⟨pa, vs, rfl, sq, l, rx⟩ := vx
                obtain ⟨pb, us, rfl, sq', l', ry⟩ := vy
                refine ⟨if neg then !r else r, fun pins s σ vv uu I rv ru => ?_, fun H' e' => p _ H' G ρ (.refl _) (List.prefix_refl _) (hh.grow e') SRep.bl⟩
                cases rv
                cases ru
                have := lists_ok neg (eqR_ok hM hT f) sb I hh.ex sq sq' rx ry hl he
                cases neg <;> exact this
            · rw [if_neg hl] at p
              obtain ⟨pa, vs, rfl, sq, l, rx⟩ := vx
              obtain ⟨pb, us, rfl, sq', l', ry⟩ := vy
              refine ⟨neg, fun pins s σ vv uu I rv ru => ?_, fun H' e' => p _ H' G ρ (.refl _) (List.prefix_refl _) (hh.grow e') SRep.bl⟩
              cases rv
              cases ru
              obtain ⟨z1, its, k1, r1, g1⟩ := I.hok pa _ sq
              obtain ⟨z2, its2, k2, r2, g2⟩ := I.hok pb _ sq'
              have e1 : its.length = xs.length := by rw [← r1.length, rx.length]
              have e2 : its2.length = ys.length := by rw [← r2.length, ry.length]
              have ne : (its.toArray.size != its2.toArray.size) = true := by simp [e1, e2, hl]
              cases neg with
              | false => exact SeqAt.RcAt.lists_lengths ⟨_, g1, rfl, _, rfl⟩ ⟨_, g2, rfl, _, rfl⟩ ne hr.units0 X.prog X.w X.xe _ ⟨rfl, H, I, .refl _⟩
              | true => exact SeqAt.RcNeAt.lists_lengths ⟨_, g1, rfl, _, rfl⟩ ⟨_, g2, rfl, _, rfl⟩ ne hr.units0 X.prog X.w X.xe _ ⟨rfl, H, I, .refl _⟩
          | _ => exact p.elim
        | tup xs =>
          cases y with
          | tup ys =>
            simp only at p
            by_cases hl : neg = false ∧ xs.length = ys.length
            · rw [if_pos hl] at p
              obtain ⟨rfl, hl⟩ := hl
              cases he : eqRs (eqR tbl f) xs ys with
              | none => simp only [he] at p; exact p.elim
              | some r =>
                simp only [he] at p
                obtain ⟨pa, vs, rfl, sq, l, rx⟩ := View.tup_inv vx
                obtain ⟨pb, us, rfl, sq', l', ry⟩ := View.tup_inv vy
                refine ⟨r, fun pins s σ vv uu I rv ru => ?_, fun H' e' => p _ H' G ρ (.refl _) (List.prefix_refl _) (hh.grow e') SRep.bl⟩
                cases rv
                cases ru
                exact tuples_ok (eqR_ok hM hT f) sb I hh.ex (hh.ex _ _ sq) (hh.ex _ _ sq') rx ry hl he
            · rw [if_neg hl] at p; exact p.elim
          | _ => exact p.elim
        | _ => exact p.elim
section
variable {tbl : Tbl} {n f : Nat} (hM : MethsAt X.prog X.w X.K X.mg X.base T "__eq__" n tbl) (hT : X.K = T.K) (hr : Room (n + f + 1) X.A) (ha : PE X a (tD T W A)) (hb : PE X b (tD T W B))
include hM hT hr ha hb
theorem dt_neY : PT X (.Compare a [.NotEq] [b] pos) (tDT T W (mTB (mBin (eqY tbl f true) A B))) := dt_cmp (r := rSem X (compareOp (cmpOf true))) op_sem (prim_eqY hM hT hr) ha hb (nomark _)
end
/-! ### in -/
section
variable {tbl : Tbl} {n f : Nat} (hM : MethsAt X.prog X.w X.K X.mg X.base T "__eq__" n tbl) (hT : X.K = T.K) (hr : Room (n + f + 1) X.A) (ha : PE X a (tD T W A)) (hb : PE X b (tD T W B))
include hM hT hr ha hb
end
end
end Dn

end
section
set_option maxHeartbeats 4000000
/-! Dn20: index, clear, slices, a dict with one key, min of a list, is None. -/
namespace Dn
open PySem PySem.Spec PyProof.Rows L2
open PySem.SeqAt
section
variable {X : Cx} {T : Tb} {W : WX} {a b o e : Expr} {es : List Expr} {A B : M} {pos p p2 apos : Pos}
/-! ### xs.index(x) -/
/-! ### xs.clear() -/
/-! ### a[lo:hi] -/
abbrev MO := Sl → Cs → R (Option Int)
def moNone : MO := fun _ c => .ok none c
def asI : S → Cs → R (Option Int)
  | .d (.int i), c => .ok (some i) c
  | _, _ => .bad
def moSome (A : M) : MO := fun δ c => (A δ c).bind asI
abbrev relO : Hp → List Addr → Option Int → Option Int → Prop := fun _ _ a b => b = a
def tDO (T : Tb) (W : WX) (m : MO) : TO := fun σ H Q => ∃ δ c G ρ, RelS T G ρ σ δ ∧ RelH T H c G ρ ∧ Post relO T W σ G ρ (m δ c) Q
theorem PO.imp {oe : Option Expr} {t t' : TO} (h : PO X oe t) (k : ∀ σ H Q, t' σ H Q → t σ H Q) : PO X oe t' := ⟨fun pins s σ H Q I q => h.run pins s σ H Q I (k σ H Q q)⟩
theorem do_none : PO X none (tDO T W moNone) := PO.imp po_none fun σ H Q ⟨δ, c, G, ρ, hs, hh, p⟩ => p none H G ρ (.refl _) (List.prefix_refl _) hh rfl
theorem do_some (ha : PE X a (tD T W A)) : PO X (some a) (tDO T W (moSome A)) := by
  refine PO.imp (po_some ha) fun σ H Q ⟨δ, c, G, ρ, hs, hh, p⟩ => ?_
  refine ⟨δ, c, G, ρ, hs, hh, (Post.bind (rel := SRep T) p).imp ?_⟩
  rintro v H1 ⟨s, c1, G1, ρ1, e1, p1, h1, r1, q1⟩
  unfold asI at q1
  split at q1
  · rename_i i
    exact ⟨i, SRep.int_inv r1, q1 _ H1 G1 ρ1 (.refl _) (List.prefix_refl _) h1 rfl⟩
  · exact q1.elim
def cutD {α : Type} (xs : List α) (lo hi : Option Int) : List α := (xs.drop (HT.sIx xs.length 0 lo)).take (HT.sIx xs.length xs.length hi - HT.sIx xs.length 0 lo)
def slD (x : D) (lo hi : Option Int) : Option D := match x with
  | .lst xs => some (.lst (cutD xs lo hi))
  | .scr ns => some (.lst (cutD (ns.map D.int) lo hi))
  | .tup xs => some (.tup (cutD xs lo hi))
  | .str z => if z.length ≤ sizeLine then some (.str (cutS z lo hi)) else none
  | _ => none
def slS (lo hi : Option Int) (s : S) (c : Cs) : R S := match deref s c with
  | some x => match slD x lo hi with
    | some y => .ok (.d y) c
    | none => .bad
  | none => .bad
def mSl (A : M) (lo hi : MO) : M := fun δ c => (A δ c).bind fun s c => (lo δ c).bind fun l c => (hi δ c).bind fun h c => slS l h s c
theorem Reps.drop {G : Hp} : ∀ {xs : List D} {vs : List V} (n : Nat), Reps T G xs vs → Reps T G (xs.drop n) (vs.drop n)
  | _, _, 0, r => r
  | [], _, n + 1, r => by cases r.nil_inv; simpa using Reps.nil
  | x :: xs, _, n + 1, r => by obtain ⟨v, vr, rfl, _, b⟩ := r.cons_inv; simpa using Reps.drop n b
theorem Reps.take {G : Hp} : ∀ {xs : List D} {vs : List V} (n : Nat), Reps T G xs vs → Reps T G (xs.take n) (vs.take n)
  | _, _, 0, r => by simpa using Reps.nil
  | [], _, n + 1, r => by cases r.nil_inv; simpa using Reps.nil
  | x :: xs, _, n + 1, r => by obtain ⟨v, vr, rfl, a, b⟩ := r.cons_inv; simpa using Reps.cons a (Reps.take n b)
theorem Reps.cut {G : Hp} {xs : List D} {vs : List V} (r : Reps T G xs vs) (lo hi : Option Int) : Reps T G (cutD xs lo hi) (cutV vs lo hi) := by
  unfold cutD cutV
  rw [r.length]
  exact (r.drop _).take _
theorem cutD_length {α : Type} (xs : List α) (lo hi : Option Int) : (cutD xs lo hi).length ≤ xs.length := by
  unfold cutD
  rw [List.length_take, List.length_drop]
  omega
end
end Dn

end
section
set_option maxHeartbeats 4000000
/-! Dn21: slices, a dict with one key, min of a list, is None. -/
namespace Dn
open PySem PySem.Spec PyProof.Rows L2
open PySem.SeqAt
section
variable {X : Cx} {T : Tb} {W : WX} {a b o e : Expr} {es : List Expr} {A B : M} {pos p p2 apos : Pos}
theorem dn_slice {lo hi : Option Expr} {L U : MO} (hT : X.K = T.K) (ha : PE X a (tD T W A)) (hl : PO X lo (tDO T W L)) (hu : PO X hi (tDO T W U)) : PE X (.Subscript a (.Slice lo hi none p2) pos) (tD T W (mSl A L U)) := by
  refine PE.imp (pe_slice (SlR.or sl_list (SlR.or sl_tupA sl_str)) ha hl hu) fun σ H Q ⟨δ, c, G, ρ, hs, hh, p⟩ => ?_
  refine ⟨δ, c, G, ρ, hs, hh, (Post.bind (rel := SRep T) p).imp ?_⟩
  rintro v H1 ⟨s, c1, G1, ρ1, e1, p1, h1, r1, q1⟩
  refine ⟨δ, c1, G1, ρ1, hs.mono e1 p1, h1, (Post.bind (rel := relO) q1).imp ?_⟩
  rintro l H2 ⟨l', c2, G2, ρ2, e2, p2, h2, r2, q2⟩
  have r2 : l = l' := r2
  subst r2
  refine ⟨δ, c2, G2, ρ2, (hs.mono e1 p1).mono e2 p2, h2, (Post.bind (rel := relO) q2).imp ?_⟩
  rintro u H3 ⟨u', c3, G3, ρ3, e3, p3, h3, r3, q3⟩
  have r3 : u = u' := r3
  subst r3
  have rs : SRep T G3 ρ3 s v := (r1.mono e2 p2).mono e3 p3
  unfold slS at q3
  cases hd : deref s c3 with
  | none => simp only [hd] at q3; exact q3.elim
  | some x =>
    simp only [hd] at q3
    have vx := deref_view h3 rs hd
    cases hy : slD x l u with
    | none => simp only [hy] at q3; exact q3.elim
    | some y =>
      simp only [hy] at q3
      have fin : ∀ {v' : V} {H' G' : Hp}, Step G3 H3 G' H' → Rep T G' y v' → Q v' H' := fun st r => q3 _ _ _ ρ3 st.g (List.prefix_refl _) (h3.step st) r
      cases x with
      | lst xs =>
        cases hy
        obtain ⟨q, vs, rfl, sq, hl, r⟩ := vx
        refine .inl ⟨q, vs, rfl, SqL.of sq, fun t ht => fin (Step.new h3.ex ht) (Rep.lst upd_same (Nat.le_trans (cutD_length _ _ _) hl) (Reps.mono (Step.new h3.ex ht).g _ _ (r.cut l u)))⟩
      | scr ns =>
        cases hy
        obtain ⟨q, rfl, sq, hl⟩ := vx
        refine .inl ⟨q, _, rfl, by rw [hT]; exact sq, fun t ht => fin (Step.new h3.ex ht) (Rep.lst upd_same (Nat.le_trans (cutD_length _ _ _) (by simpa using hl)) (Reps.mono (Step.new h3.ex ht).g _ _ ((Reps.map_int ns).cut l u)))⟩
      | tup xs =>
        cases hy
        obtain ⟨q, vs, rfl, sq, hl, r⟩ := View.tup_inv vx
        have e0 := r.length
        refine .inr (.inl ⟨q, vs, rfl, SqT.of (h3.ex _ _ sq), fun hw => ?_, fun hw t ht => fin (Step.new h3.ex ht) (Rep.tup upd_same (Nat.le_trans (cutD_length _ _ _) hl) (Reps.mono (Step.new h3.ex ht).g _ _ (r.cut l u)))⟩)
        have ew : cutD xs l u = xs := by
          unfold cutD
          rw [e0] at hw
          rw [hw.1, hw.2]
          simp
        rw [ew] at fin
        exact fin (Step.refl h3.ex) (Rep.tup sq hl r)
      | str z =>
        unfold slD at hy
        by_cases hz : z.length ≤ sizeLine
        · simp only [hz, if_true] at hy
          cases hy
          have := View.str_inv vx
          subst this
          exact .inr (.inr ⟨z, rfl, hz, fin (Step.refl h3.ex) Rep.str⟩)
        · simp only [hz, if_false] at hy; cases hy
      | _ => cases hy
/-! ### {'a': 1} -/
def mDct1 (k : Str) (i : Int) : M := fun _ c => .ok (.d (.dct [.inr k] [.int i])) c
theorem dn_dct1 {k : Str} {i : Int} {j j2 p1 p2} : PE X (.Dict [some (.Constant (.str k) j p1)] [.Constant (.int i) j2 p2] pos) (tD T W (mDct1 k i)) := by
  refine PE.imp (pe_disp (pps_cons pe_str pe_int pps_nil) rfl rfl (by simp) (by simp)) fun σ H Q ⟨δ, c, G, ρ, hs, hh, p⟩ => ?_
  intro q hq
  refine ⟨upd_same, [(.inr k, .int i)], rfl, by simp, ?_⟩
  have eh : upd (upd H q (.dK [])) q (.dK (mergeK [] [(Sum.inr k, V.int i)])) = upd H q (.dK [(Sum.inr k, V.int i)]) := by
    rw [upd_upd]
    rfl
  rw [eh]
  have st := Step.new (o := .dK [((Sum.inr k : Key), V.int i)]) hh.ex hq
  exact p _ _ _ ρ st.g (List.prefix_refl _) (hh.step st) (Rep.dct (ks := [Sum.inr k]) upd_same rfl (Reps.cons Rep.int Reps.nil))
/-! ### x is None -/
def isN (neg : Bool) : S → Cs → R S
  | .d .non, c => .ok (.d (.bl (!neg))) c
  | .d _, c => .ok (.d (.bl neg)) c
  | .c _, c => .ok (.d (.bl neg)) c
  | .x _ _, _ => .bad
  | .f, _ => .bad
def mIsN (neg : Bool) (A : M) : M := fun δ c => (A δ c).bind (isN neg)
theorem isN_ok {neg : Bool} {σ : L2.St} {G H : Hp} {ρ : List Addr} {s : S} {c : Cs} {v : V} {Q : VK} (r : SRep T G ρ s v) (hh : RelH T H c G ρ) (p : Post (SRep T) T W σ G ρ (isN neg s c) Q) : Q (.bl (if neg then !decide (v = .non) else decide (v = .non))) H := by
  have fin : ∀ b : Bool, Post (SRep T) T W σ G ρ (.ok (.d (.bl b)) c) Q → Q (.bl b) H := fun b q => q _ H G ρ (.refl _) (List.prefix_refl _) hh SRep.bl
  cases s with
  | x _ _ => exact p.elim
  | f => exact p.elim
  | c n =>
    obtain ⟨q, _, rfl⟩ := r
    have := fin neg p
    cases neg <;> exact this
  | d x =>
    cases x with
    | non =>
      have := SRep.non_inv r
      subst this
      have := fin (!neg) p
      cases neg <;> exact this
    | bl b => have := SRep.bl_inv r; subst this; have := fin neg p; cases neg <;> exact this
    | int b => have := SRep.int_inv r; subst this; have := fin neg p; cases neg <;> exact this
    | str b => have := SRep.str_inv r; subst this; have := fin neg p; cases neg <;> exact this
    | lst _ => obtain ⟨q, _, rfl, _⟩ := Rep.lst_inv (show Rep T G _ _ from r); have := fin neg p; cases neg <;> exact this
    | tup _ => obtain ⟨q, _, rfl, _⟩ := Rep.tup_inv (show Rep T G _ _ from r); have := fin neg p; cases neg <;> exact this
    | obj _ _ => obtain ⟨q, _, _, rfl, _⟩ := Rep.obj_inv (show Rep T G _ _ from r); have := fin neg p; cases neg <;> exact this
    | scr _ => obtain ⟨q, rfl, _⟩ := Rep.scr_inv (show Rep T G _ _ from r); have := fin neg p; cases neg <;> exact this
    | dct _ _ => obtain ⟨q, _, rfl, _⟩ := Rep.dct_inv (show Rep T G _ _ from r); have := fin neg p; cases neg <;> exact this
theorem tD_isN {neg : Bool} {σ : L2.St} {H : Hp} {Q : VK} (h : tD T W (mIsN neg A) σ H Q) : tD T W A σ H (fun x H1 => Q (.bl (if neg then !decide (x = .non) else decide (x = .non))) H1) := by
  obtain ⟨δ, c, G, ρ, hs, hh, p⟩ := h
  refine ⟨δ, c, G, ρ, hs, hh, (Post.bind (rel := SRep T) p).imp ?_⟩
  rintro v H1 ⟨s, c1, G1, ρ1, e1, p1, h1, r1, q1⟩
  exact isN_ok r1 h1 q1
theorem tB_isN {neg : Bool} {σ : L2.St} {H : Hp} {Q : Bool → Hp → Prop} (h : tDT T W (mTB (mIsN neg A)) σ H Q) : tD T W A σ H (fun x H1 => ∃ d, V.bl (if neg then !decide (x = .non) else decide (x = .non)) = .bl d ∧ Q d H1) := by
  exact tD_isN (tDT_B h)
theorem dt_isN {j p1} (ha : PE X a (tD T W A)) : PT X (.Compare a [.Is] [.Constant .none j p1] pos) (tDT T W (mTB (mIsN false A))) := PT.imp (pt_cmp (pc_isN ha)) fun _ _ _ h => tB_isN h
theorem dt_notN {j p1} (ha : PE X a (tD T W A)) : PT X (.Compare a [.IsNot] [.Constant .none j p1] pos) (tDT T W (mTB (mIsN true A))) := PT.imp (pt_cmp (pc_notN ha)) fun _ _ _ h => tB_isN h
/-! ### min(xs), plain items -/
def minL : D → List D → D
  | b, [] => b
  | b, x :: xs => minL (if PySem.W.dataLt x.py b.py then x else b) xs
def minOk (xs : List D) : Bool := oks 20 xs && allAlike xs && xs.all fun x => match x with
  | .non => false
  | _ => true
def minLD : List D → Option D
  | [.lst (x :: xs)] => if minOk (x :: xs) = true then some (minL x xs) else none
  | _ => none
theorem minL_py : ∀ (b : D) (xs : List D), (minL b xs).py = PySem.W.minD b.py (xs.map D.py)
  | b, [] => rfl
  | b, x :: xs => by
    unfold minL
    rw [minL_py]
    unfold PySem.W.minD
    rw [List.map_cons, List.foldl_cons]
    congr 1
    by_cases h : PySem.W.dataLt x.py b.py = true
    · rw [if_pos h, if_pos h]
    · rw [if_neg h, if_neg h]
theorem minL_mem : ∀ (b : D) (xs : List D), minL b xs ∈ b :: xs
  | b, [] => by simp [minL]
  | b, x :: xs => by
    unfold minL
    have := minL_mem (if PySem.W.dataLt x.py b.py then x else b) xs
    by_cases h : PySem.W.dataLt x.py b.py = true
    · rw [if_pos h] at this ⊢; exact List.mem_cons_of_mem _ this
    · rw [if_neg h] at this ⊢
      simp only [List.mem_cons] at this ⊢
      rcases this with h | h
      · exact .inl h
      · exact .inr (.inr h)
mutual
theorem py_inj : ∀ (n : Nat) (x y : D), x.ok n = true → y.ok n = true → x.py = y.py → x = y
  | n, x, y, hx, hy, h => by
    cases x <;> cases y <;> first
      | rfl
      | (unfold D.ok at hx; cases hx; done)
      | (unfold D.ok at hy; cases hy; done)
      | (unfold D.py at h; cases h; done)
      | (unfold D.py at h; injection h with h; subst h; rfl)
      | (rename_i xs ys
         unfold D.py at h
         injection h with h
         unfold D.ok at hx hy
         simp only [Bool.and_eq_true] at hx hy
         rw [pys_inj (n - 1) xs ys hx.2 hy.2 h])
theorem pys_inj : ∀ (n : Nat) (xs ys : List D), oks n xs = true → oks n ys = true → pys xs = pys ys → xs = ys
  | n, [], [], _, _, _ => rfl
  | n, [], y :: ys, _, _, h => by unfold pys at h; cases h
  | n, x :: xs, [], _, _, h => by unfold pys at h; cases h
  | n, x :: xs, y :: ys, hx, hy, h => by
    unfold oks at hx hy
    simp only [Bool.and_eq_true] at hx hy
    unfold pys at h
    injection h with h1 h2
    rw [py_inj n x y hx.1 hy.1 h1, pys_inj n xs ys hx.2 hy.2 h2]
end
def rMinL (T : Tb) : List V → Hp → VK → Prop := fun vs H Q => ∃ G q us x xs, vs = [.ref q] ∧ Ex G H ∧ H q = some (.lst us) ∧ Reps T G (x :: xs) us ∧ minOk (x :: xs) = true ∧ ∀ u, Rep T G (minL x xs) u → Q u H
theorem oks_mem {n : Nat} {xs : List D} (h : oks n xs = true) {x : D} (hx : x ∈ xs) : x.ok n = true := by rw [oks_all] at h; exact List.all_eq_true.mp h x hx
theorem cr_minL (hT : X.K = T.K) (hc : X.calm = true) (hu : X.A.units + 64 < cLine) : CallR X (.builtin "min") (rMinL T) := by
  intro pins s σ H vs us Q I r h
  obtain ⟨G, q, ws, x, xs, rfl, eg, hq, rr, ok, k⟩ := h
  unfold minOk at ok
  simp only [Bool.and_eq_true] at ok
  obtain ⟨⟨hok, hal⟩, hnn⟩ := ok
  rw [Vals.ref1 r]
  have dp : DpAll X.K H ws (pys (x :: xs)) := by rw [hT]; exact DpAll.mono eg _ _ (Reps.dp 20 _ _ hok rr)
  obtain ⟨z1, its, k1, r1, g1⟩ := I.hok q _ hq
  obtain ⟨as, h4⟩ := Dp.readsAll I _ _ its dp r1
  rw [pys_map, List.map_cons] at h4
  have hdep := depth_pys 20 (x :: xs) hok
  rw [pys_map, List.map_cons] at hdep
  refine PySem.W.min_list_data (vs := its.toArray) (I.ok.hd hc) ⟨_, g1, rfl, _, rfl⟩ h4 ⟨fun a ha b hb => ?_, fun a ha => ?_⟩ (by omega) (fun i v h' tk bs hv rd hk => ?_)
  · rw [← List.map_cons (f := D.py)] at ha hb
    exact alike_ok hal a ha b hb
  · rw [← List.map_cons (f := D.py)] at ha
    obtain ⟨d, hd, rfl⟩ := List.mem_map.mp ha
    have := List.all_eq_true.mp hnn d hd
    have h2 := oks_mem hok hd
    cases d <;> first | (simp at this; done) | (unfold D.ok at h2; cases h2; done) | (unfold D.py; intro z; cases z)
  · have hv2 : its[i]? = some v := by simpa using hv
    obtain ⟨hi, ei⟩ := List.getElem?_eq_some_iff.mp hv2
    have hiw : i < ws.length := by rw [r1.length]; exact hi
    obtain ⟨d, hd, rd2⟩ := rr.get' (List.getElem?_eq_getElem hiw)
    obtain ⟨v2, hv3, rv⟩ := r1.get (List.getElem?_eq_getElem hiw)
    rw [hv2] at hv3
    cases hv3
    have dok : d.ok 20 = true := oks_mem hok (List.mem_of_getElem? hd)
    have ddp : Dp X.K H ws[i] d.py := by rw [hT]; exact Dp.mono eg _ _ (Rep.dp 20 _ _ dok rd2)
    obtain ⟨cs, q2⟩ := Dp.reads I _ _ _ ddp rv
    have e1 : (minL x xs).py = d.py := by
      rw [minL_py]
      exact (reads_det (fun b o hb _ => hk b o hb) q2 rd).1
    have e2 : minL x xs = d := py_inj 20 _ _ (oks_mem hok (minL_mem x xs)) dok e1
    rw [e2] at k
    exact ⟨ws[i], H, I.kept hk, rv, k _ rd2⟩
theorem fresh_minL : FreshN T minLD (rMinL T) := by
  intro G H x d v Q e vw h k
  unfold minLD at h
  split at h
  · rename_i x0 xs
    split at h
    · rename_i ok
      cases h
      obtain ⟨u, rfl, w⟩ := vw.one
      obtain ⟨q, us, rfl, sq, _, r⟩ := w
      exact ⟨G, q, us, x0, xs, rfl, e, sq, r, ok, fun u ru => k _ _ _ (Step.refl e) ru⟩
    · cases h
  · cases h
theorem dn_minL {B : MA} {k : Nat} (hT : X.K = T.K) (hc : X.calm = true) (hr : Room k X.A) (hg : Gl X "min") (hm : X.mg "min" = none) (ha : PA X (e :: es) (tDA T W B)) (he : starEach (e :: es) X.env = (false, eval e X.env) :: starEach es X.env := by rfl) (hpl : (backTo pos (starEach es X.env)).any (·.1) = false := by rfl) :
    PE X (.Call (.Name "min" p) (e :: es) [] pos) (tD T W (mBlt (liftN minLD) B)) := dn_callB (cr_minL hT hc hr.units) (primN fresh_minL) hg hm (by decide +kernel) ha (by decide) (by decide) he hpl
end
end Dn

end
section
set_option maxHeartbeats 4000000
/-! Dn22: lists that may still change are walked; lists and tuples that hold cells; leaving a def with them. -/
namespace Dn
open PySem PySem.Spec PyProof.Rows L2
section
variable {X : Cx} {T : Tb} {W : WX} {a b o e : Expr} {es : List Expr} {A B : M} {pos p p2 apos : Pos}
end
end Dn

end
section
set_option maxHeartbeats 4000000
/-! Dn23: tuples that hold cells; leaving a def with its cells kept, or with all of them turned into data. -/
namespace Dn
open PySem PySem.Spec PyProof.Rows L2
section
variable {X : Cx} {T : Tb} {W : WX} {a b o e : Expr} {es : List Expr} {A B : M} {pos p p2 apos : Pos}
/-! ### a tuple with cells -/
/-! ### xs[i] where xs may hold cells -/
def ixS (s t : S) (c : Cs) : R S := match s, t with
  | .c n, .d (.int i) => match c[n]? with
    | some (.tS ss) => match L2.atI ss i with
      | some u => .ok u c
      | none => .bad
    | some (.lS ss) => match L2.atI ss i with
      | some u => .ok u c
      | none => .bad
    | _ => lift2 ixD s t c
  | _, _ => lift2 ixD s t c
theorem CReps.atI {G : Hp} {ρ : List Addr} {ss : List S} {vs : List V} {i : Int} {u : S} (r : CReps T G ρ ss vs) (h : L2.atI ss i = some u) : ∃ v, L2.atI vs i = some v ∧ CRep T G ρ u v := by
  have hl := r.length
  have aux : ∀ {ss : List S} {vs : List V}, CReps T G ρ ss vs → ∀ {j : Nat} {u : S}, ss[j]? = some u → ∃ v, vs[j]? = some v ∧ CRep T G ρ u v := by
    intro ss vs r
    induction r with
    | nil => intro j u e; simp at e
    | cons a _ ih =>
      intro j u e
      cases j with
      | zero => simp at e; subst e; exact ⟨_, rfl, a⟩
      | succ j => simpa using ih (by simpa using e)
  unfold L2.atI at h ⊢
  rw [hl]
  cases hj : ixN ss.length i with
  | none => rw [hj] at h; cases h
  | some j => rw [hj] at h; exact aux r h
theorem prim_ixS : Prim2 T ixS (rIx T.K) := by
  intro W σ G ρ H c s t v u Q hh rs rt p
  unfold ixS at p
  have old : Post (SRep T) T W σ G ρ (lift2 ixD s t c) Q → rIx T.K v u H Q := fun p => prim2 fresh_ix W σ G ρ H c s t v u Q hh rs rt p
  split at p
  · rename_i n i
    have hi := SRep.int_inv rt
    subst hi
    cases hc : c[n]? with
    | none => simp only [hc] at p; exact old p
    | some cc =>
      obtain ⟨q, hq, rfl⟩ := id rs
      cases cc with
      | tS ss =>
        simp only [hc] at p
        cases ha : L2.atI ss i with
        | none => simp only [ha] at p; exact p.elim
        | some x =>
          simp only [ha] at p
          obtain ⟨_, vs, ho, hl, rr⟩ := hh.at_ n q _ hq hc
          obtain ⟨w, hw, rw'⟩ := rr.atI ha
          exact .inr (.inl ⟨q, vs, i, w, rfl, rfl, SqT.of ho, hw, p _ H G ρ (.refl _) (List.prefix_refl _) hh (rw'.srep.mono (.refl _) (List.take_prefix _ _))⟩)
      | lS ss =>
        simp only [hc] at p
        cases ha : L2.atI ss i with
        | none => simp only [ha] at p; exact p.elim
        | some x =>
          simp only [ha] at p
          obtain ⟨_, vs, ho, hl, rr⟩ := hh.at_ n q _ hq hc
          obtain ⟨w, hw, rw'⟩ := rr.atI ha
          exact .inl ⟨q, vs, i, w, rfl, rfl, SqL.of ho, hw, p _ H G ρ (.refl _) (List.prefix_refl _) hh (rw'.srep.mono (.refl _) (List.take_prefix _ _))⟩
      | lst _ => simp only [hc] at p; exact old p
      | dct _ => simp only [hc] at p; exact old p
      | tb _ => simp only [hc] at p; exact old p
      | dT _ => simp only [hc] at p; exact old p
      | obj _ _ => simp only [hc] at p; exact old p
  · exact old p
theorem dn_ixS (hT : X.K = T.K) (ha : PE X a (tD T W A)) (hb : PE X b (tD T W B)) (hs : PlainIx b := by exact fun _ _ => rfl) : PE X (.Subscript a b pos) (tD T W (mBin ixS A B)) :=
  PE.imp (pe_ix (r := rIx T.K) (by rw [← hT]; exact ix_seq) ha hb hs) fun _ _ _ h => tD_bin prim_ixS h
end
/-! ### leaving a def: all cells are kept -/
/-! ### .. or turned into data -/
def frz (n0 : Nat) (c : Cs) : Nat → S → Option D
  | _, .d x => some x
  | _, .x _ _ => none
  | _, .f => none
  | 0, .c _ => none
  | f + 1, .c k => if k < n0 then none else match c[k]? with
    | some (.lst xs) => some (.lst xs)
    | some (.lS ss) => (ss.mapM (frz n0 c f)).map .lst
    | some (.tS ss) => (ss.mapM (frz n0 c f)).map .tup
    | _ => none
section
variable {T : Tb} {G G' H H' : Hp} {ρ ρ' : List Addr} {c c' : Cs} {σ : L2.St} {δ : Sl} {Q : VK} {E : XK}
open Classical in
noncomputable def thaw (G H : Hp) (own : List Addr) : Hp := fun p => if p ∈ own then H p else G p
theorem RelH.thaw (r : RelH T H c G ρ') (pr : ρ <+: ρ') : Ex G (Dn.thaw G H (ρ'.drop ρ.length)) ∧ RelH T H (c.take ρ.length) (Dn.thaw G H (ρ'.drop ρ.length)) ρ := by
  have gn : ∀ p ∈ ρ'.drop ρ.length, G p = Option.none := fun p hp => by
    obtain ⟨i, hi, e⟩ := List.getElem_of_mem (List.mem_of_mem_drop hp)
    have hic : i < c.length := by rw [← r.len]; exact hi
    exact (r.at_ i p c[i] (by rw [List.getElem?_eq_getElem hi, e]) (List.getElem?_eq_getElem hic)).1
  have e : Ex G (Dn.thaw G H (ρ'.drop ρ.length)) := fun a o h => by
    unfold Dn.thaw
    rw [if_neg (fun hm => by rw [gn a hm] at h; cases h)]
    exact h
  have r1 := r.take pr
  refine ⟨e, ⟨fun a u q => ?_, r1.len, r1.nd, fun i q x a b => ?_⟩⟩
  · unfold Dn.thaw at q
    split at q
    · exact q
    · exact r.ex a u q
  · obtain ⟨g, k1⟩ := r1.at_ i q x a b
    have hi : i < ρ.length := (List.getElem?_eq_some_iff.mp a).1
    have ne : q ∉ ρ'.drop ρ.length := fun hm => by
      obtain ⟨t, rfl⟩ := pr
      rw [List.drop_left] at hm
      have nd := r.nd
      rw [List.nodup_append] at nd
      exact nd.2.2 q (List.mem_of_getElem? a) q hm rfl
    refine ⟨by unfold Dn.thaw; rw [if_neg ne]; exact g, k1.keep e rfl (List.prefix_refl _)⟩
theorem thaw_at {k : Nat} {p : Addr} (hk : ¬ k < ρ.length) (hp : ρ'[k]? = some p) : Dn.thaw G H (ρ'.drop ρ.length) p = H p := by
  unfold Dn.thaw
  rw [if_pos]
  obtain ⟨h1, e1⟩ := List.getElem?_eq_some_iff.mp hp
  rw [List.mem_iff_getElem]
  exact ⟨k - ρ.length, by rw [List.length_drop]; omega, by rw [List.getElem_drop, ← e1]; congr 1; omega⟩
theorem frz_ok (r : RelH T H c G ρ') (pr : ρ <+: ρ') : ∀ (f : Nat) (s : S) (v : V) (d : D), frz ρ.length c f s = some d → SRep T G ρ' s v → Rep T (Dn.thaw G H (ρ'.drop ρ.length)) d v
  | f, .d x, v, d, e, rs => by
    have : x = d := by cases f <;> (unfold frz at e; cases e; rfl)
    subst this
    exact Rep.mono (r.thaw pr).1 _ _ rs
  | f, .x _ _, v, d, e, rs => by cases f <;> (unfold frz at e; cases e)
  | f, .f, v, d, e, rs => by cases f <;> (unfold frz at e; cases e)
  | 0, .c k, v, d, e, rs => by unfold frz at e; cases e
  | f + 1, .c k, v, d, e, rs => by
    obtain ⟨p, hp, rfl⟩ := rs
    unfold frz at e
    split at e
    · cases e
    · rename_i hk
      have ht := thaw_at (G := G) (H := H) hk hp
      cases hc : c[k]? with
      | none => simp only [hc] at e; cases e
      | some cc =>
        obtain ⟨g, ko⟩ := r.at_ k p cc hp hc
        have go : ∀ {ss : List S} {vs : List V} {ds : List D}, CReps T G (ρ'.take k) ss vs → ss.mapM (frz ρ.length c f) = some ds → Reps T (Dn.thaw G H (ρ'.drop ρ.length)) ds vs ∧ ds.length = ss.length := by
          intro ss vs ds rr
          induction rr generalizing ds with
          | nil => intro em; simp at em; subst em; exact ⟨Reps.nil, rfl⟩
          | @cons s ss v vs a _ ih =>
            intro em
            rw [List.mapM_cons] at em
            cases e1 : frz ρ.length c f s with
            | none => rw [e1] at em; cases em
            | some x =>
              rw [e1] at em
              cases e2 : ss.mapM (frz ρ.length c f) with
              | none => rw [e2] at em; cases em
              | some xs =>
                rw [e2] at em
                cases em
                obtain ⟨i1, i2⟩ := ih e2
                exact ⟨Reps.cons (frz_ok r pr f s v x e1 (a.srep.mono (.refl _) (List.take_prefix _ _))) i1, by simp [i2]⟩
        cases cc with
        | lst xs =>
          simp only [hc] at e
          cases e
          obtain ⟨vs, ho, hl, rr⟩ := ko
          exact Rep.lst (by rw [ht]; exact ho) hl (Reps.mono (r.thaw pr).1 _ _ rr)
        | lS ss =>
          simp only [hc] at e
          obtain ⟨vs, ho, hl, rr⟩ := ko
          cases em : ss.mapM (frz ρ.length c f) with
          | none => rw [em] at e; cases e
          | some ds =>
            rw [em] at e
            cases e
            obtain ⟨i1, i2⟩ := go rr em
            exact Rep.lst (by rw [ht]; exact ho) (by rw [i2]; exact hl) i1
        | tS ss =>
          simp only [hc] at e
          obtain ⟨vs, ho, hl, rr⟩ := ko
          cases em : ss.mapM (frz ρ.length c f) with
          | none => rw [em] at e; cases e
          | some ds =>
            rw [em] at e
            cases e
            obtain ⟨i1, i2⟩ := go rr em
            exact Rep.tup (by rw [ht]; exact ho) (by rw [i2]; exact hl) i1
        | dct _ => simp only [hc] at e; cases e
        | tb _ => simp only [hc] at e; cases e
        | dT _ => simp only [hc] at e; cases e
        | obj _ _ => simp only [hc] at e; cases e
end
section
variable {P : Program} {w : World} {K : PySem.W.Frag} {mg : Str → Option Value} {base : Heap} {T : Tb} {k : Nat}
/-- how a def may be left -/
structure ExitOk (T : Tb) (ext : Nat → RS → R S) : Prop where
  ok : ∀ {G : Hp} {ρ : List Addr} {r : RS} {Q : VK} {E : XK}, PostF T G ρ (ext ρ.length r) Q E → PostS T (fun cls d _ H => E cls d H) G ρ r { nx := fun _ H' => Q .non H', rt := Q }
def fnE (ext : Nat → RS → R S) (np n : Nat) (body : MS) : List S → Cs → R S := fun ss c => if ss.length = np then ext c.length (body (ss.map some ++ List.replicate (n - np) none) c) else .bad
end
end Dn

end
section
set_option maxHeartbeats 4000000
/-! Dn24: defaults, properties, gcd, which class is which. -/
namespace Dn
open PySem PySem.Spec PyProof.Rows L2
section
variable {X : Cx} {T : Tb} {W : WX} {a b o e : Expr} {es : List Expr} {A B : M} {pos p p2 apos : Pos} {fn : List S → Cs → R S} {k : Nat}
/-! ### C(e, ..), the last parameters by their defaults -/
theorem run_makeD {CX : CXT} {f C : Addr} {fd : FuncData} {ps : List Str} {sp : Sp} {E : L2.St → XK} {pins : List (Addr × Obj)} {σ : L2.St} {H : Hp} {s : Shared} {Q : VK} {us ds : List Value} {vs dvs : List V} (M : Mk X.K C f) (F : FnOk X.prog X.w X.K X.mg X.base CX k f fd ps sp) (hr : Room (k + 1) X.A) (hb : Binds X.K fd ps ds) (hd : Vals dvs ds)
    (hx : PassesAt CX X σ (E σ)) (I : Inv X pins σ H s) (r : Vals vs us)
    (h : ∀ x dx, H x = none → H dx = none → dx ≠ x → sp (.ref x :: (vs ++ dvs)) (upd (upd H dx (.own x)) x (.ins C dx [])) (fun v H2 => v = .non ∧ Q (.ref x) H2) (E σ)) :
    wpAny (model X.prog X.w) X.A (call (.ref C) us) (EP X pins σ Q) X.xe s := by
  have hq := h (s.heap.objs.size + 1) s.heap.objs.size (I.hok.fresh (Nat.le_succ _)) (I.hok.fresh (Nat.le_refl _)) (Nat.ne_of_lt (Nat.lt_succ_self _))
  have I2 := Inv.made (C := C) I
  have r2 : Vals (V.ref (s.heap.objs.size + 1) :: (vs ++ dvs)) (Value.ref (s.heap.objs.size + 1) :: (us ++ ds)) := .cons rfl (r.append hd)
  have hl : ((Value.ref (s.heap.objs.size + 1) :: us) ++ ds).length = ps.length := by
    have e := r2.length
    rw [F.len _ _ _ _ hq] at e
    exact e.symm
  refine wpAny_call (make_map (f := f) I.kIn M.makes M.init (beq_iff_eq.mp M.fn) (codeAny_mono (F.run _ X.stack _ _ ⟨Value.ref (s.heap.objs.size + 1) :: us, []⟩ (Value.ref (s.heap.objs.size + 1) :: (us ++ ds)) _ _ (E σ) (hr.make C us [])
    (I2.env0.make C us []) (hb _ (Value.ref (s.heap.objs.size + 1) :: us) I2.kIn hl) r2 hq) fun r s' hq' => ?_))
  cases r with
  | error e => exact hx pins _ _ e s' I2 hq'
  | ok fl =>
    cases fl with
    | ret u =>
      obtain ⟨v, H', I3, rv, ev, q3⟩ := I2.after hq'
      subst ev
      exact ⟨rv, ⟨V.ref (s.heap.objs.size + 1), H', I3, rfl, q3⟩⟩
    | next => exact False.elim hq'
    | brk => exact False.elim hq'
    | cont => exact False.elim hq'
/-- the class x, number c, is made by fn; its last parameter's default is the int d -/
def MakeDAt (P : Program) (w : World) (K : PySem.W.Frag) (mg : Str → Option Value) (base : Heap) (T : Tb) (x : Str) (c : Nat) (nf : Nat) (k : Nat) (fn : List S → Cs → R S) (d : Int) : Prop :=
  ∃ f fd ps ds, FnOk P w K mg base (L2.CX P w) k f fd ps (spD T fn) ∧ Mk K (T.cl c) f ∧ mg x = some (.ref (T.cl c)) ∧ (T.fl c).length = nf ∧ Binds K fd ps [] ∧ Binds K fd ps ds ∧ Vals [.int d] ds
theorem MakeDAt.all {P : Program} {w : World} {K : PySem.W.Frag} {mg : Str → Option Value} {base : Heap} {x : Str} {c nf : Nat} {d : Int} (h : MakeDAt P w K mg base T x c nf k fn d) : MakeAt P w K mg base T x c nf k fn := by
  obtain ⟨f, fd, ps, ds, F, hM, hm, hn, hb, _, _⟩ := h
  exact ⟨f, fd, ps, F, hM, hm, hn, hb⟩
def mDfl (B : MA) (d : Int) : MA := fun δ c => (B δ c).bind fun ss c => .ok (ss ++ [.d (.int d)]) c
theorem dn_makeD {x : Str} {n nf : Nat} {d : Int} {B : MA} (hf : MakeDAt X.prog X.w X.K X.mg X.base T x n nf k fn d) (hr : Room (k + 1) X.A) (tk : Takes X W) (hg : Gl X x) (ha : PA X (e :: es) (tDA T W B)) (hdb : (x == ("__debug__" : Str)) = false := by decide)
    (he : starEach (e :: es) X.env = (false, eval e X.env) :: starEach es X.env := by rfl) (hpl : (backTo pos (starEach es X.env)).any (·.1) = false := by rfl) : PE X (.Call (.Name x p) (e :: es) [] pos) (tD T W (mMake n nf fn (mDfl B d))) := by
  obtain ⟨f, fd, ps, ds, F, hM, hm, hn, _, hb, hd⟩ := hf
  refine ⟨fun pins s σ H Q I ⟨δ, c, G, ρ, hs, hh, p⟩ => ?_⟩
  refine wpAny_Call_Name_kw (ld_glob I hg hm ?_ hdb)
  have p' : Post (SRep T) T W σ G ρ ((B δ c).bind fun ss c => fin n nf c.length (fn (.c c.length :: (ss ++ [.d (.int d)])) (c ++ [.obj n []]))) Q := by
    unfold mMake mDfl at p
    cases hB : B δ c with
    | ok ss c1 => rw [hB] at p; exact p
    | ex k xs c1 => rw [hB] at p; exact p
    | bad => rw [hB] at p; exact p
  refine PySem.W.callWith_K (h₀ := X.base) I.ok.mod.kin hM.kp (thn (ha.run pos pins s σ H _ I ⟨δ, c, G, ρ, hs, hh, Post.bind (rel := SReps T) p'⟩) ?_) he hpl
  rintro us s1 ⟨vs, H1, I1, r, ss, c1, G1, ρ1, e1, p1, h1, r1, q1⟩
  exact ⟨I1.kIn, run_makeD (E := WE W) hM F hr hb hd (passAt tk σ) I1 r (make_core hn h1 (r1.append (.cons SRep.int .nil)) q1)⟩
section
variable {P : Program} {w : World} {K : PySem.W.Frag} {mg : Str → Option Value} {base : Heap}
def IDefDAt (K : PySem.W.Frag) (C : Addr) (qual : Str) (st : Stmt) (ps : List Str) (d : Int) : Prop :=
  ∃ f fd ds, FunD K "__init__" qual (defArgs st) (defBody st) (defScope st) [.int d] [] f fd ∧ Mk K C f ∧ Binds K fd ps [] ∧ Binds K fd ps ds ∧ Vals [.int d] ds
theorem make_atD {kp : Bool} {c nf : Nat} {d : Int} {x qual : Str} {st : Stmt} {N ps : List Str} {body : MS} (D : IDefDAt K (T.cl c) qual st ps d) (hm : mg x = some (.ref (T.cl c))) (hn : (T.fl c).length = nf) (S : FnScope N ps (defScope st))
    (hbody : ∀ (f : Addr) (cdv : Value) (A : Around) (outer : List Env) (s : Shared) (H : Hp) (E : XK), Room k (A.deeper (envOfC qual (defScope st) s.heap.objs.size f cdv)) → Takes (cxOf (L2.CX P w) P w K mg base N qual (defScope st) f cdv A outer s H E) (fun cls d _ H => E cls d H) →
      PSs (cxOf (L2.CX P w) P w K mg base N qual (defScope st) f cdv A outer s H E) (defBody st) (tS T (fun cls d _ H => E cls d H) body)) : MakeDAt P w K mg base T x c nf (k + 1) (fnG kp ps.length N.length body) d := by
  obtain ⟨f, fd, ds, F, hM, hb, hb2, hv⟩ := D
  refine ⟨f, fd, ps, ds, ?_, hM, hm, hn, hb, hb2, hv⟩
  refine F.ok S ?_ ?_
  · rintro vs H Q E ⟨ss, c, G, ρ, rs, rh, p⟩
    rw [rs.length]
    unfold fnG at p
    by_cases h : ss.length = ps.length
    · exact h
    · rw [if_neg h] at p; exact p.elim
  · rintro cdv A outer s H vs Q E hr ⟨ss, c, G, ρ, rs, rh, p⟩
    refine ⟨_, hbody f cdv A outer s H E hr cx_takes, ?_⟩
    unfold fnG at p
    by_cases h : ss.length = ps.length
    · rw [if_pos h] at p
      refine ⟨_, c, G, ρ, rs.start h, rh, ?_⟩
      rw [← rh.len] at p
      exact exit_ok p
    · rw [if_neg h] at p; exact p.elim
/-- how IDefDAt is made -/
theorem idefD_mk {C f : Addr} {qual : Str} {st : Stmt} {ps : List Str} {d : Int} {oc : Value} {od an : Option Addr} {osl : Array (Option Value)} {kV doc pm cdv ct : Value} {TT : Addr} {ot : Obj} {tt : Tok} {nn : Nat}
    (l : K.lookup f = some ⟨oc, od, .func (PySem.W.fnOf "__init__" qual (defArgs st) (defBody st) (defScope st) (.ref TT) kV doc pm an cdv ct), osl⟩) (c : PySem.W.codeIn K cdv qual = true) (kk : PySem.W.keepIn K (.ref f) = true) (lt : K.lookup TT = some ot) (hot : ot.data = .seq #[.int d tt] nn) (M : Mk K C f)
    (h2 : ∀ (T : Addr) (kV doc pm : Value) (an : Option Addr) (cdv ct : Value) (us its : List Value), us.length = ps.length → its.length = 1 →
      ∃ k, bindArgs (PySem.W.fnOf "__init__" qual (defArgs st) (defBody st) (defScope st) (.ref T) kV doc pm an cdv ct) ⟨us, []⟩ = seqItems? (.ref T) >>= k ∧ k (some its.toArray) = pure (ps.zip (us ++ its.drop 1)))
    (h1 : ∀ (T : Addr) (kV doc pm : Value) (an : Option Addr) (cdv ct : Value) (us its : List Value), us.length = ps.length - 1 → its.length = 1 →
      ∃ k, bindArgs (PySem.W.fnOf "__init__" qual (defArgs st) (defBody st) (defScope st) (.ref T) kV doc pm an cdv ct) ⟨us, []⟩ = seqItems? (.ref T) >>= k ∧ k (some its.toArray) = pure (ps.zip (us ++ its.drop 0)))
    (hp : 1 ≤ ps.length) : IDefDAt K C qual st ps d := by
  have F : FunD K "__init__" qual (defArgs st) (defBody st) (defScope st) [.int d] [] f _ := ⟨⟨oc, od, .ref TT, kV, doc, pm, an, cdv, ct, osl, rfl, l, c, .inr ⟨by simp, TT, ot, [.int d tt], nn, rfl, lt, hot, .cons ⟨tt, rfl⟩ .nil⟩, .inl rfl⟩, kk⟩
  obtain ⟨ds0, v0, b0⟩ := F.binds1 (ps := ps) ps.length 1 (by simp) (by simp) (fun T kV doc pm an cdv ct us its hu hi => h2 T kV doc pm an cdv ct us its hu (by simpa using hi))
  obtain ⟨ds1, v1, b1⟩ := F.binds1 (ps := ps) (ps.length - 1) 0 (by simp) (by simp; omega) (fun T kV doc pm an cdv ct us its hu hi => h1 T kV doc pm an cdv ct us its hu (by simpa using hi))
  have e0 : ds0 = [] := by cases v0; rfl
  subst e0
  exact ⟨f, _, ds1, F, M, b0, b1, v1⟩
end
/-! ### e.f, a property that reads a field -/
structure PropAt (X : Cx) (T : Tb) (f g : Str) (n i : Nat) : Prop where
  cl : Cls X.K (T.cl n)
  na : NoAttr X.K (T.cl n) g
  fl : (T.fl n)[i]? = some g
  nd : (T.fl n).Nodup
  pr : ∃ p ga fd, PropOf X.K (T.cl n) f p ga ∧ FnOk X.prog X.w X.K X.mg X.base (L2.CX X.prog X.w) 1 ga fd ["self"] (getSp (T.cl n) g) ∧ Binds X.K fd ["self"] []
def mProp (n i : Nat) (A : M) : M := mAttr [(n, i)] A
theorem dn_prop {f g : Str} {n i : Nat} (P : PropAt X T f g n i) (hr : Room 2 X.A) (he : PE X o (tD T W A)) (hab : attributeBase o f X.env (eval o X.env) = eval o X.env := by rfl) : PE X (.Attribute o f pos) (tD T W (mProp n i A)) := by
  obtain ⟨pp, ga, fd, hp, F, hb⟩ := P.pr
  refine PE.imp (pe_prop (E := fun _ _ _ => False) (dvs := []) he P.cl hp F hr hb .nil (fun _ _ _ _ _ _ _ h => by obtain ⟨_, _, _, _, _, _, _, _, _, _, _, _, z⟩ := h; exact z.elim) hab) fun σ H Q ⟨δ, c, G, ρ, hs, hh, p⟩ => ?_
  refine ⟨δ, c, G, ρ, hs, hh, (Post.bind (rel := SRep T) p).imp ?_⟩
  rintro v H1 ⟨s, c1, G1, ρ1, e1, p1, h1, r1, q1⟩
  cases hd : deref s c1 with
  | none => simp only [hd] at q1; exact q1.elim
  | some d =>
    cases d with
    | obj k2 xs =>
      simp only [hd] at q1
      cases hl : look [(n, i)] k2 with
      | none => simp only [hl] at q1; exact q1.elim
      | some j =>
        have hm := look_mem hl
        simp only [List.mem_singleton, Prod.mk.injEq] at hm
        obtain ⟨rfl, rfl⟩ := hm
        simp only [hl] at q1
        cases hx : xs[j]? with
        | none => simp only [hx] at q1; exact q1.elim
        | some x =>
          simp only [hx] at q1
          obtain ⟨a, dx, fv, rfl, ea, hfl, rr⟩ := deref_view h1 r1 hd
          obtain ⟨w, hw, rw'⟩ := rr.get hx
          have hj : j < xs.length := (List.getElem?_eq_some_iff.mp hx).1
          have hlk : fv.lookup g = some w := lookup_at (by rw [hfl]; exact nd_take P.nd _) (by rw [hfl, List.getElem?_take_of_lt hj]; exact P.fl) hw
          exact ⟨a, dx, fv, rfl, ea, a, dx, fv, w, rfl, ea, hlk, q1 _ H1 G1 ρ1 (.refl _) (List.prefix_refl _) h1 rw'⟩
    | _ => simp only [hd] at q1; exact q1.elim
/-! ### gcd(a, b) -/
def gcdD : List D → Option D
  | [.int a, .int b] => some (.int (Nat.gcd a.natAbs b.natAbs : Nat))
  | _ => none
theorem fresh_gcd : FreshN T gcdD rGcd := by
  intro G H x d v Q e vw h k
  unfold gcdD at h
  split at h
  · cases h
    obtain ⟨u, w, rfl, a, b⟩ := vw.two
    have := View.int_inv a; subst this
    have := View.int_inv b; subst this
    exact ⟨_, _, rfl, k _ _ _ (Step.refl e) Rep.int⟩
  · cases h
theorem dn_gcd {B : MA} (hg : Gl X "gcd") (hm : X.mg "gcd" = some (.builtin "math.gcd")) (ha : PA X (e :: es) (tDA T W B)) (he : starEach (e :: es) X.env = (false, eval e X.env) :: starEach es X.env := by rfl) (hpl : (backTo pos (starEach es X.env)).any (·.1) = false := by rfl) :
    PE X (.Call (.Name "gcd" p) (e :: es) [] pos) (tD T W (mBlt (liftN gcdD) B)) := PE.imp (pe_callBfun cr_gcd hg hm ha (by decide) he hpl) fun _ _ _ h => tD_blt (primN fresh_gcd) h
end
/-! ### which class is which -/
theorem kit_own {K : PySem.W.Frag} {t : Value} {C : Addr} {r : Bool} (ne : (t == .ref C) = false) (h1 : PySem.W.isClsIn K C = true) (h2 : PySem.W.typeIn K (.ref C) = some (.type "type")) (h3 : PySem.W.subIn K t (.ref C) = some r) : PySem.W.kitOne K t (.ref C) = some r := by
  unfold PySem.W.kitOne
  rw [if_neg (by rw [ne]; decide)]
  unfold PySem.W.kitCls
  dsimp only
  rw [if_pos]
  · exact h3
  · rw [h2]
    unfold PySem.W.isClsIn at h1
    rw [h1]
    decide
theorem kit_typ {K : PySem.W.Frag} {C : Addr} {n : String} {r : Bool} (hm : PySem.W.kitMeta n = true) (h3 : PySem.W.subIn K (.ref C) (.type n) = some r) : PySem.W.kitOne K (.ref C) (.type n) = some r := by
  unfold PySem.W.kitOne
  rw [if_neg (by simp)]
  unfold PySem.W.kitCls
  dsimp only
  rw [if_pos hm]
  exact h3
theorem kitAny2 {K : PySem.W.Frag} {t a b : Value} {x y : Bool} (h : PySem.W.kitOne K t a = some x) (k : PySem.W.kitOne K t b = some y) : PySem.W.kitAny K t [a, b] = some (x || y) := by
  refine kitAny_cons h (fun e => ?_) (fun e => by rw [e]; rfl)
  subst e
  refine kitAny_cons k (fun e => ?_) (fun e => by rw [e]; rfl)
  subst e
  rfl
end Dn

end
section
set_option maxHeartbeats 4000000
/-! Dn25: texts (split, join, find, str, int, signs, reversed), starred displays, extend, lists that hold cells. -/
namespace Dn
open PySem PySem.Spec PyProof.Rows L2
section
variable {X : Cx} {T : Tb} {W : WX} {a b o e : Expr} {es : List Expr} {A B : M} {pos p p2 apos : Pos}
theorem PE.or {t u : TE} (h : PE X a t) (k : PE X a u) : PE X a (fun σ H Q => t σ H Q ∨ u σ H Q) := ⟨fun pins s σ H Q I q => q.elim (h.run pins s σ H Q I) (k.run pins s σ H Q I)⟩
/-! ### a method of a text with one argument -/
/-! find -/
/-! split -/
section
variable (ho : PE X o (tD T W A)) (he : PE X e (tD T W B)) (hs : starEach [e] X.env = [(false, eval e X.env)] := by rfl) (hbase : attributeBase o "split" X.env (eval o X.env) = eval o X.env := by rfl) (hline : (apos.endLine == pos.line) = true := by rfl)
include ho he hs hbase hline
end
/-! join -/
/-! ### str(x), int(x) -/
end
end Dn

end
section
set_option maxHeartbeats 4000000
/-! Dn26: signs of a text, in a text, starred displays. -/
namespace Dn
open PySem PySem.Spec PyProof.Rows L2
section
variable {X : Cx} {T : Tb} {W : WX} {a b o e : Expr} {es : List Expr} {A B : M} {pos p p2 p3 apos : Pos}
/-! ### the signs of a text, walked -/
def signs (z : Str) : List D := z.cps.toList.map fun c => D.str ⟨#[c]⟩
/-! ### a sign in a text -/
section
variable {k : Nat} (hT : X.K = T.K) (hr : Room (k + 1) X.A) (ha : PE X a (tD T W A)) (hb : PE X b (tD T W B))
include hT hr ha hb
end
/-! ### *xs in a display -/
def starF (s : S) (c : Cs) : Option (List D) := match deref s c with
  | some (.lst xs) => some xs
  | some (.tup xs) => some xs
  | _ => none
def mStarC (A : M) (B : MA) : MA := fun δ c => (A δ c).bind fun s c => match starF s c with
  | some xs => (B δ c).bind fun ss c => .ok (xs.map S.d ++ ss) c
  | none => .bad
theorem SReps.datas {G : Hp} {ρ : List Addr} : ∀ {xs : List D} {vs : List V}, Reps T G xs vs → SReps T G ρ (xs.map S.d) vs
  | [], vs, r => by cases r.nil_inv; exact .nil
  | x :: xs, vs, r => by obtain ⟨v, us, rfl, a, b⟩ := r.cons_inv; exact .cons a (SReps.datas b)
theorem da_star {B : MA} (hT : X.K = T.K) (he : PE X e (tD T W A)) (hr : PA X es (tDA T W B)) (hs : starEach (.Starred e p :: es) X.env = (true, eval e X.env) :: starEach es X.env := by rfl) : PA X (.Starred e p :: es) (tDA T W (mStarC A B)) := by
  refine PA.imp (StX.pa_star he hr hs) fun σ H Q ⟨δ, c, G, ρ, hs, hh, p⟩ => ?_
  refine ⟨δ, c, G, ρ, hs, hh, (Post.bind (rel := SRep T) p).imp ?_⟩
  rintro v H1 ⟨s, c1, G1, ρ1, e1, p1, h1, r1, q1⟩
  unfold starF at q1
  have go : ∀ {xs : List D} {q : Addr} {vs : List V}, v = .ref q → (SqT X.K H1 q vs ∨ SqL X.K H1 q vs) → Reps T G1 xs vs → Post (SReps T) T W σ G1 ρ1 ((B δ c1).bind fun ss c => .ok (xs.map S.d ++ ss) c) Q → ∃ p xs, v = V.ref p ∧ (SqT X.K H1 p xs ∨ SqL X.K H1 p xs) ∧ tDA T W B σ H1 fun ys H2 => Q (xs ++ ys) H2 := by
    intro xs q vs ev hq r q2
    refine ⟨q, vs, ev, hq, δ, c1, G1, ρ1, hs.mono e1 p1, h1, (Post.bind (rel := SReps T) q2).imp ?_⟩
    rintro us H2 ⟨ss, c2, G2, ρ2, e2, p2, h2, r2, q3⟩
    exact q3 _ H2 G2 ρ2 (.refl _) (List.prefix_refl _) h2 ((SReps.datas (Reps.mono e2 _ _ r)).append r2)
  cases hd : deref s c1 with
  | none => simp only [hd] at q1; exact q1.elim
  | some d =>
    cases d with
    | lst xs =>
      simp only [hd] at q1
      obtain ⟨q, us, ev, sq, _, r⟩ := deref_view h1 r1 hd
      exact go ev (.inr (by rw [hT]; exact SqL.of sq)) r q1
    | tup xs =>
      simp only [hd] at q1
      obtain ⟨q, us, ev, sq, _, r⟩ := View.tup_inv (deref_view h1 r1 hd)
      exact go ev (.inl (by rw [hT]; exact SqT.of (h1.ex _ _ sq))) r q1
    | _ => simp only [hd] at q1; exact q1.elim
end
end Dn

end
section
set_option maxHeartbeats 4000000
/-! Dn27: extend, [::-1], lists that hold cells, {'a': x}. -/
namespace Dn
open PySem PySem.Spec PyProof.Rows L2
section
variable {X : Cx} {T : Tb} {W : WX} {a b o e : Expr} {es : List Expr} {A B : M} {pos p p1 p2 p3 apos : Pos}
/-! ### xs.extend(ys), xs a cell -/
/-! ### xs[::-1] -/
/-! ### a list with cells -/
/-! ### {'a': x}, x a local name -/
end
end Dn
namespace Dn
open PySem PySem.Spec PyProof.Rows L2
end Dn
namespace Dn
open PySem PySem.Spec PyProof.Rows L2
section
variable {X : Cx} {T : Tb} {W : WX} {a b : Expr} {pos : Pos}
end
end Dn

end
section
set_option maxHeartbeats 1000000
/-! Dn28: a generator expression handed to all or any, whose element may call defs. -/
namespace Dn
open PySem PySem.Spec PyProof.Rows L2

section
variable {X : Cx} {pins : List (Addr × Obj)} {σ : L2.St} {H : Hp} {s : Shared}
end

/-! ### the generator's run -/
section
variable {Z : Cx} {a it C : Addr} {go : Obj} {fp : List Addr} {tn : Nat → Heap → Prop} {i N : Nat} {σw : L2.St} {al : Bool} {J : It} {g : TG} {te : TE} {W : Nat → Hp → Prop} {Qd : Bool → Hp → Prop}
/-- what each turn asks -/
def Gw (al : Bool) (J : It) (g : TG) (te : TE) (σw : L2.St) (vs : List Nat) (N : Nat) (W : Nat → Hp → Prop) (Qd : Bool → Hp → Prop) : Prop := ∀ j H, W j H →
  (J.stop j H ∧ Qd al H) ∨ (j < N ∧ J.go j H ∧ ∀ x H', J.yld j H x H' → g x σw H' fun σ2 H2 => wipe σ2 vs = σw ∧ te σ2 H2 fun y H3 => ∃ b, y = .bl b ∧ if b = al then W (j + 1) H3 else Qd b H3)
end
end Dn

end
section
set_option maxHeartbeats 1000000
/-! Dn29: all, any of a generator: the consumer, the making. -/
namespace Dn
open PySem PySem.Spec PyProof.Rows L2

section
variable {Z : Cx} {a : Addr} {go : Obj} {fp : List Addr} {tn : Nat → Heap → Prop} {N : Nat} {σw : L2.St} {W : Nat → Hp → Prop} {Qd : Bool → Hp → Prop}
end

/-! ### the making -/
section
variable {Z : Cx} {a it : Addr} {go : Obj} {fp : List Addr} {tn : Nat → Heap → Prop} {i N : Nat} {σw : L2.St} {al : Bool} {J : It} {g : TG} {te : TE} {W : Nat → Hp → Prop} {Qd : Bool → Hp → Prop}
end
section
variable {X : Cx} {pins : List (Addr × Obj)} {σ : L2.St} {H : Hp} {s : Shared} {c P : Addr} {elt iter : Expr} {x : Str} {i k : Nat} {px gpos : Pos} {scope : Scope} {al : Bool} {g : TG} {te : TE} {ti : TI}
end

/-! ### over data -/
/-- the def's table is the j-th, it stands in cell j -/
def hasTb (j : Nat) (c : Cs) : Bool := match c[j]? with
  | some (.tb k) => k == j
  | _ => false
theorem RelH.tab {T : Tb} {H : Hp} {c : Cs} {G : Hp} {ρ : List Addr} {j : Nat} (r : RelH T H c G ρ) (hl : T.lam j = Option.none) (h : hasTb j c = true) : GxR.TabG H (T.tb j) ∧ ∀ H2, GxR.Tabbed (T.tb j) H H2 → RelH T H2 c G ρ := by
  unfold hasTb at h
  cases hc : c[j]? with
  | none => rw [hc] at h; cases h
  | some x =>
    rw [hc] at h
    cases x with
    | tb k =>
      have h : (k == j) = true := h
      have e : k = j := by simpa using h
      subst e
      have hj : k < ρ.length := by rw [r.len]; exact (List.getElem?_eq_some_iff.mp hc).1
      have hp : ρ[k]? = some ρ[k] := List.getElem?_eq_getElem hj
      obtain ⟨g0, e0, ps, a, b, _⟩ := r.at_ k _ _ hp hc
      rw [e0] at a g0
      refine ⟨⟨ps, a, b⟩, fun H2 ⟨⟨ps2, a2, b2⟩, k2⟩ => ⟨fun p o e => ?_, r.len, r.nd, fun i p x hi hx => ?_⟩⟩
      · rw [k2 p (fun z => by rw [z, g0] at e; cases e)]
        exact r.ex p o e
      · obtain ⟨g1, ok⟩ := r.at_ i p x hi hx
        refine ⟨g1, ?_⟩
        by_cases hpk : p = T.tb k
        · have e1 : i = k := by
            exact (List.getElem?_inj (List.getElem?_eq_some_iff.mp hi).1 r.nd).mp (by rw [hi, hp, e0, hpk])
          subst e1
          rw [hc] at hx
          cases hx
          exact ⟨hpk, ps2, by rw [hpk]; exact a2, b2, LamOk.no hl⟩
        · exact ok.keep (.refl _) (k2 p hpk) (List.prefix_refl _)
    | _ => cases h
section
variable {X : Cx} {T : Tb} {W : WX} {I : MI} {g : GT} {A : M} {i j : Nat}
variable {c : Addr} {elt iter : Expr} {x : Str} {k : Nat} {p px gpos pos : Pos} {scope : Scope}
end
end Dn

end
section
set_option maxHeartbeats 1000000
/-! Dn30: own operators; defs whose code makes generators; the end of a law with tables. -/
namespace Dn
open PySem PySem.Spec PyProof.Rows L2
/-! ### own operators -/
structure OpAt (K : PySem.W.Frag) (T : Tb) (k : Nat) (op : Operator) : Prop where
  first : PySem.W.selfFirst K (T.cl k) = true
  r : ∃ rc, PySem.W.findIn K (.ref (T.cl k)) (PySem.dunderR op.info.2) = some rc ∧ (rc = none ∨ ∃ g : Addr, rc = some (.ref g))
  l1 : ∃ fo, PySem.W.findIn K (.type "int") (PySem.dunder op.info.2) = some fo
  l2 : ∃ ro, PySem.W.findIn K (.type "int") (PySem.dunderR op.info.2) = some ro
  sub : PySem.W.subIn K (.type "int") (.ref (T.cl k)) = some false
inductive OpsAt (K : PySem.W.Frag) (T : Tb) (op : Operator) : List (Nat × (List S → Cs → R S)) → Prop
  | nil : OpsAt K T op []
  | cons {c : Nat} {fn : List S → Cs → R S} {l : List (Nat × (List S → Cs → R S))} : OpAt K T c op → OpsAt K T op l → OpsAt K T op ((c, fn) :: l)
theorem OpsAt.get {K : PySem.W.Frag} {T : Tb} {op : Operator} {l : List (Nat × (List S → Cs → R S))} (h : OpsAt K T op l) {c : Nat} {fn : List S → Cs → R S} (hm : (c, fn) ∈ l) : OpAt K T c op := by
  induction h with
  | nil => cases hm
  | cons a _ ih =>
    rcases List.mem_cons.mp hm with z | z
    · cases z; exact a
    · exact ih z
section
variable {X : Cx} {T : Tb} {W : WX} {a b : Expr} {A B : M} {pos : Pos} {tbl : List (Nat × (List S → Cs → R S))} {n : Nat} {op : Operator}
theorem cmpBack_of {pins : List (Addr × Obj)} {σ : L2.St} {Q : VK} {u : Value} {s' : Shared} (h : EP X pins σ Q u s') : PySem.W.CmpBack (EP X pins σ Q) u s' := by
  cases u with
  | notImplemented =>
    obtain ⟨v, H', I, r, q⟩ := h
    cases v <;> first | (obtain ⟨_, z⟩ := r; cases z; done) | (cases r; done)
  | _ => exact h
theorem run_own {fn : List S → Cs → R S} {m : Str} {j k : Nat} {pins : List (Addr × Obj)} {σ : L2.St} {H : Hp} {s : Shared} {Q : VK} {us : List Value} {vs : List V} (M : MethAt X.prog X.w X.K X.mg X.base T m k j fn) (hr : Room j X.A)
    (I : Inv X pins σ H s) (r : Vals vs us) (h : spD T fn vs H Q fun _ _ _ => False) : ∃ f, Meth X.K (T.cl k) m f ∧ wpAny (model X.prog X.w) X.A (call (.ref f) us) (EP X pins σ Q) X.xe s := by
  obtain ⟨f, fd, ps, F, hm, hc, _, hb⟩ := M
  refine ⟨f, hm, ?_⟩
  have hl := F.len _ _ _ _ h
  have bb := hb s us I.kIn (by rw [List.append_nil, ← r.length]; exact hl)
  rw [List.append_nil] at bb
  refine wpAny_call (codeAny_mono (F.run X.A X.stack s H ⟨us, []⟩ us vs _ _ hr I.env0 bb r h) fun fl s' hq => ?_)
  cases fl with
  | error e =>
    obtain ⟨_, _, _, _, _, _, _, _, _, _, _, _, z⟩ := hq
    exact z.elim
  | ok fl =>
    cases fl with
    | ret w => exact I.after hq
    | next => exact False.elim hq
    | brk => exact False.elim hq
    | cont => exact False.elim hq
theorem rep_inst {pins : List (Addr × Obj)} {σ : L2.St} {H : Hp} {s : Shared} {k : Nat} {xs : List D} {v : V} (I : Inv X pins σ H s) (h : Rep T H (.obj k xs) v) : ∃ a dx od, v = .ref a ∧ PySem.W.InstAt s.heap a (PySem.W.instObj (T.cl k) dx) (T.cl k) (some od) := by
  obtain ⟨p, dx, fv, rfl, e, _⟩ := h.obj_inv
  obtain ⟨mA, J, _⟩ := ins_get I.hok e
  obtain ⟨od, J, _⟩ := J.look
  exact ⟨p, dx, od, rfl, J⟩
end

/-! ### defs whose code makes generators or lambdas: the code's table is known -/
section
variable {P : Program} {w : World} {K : PySem.W.Frag} {mg : Str → Option Value} {base : Heap} {T : Tb} {k : Nat}
def DefAtC (K : PySem.W.Frag) (mg : Str → Option Value) (x : Str) (st : Stmt) (ps : List Str) (c : Addr) : Prop :=
  ∃ f fd, Fun K x x st f fd ∧ mg x = some (.ref f) ∧ PySem.W.keepIn K (.ref f) = true ∧ Binds K fd ps [] ∧ fd.code = .ref c
/-- the code and table of def number j -/
abbrev TabA (base : Heap) (mg : Str → Option Value) (T : Tb) (j : Nat) : Prop := GxR.TabB base mg (T.tb (1000 + j)) (T.tb j)
theorem exG (kp : Bool) : ExitOk T (exitR kp) := ⟨exit_ok⟩
/-! ### the end -/
/-- what the head says of the tables of the module's defs -/
def TabsOf (q : Program) (mg : Str → Option Value) (h : Heap) : Prop := ∀ d ∈ recsOf q, ∃ a o fd c P, mg d.name = some (.ref a) ∧ h.get? a = some o ∧ o.data = .func fd ∧ fd.code = .ref c ∧ h.IsCode c P #[] ∧ h.TableAt c P #[]
structure TabIs (K : PySem.W.Frag) (h : Heap) (c P : Addr) : Prop where
  tab : h.get? P = some { cls := .none, data := .fields #[] }
  none : K.lookup P = none
  code : PySem.W.CodeHd h c P
theorem tab_is {q : Program} {h : Heap} {x : Str} {f c P : Addr} {oc : Value} {od : Option Addr} {fd : FuncData} {osl : Array (Option Value)} {vs : List Value} (KX : K.In h) (TS : TabsOf q mg h) (hx : ((recsOf q).any fun e => e.name == x) = true) (hm : mg x = some (.ref f))
    (l : K.lookup f = some ⟨oc, od, .func fd, osl⟩) (hc : fd.code = .ref c) (rc : PySem.W.recIn K c "code" = some vs) (vx : vs[11]? = some (.ref P)) (nt : PySem.W.typeIn K (.ref P) = none) : TabIs K h c P := by
  obtain ⟨dL, hmem, hn⟩ := List.any_eq_true.mp hx
  obtain ⟨a, o, fd', c', P', h1, h2, h3, h4, h5, h6⟩ := TS dL hmem
  rw [beq_iff_eq.mp hn, hm] at h1
  cases h1
  have g1 := KX _ _ l
  rw [g1] at h2
  cases h2
  cases h3
  rw [hc] at h4
  cases h4
  obtain ⟨d2, sl2, g2⟩ := PySem.W.rec_of KX rc
  have cd := PySem.W.CodeHd.of h5 h6
  obtain ⟨⟨o2, vs2, e1, e2, e3, e4⟩, hP⟩ := id h6
  rw [g2] at e1
  cases e1
  cases e3
  have e5 : vs[11]? = some (.ref P') := by simpa using e4
  rw [vx] at e5
  cases e5
  refine ⟨hP, ?_, cd⟩
  have nt : (K.lookup P).map (·.cls) = none := nt
  cases hl : K.lookup P with
  | none => rfl
  | some o => rw [hl] at nt; cases nt
def tbs (n : Nat) : Cs := (List.range n).map CC.tb
def LawTrueT (n : Nat) (d : List S → Cs → R S) : Prop := ∀ ns : List Int, ns.length ≤ 63 → (∀ z ∈ ns, Builtin.Int.intBits z ≤ 1048576) → d [.d (.scr ns)] (tbs n) = .ok (.d (.bl true)) (tbs n)
def spLawT (T : Tb) (n : Nat) : Sp := fun vs H Q _ => ∃ (a : Addr) (ns : List Int), vs = [.ref a] ∧ SqL T.K H a (ns.map V.int) ∧ ns.length ≤ 63 ∧ (∀ z ∈ ns, Builtin.Int.intBits z ≤ 1048576) ∧ (∀ j, j < n → H (T.tb j) = some (.tbl #[])) ∧ ((List.range n).map T.tb).Nodup ∧ ∀ H', Q (.bl true) H'
theorem law_endT {CX : CXT} {n : Nat} {f : Addr} {fd : FuncData} {ps : List Str} {d : List S → Cs → R S} (hd : LawTrueT n d) (F : FnOk P w K mg base CX k f fd ps (spD T d)) : FnOk P w K mg base CX k f fd ps (spLawT T n) := by
  refine F.imp fun vs H Q E h => ?_
  obtain ⟨a, ns, rfl, hS, hl, hb, ht, nd, q⟩ := h
  have mem : ∀ b, b ∈ (List.range n).map T.tb → ∃ j, j < n ∧ T.tb j = b := fun b hb => by
    obtain ⟨j, hj, e⟩ := List.mem_map.mp hb
    exact ⟨j, List.mem_range.mp hj, e⟩
  have sc : SqL T.K (fun b => if b ∈ (List.range n).map T.tb then none else H b) a (ns.map V.int) := by
    rcases hS with hS | hS
    · have na : a ∉ (List.range n).map T.tb := fun z => by
        obtain ⟨j, hj, e⟩ := mem a z
        have := ht j hj
        rw [e] at this
        rcases hS with h | ⟨o, h⟩
        · rw [h] at this; cases this
        · rw [h] at this; cases this
      refine .inl ?_
      rcases hS with h | ⟨o, h⟩
      · exact .inl ((if_neg na).trans h)
      · exact .inr ⟨o, (if_neg na).trans h⟩
    · exact .inr hS
  refine ⟨[.d (.scr ns)], tbs n, fun b => if b ∈ (List.range n).map T.tb then none else H b, (List.range n).map T.tb, .cons (Rep.scr sc (Nat.le_trans hl (by decide))) .nil, ⟨fun b o e => ?_, by simp [tbs], nd, fun i p x hp hx => ?_⟩, ?_⟩
  · by_cases hb : b ∈ (List.range n).map T.tb
    · have e : (if b ∈ (List.range n).map T.tb then none else H b) = some o := e
      rw [if_pos hb] at e; cases e
    · have e : (if b ∈ (List.range n).map T.tb then none else H b) = some o := e
      rw [if_neg hb] at e; exact e
  · have hi : i < n := by
      have := (List.getElem?_eq_some_iff.mp hp).1
      simpa using this
    have e1 : p = T.tb i := by
      rw [List.getElem?_map, List.getElem?_range hi] at hp
      exact (Option.some.inj hp).symm
    have e2 : x = .tb i := by
      unfold tbs at hx
      rw [List.getElem?_map, List.getElem?_range hi] at hx
      exact (Option.some.inj hx).symm
    subst e1 e2
    refine ⟨if_pos (List.mem_map.mpr ⟨i, List.mem_range.mpr hi, rfl⟩), rfl, #[], ht i hi, trivial, LamOk.nil⟩
  · rw [hd ns hl hb]
    intro v H' G' ρ' eg pr rh rv
    have : v = .bl true := SRep.bl_inv rv
    subst this
    exact q H'
theorem walkDT {l : PySem.W.OpenLaw} {q : Program} {loose : List Str} {XP : (Str → Option Value) → Heap → Prop} {YP : World → Heap → Prop} {d : DefRec} {K : Params → PySem.W.Frag} {x : Str} (hk : k ≤ 60) (hn : l.most = some 63) (hdf : d.params.defaults = [])
    (hY : ∀ (w : World) (h : Heap), YP w h → (K w.params).In h)
    (F : ∀ (w : World) (mg : Str → Option Value) (fa : Addr) (h : Heap), (K w.params).In h → h.Ns mainGlobals mg → mg d.name = some (.ref fa) → TabsOf q mg h →
      ∃ (fd : FuncData) (n : Nat) (T : Tb), T.K = K w.params ∧ (∀ j, j < n → TabIs (K w.params) h (T.tb (1000 + j)) (T.tb j)) ∧ ((List.range n).map T.tb).Nodup ∧ (∀ (s : Shared) (u : Value), BindsTo s fd ⟨[u], []⟩ [(x, u)]) ∧
        ∀ base : Heap, (K w.params).In base → base.Ns mainGlobals mg → (∀ j, j < n → TabA base mg T j) → FnOk l.prog w (K w.params) mg base (L2.CX l.prog w) k fa fd [x] (spLawT T n)) :
    PySem.W.WalkO q loose XP YP l.row.toRowW d [] (fun f vs => PySem.call f vs) := by
  have hr : Room k callerA := (⟨rfl, by decide, by decide⟩ : Room 60 callerA).mono hk
  refine Att.attach_callB hn hdf fun w s₀ s₁ mg mb fa o pm cd doc a vs ns G Y ho hd hcd hmg hobj hints hlen hbits hg => ?_
  have KX := hY w _ Y
  obtain ⟨fd, n, T, hT, tis, nd, hb, hF⟩ := F w mg fa _ KX G.T.g hmg G.T.tab
  have idx : ∀ p ∈ (List.range n).map (fun j => (T.tb (1000 + j), T.tb j)), ∃ j, j < n ∧ (T.tb (1000 + j), T.tb j) = p := fun p hp => by
    obtain ⟨j, hj, e⟩ := List.mem_map.mp hp
    exact ⟨j, List.mem_range.mp hj, e⟩
  refine LamX.law_callTs (cs := (List.range n).map (fun j => (T.tb (1000 + j), T.tb j))) (sp := spLawT T n) (k := k) (CX := L2.CX l.prog w) KX G.T.g G.T.b G.T.builtins G.T.nolimit hg (fun p hp => ?_) (fun p hp => ?_) (fun p hp => ?_) G.T.bmain hobj hints (Nat.le_trans hlen (by decide)) hr (fun base h1 h2 h3 => ?_) hb (fun H hH hS => ?_) fun _ _ _ ⟨_, _, _, _, _, _, _, _, _, _, _, _, z⟩ => z
  · obtain ⟨j, hj, rfl⟩ := idx p hp; exact (tis j hj).tab
  · obtain ⟨j, hj, rfl⟩ := idx p hp; exact (tis j hj).none
  · obtain ⟨j, hj, rfl⟩ := idx p hp; exact (tis j hj).code
  · exact hF base h1 h2 fun j hj => let t := h3 _ (List.mem_map.mpr ⟨j, List.mem_range.mpr hj, rfl⟩); ⟨t.code, t.bm, t.gP⟩
  · exact ⟨a, ns, rfl, by rw [hT]; exact hS, hlen, hbits, fun j hj => hH _ (List.mem_map.mpr ⟨j, List.mem_range.mpr hj, rfl⟩), nd, fun _ => rfl⟩
def tbOfT (K : PySem.W.Frag) (cl : List Addr) (fl : List (List Str)) (ts cs : List Addr) (ls : List (Option Str)) : Tb := ⟨K, fun n => cl.getD n 0, fun n => fl.getD n [], none, fun j => if j < 1000 then ts.getD j 0 else cs.getD (j - 1000) 0, fun j => ls.getD j none, none⟩
end
end Dn

end
section
set_option maxHeartbeats 1000000
/-! Dn31: comprehensions whose items are cells; list(x) as a cell; append, clear where items are cells. -/
namespace Dn
open PySem PySem.Spec PyProof.Rows L2
/-! ### the list that is built moves behind its items -/
section
variable {T : Tb} {G H : Hp} {ρ : List Addr} {c : Cs}
end
section
variable {X : Cx} {T : Tb} {W : WX} {a b o e : Expr} {es : List Expr} {A B : M} {pos p apos : Pos}
variable {elt tg iter : Expr} {ifs : List Expr} {scope : Scope} {own : List (Str × Nat)} {I : MI} {g : GT} {C : MT}
end
/-! ### list(x), sorted(x) as cells -/
section
variable {X : Cx} {T : Tb} {W : WX} {a b o e : Expr} {es : List Expr} {A : M} {pos p apos : Pos} {B : MA}
/-! ### len of a list with cells -/
def lenX (g : List D → Option D) (ss : List S) (c : Cs) : R S := match ss with
  | [.c n] => match c[n]? with
    | some (.lS xs) => .ok (.d (.int xs.length)) c
    | some (.tS xs) => .ok (.d (.int xs.length)) c
    | _ => liftN g [.c n] c
  | ss => liftN g ss c
theorem prim_lenX {g : List D → Option D} {r : List V → Hp → VK → Prop} (h : FreshN T g r) (hr : ∀ p ys H Q, (SqL T.K H p ys ∨ SqT T.K H p ys) → Q (.int ys.length) H → r [.ref p] H Q) : PrimN T (lenX g) r := by
  intro W σ G ρ H c ss vs Q hh rs p
  unfold lenX at p
  have old := primN h W σ G ρ H c ss vs Q hh rs
  split at p
  · rename_i n
    obtain ⟨v, rfl, r1⟩ := rs.one
    obtain ⟨q, hq, rfl⟩ := r1
    cases hc : c[n]? with
    | none => simp only [hc] at p; exact old p
    | some cc =>
      cases cc with
      | lS xs =>
        simp only [hc] at p
        obtain ⟨_, vs, a, _, cr⟩ := hh.at_ n q _ hq hc
        refine hr q vs H Q (.inl (SqL.of a)) ?_
        rw [cr.length]
        exact p _ H G ρ (.refl _) (List.prefix_refl _) hh SRep.int
      | tS xs =>
        simp only [hc] at p
        obtain ⟨_, vs, a, _, cr⟩ := hh.at_ n q _ hq hc
        refine hr q vs H Q (.inr (SqT.of a)) ?_
        rw [cr.length]
        exact p _ H G ρ (.refl _) (List.prefix_refl _) hh SRep.int
      | lst _ => simp only [hc] at p; exact old p
      | dct _ => simp only [hc] at p; exact old p
      | obj _ _ => simp only [hc] at p; exact old p
      | tb _ => simp only [hc] at p; exact old p
      | dT _ => simp only [hc] at p; exact old p
  · exact old p
theorem dn_lenX (hT : X.K = T.K) (hg : Gl X "len") (hm : X.mg "len" = none) (ha : PA X (e :: es) (tDA T W B)) (he : starEach (e :: es) X.env = (false, eval e X.env) :: starEach es X.env := by rfl) (hpl : (backTo pos (starEach es X.env)).any (·.1) = false := by rfl) : PE X (.Call (.Name "len" p) (e :: es) [] pos) (tD T W (mBlt (lenX lenD) B)) :=
  dn_callB (by have := (call_len_seq (X := X)).or call_len_str; rw [hT] at this; exact this) (prim_lenX fresh_len fun p ys H Q h q => .inl ⟨p, ys, rfl, h, q⟩) hg hm PySem.boot_len ha (by decide) (by decide) he hpl
theorem dn_lenXO {k : Nat} {tbl : List (Nat × (Nat × (List S → Cs → R S)))} (hT : X.K = T.K) (hr : Room (k + 1) X.A) (hM : LensAt X.prog X.w X.K X.mg X.base T k tbl) (hg : Gl X "len") (hm : X.mg "len" = none) (ha : PA X (e :: es) (tDA T W B)) (he : starEach (e :: es) X.env = (false, eval e X.env) :: starEach es X.env := by rfl) (hpl : (backTo pos (starEach es X.env)).any (·.1) = false := by rfl) : PE X (.Call (.Name "len" p) (e :: es) [] pos) (tD T W (mBlt (lenX (lenO tbl)) B)) :=
  dn_callB (by have := ((call_len_seq (X := X)).or call_len_str).or (call_lenO hr hM); rw [hT] at this; exact this) (prim_lenX (fresh_lenO fun c nf fn h => let ⟨_, _, _, q⟩ := hM.get h; q) fun p ys H Q h q => .inl (.inl ⟨p, ys, rfl, h, q⟩)) hg hm PySem.boot_len ha (by decide) (by decide) he hpl
/-! ### append to a list with cells -/
def appendS (o : S) (ss : List S) (c : Cs) : R S := match o, ss with
  | .c n, [.d x] => match c[n]? with
    | some (.lst acc) => if acc.length < sizeLine then .ok (.d .non) (c.set n (.lst (acc ++ [x]))) else .bad
    | some (.lS acc) => if acc.length < sizeLine then .ok (.d .non) (c.set n (.lS (acc ++ [.d x]))) else .bad
    | _ => .bad
  | _, _ => .bad
def mAppendS (A : M) (B : MA) : M := fun δ c => (A δ c).bind fun o c => match o with
  | .c n => match cellL n c with
    | some _ => (B δ c).bind fun ss c => appendS o ss c
    | none => .bad
  | _ => .bad
theorem dn_appendS (ho : PE X o (tD T W A)) (ha : PA X (e :: es) (tDA T W B)) (h : ∀ {to : TE} {t : TA}, PE X o to → PA X (e :: es) t → PE X (.Call (.Attribute o "append" apos) (e :: es) [] pos) (tBM X.K "list" rAppend to t)) : PE X (.Call (.Attribute o "append" apos) (e :: es) [] pos) (tD T W (mAppendS A B)) := by
  refine PE.imp (h ho ha) fun σ H Q ⟨δ, c, G, ρ, hs, hh, p⟩ => ?_
  refine ⟨δ, c, G, ρ, hs, hh, (Post.bind (rel := SRep T) p).imp ?_⟩
  rintro v H1 ⟨s, c1, G1, ρ1, e1, p1, h1, r1, q1⟩
  cases s with
  | d _ => exact q1.elim
  | x _ _ => exact q1.elim
  | f => exact q1.elim
  | c n =>
    obtain ⟨pa, hpa, rfl⟩ := r1
    cases hc : cellL n c1 with
    | none => simp only [hc] at q1; exact q1.elim
    | some xs0 =>
      simp only [hc] at q1
      obtain ⟨vs0, ho0, _⟩ := cellL_rep h1 hpa hc
      refine ⟨.inl ⟨rfl, _, SqL.of ho0⟩, δ, c1, G1, ρ1, hs.mono e1 p1, h1, (Post.bind (rel := SReps T) q1).imp ?_⟩
      rintro us H2 ⟨ss, c2, G2, ρ2, e2, p2, h2, r2, q2⟩
      unfold appendS at q2
      split at q2
      · rename_i _ _ n' x heq1
        cases heq1
        obtain ⟨u, rfl, ru⟩ := r2.one
        have hpa2 := pre_get p2 hpa
        cases hc2 : c2[n]? with
        | none => simp only [hc2] at q2; exact q2.elim
        | some cc =>
          cases cc with
          | lst acc =>
            simp only [hc2] at q2
            obtain ⟨_, vs, ho2, hl, rr⟩ := h2.at_ n pa _ hpa2 hc2
            by_cases hlt : acc.length < sizeLine
            · rw [if_pos hlt] at q2
              exact ⟨pa, vs, u, rfl, rfl, ho2, by rw [rr.length]; exact hlt, q2 _ _ G2 ρ2 (.refl _) (List.prefix_refl _) (h2.cell (x := .lst (acc ++ [x])) hpa2 fun H' hH' _ => ⟨_, hH', by rw [List.length_append]; simp; omega, Reps.append rr (Reps.cons ru Reps.nil)⟩) SRep.non⟩
            · rw [if_neg hlt] at q2; exact q2.elim
          | lS acc =>
            simp only [hc2] at q2
            obtain ⟨_, vs, ho2, hl, rr⟩ := h2.at_ n pa _ hpa2 hc2
            by_cases hlt : acc.length < sizeLine
            · rw [if_pos hlt] at q2
              have app : ∀ {xs : List S} {us : List V}, CReps T G2 (ρ2.take n) xs us → CReps T G2 (ρ2.take n) (xs ++ [.d x]) (us ++ [u]) := by
                intro xs us r
                induction r with
                | nil => exact .cons ru .nil
                | cons a _ ih => exact .cons a ih
              exact ⟨pa, vs, u, rfl, rfl, ho2, by rw [rr.length]; exact hlt, q2 _ _ G2 ρ2 (.refl _) (List.prefix_refl _) (h2.cell (x := .lS (acc ++ [.d x])) hpa2 fun H' hH' _ => ⟨_, hH', by rw [List.length_append]; simp; omega, app rr⟩) SRep.non⟩
            · rw [if_neg hlt] at q2; exact q2.elim
          | _ => simp only [hc2] at q2; exact q2.elim
      · exact q2.elim
theorem dn_appS (ho : PE X o (tD T W A)) (ha : PA X (e :: es) (tDA T W B)) (hbase : attributeBase o "append" X.env (eval o X.env) = eval o X.env := by rfl)
    (hfew : ((backTo pos (starEach (e :: es) X.env)).all (fun x => !x.1) && (backToKw pos (keywordEach [] X.env)).all (fun x => x.1.isSome)
      && decide ((e :: es).length + ([] : List Keyword).length + (if ([] : List Keyword).isEmpty then 0 else 1) < 30)) = true := by rfl)
    (hline : (apos.endLine == pos.line) = true := by rfl) (hs : starEach (e :: es) X.env = (false, eval e X.env) :: starEach es X.env := by rfl) (hplain : (backTo pos (starEach es X.env)).any (·.1) = false := by rfl) :
    PE X (.Call (.Attribute o "append" apos) (e :: es) [] pos) (tD T W (mAppendS A B)) :=
  dn_appendS ho ha fun h1 h2 => pe_bm PySem.F.plainAttrs_list PySem.F.slot_list_append PySem.F.type_list_append mt_append h1 h2 hbase hfew hline hs hplain
end
/-! ### methods left with their cells -/
section
variable {P : Program} {w : World} {K : PySem.W.Frag} {mg : Str → Option Value} {base : Heap} {T : Tb} {k : Nat}
end
end Dn

end
section
set_option maxHeartbeats 1000000
/-! Dn32: an own == with anything on the right. -/
namespace Dn
open PySem PySem.Spec PyProof.Rows L2
def eqG (tbl : List (Nat × (List S → Cs → R S))) (kd : Kinds) (f : Nat) (s t : S) (c : Cs) : R S := match s with
  | .d (.obj k xs) => match look tbl k with
    | some fn => match topD t c with
      | some d => if kd.ask d = some true then (fn [.d (.obj k xs), t] c).bindN fun r c => (asB r c).bindN fun b c => .ok (.d (.bl b)) c else .bad
      | none => .bad
    | none => .bad
  | s => eqY tbl f false s t c
/-- no class below the k-th one has an own say first -/
inductive NotFirst (K : PySem.W.Frag) (T : Tb) (kd : Kinds) : List (Nat × (List S → Cs → R S)) → Prop
  | nil : NotFirst K T kd []
  | cons {c : Nat} {fn : List S → Cs → R S} {l : List (Nat × (List S → Cs → R S))} : KindsOk K T (fun t => some (PySem.W.notFirst K (T.cl c) t)) kd → NotFirst K T kd l → NotFirst K T kd ((c, fn) :: l)
theorem NotFirst.get {K : PySem.W.Frag} {T : Tb} {kd : Kinds} {l : List (Nat × (List S → Cs → R S))} (h : NotFirst K T kd l) {c : Nat} {fn : List S → Cs → R S} (hm : (c, fn) ∈ l) : KindsOk K T (fun t => some (PySem.W.notFirst K (T.cl c) t)) kd := by
  induction h with
  | nil => cases hm
  | cons a _ ih =>
    rcases List.mem_cons.mp hm with z | z
    · cases z; exact a
    · exact ih z
section
variable {X : Cx} {T : Tb} {W : WX} {a b : Expr} {A B : M} {pos : Pos} {tbl : List (Nat × (List S → Cs → R S))} {kd : Kinds} {n f : Nat}
def rEqG (X : Cx) (T : Tb) (tbl : List (Nat × (List S → Cs → R S))) : R2 := fun v u H Q => ∃ k fn xs t, look tbl k = some fn ∧ Rep T H (.obj k xs) v ∧ TyX X.K H u t ∧ PySem.W.notFirst X.K (T.cl k) t = true ∧ spD T fn [v, u] H (fun r H' => ∃ b, r = .bl b ∧ Q (.bl b) H') fun _ _ _ => False
theorem op_eqG (hM : MethsAt X.prog X.w X.K X.mg X.base T "__eq__" n tbl) (hr : Room n X.A) : OpR X (compareOp .Eq) (rEqG X T tbl) := by
  intro pins s σ H x y v u Q I rv ru h
  obtain ⟨k, fn, xs, t, hl, hx, ty, nf, sp⟩ := h
  obtain ⟨j, hj, M⟩ := hM.get (look_mem hl)
  obtain ⟨g, hm, run⟩ := run_own (vs := [x, y]) (us := [v, u]) M (hr.mono hj) I (.cons rv (.cons ru .nil)) sp
  obtain ⟨ax, dx, od, rfl, J⟩ := rep_inst I hx
  obtain rfl : v = Value.ref ax := rv
  obtain ⟨m, hF⟩ := I.fr
  obtain ⟨P, kt, hP, _⟩ := kit_of I ru ty
  show wpAny (model X.prog X.w) X.A (richCompare .Eq (.ref ax) u) (EP X pins σ Q) X.xe s
  refine PySem.W.cmp_K (op := .Eq) (tb := t) hr.units0 hF I.ok.mod.kin J (kt.ty _ _ I.kIn hP) nf hm.at_ hm.fn (wpAny_mono run (fun w s' z => ?_) fun _ _ z => z)
  obtain ⟨z0, H', I', rz, b, rfl, q⟩ := z
  exact cmpBack_of ⟨.bl b, H', I', rz, q⟩
theorem prim_eqG (hM : MethsAt X.prog X.w X.K X.mg X.base T "__eq__" n tbl) (hN : NotFirst X.K T kd tbl) (hT : X.K = T.K) (hr : Room (n + f + 1) X.A) : Prim2 T (eqG tbl kd f) (fun x y H Q => rEqG X T tbl x y H Q ∨ rSem X (compareOp (cmpOf false)) x y H Q) := by
  intro W σ G ρ H c x y v u Q hh rx ry p
  unfold eqG at p
  split at p
  · rename_i k xs
    cases hl : look tbl k with
    | none => simp only [hl] at p; exact p.elim
    | some fn =>
      simp only [hl] at p
      cases ht : topD y c with
      | none => simp only [ht] at p; exact p.elim
      | some d =>
        simp only [ht] at p
        by_cases hk : kd.ask d = some true
        · rw [if_pos hk] at p
          obtain ⟨t, ty, nf⟩ := top_ty (hN.get (look_mem hl)) hh ry ht hk
          refine .inl ⟨k, fn, xs, t, hl, Rep.mono hh.ex _ _ rx, ty, Option.some.inj nf, [.d (.obj k xs), y], c, G, ρ, .cons rx (.cons ry .nil), hh, ?_⟩
          cases hf : fn [.d (.obj k xs), y] c with
          | bad => rw [hf] at p; exact p.elim
          | ex _ _ _ => rw [hf] at p; exact p.elim
          | ok s c' =>
            rw [hf] at p
            have p : Post (SRep T) T W σ G ρ ((asB s c').bindN fun b c => .ok (.d (.bl b)) c) Q := p
            cases s with
            | c n => exact p.elim
            | x _ _ => exact p.elim
            | f => exact p.elim
            | d x =>
              cases x with
              | bl b =>
                intro v' H' G' ρ' e pr rh rs
                exact ⟨b, SRep.bl_inv rs, p _ H' G' ρ' e pr rh SRep.bl⟩
              | _ => exact p.elim
        · rw [if_neg hk] at p; exact p.elim
  · exact .inr (prim_eqY hM hT hr W σ G ρ H c _ y v u Q hh rx ry p)
variable (hM : MethsAt X.prog X.w X.K X.mg X.base T "__eq__" n tbl) (hN : NotFirst X.K T kd tbl) (hT : X.K = T.K) (hr : Room (n + f + 1) X.A) (ha : PE X a (tD T W A)) (hb : PE X b (tD T W B))
include hM hN hT hr ha hb
theorem dn_eqG : PE X (.Compare a [.Eq] [b] pos) (tD T W (mBin (eqG tbl kd f) A B)) := dn_cmp (OpR.or (op_eqG hM (hr.mono (by omega))) (op_sem (f := compareOp (cmpOf false)))) (prim_eqG hM hN hT hr) ha hb (nomark _)
theorem dt_eqG : PT X (.Compare a [.Eq] [b] pos) (tDT T W (mTB (mBin (eqG tbl kd f) A B))) := dt_cmp (OpR.or (op_eqG hM (hr.mono (by omega))) (op_sem (f := compareOp (cmpOf false)))) (prim_eqG hM hN hT hr) ha hb (nomark _)
end
end Dn

end
section
set_option maxHeartbeats 1000000
/-! Dn33: an expression that uses data alone: the cells are hidden while it is evaluated. -/
namespace Dn
open PySem PySem.Spec PyProof.Rows L2
/-! ### an expression over data -/
def isTb : CC → Nat → Bool
  | .tb k, j => k == j
  | _, _ => false
/-- the first n cells are the tables -/
def tbsOk : Nat → Cs → Bool
  | 0, _ => true
  | n + 1, c => tbsOk n c && (match c[n]? with
    | some x => isTb x n
    | none => false)
def canHide : CC → Bool
  | .lst _ => true
  | .lS _ => true
  | .dct _ => true
  | _ => false
theorem tbsOk_get : ∀ {n : Nat} {c : Cs}, tbsOk n c = true → ∀ j, j < n → c[j]? = some (.tb j)
  | 0, _, _, j, hj => absurd hj (Nat.not_lt_zero _)
  | n + 1, c, h, j, hj => by
    unfold tbsOk at h
    rw [Bool.and_eq_true] at h
    by_cases e : j < n
    · exact tbsOk_get h.1 j e
    · have e : j = n := by omega
      subst e
      have h2 := h.2
      cases hc : c[j]? with
      | none => rw [hc] at h2; cases h2
      | some x =>
        rw [hc] at h2
        have h2 : isTb x j = true := h2
        cases x with
        | tb k =>
          have h2 : (k == j) = true := h2
          have : k = j := by simpa using h2
          subst this
          rfl
        | _ => cases h2
theorem tbsOk_take {n : Nat} {c : Cs} (h : tbsOk n c = true) : c.take n = tbs n ∧ n ≤ c.length := by
  have hl : n ≤ c.length := by
    rcases Nat.lt_or_ge c.length n with z | z
    · have := tbsOk_get h c.length z
      rw [List.getElem?_eq_none (Nat.le_refl _)] at this; cases this
    · exact z
  refine ⟨List.ext_getElem? fun i => ?_, hl⟩
  by_cases hi : i < n
  · rw [List.getElem?_take, if_pos hi, tbsOk_get h i hi]
    unfold tbs
    rw [List.getElem?_map, List.getElem?_range hi]
    rfl
  · rw [List.getElem?_eq_none (by simp; omega), List.getElem?_eq_none (by simp [tbs]; omega)]
section
variable {X : Cx} {T : Tb} {W : WX} {e : Expr} {A : M}
end
end Dn

end
section
/-! Dn34: how the functions are computed (rules for the plain laws). -/
namespace Dn
open PySem
section
variable {δ : Sl} {c : Cs}
theorem fnG_eq {kp : Bool} {np n : Nat} {b : MS} {ss : List S} (h : ss.length = np) : fnG kp np n b ss c = exitR kp c.length (b (ss.map some ++ List.replicate (n - np) none) c) := if_pos h
@[simp] theorem ex_rt {kp : Bool} {x : D} : exitR kp c.length (.rt (.d x) c) = .ok (.d x) c := by simp [exitR]
@[simp] theorem ex_nx {kp : Bool} {δ : Sl} : exitR kp c.length (.nx δ c) = .ok (.d .non) c := by simp [exitR]
theorem ex_ex {kp : Bool} {δ : Sl} {k : Nat} {xs : List S} (h : refsOk c.length xs = true) : exitR kp c.length (.ex k xs δ c) = .ex k xs c := by simp [exitR, h]
@[simp] theorem bind_ok {α β : Type} {a : α} {f : α → Cs → R β} : (R.ok a c).bind f = f a c := rfl
@[simp] theorem bindN_ok {α β : Type} {a : α} {f : α → Cs → R β} : (R.ok a c).bindN f = f a c := rfl
@[simp] theorem andS_ok {α : Type} {a : α} {f : α → Cs → RS} : (R.ok a c).andS δ f = f a c := rfl
@[simp] theorem asB_bl {b : Bool} : asB (.d (.bl b)) c = .ok b c := rfl
theorem seq_nx {m m' : MS} {δ' : Sl} {c' : Cs} (h : m δ c = .nx δ' c') : sSeq m m' δ c = m' δ' c' := by unfold sSeq; rw [h]
theorem seq_rt {m m' : MS} {s : S} {c' : Cs} (h : m δ c = .rt s c') : sSeq m m' δ c = .rt s c' := by unfold sSeq; rw [h]
theorem seq_ex {m m' : MS} {k : Nat} {xs : List S} {δ' : Sl} {c' : Cs} (h : m δ c = .ex k xs δ' c') : sSeq m m' δ c = .ex k xs δ' c' := by unfold sSeq; rw [h]
theorem if_t {C : MT} {m m' : MS} {c' : Cs} (h : C δ c = .ok true c') : sIf C m m' δ c = m δ c' := by unfold sIf; rw [h]; rfl
theorem if_f {C : MT} {m m' : MS} {c' : Cs} (h : C δ c = .ok false c') : sIf C m m' δ c = m' δ c' := by unfold sIf; rw [h]; rfl
theorem seq_go {m m' : MS} {δ' : Sl} {c' : Cs} {r : RS} (h : m δ c = .nx δ' c') (k : m' δ' c' = r) : sSeq m m' δ c = r := (seq_nx h).trans k
theorem if_no {C : MT} {m : MS} (h : C δ c = .ok false c) : sIf C m sNil δ c = .nx δ c := if_f h
theorem fn_rt {kp : Bool} {np n : Nat} {b : MS} {ss : List S} {x : D} (h : ss.length = np) (k : b (ss.map some ++ List.replicate (n - np) none) c = .rt (.d x) c) : fnG kp np n b ss c = .ok (.d x) c := by rw [fnG_eq h, k, ex_rt]
theorem fn_nx {kp : Bool} {np n : Nat} {b : MS} {ss : List S} {δ' : Sl} (h : ss.length = np) (k : b (ss.map some ++ List.replicate (n - np) none) c = .nx δ' c) : fnG kp np n b ss c = .ok (.d .non) c := by rw [fnG_eq h, k, ex_nx]
theorem ret_ok {A : M} {s : S} {c' : Cs} (h : A δ c = .ok s c') : sRet A δ c = .rt s c' := by unfold sRet; rw [h]; rfl
theorem set_ok {i : Nat} {A : M} {s : S} {c' : Cs} (h : A δ c = .ok s c') : sSet i A δ c = .nx (δ.set i (some s)) c' := by unfold sSet; rw [h]; rfl
theorem expr_ok {A : M} {s : S} {c' : Cs} (h : A δ c = .ok s c') : sExpr A δ c = .nx δ c' := by unfold sExpr; rw [h]; rfl
theorem tb_ok {A : M} {b : Bool} {c' : Cs} (h : A δ c = .ok (.d (.bl b)) c') : mTB A δ c = .ok b c' := by unfold mTB; rw [h]; rfl
theorem tnot_ok {A : MT} {b : Bool} {c' : Cs} (h : A δ c = .ok b c') : mtNot A δ c = .ok (!b) c' := by unfold mtNot; rw [h]; rfl
theorem tor_no {A B : MT} {c' : Cs} {r : R Bool} (h : A δ c = .ok false c') (k : B δ c' = r) : mtOr A B δ c = r := by unfold mtOr; rw [h]; exact k
theorem tor_yes {A B : MT} {c' : Cs} (h : A δ c = .ok true c') : mtOr A B δ c = .ok true c' := by unfold mtOr; rw [h]; rfl
theorem tand_yes {A B : MT} {c' : Cs} {r : R Bool} (h : A δ c = .ok true c') (k : B δ c' = r) : mtAnd A B δ c = r := by unfold mtAnd; rw [h]; exact k
theorem tand_no {A B : MT} {c' : Cs} (h : A δ c = .ok false c') : mtAnd A B δ c = .ok false c' := by unfold mtAnd; rw [h]; rfl
theorem and_yes {A B : M} {c' : Cs} {r : R S} (h : A δ c = .ok (.d (.bl true)) c') (k : B δ c' = r) : mAnd A B δ c = r := by unfold mAnd; rw [h]; exact k
theorem and_no {A B : M} {c' : Cs} (h : A δ c = .ok (.d (.bl false)) c') : mAnd A B δ c = .ok (.d (.bl false)) c' := by unfold mAnd; rw [h]; rfl
theorem a1 {A : M} {s : S} {c' : Cs} (h : A δ c = .ok s c') : mCons A mNil δ c = .ok [s] c' := by unfold mCons; rw [h]; rfl
theorem a2 {A : M} {B : MA} {s : S} {ss : List S} {c' c'' : Cs} (h : A δ c = .ok s c') (k : B δ c' = .ok ss c'') : mCons A B δ c = .ok (s :: ss) c'' := by unfold mCons; rw [h]; simp only [bind_ok]; rw [k]; rfl
theorem blt {f : List S → Cs → R S} {A : MA} {ss : List S} {c' : Cs} {r : R S} (h : A δ c = .ok ss c') (k : f ss c' = r) : mBlt f A δ c = r := by unfold mBlt; rw [h]; exact k
theorem bin {f : S → S → Cs → R S} {A B : M} {x y : S} {c' c'' : Cs} {r : R S} (h : A δ c = .ok x c') (k : B δ c' = .ok y c'') (e : f x y c'' = r) : mBin f A B δ c = r := by unfold mBin; rw [h]; simp only [bind_ok]; rw [k]; exact e
theorem l2 {g : D → D → Option D} {x y d : D} (h : g x y = some d) : lift2 g (.d x) (.d y) c = .ok (.d d) c := by simp [lift2, deref, h]
theorem lN1 {g : List D → Option D} {x d : D} (h : g [x] = some d) : liftN g [.d x] c = .ok (.d d) c := by simp [liftN, derefs, deref, h]
theorem lX1 {g : List D → Option D} {x d : D} (h : g [x] = some d) : lenX g [.d x] c = .ok (.d d) c := lN1 h
theorem vr {i : Nat} {s : S} (h : δ[i]? = some (some s)) : mVar i δ c = .ok s c := by unfold mVar; rw [h]
theorem isi {k : Kinds} {A : M} {x : D} {b : Bool} {c' : Cs} (h : A δ c = .ok (.d x) c') (e : k.ask x = some b) : mIsi k A δ c = .ok (.d (.bl b)) c' := by unfold mIsi; rw [h]; simp [askD, topD, deref, e]
theorem attr {tbl : List (Nat × Nat)} {A : M} {k i : Nat} {xs : List D} {x : D} {c' : Cs} (h : A δ c = .ok (.d (.obj k xs)) c') (e : look tbl k = some i) (e2 : xs[i]? = some x) : mAttr tbl A δ c = .ok (.d x) c' := by unfold mAttr; rw [h]; simp [deref, e, e2]
theorem meth {tbl : List (Nat × (List S → Cs → R S))} {A : M} {B : MA} {fn : List S → Cs → R S} {k : Nat} {xs : List D} {ss : List S} {c' c'' : Cs} {r : R S} (h : A δ c = .ok (.d (.obj k xs)) c') (e : look tbl k = some fn) (h2 : B δ c' = .ok ss c'') (h3 : fn (.d (.obj k xs) :: ss) c'' = r) : mMeth tbl A B δ c = r := by
  unfold mMeth; rw [h]; simp only [bind_ok, deref, e]; rw [h2]; exact h3
theorem seqI {A : M} {s : S} {xs : Src} {c' : Cs} (h : A δ c = .ok s c') (e : items s c' = .ok xs c') : iSeq A δ c = .ok xs c' := by unfold iSeq; rw [h]; exact e
/-- a comprehension whose parts change nothing -/
theorem push_at {acc : List D} {x : D} (hl : acc.length < PySem.sizeLine) : push c.length (.d x) (c ++ [.lst acc]) = .ok () (c ++ [.lst (acc ++ [x])]) := by
  have e0 : (c ++ [CC.lst acc])[c.length]? = some (CC.lst acc) := by simp
  unfold push
  simp only [e0]
  rw [if_pos hl]
  simp
theorem cloop_map {α : Type} {g : GT} {C : MT} {A : M} {δ : Sl} {q : α → S} {p : α → Bool} {f : α → D} : ∀ (ys : List α) (acc : List D), (∀ y ∈ ys, ∀ acc, ∃ δ1, g (q y) (c ++ [.lst acc]) δ = some δ1 ∧ (C δ1 (c ++ [.lst acc]) = .ok (p y) (c ++ [.lst acc]) ∧ (p y = true → A δ1 (c ++ [.lst acc]) = .ok (.d (f y)) (c ++ [.lst acc])))) → acc.length + ys.length ≤ PySem.sizeLine →
    cloop g C (fun δ1 c1 => (A δ1 c1).bindN (push c.length)) δ (ys.map q) (c ++ [.lst acc]) = .ok () (c ++ [.lst (acc ++ (ys.filter p).map f)])
  | [], acc, _, _ => by simp [cloop]
  | d :: ds, acc, h, hl => by
    obtain ⟨δ1, h1, h3, h4⟩ := h d List.mem_cons_self acc
    simp only [List.length_cons] at hl
    simp only [List.map_cons]
    unfold cloop
    rw [h1]
    simp only [h3, bindN_ok]
    by_cases hp : p d = true
    · rw [if_pos hp, h4 hp]
      simp only [bindN_ok, push_at (show acc.length < PySem.sizeLine by omega)]
      rw [cloop_map ds (acc ++ [f d]) (fun x hx => h x (List.mem_cons_of_mem _ hx)) (by simp; omega)]
      rw [List.filter_cons_of_pos hp]
      simp
    · rw [if_neg hp, cloop_map ds acc (fun x hx => h x (List.mem_cons_of_mem _ hx)) (by omega), List.filter_cons_of_neg hp]
theorem compF {α : Type} {I : MI} {g : GT} {C : MT} {A : M} {vs : List Nat} (ys : List α) (q : α → S) (p : α → Bool) (f : α → D) (hI : I δ c = .ok (.xs (ys.map q)) c) (hl : ys.length ≤ PySem.sizeLine)
    (h : ∀ y ∈ ys, ∀ acc, ∃ δ1, g (q y) (c ++ [.lst acc]) (wipeD δ vs) = some δ1 ∧ (C δ1 (c ++ [.lst acc]) = .ok (p y) (c ++ [.lst acc]) ∧ (p y = true → A δ1 (c ++ [.lst acc]) = .ok (.d (f y)) (c ++ [.lst acc])))) : mComp I g C A vs δ c = .ok (.d (.lst ((ys.filter p).map f))) c := by
  unfold mComp
  rw [hI]
  simp only [bind_ok, cloopI]
  rw [cloop_map ys [] h (by simpa using hl)]
  simp [finC]
theorem compM {α : Type} {I : MI} {g : GT} {A : M} {vs : List Nat} (ys : List α) (q : α → S) (f : α → D) (hI : I δ c = .ok (.xs (ys.map q)) c) (hl : ys.length ≤ PySem.sizeLine)
    (h : ∀ y ∈ ys, ∀ acc, ∃ δ1, g (q y) (c ++ [.lst acc]) (wipeD δ vs) = some δ1 ∧ A δ1 (c ++ [.lst acc]) = .ok (.d (f y)) (c ++ [.lst acc])) : mComp I g mtYes A vs δ c = .ok (.d (.lst (ys.map f))) c := by
  rw [compF ys q (fun _ => true) f hI hl fun d hd acc => ?_]
  · rw [List.filter_eq_self.mpr (fun _ _ => rfl)]
  · obtain ⟨δ1, h1, h2⟩ := h d hd acc
    exact ⟨δ1, h1, rfl, fun _ => h2⟩
theorem cellL_app {n : Nat} {x : CC} {xs : List S} (h : cellL n c = some xs) : cellL n (c ++ [x]) = some xs := by
  unfold cellL at h ⊢
  cases hc : c[n]? with
  | none => rw [hc] at h; cases h
  | some y =>
    rw [List.getElem?_append_left (List.getElem?_eq_some_iff.mp hc).1, hc]
    rw [hc] at h
    exact h
/-! ### all, any of a generator -/
/-! ### expressions over data -/
end
section
variable {δ : Sl} {c : Cs}
theorem expr_ex {A : M} {k : Nat} {xs : List S} {c' : Cs} (h : A δ c = .ex k xs c') : sExpr A δ c = .ex k xs δ c' := by unfold sExpr; rw [h]; rfl
theorem fn_ex {kp : Bool} {np n : Nat} {b : MS} {ss : List S} {k : Nat} {xs : List S} {δ' : Sl} (h : ss.length = np) (hx : refsOk c.length xs = true) (e : b (ss.map some ++ List.replicate (n - np) none) c = .ex k xs δ' c) : fnG kp np n b ss c = .ex k xs c := by rw [fnG_eq h, e, ex_ex hx]
theorem ret_ex {A : M} {k : Nat} {xs : List S} {c' : Cs} (h : A δ c = .ex k xs c') : sRet A δ c = .ex k xs δ c' := by unfold sRet; rw [h]; rfl
theorem mif_t {C : MT} {A B : M} {c' : Cs} {r : R S} (h : C δ c = .ok true c') (k : A δ c' = r) : mIf C A B δ c = r := by unfold mIf; rw [h]; exact k
theorem mif_f {C : MT} {A B : M} {c' : Cs} {r : R S} (h : C δ c = .ok false c') (k : B δ c' = r) : mIf C A B δ c = r := by unfold mIf; rw [h]; exact k
theorem loop_inv {α : Type} {g : GT} {B : MS} (q : α → S) (J : List α → Sl → Cs → Prop) (all : List α) (hs : ∀ done y rest δ c, all = done ++ y :: rest → J done δ c → ∃ δ1 δ2 c2, g (q y) c δ = some δ1 ∧ B δ1 c = .nx δ2 c2 ∧ J (done ++ [y]) δ2 c2) :
    ∀ (ys done : List α) (δ : Sl) (c : Cs), all = done ++ ys → J done δ c → ∃ δ' c', loop g B (ys.map q) δ c = .nx δ' c' ∧ J all δ' c'
  | [], done, δ, c, e, h => ⟨δ, c, rfl, by rw [e]; simpa using h⟩
  | y :: ys, done, δ, c, e, h => by
    obtain ⟨δ1, δ2, c2, h1, h2, h3⟩ := hs done y ys δ c e h
    obtain ⟨δ', c', e', k⟩ := loop_inv q J all hs ys (done ++ [y]) δ2 c2 (by rw [e]; simp) h3
    refine ⟨δ', c', ?_, k⟩
    simp only [List.map_cons]
    unfold loop
    rw [h1]
    simp only
    rw [h2]
    exact e'
theorem for_inv {α : Type} {I : MI} {g : GT} {B : MS} (ys : List α) (q : α → S) (J : List α → Sl → Cs → Prop) {c1 : Cs} (hI : I δ c = .ok (.xs (ys.map q)) c1) (h0 : J [] δ c1) (hs : ∀ done y rest δ c, ys = done ++ y :: rest → J done δ c → ∃ δ1 δ2 c2, g (q y) c δ = some δ1 ∧ B δ1 c = .nx δ2 c2 ∧ J (done ++ [y]) δ2 c2) :
    ∃ δ' c', sFor I g B δ c = .nx δ' c' ∧ J ys δ' c' := by
  obtain ⟨δ', c', e, k⟩ := loop_inv q J ys hs ys [] δ c1 rfl h0
  refine ⟨δ', c', ?_, k⟩
  unfold sFor
  rw [hI]
  exact e
def sI (i : Int) : S := .d (.int i)
theorem rng_ok {A : MA} {j : Int} {c' : Cs} (h : A δ c = .ok [.d (.int j)] c') (h1 : j ≤ 16777216) (h2 : -(2 ^ 62) ≤ j) : iRng A δ c = .ok (.xs ((List.range j.toNat).map fun (i : Nat) => sI i)) c' := by
  unfold iRng
  rw [h]
  simp only [bind_ok, rng1]
  rw [if_pos ⟨h1, h2⟩]
  unfold rngL sI
  rw [List.map_map]
  congr 3
  funext i
  simp
end
theorem log_lt {i : Int} {k : Nat} (h0 : 0 ≤ i) (h : i < 2 ^ k) (hk : 0 < k) : i.natAbs.log2 < k := by
  by_cases z : i.natAbs = 0
  · rw [z]; simpa using hk
  · rw [Nat.log2_lt z]
    have : (i.natAbs : Int) = i := Int.natAbs_of_nonneg h0
    have e : ((2 ^ k : Nat) : Int) = 2 ^ k := by simp
    omega
section
variable {c : Cs} {δ : Sl} {n : Nat}
theorem ix_cell {xs : List D} {A B : M} {i : Int} {x : D} (hn : c[n]? = some (.lst xs)) (hA : A δ c = .ok (.c n) c) (hB : B δ c = .ok (.d (.int i)) c) (e : ixD (.lst xs) (.int i) = some x) : mBin (lift2 ixD) A B δ c = .ok (.d x) c :=
  bin hA hB (by simp [lift2, deref, hn, e])
theorem set_cell {xs ys : List D} {A I V : M} {i : Int} {j : Nat} {x : D} (hn : c[n]? = some (.lst xs)) (hV : V δ c = .ok (.d x) c) (hA : A δ c = .ok (.c n) c) (hI : I δ c = .ok (.d (.int i)) c) (e : L2.ixN xs.length i = some j) (e2 : xs.set j x = ys) : sSetIx A I V δ c = .nx δ (c.set n (.lst ys)) := by
  unfold sSetIx
  rw [hV]
  simp only [andS_ok]
  rw [hA]
  simp only [andS_ok]
  rw [hI]
  simp only [andS_ok, setC, hn, e, e2]
theorem fn_rs {kp : Bool} {np m : Nat} {b : MS} {ss : List S} {c' : Cs} {x : D} (h : ss.length = np) (hl : c'.length = c.length) (k : b (ss.map some ++ List.replicate (m - np) none) c = .rt (.d x) c') : fnG kp np m b ss c = .ok (.d x) c' := by
  rw [fnG_eq h, k]
  simp [exitR, ← hl]
end
theorem bls_map {α : Type} (l : List α) (f : α → Bool) : bls? (l.map fun x => D.bl (f x)) = some (l.map f) := by
  induction l with
  | nil => rfl
  | cons x r ih => simp [bls?, ih]
theorem small_size {n : Nat} (h : n ≤ 1000) : n ≤ sizeLine := Nat.le_trans h (by decide)
theorem atI_nat {α : Type} {xs : List α} {n : Nat} (h : n < xs.length) : L2.atI xs (n : Int) = some xs[n] := by
  have h1 : ((n : Nat) : Int) < ((xs.length : Nat) : Int) := by omega
  simp [L2.atI, L2.ixN, h1, h]
theorem fld_ok {δ : Sl} {c : Cs} {tbl : List (Nat × Nat)} {A V : M} {k i : Nat} {xs ys : List D} {x : D} (hV : V δ (c ++ [.obj k xs]) = .ok (.d x) (c ++ [.obj k xs])) (hA : A δ (c ++ [.obj k xs]) = .ok (.c c.length) (c ++ [.obj k xs])) (e : look tbl k = some i) (e2 : setF i x xs = some ys) :
    sFldSet tbl A V δ (c ++ [.obj k xs]) = .nx δ (c ++ [.obj k ys]) := by
  unfold sFldSet
  rw [hV]
  simp only [andS_ok]
  rw [hA]
  simp only [andS_ok]
  have e0 : (c ++ [CC.obj k xs])[c.length]? = some (CC.obj k xs) := by simp
  simp only [e0, e, e2]
  simp
theorem fn_to {kp : Bool} {np n : Nat} {b : MS} {ss : List S} {c c' : Cs} {δ' : Sl} (h : ss.length = np) (k : b (ss.map some ++ List.replicate (n - np) none) c = .nx δ' c') (hl : c'.length = c.length) : fnG kp np n b ss c = .ok (.d .non) c' := by
  rw [fnG_eq h, k]
  simp [exitR, ← hl]
end Dn

end
section
/-! Dn35: closed evaluation: data compared sign by sign. -/
namespace Dn
open PySem
theorem tbsOk_app : ∀ {n : Nat} {x y : Cs}, tbsOk n x = true → tbsOk n (x ++ y) = true
  | 0, _, _, _ => rfl
  | n + 1, x, y, h => by
    unfold tbsOk at h ⊢
    rw [Bool.and_eq_true] at h ⊢
    refine ⟨tbsOk_app h.1, ?_⟩
    cases hc : x[n]? with
    | none => rw [hc] at h; exact absurd h.2 (by simp)
    | some z => rw [List.getElem?_append_left (List.getElem?_eq_some_iff.mp hc).1, hc]; rw [hc] at h; exact h.2
theorem tbsOk_of : ∀ {n : Nat} {c : Cs}, (∀ j, j < n → c[j]? = some (.tb j)) → tbsOk n c = true
  | 0, _, _ => rfl
  | n + 1, c, h => by
    unfold tbsOk
    rw [Bool.and_eq_true]
    refine ⟨tbsOk_of fun j hj => h j (by omega), ?_⟩
    rw [h n (by omega)]
    exact beq_self_eq_true n
theorem tbsOk_tbs (n : Nat) : tbsOk n (tbs n) = true := tbsOk_of fun j hj => by
  unfold tbs
  rw [List.getElem?_map, List.getElem?_range hj]
  rfl
/-- tables, then lists and dicts -/
def Junk (n : Nat) (c : Cs) : Prop := (tbsOk n c && (c.drop n).all canHide) = true
theorem Junk.app {n : Nat} {c : Cs} {x : CC} (h : Junk n c) (hx : canHide x = true) : Junk n (c ++ [x]) := by
  unfold Junk at h ⊢
  rw [Bool.and_eq_true] at h ⊢
  have hn := (tbsOk_take h.1).2
  refine ⟨tbsOk_app h.1, ?_⟩
  rw [List.drop_append_of_le_length hn, List.all_append, h.2]
  simp [hx]
theorem Junk.set {n k : Nat} {c : Cs} {x : CC} (h : Junk n c) (hk : n ≤ k) (hx : canHide x = true) : Junk n (c.set k x) := by
  unfold Junk at h ⊢
  rw [Bool.and_eq_true] at h ⊢
  refine ⟨tbsOk_of fun j hj => ?_, ?_⟩
  · rw [List.getElem?_set_ne (by omega)]
    exact tbsOk_get h.1 j hj
  · rw [List.all_eq_true]
    intro y hy
    obtain ⟨i, hi⟩ := List.getElem?_of_mem hy
    rw [List.getElem?_drop] at hi
    by_cases e : k = n + i
    · have hl : k < c.length := by
        have := (List.getElem?_eq_some_iff.mp hi).1
        rw [List.length_set] at this
        omega
      rw [← e, List.getElem?_set_self hl] at hi
      cases hi
      exact hx
    · rw [List.getElem?_set_ne e] at hi
      exact List.all_eq_true.mp h.2 y (List.mem_of_getElem? (i := i) (by rw [List.getElem?_drop]; exact hi))
theorem Junk.tbs (n : Nat) : Junk n (tbs n) := by
  unfold Junk
  rw [tbsOk_tbs, List.drop_eq_nil_of_le (by simp [Dn.tbs])]
  rfl
section
variable {δ : Sl} {c : Cs}
end
end Dn

end
section
/-! Dn36: rules for the plain laws: two fors, comprehensions of new lists. -/
namespace Dn
open PySem
section
variable {δ : Sl} {c : Cs}
theorem cloop2_map {α β : Type} {g g1 : GT} {I1 : MI} {A : M} {vs1 : List Nat} {q : α → S} {zs : α → List β} {q1 : β → S} {f : α → β → D} : ∀ (ys : List α) (acc : List D),
    (∀ y ∈ ys, ∃ δ1, (∀ acc, g (q y) (c ++ [.lst acc]) δ = some δ1) ∧ (∀ acc, I1 δ1 (c ++ [.lst acc]) = .ok (.xs ((zs y).map q1)) (c ++ [.lst acc])) ∧ ∀ z ∈ zs y, ∃ δ2, (∀ acc, g1 (q1 z) (c ++ [.lst acc]) (wipeD δ1 vs1) = some δ2) ∧ ∀ acc, A δ2 (c ++ [.lst acc]) = .ok (.d (f y z)) (c ++ [.lst acc])) → acc.length + (ys.flatMap fun y => (zs y).map (f y)).length ≤ sizeLine →
    cloop g mtYes (fun δ1 c1 => (I1 δ1 c1).bindN fun ys c1 => cloopI g1 mtYes (fun δ2 c2 => (A δ2 c2).bindN (push c.length)) (wipeD δ1 vs1) ys c1) δ (ys.map q) (c ++ [.lst acc]) = .ok () (c ++ [.lst (acc ++ ys.flatMap fun y => (zs y).map (f y))])
  | [], acc, _, _ => by simp [cloop]
  | y :: ys, acc, h, hl => by
    obtain ⟨δ1, h1, h2, h3⟩ := h y List.mem_cons_self
    simp only [List.flatMap_cons, List.length_append, List.length_map] at hl
    simp only [List.map_cons]
    unfold cloop
    rw [h1]
    have ey : ∀ (δ : Sl) (c : Cs), mtYes δ c = .ok true c := fun _ _ => rfl
    simp only [ey, bindN_ok, if_true, h2, cloopI]
    have e := cloop_map (c := c) (g := g1) (C := mtYes) (A := A) (δ := wipeD δ1 vs1) (q := q1) (p := fun _ => true) (f := f y) (zs y) acc (fun z hz acc => let ⟨δ2, a, b⟩ := h3 z hz; ⟨δ2, a acc, rfl, fun _ => b acc⟩) (by omega)
    rw [List.filter_eq_self.mpr (fun _ _ => rfl)] at e
    rw [e]
    simp only [bindN_ok]
    have ih := cloop2_map (g := g) (g1 := g1) (I1 := I1) (A := A) (vs1 := vs1) (q := q) (zs := zs) (q1 := q1) (f := f) ys (acc ++ (zs y).map (f y)) (fun x hx => h x (List.mem_cons_of_mem _ hx)) (by rw [List.length_append, List.length_map]; omega)
    simp only [cloopI] at ih
    rw [ih, List.flatMap_cons, List.append_assoc]
theorem comp2M {α β : Type} {I I1 : MI} {g g1 : GT} {A : M} {vs vs1 : List Nat} (ys : List α) (q : α → S) (zs : α → List β) (q1 : β → S) (f : α → β → D) (hI : I δ c = .ok (.xs (ys.map q)) c) (hl : (ys.flatMap fun y => (zs y).map (f y)).length ≤ sizeLine)
    (h : ∀ y ∈ ys, ∃ δ1, (∀ acc, g (q y) (c ++ [.lst acc]) (wipeD δ vs) = some δ1) ∧ (∀ acc, I1 δ1 (c ++ [.lst acc]) = .ok (.xs ((zs y).map q1)) (c ++ [.lst acc])) ∧ ∀ z ∈ zs y, ∃ δ2, (∀ acc, g1 (q1 z) (c ++ [.lst acc]) (wipeD δ1 vs1) = some δ2) ∧ ∀ acc, A δ2 (c ++ [.lst acc]) = .ok (.d (f y z)) (c ++ [.lst acc])) :
    mComp2 I g mtYes I1 g1 mtYes A vs vs1 δ c = .ok (.d (.lst (ys.flatMap fun y => (zs y).map (f y)))) c := by
  unfold mComp2
  rw [hI]
  simp only [bind_ok, cloopI]
  have := cloop2_map (g := g) (g1 := g1) (I1 := I1) (A := A) (vs1 := vs1) (δ := wipeD δ vs) (q := q) (zs := zs) (q1 := q1) (f := f) ys [] h (by simpa using hl)
  simp only [cloopI] at this
  rw [this]
  simp [finC]
theorem datas_map : ∀ (xs : List D), datas (xs.map S.d) = some xs
  | [] => rfl
  | x :: r => by simp [datas, datas_map r]
theorem par_ok {i j : Nat} {B : MA} {x y : S} {c' : Cs} (h : B δ c = .ok [x, y] c') : sPar i j B δ c = .nx ((δ.set i (some x)).set j (some y)) c' := by
  unfold sPar
  rw [h]
  rfl
theorem appS_ok {A : M} {B : MA} {n : Nat} {x : D} {c1 : Cs} {acc : List D} (hA : A δ c = .ok (.c n) c1) (hn : c1[n]? = some (.lst acc)) (hB : B δ c1 = .ok [.d x] c1) (hl : acc.length < sizeLine) : mAppendS A B δ c = .ok (.d .non) (c1.set n (.lst (acc ++ [x]))) := by
  unfold mAppendS
  rw [hA]
  simp only [bind_ok, cellL, hn]
  rw [hB]
  simp only [bind_ok, appendS, hn]
  rw [if_pos hl]
theorem Junk.apps {n : Nat} : ∀ {x : List CC} {c : Cs}, Junk n c → (∀ y ∈ x, canHide y = true) → Junk n (c ++ x)
  | [], c, h, _ => by simpa using h
  | y :: x, c, h, k => by
    have := Junk.apps (x := x) (h.app (k y List.mem_cons_self)) (fun z hz => k z (List.mem_cons_of_mem _ hz))
    rwa [List.append_assoc] at this
theorem Junk.len {n : Nat} {c : Cs} (h : Junk n c) : n ≤ c.length := by
  unfold Junk at h
  rw [Bool.and_eq_true] at h
  exact (tbsOk_take h.1).2
theorem Junk.take {n : Nat} {c : Cs} (h : Junk n c) : c.take n = Dn.tbs n := by
  unfold Junk at h
  rw [Bool.and_eq_true] at h
  exact (tbsOk_take h.1).1
end
end Dn

end
section
set_option maxHeartbeats 1000000
/-! Dn37: an own class asked with !=: what its own == says, the other way round. -/
namespace Dn
open PySem PySem.Spec PyProof.Rows L2
section
open PySem.W
variable {prog : Program} {w : World} {A : Around} {E : Value → Shared → Prop} {s : Shared} {K : Frag} {x C f L : Addr} {h₀ : Heap} {m : Str → Option Value} {ox : Obj} {od : Option Obj} {b tb : Value}
end
section
variable {X : Cx} {T : Tb} {W : WX} {a b : Expr} {A B : M} {pos : Pos} {tbl : List (Nat × (List S → Cs → R S))} {kd : Kinds} {n f : Nat}
/-- the classes leave != to their == -/
inductive NeOk (K : PySem.W.Frag) (T : Tb) : List (Nat × (List S → Cs → R S)) → Prop
  | nil : NeOk K T []
  | cons {c : Nat} {fn : List S → Cs → R S} {l : List (Nat × (List S → Cs → R S))} : PySem.W.findIn K (.ref (T.cl c)) "__ne__" = some (some (.builtin "object.__ne__")) → PySem.W.mroIn K (T.cl c) (.type "object") = some true → NeOk K T l → NeOk K T ((c, fn) :: l)
theorem NeOk.get {K : PySem.W.Frag} {T : Tb} {l : List (Nat × (List S → Cs → R S))} (h : NeOk K T l) {c : Nat} {fn : List S → Cs → R S} (hm : (c, fn) ∈ l) : PySem.W.findIn K (.ref (T.cl c)) "__ne__" = some (some (.builtin "object.__ne__")) ∧ PySem.W.mroIn K (T.cl c) (.type "object") = some true := by
  induction h with
  | nil => cases hm
  | cons a b _ ih =>
    rcases List.mem_cons.mp hm with z | z
    · cases z; exact ⟨a, b⟩
    · exact ih z
variable (hM : MethsAt X.prog X.w X.K X.mg X.base T "__eq__" n tbl) (hN : NotFirst X.K T kd tbl) (hO : NeOk X.K T tbl) (hT : X.K = T.K) (hr : Room (n + f + 1) X.A) (ha : PE X a (tD T W A)) (hb : PE X b (tD T W B))
include hM hN hO hT hr ha hb
end
end Dn

end
section
set_option maxHeartbeats 1000000
/-! Dn38: xs * n as a list that will be changed. -/
namespace Dn
open PySem PySem.Spec PyProof.Rows L2
section
variable {X : Cx} {T : Tb} {W : WX} {a b : Expr} {A B : M} {pos : Pos}
end
end Dn

end
section
set_option maxHeartbeats 1000000
/-! Dn39: str(x) by an own __str__; f-strings. -/
namespace Dn
open PySem PySem.Spec PyProof.Rows L2
/-! ### own __str__ -/
inductive StrsAt (P : Program) (w : World) (K : PySem.W.Frag) (mg : Str → Option Value) (base : Heap) (T : Tb) (k : Nat) : List (Nat × (Nat × (List S → Cs → R S))) → Prop
  | nil : StrsAt P w K mg base T k []
  | cons {c j nf : Nat} {fn : List S → Cs → R S} {l : List (Nat × (Nat × (List S → Cs → R S)))} : MethAt P w K mg base T "__str__" c j fn → j ≤ k → (T.fl c).length = nf → StrsAt P w K mg base T k l → StrsAt P w K mg base T k ((c, nf, fn) :: l)
section
variable {X : Cx} {T : Tb} {W : WX} {a b o e : Expr} {es : List Expr} {A B : M} {pos p apos : Pos}
theorem StrsAt.get {P : Program} {w : World} {K : PySem.W.Frag} {mg : Str → Option Value} {base : Heap} {k : Nat} {l : List (Nat × (Nat × (List S → Cs → R S)))} (h : StrsAt P w K mg base T k l) {c nf : Nat} {fn : List S → Cs → R S} (hm : (c, nf, fn) ∈ l) :
    ∃ j, j ≤ k ∧ MethAt P w K mg base T "__str__" c j fn ∧ (T.fl c).length = nf := by
  induction h with
  | nil => cases hm
  | cons a b c _ ih =>
    cases hm with
    | head => exact ⟨_, b, a, c⟩
    | tail _ hm => exact ih hm
/-! ### f-strings -/
end
end Dn

end
section
set_option maxHeartbeats 1000000
/-! Dn40: defs that run where no repr is under way; repr of lists and tuples. -/
namespace Dn
open PySem PySem.Spec PyProof.Rows L2
section
variable {P : Program} {w : World} {K : PySem.W.Frag} {mg : Str → Option Value} {base : Heap} {T : Tb} {CX : CXT} {k : Nat} {f : Addr} {fd : FuncData} {ps N : List Str} {sp sp' : Sp}
/-- what a def promises where no repr is under way -/
structure FnOkG (P : Program) (w : World) (K : PySem.W.Frag) (mg : Str → Option Value) (base : Heap) (CX : CXT) (k : Nat) (f : Addr) (fd : FuncData) (ps : List Str) (sp : Sp) : Prop where
  len : ∀ vs H Q E, sp vs H Q E → vs.length = ps.length
  run : ∀ (A : Around) (outer : List Env) (s : Shared) (H : Hp) (args : Args) (us : List Value) (vs : List V) (Q : VK) (E : XK), A.guards = some [] → Room k A → Env0 P w K mg base A outer s H → BindsTo s fd args (ps.zip us) → Vals vs us → sp vs H Q E →
    codeAny (model P w) A (.call (.ref f) args) (CR CX outer P w H s Q E) s
theorem FnOkG.imp (F : FnOkG P w K mg base CX k f fd ps sp) (h : ∀ vs H Q E, sp' vs H Q E → sp vs H Q E) : FnOkG P w K mg base CX k f fd ps sp' :=
  ⟨fun vs H Q E q => F.len vs H Q E (h _ _ _ _ q), fun A outer s H args us vs Q E hg hr he hb hv hs => F.run A outer s H args us vs Q E hg hr he hb hv (h _ _ _ _ hs)⟩
theorem FnOkG.mono {j : Nat} (F : FnOkG P w K mg base CX j f fd ps sp) (h : j ≤ k) : FnOkG P w K mg base CX k f fd ps sp := ⟨F.len, fun A outer s H args us vs Q E hg hr => F.run A outer s H args us vs Q E hg (hr.mono h)⟩
end
section
variable {X : Cx} {T : Tb} {W : WX} {CX : CXT} {k : Nat} {f : Addr} {fd : FuncData} {ps : List Str} {sp : Sp} {fn : List S → Cs → R S} {E : L2.St → XK} {x : Str} {e : Expr} {es : List Expr} {t : TA} {A : M} {B : MA} {p pos apos : Pos}
/-! ### repr -/
end
end Dn

end
section
set_option maxHeartbeats 2000000
/-! Dn41: the end of a row whose law runs where no repr is under way. -/
namespace Dn
open PySem PySem.Spec PyProof.Rows L2
section
variable {P : Program} {w : World} {K : PySem.W.Frag} {mg mb : Str → Option Value} {CX : CXT} {k : Nat} {fa a b : Addr} {cs : List (Addr × Addr)} {fd : FuncData} {x : Str} {sp : Sp} {s₁ : Shared} {vs : List Value} {ns : List Int} {ts : List Addr} {o : Obj} {l : List V}
end
section
variable {P : Program} {w : World} {K : PySem.W.Frag} {mg : Str → Option Value} {base : Heap} {T : Tb} {CX : CXT} {k : Nat} {fd : FuncData}
end
end Dn

end
section
set_option maxHeartbeats 1000000
/-! Dn42: a[i], b[j] = x, y. -/
namespace Dn
open PySem PySem.Spec PyProof.Rows L2
section
variable {X : Cx} {T : Tb} {W : WX} {A I A1 I1 A2 I2 VV : M} {o1 i1 o2 i2 value : Expr} {p1 p2 pos tpos : Pos}
end
end Dn

end
section
set_option maxHeartbeats 1000000
/-! Dn43: lists put together, some of whose items are cells. -/
namespace Dn
open PySem PySem.Spec PyProof.Rows L2
section
variable {X : Cx} {T : Tb} {W : WX} {A B : M} {a b : Expr} {pos : Pos}
theorem SReps.app {G : Hp} {ρ : List Addr} : ∀ {ss ts : List S} {vs us : List V}, SReps T G ρ ss vs → SReps T G ρ ts us → SReps T G ρ (ss ++ ts) (vs ++ us)
  | [], _, _, _, h, k => by cases h; exact k
  | s :: ss, _, _, _, h, k => by
    cases h with
    | cons x y => exact .cons x (SReps.app y k)
end
end Dn

end
section
set_option maxHeartbeats 1000000
/-! Dn44: comprehensions with two fors whose list stays a cell. -/
namespace Dn
open PySem PySem.Spec PyProof.Rows L2
section
variable {X : Cx} {T : Tb} {W : WX} {a b o e : Expr} {es : List Expr} {A B : M} {pos p apos : Pos}
variable {elt tg iter : Expr} {ifs : List Expr} {scope : Scope} {own : List (Str × Nat)} {I : MI} {g : GT} {C : MT}
variable {tg1 iter1 : Expr} {ifs1 : List Expr} {I1 : MI} {g1 : GT} {C1 : MT}
end
end Dn

end
section
set_option maxHeartbeats 1000000
/-! Dn45: a def that calls itself (its den unrolled), calls with keywords alone, repr of any plain thing, is of bools. -/
namespace Dn
open PySem PySem.Spec PyProof.Rows L2
section
variable {P : Program} {w : World} {K : PySem.W.Frag} {mg : Str → Option Value} {base : Heap} {T : Tb}
end
/-! ### repr -/
section
variable {X : Cx} {T : Tb} {W : WX} {k : Nat} {f : Addr} {fd : FuncData} {ps : List Str} {sp : Sp} {fn : List S → Cs → R S} {E : L2.St → XK} {x : Str} {e a b : Expr} {es : List Expr} {kws : List Keyword} {t : TA} {A : M} {B : MA} {p pos apos : Pos}
/-! ### is of bools -/
end
end Dn

end
section
set_option maxHeartbeats 1000000
/-! Dn46: calls whose arguments all come by keyword, in the parameters' order. -/
namespace Dn
open PySem PySem.Spec PyProof.Rows L2
section
variable {K : PySem.W.Frag} {mg : Str → Option Value}
end
section
variable {P : Program} {w : World} {K : PySem.W.Frag} {mg : Str → Option Value} {base : Heap} {T : Tb} {k : Nat}
end
section
variable {X : Cx} {T : Tb} {W : WX} {CX : CXT} {k : Nat} {f : Addr} {fd : FuncData} {ps ks : List Str} {sp : Sp} {fn : List S → Cs → R S} {E : L2.St → XK} {x : Str} {e o : Expr} {kws : List Keyword} {A : M} {B : MA} {p pos apos kpos : Pos} {nm : Option Str}
theorem PK.imp {t t' : TA} (h : PK X kws t) (k : ∀ σ H Q, t' σ H Q → t σ H Q) : PK X kws t' := ⟨fun pos pins s σ H Q I q => h.run pos pins s σ H Q I (k σ H Q q)⟩
end
end Dn

end
section
set_option maxHeartbeats 1000000
/-! Dn47: an int on the left, an own object on the right: its reflected operator. -/
namespace PySem.W
open PySem PySem.Builtin.Int PyProof.Rows
section
variable {prog : Program} {w : World} {M : Model} {A : Around} {E : Value → Shared → Prop} {s : Shared} {K : Frag} {x C L f fA : Addr} {h₀ : Heap} {m : Str → Option Value} {ox : Obj} {od : Option Obj} {nm nm' id : String} {g : Int → Int → Sem Fin} {i : Int} {t : Tok}
end
end PySem.W

end
section
set_option maxHeartbeats 1000000
/-! Dn48: operators of an int and an own object; o.m(k = v), C(k = v, ..). -/
namespace Dn
open PySem PySem.Spec PyProof.Rows L2
structure OpRAt (K : PySem.W.Frag) (T : Tb) (k : Nat) (op : Operator) : Prop where
  first : PySem.W.selfFirst K (T.cl k) = true
  l : ∃ fA : Addr, PySem.W.findIn K (.ref (T.cl k)) (PySem.dunder op.info.2) = some (some (.ref fA))
  sub : PySem.W.subIn K (.ref (T.cl k)) (.type "int") = some false
inductive OpRsAt (K : PySem.W.Frag) (T : Tb) (op : Operator) : List (Nat × (List S → Cs → R S)) → Prop
  | nil : OpRsAt K T op []
  | cons {c : Nat} {fn : List S → Cs → R S} {l : List (Nat × (List S → Cs → R S))} : OpRAt K T c op → OpRsAt K T op l → OpRsAt K T op ((c, fn) :: l)
theorem OpRsAt.get {K : PySem.W.Frag} {T : Tb} {op : Operator} {l : List (Nat × (List S → Cs → R S))} (h : OpRsAt K T op l) {c : Nat} {fn : List S → Cs → R S} (hm : (c, fn) ∈ l) : OpRAt K T c op := by
  induction h with
  | nil => cases hm
  | cons a _ ih =>
    rcases List.mem_cons.mp hm with z | z
    · cases z; exact a
    · exact ih z
section
variable {X : Cx} {T : Tb} {W : WX} {a b : Expr} {A B : M} {pos : Pos} {tbl rtbl : List (Nat × (List S → Cs → R S))} {n n' : Nat} {op : Operator}
end
/-! ### o.m(k = v), C(k = v, ..) -/
section
variable {P : Program} {w : World} {K : PySem.W.Frag} {mg : Str → Option Value} {base : Heap} {T : Tb} {k : Nat}
end
section
variable {X : Cx} {T : Tb} {W : WX} {CX : CXT} {k : Nat} {f C : Addr} {fd : FuncData} {ps ks : List Str} {sp : Sp} {fn : List S → Cs → R S} {E : L2.St → XK} {x : Str} {e o : Expr} {kws : List Keyword} {A : M} {B : MA} {p pos apos kpos : Pos} {nm : Option Str}
end
end Dn

end
section
set_option maxHeartbeats 4000000
/-! Dn49: max of a list, int of a bool. -/
namespace Dn
open PySem PySem.Spec PyProof.Rows L2
open PySem.SeqAt
section
variable {X : Cx} {T : Tb} {W : WX} {a b o e : Expr} {es : List Expr} {A B : M} {pos p p2 apos : Pos}
/-! ### int of a bool -/
def intBD : List D → Option D
  | [.int i] => some (.int i)
  | [.bl b] => some (.int (if b then 1 else 0))
  | _ => none
theorem fresh_intB : FreshN T intBD (fun xs H Q => (∃ i, xs = [.int i] ∧ Q (.int i) H) ∨ ∃ k, xs = [.bl k] ∧ Q (.int (if k then 1 else 0)) H) := by
  intro G H x d v Q e hx hd k
  unfold intBD at hd
  split at hd
  · cases hd
    obtain ⟨v, rfl, h⟩ := hx.one
    have := View.int_inv h; subst this
    exact .inl ⟨_, rfl, k _ H G (Step.refl e) Rep.int⟩
  · cases hd
    obtain ⟨v, rfl, h⟩ := hx.one
    have := View.bl_inv h; subst this
    exact .inr ⟨_, rfl, k _ H G (Step.refl e) Rep.int⟩
  · cases hd
theorem dn_intBc {B : MA} (hg : Gl X "int") (hm : X.mg "int" = none) (ha : PA X (e :: es) (tDA T W B)) (he : starEach (e :: es) X.env = (false, eval e X.env) :: starEach es X.env := by rfl) (hpl : (backTo pos (starEach es X.env)).any (·.1) = false := by rfl) : PE X (.Call (.Name "int" p) (e :: es) [] pos) (tD T W (mBlt (liftN intBD) B)) :=
  dn_callTy call_int1 (primN fresh_intB) hg hm (by decide +kernel) ha (by decide) (by decide) he hpl
end
end Dn

end
section
set_option maxHeartbeats 1000000
/-! Dn50: a plain thing == an own object: its own == is asked the other way round; lists and `in` with such items. -/
namespace PySem.W
open PySem PySem.Builtin.Int PyProof.Rows
section
variable {prog : Program} {w : World} {M : Model} {A : Around} {E : Value → Shared → Prop} {s : Shared} {K : Frag} {x C L f fA : Addr} {h₀ : Heap} {m : Str → Option Value} {ox : Obj} {od : Option Obj} {nm nm' id Ta : String} {g : Int → Int → Sem Fin} {i : Int} {t : Tok} {a : Value}
end
end PySem.W
namespace Dn
open PySem PySem.Spec PyProof.Rows L2
structure EqRAt (K : PySem.W.Frag) (T : Tb) (k : Nat) : Prop where
  i : PySem.W.subIn K (.ref (T.cl k)) (.type "int") = some false
  b : PySem.W.subIn K (.ref (T.cl k)) (.type "bool") = some false
  s : PySem.W.subIn K (.ref (T.cl k)) (.type "str") = some false
inductive EqRsAt (K : PySem.W.Frag) (T : Tb) : List (Nat × (List S → Cs → R S)) → Prop
  | nil : EqRsAt K T []
  | cons {c : Nat} {fn : List S → Cs → R S} {l : List (Nat × (List S → Cs → R S))} : EqRAt K T c → EqRsAt K T l → EqRsAt K T ((c, fn) :: l)
theorem EqRsAt.get {K : PySem.W.Frag} {T : Tb} {l : List (Nat × (List S → Cs → R S))} (h : EqRsAt K T l) {c : Nat} {fn : List S → Cs → R S} (hm : (c, fn) ∈ l) : EqRAt K T c := by
  induction h with
  | nil => cases hm
  | cons a _ ih =>
    rcases List.mem_cons.mp hm with z | z
    · cases z; exact a
    · exact ih z
section
variable {X : Cx} {T : Tb} {W : WX} {a b : Expr} {A B : M} {pos : Pos} {tbl : Tbl} {kd : Kinds} {n f : Nat}
/-! ### ==, in -/
section
variable (hM : MethsAt X.prog X.w X.K X.mg X.base T "__eq__" n tbl) (hQ : EqRsAt X.K T tbl) (hT : X.K = T.K) (hr : Room (n + f + 1) X.A) (ha : PE X a (tD T W A)) (hb : PE X b (tD T W B))
include hM hQ hT hr ha hb
end
end
end Dn

end
section
set_option maxHeartbeats 1000000
/-! Dn51: C(k = v, ..), all parameters by keyword, of a class whose last parameter has a default. -/
namespace Dn
open PySem PySem.Spec PyProof.Rows L2
section
variable {P : Program} {w : World} {K : PySem.W.Frag} {mg : Str → Option Value} {base : Heap} {T : Tb} {k : Nat}
end
section
variable {X : Cx} {T : Tb} {W : WX} {CX : CXT} {k : Nat} {f C : Addr} {fd : FuncData} {ps ks : List Str} {sp : Sp} {fn : List S → Cs → R S} {E : L2.St → XK} {x : Str} {e o : Expr} {kws : List Keyword} {A : M} {B : MA} {p pos apos kpos : Pos}
end
end Dn

end
section
set_option maxHeartbeats 2000000
/-! Dn52: x(lambda: e), where x calls what it got under `try`. -/
namespace Dn
open PySem PySem.Spec PyProof.Rows L2
abbrev lamTbl (ps : Array Value) (pos : Pos) (c : Addr) : Array Value := ps ++ #[rawInt pos.line, rawInt pos.col, .ref c]
/-- the tracked heap after a lambda was made -/
def LamStep (H : Hp) (P : Addr) (q : Str) (ps : Array Value) (pos : Pos) (H1 : Hp) : Prop := H1 = H ∨ ∃ c', H c' = none ∧ H1 = upd (upd H P (.tbl (lamTbl ps pos c'))) c' (CodeO c' q)
section
variable {X : Cx} {pins : List (Addr × Obj)} {σ : L2.St} {H : Hp} {s : Shared}
theorem lam_make3 {c P : Addr} {ps : Array Value} {params : Arguments} {body : Expr} {scope : Scope} {pos : Pos} {E : Value → Shared → Prop} {Q : Value → Shared → Prop} (I : Inv X pins σ H s) (TB : LamX.TabB X.base X.mg c P) (hcode : X.env.code = .ref c)
    (hP : H P = some (.tbl ps)) (ht : TriplesOk ps.toList) (ha : ∀ (pos : Pos) (cv : Value), codeAmong pos ps.toList = some cv → ∃ c, cv = .ref c ∧ H c = some (CodeO c (X.env.qual ++ "<lambda>")))
    (hdef : defaultsOf params X.env = ([], [])) (hfree : ∀ y ∈ scope.names, y.2 = .free → ∃ c, X.env.cells.lookup y.1 = some c)
    (h : ∀ (f c' : Addr) (pm ctv : Value) (H1 : Hp) (s' : Shared), Inv X pins σ H1 s' → LamStep H P (X.env.qual ++ "<lambda>") ps pos H1 →
      s'.heap.get? f = some (PySem.W.kla_obj "<lambda>" (X.env.qual ++ "<lambda>") params body scope (cloFrom X.env.cells scope.names []) pm c' ctv) → H1 f = none → f ∉ frs X.stack → H1 c' = some (CodeO c' (X.env.qual ++ "<lambda>")) → Q (.ref f) s') :
    wpAny (model X.prog X.w) X.A (eval (.Lambda params body scope pos) X.env) Q E s := by
  refine PySem.W.kla_eval hdef ?_
  have bP : s.heap.BuiltinsAt X.mg P := TB.bm.keeps I.bk
  have hP' : s.heap.get? P = some { cls := .none, data := .fields ps } := I.hok P _ hP
  have nofr : ∀ f, s.heap.objs.size ≤ f → f ∉ frs X.stack := fun f hf z => by
    rcases List.mem_cons.mp (I.stkSub _ z) with e | e
    · have h1 := I.lt
      rw [← e] at h1
      exact Nat.lt_irrefl _ (Nat.lt_of_lt_of_le h1 hf)
    · exact I.nofs hf e
  cases hc : codeAmong pos ps.toList with
  | none =>
    refine PySem.W.kla_makeFunction (mg := X.mg) (c := c) (P := P) (ps := ps) (closure_ok hfree) I.ok.glob (I.mod.glob.keeps I.bk) hcode (TB.code.keeps I.bk) hP' ht hc TB.gP bP fun c' ctv h' tk hx hge hlt hrec htb => ?_
    obtain ⟨c2, oc, vs, t, e2, hoc, hd, hv⟩ := hrec
    cases e2
    have hsz : s.heap.objs.size ≤ h'.objs.size := Nat.le_trans hge (Nat.le_of_lt hlt)
    have nC : H c' = none := I.hok.fresh hge
    have I1 := LamX.inv_table (t' := tk) (more := #[rawInt pos.line, rawInt pos.col, .ref c']) (h' := h'.push (PySem.W.kla_obj "<lambda>" (X.env.qual ++ "<lambda>") params body scope (cloFrom X.env.cells scope.names []) ((X.mg "__name__").getD .none) c' ctv)) I hP
      (fun b o hb e => Heap.get?_push_of_some _ (hx b o hb e)) (Heap.get?_push_of_some _ htb) hge ⟨oc, vs, t, Heap.get?_push_of_some _ hoc, hd, hv⟩
    refine h h'.objs.size c' ((X.mg "__name__").getD .none) ctv _ _ I1 (.inr ⟨c', nC, rfl⟩) (Heap.get?_push_size _ rfl) ?_ (nofr _ hsz) upd_same
    have n1 : h'.objs.size ≠ c' := Nat.ne_of_gt hlt
    have n2 : h'.objs.size ≠ P := Nat.ne_of_gt (Nat.lt_of_lt_of_le (Heap.lt_size hP') hsz)
    rw [upd_ne n1, upd_ne n2]
    exact I.hok.fresh hsz
  | some cv =>
    obtain ⟨c', e, hco⟩ := ha pos cv hc
    subst e
    refine PySem.W.kla_makeFunctionHit (mg := X.mg) (c := c) (P := P) (ps := ps) (closure_ok hfree) I.ok.glob (I.mod.glob.keeps I.bk) hcode (TB.code.keeps I.bk) hP' ht hc bP fun ctv h' tk hx hsz => ?_
    have I1 : Inv X pins σ H { s with heap := h'.push (PySem.W.kla_obj "<lambda>" (X.env.qual ++ "<lambda>") params body scope (cloFrom X.env.cells scope.names []) ((X.mg "__name__").getD .none) c' ctv), toks := tk } := I.kept fun b o e => Heap.get?_push_of_some _ (hx b o e)
    exact h h'.objs.size c' ((X.mg "__name__").getD .none) ctv H _ I1 (.inl rfl) (Heap.get?_push_size _ rfl) (I.hok.fresh hsz) (nofr _ hsz) hco
end
/-- the table of lambdas that stands in a cell -/
theorem RelH.lam {T : Tb} {H : Hp} {c : Cs} {G : Hp} {ρ : List Addr} {j : Nat} {q : Str} (r : RelH T H c G ρ) (hl : T.lam j = some q) (h : hasTb j c = true) :
    ∃ ps, H (T.tb j) = some (.tbl ps) ∧ TriplesOk ps.toList ∧ (∀ (pos : Pos) (cv : Value), codeAmong pos ps.toList = some cv → ∃ c, cv = .ref c ∧ H c = some (CodeO c q)) ∧
      ∀ pos H1, LamStep H (T.tb j) q ps pos H1 → ∃ G', Ex G G' ∧ RelH T H1 c G' ρ := by
  unfold hasTb at h
  cases hc : c[j]? with
  | none => rw [hc] at h; cases h
  | some x =>
    rw [hc] at h
    cases x with
    | tb k =>
      have h : (k == j) = true := h
      have e : k = j := by simpa using h
      subst e
      have hj : k < ρ.length := by rw [r.len]; exact (List.getElem?_eq_some_iff.mp hc).1
      have hp : ρ[k]? = some ρ[k] := List.getElem?_eq_getElem hj
      obtain ⟨g0, e0, ps, a, b, l⟩ := r.at_ k _ _ hp hc
      rw [e0] at a g0
      refine ⟨ps, a, b, fun pos cv hcv => ?_, fun pos H1 st => ?_⟩
      · obtain ⟨c0, z1, z2⟩ := l q hl pos cv hcv
        exact ⟨c0, z1, r.ex _ _ z2⟩
      · rcases st with rfl | ⟨c', nC, rfl⟩
        · exact ⟨G, .refl _, r⟩
        · have gC : G c' = Option.none := r.ex.back nC
          have nPc : T.tb k ≠ c' := ne_of_none a nC
          have eG : Ex G (upd G c' (CodeO c' q)) := Ex.new gC
          refine ⟨upd G c' (CodeO c' q), eG, fun p o eo => ?_, r.len, r.nd, fun i p x hi hx => ?_⟩
          · by_cases hpc : p = c'
            · rw [hpc, upd_same] at eo ⊢; exact eo
            · rw [upd_ne hpc] at eo ⊢
              rw [upd_ne (fun z => by rw [z, g0] at eo; cases eo)]
              exact r.ex p o eo
          · obtain ⟨g1, ok⟩ := r.at_ i p x hi hx
            obtain ⟨o, ho⟩ := ok.some
            have npc : p ≠ c' := ne_of_none ho nC
            refine ⟨by rw [upd_ne npc]; exact g1, ?_⟩
            by_cases hpk : p = T.tb k
            · have e1 : i = k := (List.getElem?_inj (List.getElem?_eq_some_iff.mp hi).1 r.nd).mp (by rw [hi, hp, e0, hpk])
              subst e1
              rw [hc] at hx
              cases hx
              refine ⟨hpk, lamTbl ps pos c', by rw [upd_ne npc, hpk, upd_same], ?_, fun q' hq' pos' cv hcv => ?_⟩
              · have eL : (lamTbl ps pos c').toList = ps.toList ++ [rawInt pos.line, rawInt pos.col, .ref c'] := by simp [lamTbl]
                rw [eL]
                exact PySem.TriplesOk_snoc _ _ _ _ b
              · have eL : (lamTbl ps pos c').toList = ps.toList ++ [rawInt pos.line, rawInt pos.col, .ref c'] := by simp [lamTbl]
                rw [eL] at hcv
                rw [hl] at hq'
                cases hq'
                rcases LamX.among_app _ b hcv with z | z
                · obtain ⟨c0, z1, z2⟩ := l q hl pos' cv z
                  exact ⟨c0, z1, eG _ _ z2⟩
                · exact ⟨c', z, upd_same⟩
            · exact ok.keep eG (by rw [upd_ne npc, upd_ne hpk]) (List.prefix_refl _)
    | _ => cases h
section
variable {X : Cx}
end
section
variable {X : Cx} {T : Tb} {W : WX} {A : M} {j k : Nat} {ks : List Nat}
end
/-! ### a if t else b, asked for its truth -/
section
variable {X : Cx} {T : Tb} {W : WX} {C A B : MT} {e a b : Expr} {pos : Pos}
end
/-! ### the law's own code and table are known -/
section
variable {P : Program} {w : World} {K : PySem.W.Frag} {mg : Str → Option Value} {base : Heap} {T : Tb} {k : Nat} {fd : FuncData} {f : Addr} {N ps : List Str}
end
end Dn

end
section
set_option maxHeartbeats 2000000
/-! Dn53: a def that gets a function and calls it; a lambda with parameters. -/
namespace Dn
open PySem PySem.Spec PyProof.Rows L2
/-- another function in hand -/
def Tb.wm (T : Tb) (o : Option Lm) : Tb := { T with lm := o }
def dcS : S → Bool
  | .d _ => true
  | .c _ => true
  | _ => false
section
variable {T : Tb} {o : Option Lm} {G H : Hp} {ρ : List Addr} {c : Cs}
mutual
theorem Rep.wm : ∀ (d : D) (v : V), Rep T G d v → Rep (T.wm o) G d v
  | .non, v, e => by unfold Rep at *; exact e
  | .bl _, v, e => by unfold Rep at *; exact e
  | .int _, v, e => by unfold Rep at *; exact e
  | .str _, v, e => by unfold Rep at *; exact e
  | .scr ns, v, e => by unfold Rep at *; exact e
  | .lst xs, v, e => by unfold Rep at *; obtain ⟨p, vs, a, b, l, q⟩ := e; exact ⟨p, vs, a, b, l, Reps.wm xs vs q⟩
  | .tup xs, v, e => by unfold Rep at *; obtain ⟨p, vs, a, b, l, q⟩ := e; exact ⟨p, vs, a, b, l, Reps.wm xs vs q⟩
  | .obj _ xs, v, e => by unfold Rep at *; obtain ⟨p, dx, fv, a, b, l, q⟩ := e; exact ⟨p, dx, fv, a, b, l, Reps.wm xs _ q⟩
  | .dct _ xs, v, e => by unfold Rep at *; obtain ⟨p, kv, a, b, l, q⟩ := e; exact ⟨p, kv, a, b, l, Reps.wm xs _ q⟩
theorem Reps.wm : ∀ (d : List D) (v : List V), Reps T G d v → Reps (T.wm o) G d v
  | [], v, e => by unfold Reps at *; exact e
  | d :: ds, v, e => by unfold Reps at *; obtain ⟨y, r, a, b, q⟩ := e; exact ⟨y, r, a, Rep.wm d y b, Reps.wm ds r q⟩
end
theorem CRep.wm : ∀ {s : S} {v : V}, CRep T G ρ s v → CRep (T.wm o) G ρ s v
  | .d _, _, e => Rep.wm _ _ e
  | .c _, _, e => e
theorem CReps.wm {ss : List S} {vs : List V} (r : CReps T G ρ ss vs) : CReps (T.wm o) G ρ ss vs := by
  induction r with
  | nil => exact .nil
  | cons a _ ih => exact .cons a.wm ih
theorem CellOk.wm {p : Addr} : ∀ {y : CC}, CellOk T G H ρ p y → CellOk (T.wm o) G H ρ p y
  | .lst xs, ⟨vs, a, b, r⟩ => ⟨vs, a, b, Reps.wm _ _ r⟩
  | .dct kvs, ⟨kv, a, b, k, r⟩ => ⟨kv, a, b, k, Reps.wm _ _ r⟩
  | .obj c xs, ⟨dx, fv, a, b, r⟩ => ⟨dx, fv, a, b, Reps.wm _ _ r⟩
  | .lS xs, ⟨vs, a, b, r⟩ => ⟨vs, a, b, r.wm⟩
  | .tS xs, ⟨vs, a, b, r⟩ => ⟨vs, a, b, r.wm⟩
  | .tb j, ⟨z, ps, a, b⟩ => ⟨z, ps, a, b⟩
  | .dT kvs, ⟨kv, a, b, k, r⟩ => ⟨kv, a, b, k, Reps.wm _ _ r⟩
theorem RelH.wm (r : RelH T H c G ρ) : RelH (T.wm o) H c G ρ := ⟨r.ex, r.len, r.nd, fun i p y a b => let ⟨g, k⟩ := r.at_ i p y a b; ⟨g, k.wm⟩⟩
theorem RelH.mw (r : RelH (T.wm o) H c G ρ) : RelH T H c G ρ := RelH.wm (T := T.wm o) (o := T.lm) r
theorem XRep.wm {k : Nat} {xs : List S} {d : Option Addr} (r : XRep T G ρ k xs d) : XRep (T.wm o) G ρ k xs d := by
  rcases r with r | ⟨dx, fv, a, b, e, r⟩
  · exact .inl r
  · exact .inr ⟨dx, fv, a, b, e, r.wm⟩
theorem SRep.wm : ∀ {s : S} {v : V}, dcS s = true → SRep T G ρ s v → SRep (T.wm o) G ρ s v
  | .d _, _, _, e => Rep.wm _ _ e
  | .c _, _, _, e => e
theorem SReps.wm {ss : List S} {vs : List V} (h : ss.all dcS = true) (r : SReps T G ρ ss vs) : SReps (T.wm o) G ρ ss vs := by
  induction r with
  | nil => exact .nil
  | cons a _ ih =>
    rw [List.all_cons, Bool.and_eq_true] at h
    exact .cons (a.wm h.1) (ih h.2)
theorem SReps.mw {ss : List S} {vs : List V} (h : ss.all dcS = true) (r : SReps (T.wm o) G ρ ss vs) : SReps T G ρ ss vs := SReps.wm (T := T.wm o) (o := T.lm) h r
/-- what comes out is data or a cell -/
def outDc (r : R S) : Prop := ∀ s c, r = .ok s c → dcS s = true
theorem PostF.wm {r : R S} {Q : VK} {E : XK} (hd : outDc r) (h : PostF (T.wm o) G ρ r Q E) : PostF T G ρ r Q E := by
  cases r with
  | ok s c => exact fun v H' G' ρ' e p rh rs => h v H' G' ρ' e p rh.wm (rs.wm (hd _ _ rfl))
  | ex k xs c => exact fun d H' G' e rh x => h d H' G' e rh.wm x.wm
  | bad => exact h
theorem PostF.mw {r : R S} {Q : VK} {E : XK} (hd : outDc r) (h : PostF T G ρ r Q E) : PostF (T.wm o) G ρ r Q E := PostF.wm (T := T.wm o) (o := T.lm) hd h
theorem exit_dc {kp : Bool} {n : Nat} {r : RS} : outDc (exitR kp n r) := by
  intro s c e
  cases r with
  | nx δ c => cases e; rfl
  | bk δ c => cases e
  | ct δ c => cases e
  | bad => cases e
  | ex k xs δ c =>
    have e : (if refsOk n xs = true then R.ex k xs (c.take n) else .bad) = R.ok s _ := e
    split at e <;> cases e
  | rt t c =>
    cases t with
    | x _ _ => cases e
    | f => cases e
    | d x => cases e; rfl
    | c k =>
      unfold exitR at e
      by_cases hk : k < n
      · simp only [hk, if_true] at e; cases e; rfl
      · simp only [hk, if_false] at e
        cases hc : c[k]? with
        | none => simp only [hc] at e; cases e
        | some cc =>
          simp only [hc] at e
          cases cc with
          | lst xs =>
            simp only at e
            split at e <;> (cases e; rfl)
          | _ => cases e
theorem fnG_dc {kp : Bool} {np n : Nat} {b : MS} {ss : List S} : outDc (fnG kp np n b ss c) := by
  unfold fnG
  split
  · exact exit_dc
  · intro s c e; cases e
end
/-! ### the lambda runs -/
abbrev lamF (q : Str) (params : Arguments) (scope : Scope) (cl : List (Str × Addr)) (c' : Addr) : NdefX.NF := ⟨"<lambda>", q, params, [], scope, cl, c'⟩
section
variable {CX : CXT} {P : Program} {w : World} {K : PySem.W.Frag} {mg : Str → Option Value} {base : Heap} {N ps fr : List Str} {A : Around} {outer : List Env} {s : Shared} {H : Hp} {E : XK} {Q : VK} {us : List Value} {vs : List V} {ws : List (Option V)} {k : Nat}
theorem lam_run {params : Arguments} {body : Expr} {scope : Scope} {cl : List (Str × Addr)} {c' f : Addr} {q : Str} {pm ctv : Value} (S : NdefX.NScope N ps fr scope)
    (hb : bindArgs (PySem.W.kla_fn "<lambda>" q params body scope cl pm (.ref c') ctv) ⟨us, []⟩ = pure (ps.zip us)) (ho : s.heap.get? f = some (PySem.W.kla_obj "<lambda>" q params body scope cl pm c' ctv)) (hc : H c' = some (CodeO c' q))
    (C : NdefX.CellsAt cl fr ws s.heap H) (r : Vals vs us) (hl : vs.length = ps.length) (hr : Room (k + 1) A) (e0 : Env0 P w K mg base A outer s H)
    (hbody : Room k (A.deeper (NdefX.envF (lamF q params scope cl c') f s.heap.objs.size)) → ∃ tb, PE (NdefX.ncx CX P w K mg base N (lamF q params scope cl c') f A outer s H E) body tb ∧ tb (NdefX.startF N vs ws) H Q) :
    codeAny (model P w) A (.call (.ref f) ⟨us, []⟩) (CR CX outer P w H s Q E) s := by
  have lim : s.heap.NoLimit := e0.mod.nolimit.keeps fun b o e => (e0.bs b o e).1
  obtain ⟨⟨oc, vs', t, hoc, hdc, hvc⟩, _, _⟩ := e0.hok c' _ hc
  refine PySem.W.kla_callFunE hr.depth ho rfl S.co S.gen rfl ⟨c', oc, vs', t, rfl, hoc, hdc, hvc⟩ ?_
  rw [hb]
  refine wpAny_pure (wpAny_newFunctionEnv S.nocell (fun ⟨n, _⟩ hy => S.par n (List.of_mem_zip hy).1) (fun h₁ hns hsb => ⟨lim.fresh _ hsb, ?_⟩) S.kind)
  show codeAny _ _ (.expr body (NdefX.envF (lamF q params scope cl c') f s.heap.objs.size)) _ _
  have kp : ∀ b o, s.heap.get? b = some o → h₁.get? b = some o := fun b o e => hsb.extBut b o (Nat.ne_of_lt (Heap.lt_size e)) (Heap.get?_push_of_some _ e)
  obtain ⟨tb, ht, hq⟩ := hbody (hr.deeper _)
  have I : Inv (NdefX.ncx CX P w K mg base N (lamF q params scope cl c') f A outer s H E) [] (NdefX.startF N vs ws) H { s with heap := h₁, toks := s.toks + (ps.zip us).length } := NdefX.inv_startN S hr.hd e0 hl r C hns kp
  refine PySem.W.kla_codeExpr (wpAny_mono (ht.run [] _ (NdefX.startF N vs ws) H Q I hq) (fun v s' hq => ?_) fun e s' hq => hq)
  obtain ⟨w', H', J, rv, q⟩ := hq
  exact ⟨w', H', J.os, J.bare, J.base, J.hok, rv, q⟩
/-- the captured cells, later -/
theorem cells_later {cl : List (Str × Addr)} {L : List Addr} {HZ : Hp} {s1 : Shared} (C : NdefX.CellsAt cl fr ws s.heap H) (un : Un L [] H HZ s.heap s1.heap) : NdefX.CellsAt cl fr ws s1.heap HZ := by
  have kp : ∀ y c, cl.lookup y = some c → ∀ v, s.heap.IsCell c v → s1.heap.IsCell c v := fun y c e v ⟨o, ho, hd⟩ => by
    obtain ⟨sl, q⟩ := un.any ho (C.all y c e).1 (by simp)
    exact ⟨_, q, hd⟩
  refine ⟨C.len, fun y c e => ?_, C.inj, fun i y e => ?_⟩
  · obtain ⟨n, v, z⟩ := C.all y c e
    refine ⟨?_, v, kp y c e v z⟩
    obtain ⟨o, ho, _⟩ := z
    exact un.free c o ho n (by simp)
  · obtain ⟨c, hc, hv⟩ := C.has i y e
    refine ⟨c, hc, fun v ev => ?_⟩
    obtain ⟨u, r, z⟩ := hv v ev
    exact ⟨u, r, kp y c hc _ z⟩
end
/-! ### a lambda whose one parameter is captured -/
/-- its names: the parameter (a cell), then the captured ones, then its locals -/
structure NScopeC (N : List Str) (x : Str) (fr : List Str) (sc : Scope) : Prop where
  kind : sc.kind = .function
  co : sc.isCoroutine = false
  gen : sc.isGenerator = false
  nd : N.Nodup
  pre : N.take (1 + fr.length) = x :: fr
  par : sc.names.lookup x = some .cell
  one : sc.names.filter (fun y => y.2 == .cell) = [(x, .cell)]
  free : ∀ y ∈ sc.names, y.2 = .free → y.1 ∈ fr
  frk : ∀ y ∈ fr, sc.names.lookup y = some .free
def nscCB (N : List Str) (x : Str) (fr : List Str) (sc : Scope) : Bool :=
  decide (sc.kind = .function) && !sc.isCoroutine && !sc.isGenerator && decide N.Nodup && decide (N.take (1 + fr.length) = x :: fr) && decide (sc.names.lookup x = some .cell) && decide (sc.names.filter (fun y => y.2 == .cell) = [(x, .cell)]) && sc.names.all (fun y => !decide (y.2 = .free) || decide (y.1 ∈ fr)) && fr.all (fun x => decide (sc.names.lookup x = some .free))
theorem nscopeC_by {N fr : List Str} {x : Str} {sc : Scope} (h : nscCB N x fr sc = true) : NScopeC N x fr sc := by
  unfold nscCB at h
  simp only [Bool.and_eq_true, Bool.not_eq_true', decide_eq_true_eq, List.all_eq_true, Bool.or_eq_true, decide_eq_false_iff_not] at h
  obtain ⟨⟨⟨⟨⟨⟨⟨⟨h1, h2⟩, h3⟩, h4⟩, h5⟩, h6⟩, h7⟩, h8⟩, h9⟩ := h
  exact ⟨h1, h2, h3, h4, h5, h6, h7, fun y hy e => (h8 y hy).elim (fun z => absurd e z) id, h9⟩
theorem cells_one {x : Str} {k : NameKind} (hk : (k == NameKind.cell) = true) : ∀ (names : List (Str × NameKind)) (n : Nat) (acc : List (Str × Addr)) (h : Heap), names.filter (fun y => y.2 == .cell) = [(x, k)] → cellsFrom n names acc = (x, n) :: acc ∧ pushCells h names = h.push { cls := .type "cell", data := .cell none } := by
  have non : ∀ (names : List (Str × NameKind)) (n : Nat) (acc : List (Str × Addr)) (h : Heap), names.filter (fun y => y.2 == .cell) = [] → cellsFrom n names acc = acc ∧ pushCells h names = h := by
    intro names
    induction names with
    | nil => intro n acc h _; exact ⟨rfl, rfl⟩
    | cons y r ih =>
      intro n acc h hf
      obtain ⟨y1, y2⟩ := y
      by_cases hy : (y2 == NameKind.cell) = true
      · rw [List.filter_cons, if_pos hy] at hf; cases hf
      · rw [List.filter_cons, if_neg hy] at hf
        unfold cellsFrom pushCells
        rw [if_neg hy, if_neg hy]
        exact ih n acc h hf
  intro names
  induction names with
  | nil => intro n acc h hf; cases hf
  | cons y r ih =>
    intro n acc h hf
    obtain ⟨y1, y2⟩ := y
    by_cases hy : (y2 == NameKind.cell) = true
    · rw [List.filter_cons, if_pos hy] at hf
      obtain ⟨e1, e2⟩ := List.cons.inj hf
      cases e1
      unfold cellsFrom pushCells
      rw [if_pos hy, if_pos hy]
      exact non r _ _ _ e2
    · rw [List.filter_cons, if_neg hy] at hf
      unfold cellsFrom pushCells
      rw [if_neg hy, if_neg hy]
      exact ih n acc h hf
theorem env_cell {M : Model} {A : Around} {E : Value → Shared → Prop} {s : Shared} {N fr : List Str} {x : Str} {scope : Scope} {globals : Addr} {cl : List (Str × Addr)} {u : Value} {qual : Str} {func : Option Addr} {code : Value} {builtins : Addr} {Q : Env → Shared → Prop} (S : NScopeC N x fr scope)
    (hQ : ∀ (h₁ : Heap), h₁.Ns s.heap.objs.size (fun _ => none) → h₁.IsCell (s.heap.objs.size + 1) (some u) → (∀ b o, s.heap.get? b = some o → h₁.get? b = some o) → Q (newEnv scope s.heap.objs.size globals ((x, s.heap.objs.size + 1) :: cl) qual func code none builtins) { s with heap := h₁ }) :
    wpAny M A (newFunctionEnv scope globals cl [(x, u)] qual func code none builtins) Q E s := by
  simp only [newFunctionEnv, Option.isSome_none, Bool.false_eq_true, if_false]
  refine wpAny_bind (wpAny_alloc ?_)
  refine wpAny_bind (wpAny_layCells _ (fun name kind cells => by cases hkc : kind == NameKind.cell <;> simp [hkc]) _ _ _ _ ?_)
  obtain ⟨c1, c2⟩ := cells_one (x := x) (k := .cell) rfl scope.names (s.heap.objs.size + 1) cl (s.heap.push { cls := .type "frame", data := .dict #[] }) S.one
  have e0 : ({ s with heap := s.heap.push { cls := .type "frame", data := .dict #[] } } : Shared).heap.objs.size = s.heap.objs.size + 1 := Heap.size_push ..
  rw [e0, c1]
  have e1 : pushCells ({ s with heap := s.heap.push { cls := .type "frame", data := .dict #[] } } : Shared).heap scope.names = (s.heap.push { cls := .type "frame", data := .dict #[] }).push { cls := .type "cell", data := .cell none } := c2
  rw [e1]
  have hcell : ((s.heap.push { cls := .type "frame", data := .dict #[] }).push { cls := .type "cell", data := .cell none }).IsCell (s.heap.objs.size + 1) none := by
    refine ⟨{ cls := .type "cell", data := .cell none }, ?_, rfl⟩
    have := Heap.get?_push_size (s.heap.push { cls := .type "frame", data := .dict #[] }) (o := { cls := .type "cell", data := .cell none }) rfl
    rwa [Heap.size_push] at this
  rw [List.forIn_cons]
  refine wpAny_bind (wpAny_bind (wpAny_bind (wpAny_storeName_cell (c := s.heap.objs.size + 1) S.kind S.par (by
    show List.lookup x ((x, s.heap.objs.size + 1) :: cl) = _
    simp [List.lookup]) hcell fun h' hc hs => ?_)))
  refine wpAny_pure (wpAny_pure (wpAny_pure ?_))
  have kp : ∀ b o, ((s.heap.push { cls := .type "frame", data := .dict #[] }).push { cls := .type "cell", data := .cell none }).get? b = some o → b ≠ s.heap.objs.size + 1 → h'.get? b = some o := fun b o e ne => (hs.2 b ne).trans e
  refine hQ h' ?_ hc (fun b o e => kp b o (Heap.get?_push_of_some _ (Heap.get?_push_of_some _ e)) (Nat.ne_of_lt (Nat.lt_succ_of_lt (Heap.lt_size e))))
  have ns := ((Heap.Ns.new s.heap (.type "frame")).keeps (h' := (s.heap.push { cls := .type "frame", data := .dict #[] }).push { cls := .type "cell", data := .cell none }) fun b o e => Heap.get?_push_of_some _ e)
  exact ns.sameBut hs (Nat.ne_of_lt (Nat.lt_succ_self _))

/-- the names of a lambda: no cell among them, or its one parameter is one -/
def LamSc (N ps fr : List Str) (sc : Scope) : Prop := NdefX.NScope N ps fr sc ∨ ∃ x, ps = [x] ∧ NScopeC N x fr sc
section
variable {CX : CXT} {P : Program} {w : World} {K : PySem.W.Frag} {mg : Str → Option Value} {base : Heap} {N ps fr : List Str} {A : Around} {outer : List Env} {s : Shared} {H : Hp} {E : XK} {Q : VK} {us : List Value} {vs : List V} {ws : List (Option V)} {k : Nat}
theorem inv_startC {x : Str} {v : V} {u : Value} {h₁ : Heap} {params : Arguments} {scope : Scope} {cl : List (Str × Addr)} {c' f : Addr} {q : Str} (S : NScopeC N x fr scope) (hd : A.handled = none) (e0 : Env0 P w K mg base A outer s H) (r : RelV v u) (C : NdefX.CellsAt cl fr ws s.heap H)
    (hns : h₁.Ns s.heap.objs.size (fun _ => none)) (hc : h₁.IsCell (s.heap.objs.size + 1) (some u)) (kp : ∀ b o, s.heap.get? b = some o → h₁.get? b = some o) :
    Inv (NdefX.ncx CX P w K mg base N (lamF q params scope ((x, s.heap.objs.size + 1) :: cl) c') f A outer s H E) [] (NdefX.startF N [v] ws) H { s with heap := h₁ } := by
  have hpl : 1 + fr.length ≤ N.length := by
    have q := congrArg List.length S.pre
    rw [List.length_take, List.length_cons] at q
    omega
  have noA : ∀ b : Addr, b ∉ (NdefX.ncx CX P w K mg base N (lamF q params scope ((x, s.heap.objs.size + 1) :: cl) c') f A outer s H E).ex := fun b z => absurd (show b ∈ ([] : List Addr) from z) (by simp)
  have cellK : ∀ {c : Addr} {v : Option Value}, s.heap.IsCell c v → h₁.IsCell c v := fun {c v} ⟨o, ho, hd⟩ => ⟨o, kp _ _ ho, hd⟩
  have lk : ∀ {y : Str} {c : Addr}, List.lookup y ((x, s.heap.objs.size + 1) :: cl) = some c → (y = x ∧ c = s.heap.objs.size + 1) ∨ (cl.lookup y = some c ∧ c < s.heap.objs.size) := fun {y c} e => by
    rw [List.lookup_cons] at e
    cases hb : y == x with
    | true => rw [hb] at e; cases e; exact .inl ⟨beq_iff_eq.mp hb, rfl⟩
    | false =>
      rw [hb] at e
      obtain ⟨_, v, o, ho, _⟩ := C.all y c e
      exact .inr ⟨e, Heap.lt_size ho⟩
  have xs : List.lookup x ((x, s.heap.objs.size + 1) :: cl) = some (s.heap.objs.size + 1) := by simp [List.lookup]
  have frl : ∀ {y : Str} {c : Addr}, y ∈ fr → cl.lookup y = some c → List.lookup y ((x, s.heap.objs.size + 1) :: cl) = some c := fun {y c} hy e => by
    have ne : (y == x) = false := by
      cases hb : y == x with
      | false => rfl
      | true =>
        have z := beq_iff_eq.mp hb
        subst z
        have := S.frk _ hy
        rw [S.par] at this
        cases this
    rw [List.lookup_cons, ne]
    exact e
  refine ⟨⟨e0.mod, S.kind, rfl, rfl, Nat.le_refl _, fun y z c e1 e2 => ?_, fun y hy => ?_, fun y c z _ => ?_, fun _ => hd, Around.frames_deeper e0.frames, .inr ⟨rfl, rfl⟩, fun b z => absurd z (noA b), e0.bs, e0.bsz, fun b _ _ => noA b,
      fun b z => absurd z (noA b), e0.funs, e0.frf⟩,
    rfl, e0.bare, Un.kept kp, ⟨_, hns, fun i y v e1 e2 e3 => ?_⟩, fun y c e => ?_, e0.hok.fresh (Nat.le_refl _), fun y c e => ?_, fun q hq => absurd (show q ∈ ([] : List (Addr × Obj)) ++ [] from hq) (by simp), e0.hok.kept kp, ?_⟩
  · rcases lk e1 with ⟨a1, a2⟩ | ⟨a1, a2⟩ <;> rcases lk e2 with ⟨b1, b2⟩ | ⟨b1, b2⟩
    · rw [a1, b1]
    · exact absurd b2 (by rw [a2]; exact Nat.not_lt_of_le (Nat.le_succ _))
    · exact absurd a2 (by rw [b2]; exact Nat.not_lt_of_le (Nat.le_succ _))
    · exact C.inj y z c a1 b1
  · have hy : scope.names.lookup y = some .cell ∨ scope.names.lookup y = some .free := hy
    rcases hy with hy | hy
    · have hm : (y, NameKind.cell) ∈ scope.names.filter (fun y => y.2 == .cell) := List.mem_filter.mpr ⟨PySem.mem_of_lookup hy, rfl⟩
      rw [S.one] at hm
      have : y = x := (Prod.mk.inj (List.mem_singleton.mp hm)).1
      subst this
      exact ⟨_, xs⟩
    · have hf := S.free _ (PySem.mem_of_lookup hy) rfl
      obtain ⟨i, hi⟩ := List.mem_iff_getElem?.mp hf
      obtain ⟨c, hc, _⟩ := C.has i y hi
      exact ⟨c, frl hf hc⟩
  · have z : false = true := z
    cases z
  · have e1 : N[i]? = some y := e1
    have clen := C.len
    have hq : i < 1 + fr.length → (x :: fr)[i]? = some y := fun hi => by
      rw [← S.pre, List.getElem?_take_of_lt (by omega)]
      exact e1
    unfold NdefX.startF at e2
    cases i with
    | zero =>
      have hq := hq (by omega)
      simp at hq
      subst hq
      simp at e2
      subst e2
      exact ⟨u, r, .inr ⟨.inl S.par, _, xs, hc⟩⟩
    | succ i =>
      have e2 : (ws ++ List.replicate (N.length - 1 - ws.length) none)[i]? = some (some v) := by simpa using e2
      by_cases h2 : i < fr.length
      · have hq : fr[i]? = some y := by simpa using hq (by omega)
        rw [List.getElem?_append_left (by omega)] at e2
        obtain ⟨c, hc, hv⟩ := C.has i y hq
        obtain ⟨u, ru, hu⟩ := hv v e2
        exact ⟨u, ru, .inr ⟨.inr (S.frk y (List.mem_of_getElem? hq)), c, frl (List.mem_of_getElem? hq) hc, cellK hu⟩⟩
      · rw [List.getElem?_append_right (by omega), List.getElem?_replicate] at e2
        split at e2 <;> cases e2
  · rcases lk e with ⟨a1, a2⟩ | ⟨a1, a2⟩
    · rw [a2]; exact ⟨_, hc⟩
    · obtain ⟨v, z⟩ := (C.all y c a1).2
      exact ⟨v, cellK z⟩
  · rcases lk e with ⟨a1, a2⟩ | ⟨a1, a2⟩
    · rw [a2]; exact e0.hok.fresh (Nat.le_succ _)
    · exact (C.all y c a1).1
  · have clen := C.len
    unfold NdefX.startF
    show _ = N.length
    simp only [List.length_append, List.length_map, List.length_replicate, List.length_cons, List.length_nil]
    omega
theorem lam_runC {x : Str} {params : Arguments} {body : Expr} {scope : Scope} {cl : List (Str × Addr)} {c' f : Addr} {q : Str} {pm ctv : Value} (S : NScopeC N x fr scope)
    (hb : bindArgs (PySem.W.kla_fn "<lambda>" q params body scope cl pm (.ref c') ctv) ⟨us, []⟩ = pure ([x].zip us)) (ho : s.heap.get? f = some (PySem.W.kla_obj "<lambda>" q params body scope cl pm c' ctv)) (hc : H c' = some (CodeO c' q))
    (C : NdefX.CellsAt cl fr ws s.heap H) (r : Vals vs us) (hl : vs.length = 1) (hr : Room (k + 1) A) (e0 : Env0 P w K mg base A outer s H)
    (hbody : ∀ cl2, Room k (A.deeper (NdefX.envF (lamF q params scope cl2 c') f s.heap.objs.size)) → ∃ tb, PE (NdefX.ncx CX P w K mg base N (lamF q params scope cl2 c') f A outer s H E) body tb ∧ tb (NdefX.startF N vs ws) H Q) :
    codeAny (model P w) A (.call (.ref f) ⟨us, []⟩) (CR CX outer P w H s Q E) s := by
  have lim : s.heap.NoLimit := e0.mod.nolimit.keeps fun b o e => (e0.bs b o e).1
  obtain ⟨⟨oc, vs', t, hoc, hdc, hvc⟩, _, _⟩ := e0.hok c' _ hc
  cases r with
  | nil => cases hl
  | cons r0 rr =>
    cases rr with
    | cons _ _ => cases hl
    | nil =>
      refine PySem.W.kla_callFunE hr.depth ho rfl S.co S.gen rfl ⟨c', oc, vs', t, rfl, hoc, hdc, hvc⟩ ?_
      rw [hb]
      refine wpAny_pure (env_cell S fun h₁ hns hcc kp => ⟨lim.keeps kp, ?_⟩)
      obtain ⟨tb, ht, hq⟩ := hbody ((x, s.heap.objs.size + 1) :: cl) (hr.deeper _)
      have I := inv_startC (CX := CX) (P := P) (w := w) (K := K) (mg := mg) (base := base) (A := A) (outer := outer) (E := E) (params := params) (c' := c') (f := f) (q := q) S hr.hd e0 r0 C hns hcc kp
      refine PySem.W.kla_codeExpr (wpAny_mono (ht.run [] _ _ H Q I hq) (fun v s' hq => ?_) fun e s' hq => hq)
      obtain ⟨w', H', J, rv, q⟩ := hq
      exact ⟨w', H', J.os, J.bare, J.base, J.hok, rv, q⟩
theorem lam_runX {params : Arguments} {body : Expr} {scope : Scope} {cl : List (Str × Addr)} {c' f : Addr} {q : Str} {pm ctv : Value} (S : LamSc N ps fr scope)
    (hb : bindArgs (PySem.W.kla_fn "<lambda>" q params body scope cl pm (.ref c') ctv) ⟨us, []⟩ = pure (ps.zip us)) (ho : s.heap.get? f = some (PySem.W.kla_obj "<lambda>" q params body scope cl pm c' ctv)) (hc : H c' = some (CodeO c' q))
    (C : NdefX.CellsAt cl fr ws s.heap H) (r : Vals vs us) (hl : vs.length = ps.length) (hr : Room (k + 1) A) (e0 : Env0 P w K mg base A outer s H)
    (hbody : ∀ cl2, Room k (A.deeper (NdefX.envF (lamF q params scope cl2 c') f s.heap.objs.size)) → ∃ tb, PE (NdefX.ncx CX P w K mg base N (lamF q params scope cl2 c') f A outer s H E) body tb ∧ tb (NdefX.startF N vs ws) H Q) :
    codeAny (model P w) A (.call (.ref f) ⟨us, []⟩) (CR CX outer P w H s Q E) s := by
  rcases S with S | ⟨x, rfl, S⟩
  · exact lam_run S hb ho hc C r hl hr e0 (hbody cl)
  · exact lam_runC S hb ho hc C r hl hr e0 hbody
end
/-! ### the function in hand is called -/
def mCallV (i : Nat) (gl : List S → Cs → R S) (B : MA) : M := fun δ c => match δ[i]? with
  | some (some .f) => (B δ c).bind fun ss c => gl ss c
  | _ => .bad
/-- a in slot i may be called: it does gl -/
def ActAt (Z : Cx) (T : Tb) (W : WX) (a : Str) (i : Nat) (gl : List S → Cs → R S) : Prop :=
  ∀ {e : Expr} {es : List Expr} {B : MA} {p1 p2 : Pos}, PA Z (e :: es) (tDA T W B) → starEach (e :: es) Z.env = (false, eval e Z.env) :: starEach es Z.env → (backTo p2 (starEach es Z.env)).any (·.1) = false → PE Z (.Call (.Name a p1) (e :: es) [] p2) (tD T W (mCallV i gl B))
theorem dn_callV {Z : Cx} {T : Tb} {W : WX} {a : Str} {i : Nat} {gl : List S → Cs → R S} {e : Expr} {es : List Expr} {B : MA} {p1 p2 : Pos} (h : ActAt Z T W a i gl) (ha : PA Z (e :: es) (tDA T W B))
    (he : starEach (e :: es) Z.env = (false, eval e Z.env) :: starEach es Z.env := by rfl) (hpl : (backTo p2 (starEach es Z.env)).any (·.1) = false := by rfl) : PE Z (.Call (.Name a p1) (e :: es) [] p2) (tD T W (mCallV i gl B)) := h ha he hpl
/-! ### a lambda as a function -/
def lamSl (n : Nat) (js : List Nat) (δ : Sl) (ss : List S) : Sl := ss.map some ++ (js.map (fun j => (δ[j]?).join) ++ List.replicate (n - ss.length - js.length) none)
def lamG (np n : Nat) (js : List Nat) (A : M) (δ : Sl) : List S → Cs → R S := fun ss c => if ss.length = np ∧ ss.all dcS = true then exitR false c.length (sRet A (lamSl n js δ ss) c) else .bad
section
variable {T : Tb} {G H : Hp} {ρ : List Addr} {c : Cs} {σ : L2.St} {δ : Sl}
theorem lamG_dc {np n : Nat} {js : List Nat} {A : M} {ss : List S} : outDc (lamG np n js A δ ss c) := by
  unfold lamG
  split
  · exact exit_dc
  · intro s c e; cases e
theorem RelS.lam {N : List Str} {js : List Nat} {ss : List S} {vs : List V} (r : RelS T G ρ σ δ) (h : SReps T G ρ ss vs) : RelS T G ρ (NdefX.startF N vs (js.map (NdefX.slotAt σ))) (lamSl N.length js δ ss) := by
  have hl := h.length
  refine ⟨?_, fun i s e => ?_⟩
  · unfold NdefX.startF lamSl
    simp [hl]
  · unfold lamSl at e
    unfold NdefX.startF
    by_cases h1 : i < ss.length
    · rw [List.getElem?_append_left (by simpa using h1)] at e
      rw [List.getElem?_append_left (by simpa [hl] using h1)]
      have rs : ∀ {ss : List S} {vs : List V} (_ : SReps T G ρ ss vs) (i : Nat), (ss.map some)[i]? = some (some s) → ∃ v, (vs.map some)[i]? = some (some v) ∧ SRep T G ρ s v := by
        intro ss vs h
        induction h with
        | nil => intro i e; simp at e
        | @cons s0 ss0 v0 vs0 a b ih =>
          intro i e
          cases i with
          | zero => simp at e; subst e; exact ⟨v0, by simp, a⟩
          | succ i => simpa using ih i (by simpa using e)
      exact rs h i e
    · rw [List.getElem?_append_right (by simpa using h1), List.length_map] at e
      rw [List.getElem?_append_right (by simpa [hl] using h1), show (vs.map some).length = ss.length by simp [hl]]
      by_cases h2 : i - ss.length < js.length
      · rw [List.getElem?_append_left (by simpa using h2), List.getElem?_map] at e
        rw [List.getElem?_append_left (by simpa using h2), List.getElem?_map]
        cases hj : js[i - ss.length]? with
        | none => rw [hj] at e; cases e
        | some j =>
          rw [hj] at e
          have e : some ((δ[j]?).join) = some (some s) := e
          have e2 : δ[j]? = some (some s) := by
            cases hd : δ[j]? with
            | none => rw [hd] at e; cases e
            | some o => rw [hd] at e; exact congrArg some (Option.some.inj e)
          obtain ⟨v, hv, rv⟩ := r.at_ j s e2
          exact ⟨v, by show some (NdefX.slotAt σ j) = _; rw [NdefX.slotAt_of hv], rv⟩
      · rw [List.getElem?_append_right (by simpa using h2), List.getElem?_replicate] at e
        split at e <;> cases e
end
section
variable {X : Cx} {pins : List (Addr × Obj)} {σ : L2.St} {H G : Hp} {ρ : List Addr} {δ : Sl} {s : Shared} {T : Tb}
/-- the lambda called in the def that got it -/
theorem lam_act {CXg : CXT} {Eg : XK} {Ng N ps fr : List Str} {js : List Nat} {qg a q : Str} {sg scope : Scope} {g f c' : Addr} {cdg pm ctv : Value} {params : Arguments} {body : Expr} {k i : Nat} {pn : List (Addr × Obj)} {xe : Value → Shared → Prop} {W : WX} {Bd : M} {cl : List (Str × Addr)}
    (I : Inv X pins σ H s) (hs : RelS T G ρ σ δ) (S : LamSc N ps fr scope) (cp : NdefX.Caps X cl fr js) (hf : s.heap.get? f = some (PySem.W.kla_obj "<lambda>" q params body scope cl pm c' ctv)) (hfn : H f = none) (hfr : f ∉ frs X.stack)
    (hbind : ∀ (us : List Value), us.length = ps.length → bindArgs (PySem.W.kla_fn "<lambda>" q params body scope cl pm (.ref c') ctv) ⟨us, []⟩ = pure (ps.zip us))
    (tk : Takes ((cxOf CXg X.prog X.w X.K X.mg X.base Ng qg sg g cdg X.A X.stack s H Eg).tr pn xe) W) (hr : Room (k + 1) (X.A.deeper (envOfC qg sg s.heap.objs.size g cdg)))
    (hbody : ∀ (cl : List (Str × Addr)) (A : Around) (outer : List Env) (s : Shared) (H : Hp) (E : XK), Room k (A.deeper (NdefX.envF (lamF q params scope cl c') f s.heap.objs.size)) → PE (NdefX.ncx (L2.CX X.prog X.w) X.prog X.w X.K X.mg X.base N (lamF q params scope cl c') f A outer s H E) body (tD T (fun cls d _ H => E cls d H) Bd))
    (hN : Ng[i]? = some a) (hv : Vis sg a) (hd : (a == ("__debug__" : Str)) = false) (hcd : (a == ("__classdict__" : Str)) = false) :
    ActAt ((cxOf CXg X.prog X.w X.K X.mg X.base Ng qg sg g cdg X.A X.stack s H Eg).tr pn xe) (T.wm (some ⟨f, some (c', q), G, ρ⟩)) W a i (lamG ps.length N.length js Bd δ) := by
  intro e es B p1 p2 ha he hpl
  refine ⟨fun pinsZ sZ σZ HZ Q IZ ⟨δZ, cZ, GZ, ρZ, hsZ, hhZ, pZ⟩ => ?_⟩
  unfold mCallV at pZ
  cases h1 : δZ[i]? with
  | none => simp only [h1] at pZ; exact pZ.elim
  | some o1 => cases o1 with
    | none => simp only [h1] at pZ; exact pZ.elim
    | some s1 => cases s1 with
      | d _ => simp only [h1] at pZ; exact pZ.elim
      | c _ => simp only [h1] at pZ; exact pZ.elim
      | x _ _ => simp only [h1] at pZ; exact pZ.elim
      | f =>
        simp only [h1] at pZ
        obtain ⟨v, hv1, rv⟩ := hsZ.at_ i _ h1
        obtain ⟨rfl, eG, pρ, hco⟩ := rv _ rfl
        refine wpAny_Call_Name_kw (thn ((pe_var (pos := p1) (i := i) hN hv hd hcd).run pinsZ sZ σZ HZ (fun v H1 => v = .ref f ∧ H1 = HZ) IZ ⟨.ref f, hv1, rfl, rfl⟩) fun u s1 ⟨v, H1, I1, r1, q1⟩ => ?_)
        obtain ⟨ev, eH⟩ := q1
        subst ev
        rw [eH] at I1
        obtain rfl : u = Value.ref f := r1
        have of1 : ∀ {σ1 H1 s1} (_ : Inv ((cxOf CXg X.prog X.w X.K X.mg X.base Ng qg sg g cdg X.A X.stack s H Eg).tr pn xe) pinsZ σ1 H1 s1), s1.heap.get? f = some (PySem.W.kla_obj "<lambda>" q params body scope cl pm c' ctv) := fun {σ1 H1 s1} I1 => I1.base.keep f _ hf hfn hfr (fun z => nomatch (show f ∈ ([] : List Addr) from z))
        refine PySem.W.callWith_F (first := []) ⟨_, _, _, _, of1 I1⟩ (thn (ha.run p2 pinsZ s1 σZ HZ _ I1 ⟨δZ, cZ, GZ, ρZ, hsZ, hhZ, Post.bind (rel := SReps (T.wm _)) pZ⟩) fun us s2 ⟨vs, H2, I2, r, ss, c2, G2, ρ2, e2, p2', h2, r2, q2⟩ => ⟨⟨_, _, _, _, of1 I2⟩, ?_⟩) he hpl
        show wpAny _ _ (call (.ref f) us) _ _ _
        have q3 := PostF.of q2
        have q4 := PostF.wm (o := some ⟨f, some (c', q), G, ρ⟩) lamG_dc q3
        unfold lamG at q4
        by_cases hc2 : ss.length = ps.length ∧ ss.all dcS = true
        · rw [if_pos hc2] at q4
          have hl : vs.length = ps.length := by rw [r2.length]; exact hc2.1
          have un : Un (frs X.stack) [] H H2 s.heap s2.heap := I2.base
          have rl : RelS T G2 ρ2 (NdefX.startF N vs (js.map (NdefX.slotAt σ))) (lamSl N.length js δ ss) := RelS.lam (hs.mono (eG.trans e2) (pρ.trans p2')) (r2.mw hc2.2)
          have h2' := h2.mw
          refine wpAny_call (codeAny_mono (lam_runX (CX := L2.CX X.prog X.w) (Q := Q) (E := WE W σZ) S (hbind us (by rw [← r.length]; exact hl)) (of1 I2) (h2.ex _ _ (e2 _ _ (hco c' q rfl))) (cells_later (NdefX.cells_of I cp) un) r hl hr I2.env0 fun cl2 hr' =>
            ⟨_, hbody cl2 _ _ s2 H2 (WE W σZ) hr', _, _, _, _, rl, h2', ?_⟩) fun r s' hq => ?_)
          · rw [← h2'.len] at q4
            have q5 := exit_ok q4
            exact PostS.andS (rel := SRep T) rl q5 |>.imp (by
              rintro v H1 ⟨s, c1, G1, ρ1, e1, p1, h1, r1, q1⟩
              exact q1 v H1 G1 ρ1 (.refl _) (List.prefix_refl _) r1 h1)
          · cases r with
            | error e => exact passAt tk σZ pinsZ H2 s2 e s' I2 hq
            | ok fl =>
              cases fl with
              | ret u => exact I2.after hq
              | next => exact False.elim hq
              | brk => exact False.elim hq
              | cont => exact False.elim hq
        · rw [if_neg hc2] at q4; exact q4.elim
end
end Dn

end
section
set_option maxHeartbeats 2000000
/-! Dn54: x(.., lambda p: e). -/
namespace Dn
open PySem PySem.Spec PyProof.Rows L2
section
variable {T : Tb} {G G' H : Hp} {ρ : List Addr} {c : Cs}
/-- a code object is known from now on -/
theorem RelH.know {c' : Addr} {q : Str} (r : RelH T H c G ρ) (h : H c' = some (CodeO c' q)) : Ex G (upd G c' (CodeO c' q)) ∧ RelH T H c (upd G c' (CodeO c' q)) ρ := by
  have e : Ex G (upd G c' (CodeO c' q)) := fun a o ha => by
    by_cases z : a = c'
    · subst z
      rw [upd_same]
      rw [r.ex _ _ ha] at h
      exact h.symm
    · rw [upd_ne z]; exact ha
  refine ⟨e, fun a o ha => ?_, r.len, r.nd, fun i p x hi hx => ?_⟩
  · by_cases z : a = c'
    · subst z; rw [upd_same] at ha; cases ha; exact h
    · rw [upd_ne z] at ha; exact r.ex _ _ ha
  · obtain ⟨g, k⟩ := r.at_ i p x hi hx
    have ne : p ≠ c' := fun z => by
      subst z
      have no : ∀ o, H p = some o → o = CodeO p q := fun o ho => by rw [h] at ho; exact (Option.some.inj ho).symm
      cases x with
      | lst xs => obtain ⟨vs, a, _⟩ := k; have := no _ a; unfold CodeO at this; cases this
      | dct kvs => obtain ⟨vs, a, _⟩ := k; have := no _ a; unfold CodeO at this; cases this
      | obj n xs => obtain ⟨dx, fv, a, _⟩ := k; have := no _ a; unfold CodeO at this; cases this
      | lS xs => obtain ⟨vs, a, _⟩ := k; have := no _ a; unfold CodeO at this; cases this
      | tS xs => obtain ⟨vs, a, _⟩ := k; have := no _ a; unfold CodeO at this; cases this
      | tb j => obtain ⟨_, ps, a, _⟩ := k; have := no _ a; unfold CodeO at this; cases this
      | dT _ => obtain ⟨vs, a, _⟩ := k; have := no _ a; unfold CodeO at this; cases this
    exact ⟨by rw [upd_ne ne]; exact g, k.keep e rfl (List.prefix_refl _)⟩
theorem PostF.up {r : R S} {Q : VK} {E : XK} (h : PostF T G ρ r Q E) (e : Ex G G') : PostF T G' ρ r Q E := by
  cases r with
  | ok s c => exact fun v H' G'' ρ' e' p => h v H' G'' ρ' (e.trans e') p
  | ex k xs c => exact fun d H' G'' e' => h d H' G'' (e.trans e')
  | bad => exact h
theorem SReps.snoc {ss : List S} {vs : List V} {s : S} {v : V} (r : SReps T G ρ ss vs) (h : SRep T G ρ s v) : SReps T G ρ (ss ++ [s]) (vs ++ [v]) := r.append (.cons h .nil)
end
/-- the def that gets the function: its body, for each function -/
def LamBody (P : Program) (w : World) (K : PySem.W.Frag) (mg : Str → Option Value) (base : Heap) (T : Tb) (x : Str) (st : Stmt) (Ng : List Str) (k : Nat) (a : Str) (i : Nat) (bd : (List S → Cs → R S) → MS) : Prop :=
  ∀ (o : Option Lm) (gl : List S → Cs → R S) (f : Addr) (cdv : Value) (A : Around) (outer : List Env) (s : Shared) (H : Hp) (E : XK), Room k (A.deeper (envOfC x (defScope st) s.heap.objs.size f cdv)) → Takes (cxOf (L2.CX P w) P w K mg base Ng x (defScope st) f cdv A outer s H E) (fun cls d _ H => E cls d H) →
    (∀ (pn : List (Addr × Obj)) (xe : Value → Shared → Prop) (W : WX), Takes ((cxOf (L2.CX P w) P w K mg base Ng x (defScope st) f cdv A outer s H E).tr pn xe) W → ActAt ((cxOf (L2.CX P w) P w K mg base Ng x (defScope st) f cdv A outer s H E).tr pn xe) (T.wm o) W a i gl) →
    PSs (cxOf (L2.CX P w) P w K mg base Ng x (defScope st) f cdv A outer s H E) (defBody st) (tS (T.wm o) (fun cls d _ H => E cls d H) (bd gl))
theorem LamBody.mono {P : Program} {w : World} {K : PySem.W.Frag} {mg : Str → Option Value} {base : Heap} {T : Tb} {x : Str} {st : Stmt} {Ng : List Str} {k k' : Nat} {a : Str} {i : Nat} {bd : (List S → Cs → R S) → MS} (h : LamBody P w K mg base T x st Ng k a i bd) (hk : k ≤ k') : LamBody P w K mg base T x st Ng k' a i bd :=
  fun o gl f cdv A outer s H E hr tk ha => h o gl f cdv A outer s H E (hr.mono hk) tk ha
structure NdN (N : List Str) : Prop where
  nd : N.Nodup
/-- .. with the lambda as the last argument -/
def mLamEnd (j : Nat) (gd : (List S → Cs → R S) → List S → Cs → R S) (np n : Nat) (js : List Nat) (Bd : M) (δ : Sl) (ss : List S) (c : Cs) : R S := if hasTb j c = true ∧ ss.all dcS = true then gd (lamG np n js Bd δ) (ss ++ [.f]) c else .bad
def mLamN (j : Nat) (gd : (List S → Cs → R S) → List S → Cs → R S) (np n : Nat) (js : List Nat) (Bd : M) (B : MA) : M := fun δ c => (B δ c).bind fun ss c => mLamEnd j gd np n js Bd δ ss c
section
variable {X : Cx} {T : Tb} {W : WX} {Bd A1 A2 : M} {j kl kc : Nat}
/-- what a lambda with parameters asks of its maker -/
structure LamQ (X : Cx) (T : Tb) (j : Nat) (params : Arguments) (body : Expr) (scope : Scope) (N ps fr : List Str) (js : List Nat) (kl : Nat) (Bd : M) : Prop where
  tb : ∃ c, X.env.code = .ref c ∧ GxR.TabB X.base X.mg c (T.tb j) ∧ T.lam j = some (X.env.qual ++ "<lambda>")
  sc : LamSc N ps fr scope
  free : ∀ y ∈ scope.names, y.2 = .free → X.env.scope.names.lookup y.1 = some .cell ∨ X.env.scope.names.lookup y.1 = some .free
  frk : ∀ y ∈ fr, (y, NameKind.free) ∈ scope.names
  at_ : js.map (fun j => X.N[j]?) = fr.map some
  dflt : defaultsOf params X.env = ([], [])
  bind : ∀ (q : Str) (cl : List (Str × Addr)) (pm cv ctv : Value) (us : List Value), us.length = ps.length → bindArgs (PySem.W.kla_fn "<lambda>" q params body scope cl pm cv ctv) ⟨us, []⟩ = pure (ps.zip us)
  bd : ∀ (A : Around) (outer : List Env) (s : Shared) (H : Hp) (E : XK) (f c' : Addr) (cl : List (Str × Addr)) (q : Str), Room kl (A.deeper (NdefX.envF (lamF q params scope cl c') f s.heap.objs.size)) → PE (NdefX.ncx (L2.CX X.prog X.w) X.prog X.w X.K X.mg X.base N (lamF q params scope cl c') f A outer s H E) body (tD T (fun cls d _ H => E cls d H) Bd)
theorem lam_core {x a : Str} {st : Stmt} {Ng pg ps fr N : List Str} {js : List Nat} {i : Nat} {bd : (List S → Cs → R S) → MS} {params : Arguments} {body : Expr} {scope : Scope} {lpos : Pos} {kp : Bool} {pins : List (Addr × Obj)} {σ : L2.St} {H G : Hp} {ρ : List Addr} {δ : Sl} {c : Cs} {s : Shared} {us : List Value} {vs : List V} {ss : List S} {Q : VK} {g : Addr} {fd : FuncData}
    (F : Fun X.K x x st g fd) (hbi : Binds X.K fd pg []) (Sg : FnScope Ng pg (defScope st)) (LB : LamBody X.prog X.w X.K X.mg X.base T x st Ng kc a i bd) (hr : Room (kc + 1) X.A) (hk : kl + 1 ≤ kc) (hNg : Ng[i]? = some a) (hva : Vis (defScope st) a) (L : LamQ X T j params body scope N ps fr js kl Bd)
    (tk : Takes X W) (I : Inv X pins σ H s) (hs : RelS T G ρ σ δ) (hh : RelH T H c G ρ) (r : Vals vs us) (rs : SReps T G ρ ss vs) (hl : ss.length + 1 = pg.length) (pp : Post (SRep T) T W σ G ρ (mLamEnd j (fun gl => fnG kp pg.length Ng.length (bd gl)) ps.length N.length js Bd δ ss c) Q)
    (hd : (a == ("__debug__" : Str)) = false) (hcd : (a == ("__classdict__" : Str)) = false) :
    wpAny (model X.prog X.w) X.A (eval (.Lambda params body scope lpos) X.env) (fun fv s1 => X.K.In s1.heap ∧ wpAny (model X.prog X.w) X.A (call (.ref g) (us ++ [fv])) (EP X pins σ Q) X.xe s1) X.xe s := by
  obtain ⟨oc, od, kV, doc, pm, an, cdv, ct, osl, rfl, lk, hcg⟩ := F.ex
  obtain ⟨cm, hcode, TB, hlm⟩ := L.tb
  unfold mLamEnd at pp
  by_cases ht : hasTb j c = true ∧ ss.all dcS = true
  · rw [if_pos ht] at pp
    obtain ⟨pt, hP, tr, ha, stp⟩ := hh.lam hlm ht.1
    have hfree : ∀ y ∈ scope.names, y.2 = .free → ∃ c, X.env.cells.lookup y.1 = some c := fun y hy e => (L.free y hy e).elim (fun z => I.ok.has _ (.inl z)) fun z => I.ok.has _ (.inr z)
    refine lam_make3 I ⟨TB.code, TB.bm, TB.gP⟩ hcode hP tr ha L.dflt hfree fun f c' pm' ctv H1 s' I1 ls hf hfn hfr hco => ⟨I1.kIn, ?_⟩
    obtain ⟨G1, eG, h1⟩ := stp _ _ ls
    obtain ⟨eG2, h2⟩ := h1.know hco
    have eG3 := eG.trans eG2
    have rv : Vals (vs ++ [V.ref f]) (us ++ [Value.ref f]) := r.append (.cons rfl .nil)
    have hvl : (vs ++ [V.ref f]).length = pg.length := by rw [List.length_append, rs.length]; exact hl
    have hsl : (ss ++ [S.f]).length = pg.length := by rw [List.length_append]; exact hl
    have q1 := PostF.up (PostF.of pp) eG3
    have q2 := PostF.mw (o := some ⟨f, some (c', X.env.qual ++ "<lambda>"), upd G1 c' (CodeO c' (X.env.qual ++ "<lambda>")), ρ⟩) fnG_dc q1
    have hbt := hbi s' (us ++ [Value.ref f]) I1.kIn (by rw [List.append_nil, ← rv.length]; exact hvl)
    rw [List.append_nil] at hbt
    have rc : codeAny (model X.prog X.w) X.A (.call (.ref g) ⟨us ++ [.ref f], []⟩) (CR (L2.CX X.prog X.w) X.stack X.prog X.w H1 s' Q (WE W σ)) s' := by
      refine LamX.run_ofS (N := Ng) (ps := pg) (us := us ++ [.ref f]) (vs := vs ++ [.ref f]) lk hcg Sg hr I1.env0 hbt rv hvl fun hr' => ⟨_, LB (some ⟨f, some (c', X.env.qual ++ "<lambda>"), upd G1 c' (CodeO c' (X.env.qual ++ "<lambda>")), ρ⟩) (lamG ps.length N.length js Bd δ) g cdv X.A X.stack s' H1 (WE W σ) hr' cx_takes
        (fun pn xe W' tk' => lam_act I1 (hs.mono eG3 (List.prefix_refl _)) L.sc (NdefX.Caps.made I1.ok L.free L.frk L.at_) hf hfn hfr (fun us hu => L.bind _ _ _ _ _ us hu) tk' (hr'.mono hk) (fun cl A outer s H E hr2 => L.bd A outer s H E f c' cl _ hr2) hNg hva hd hcd), ?_⟩
      unfold fnG at q2
      rw [if_pos hsl] at q2
      have hh2 := h2.wm (o := some ⟨f, some (c', X.env.qual ++ "<lambda>"), upd G1 c' (CodeO c' (X.env.qual ++ "<lambda>")), ρ⟩)
      have rs2 := SReps.snoc ((rs.mono eG3 (List.prefix_refl _)).wm (o := some ⟨f, some (c', X.env.qual ++ "<lambda>"), upd G1 c' (CodeO c' (X.env.qual ++ "<lambda>")), ρ⟩) ht.2) (s := .f) (v := .ref f) (fun L' e => by
        cases e
        exact ⟨rfl, .refl _, List.prefix_refl _, fun c q hq => by cases hq; exact upd_same⟩)
      refine ⟨_, c, _, ρ, rs2.start hsl, hh2, ?_⟩
      rw [← hh2.len] at q2
      exact exit_ok q2
    refine wpAny_call (codeAny_mono rc fun r s2 hq => ?_)
    cases r with
    | error e => exact passAt tk σ pins H1 s' e s2 I1 hq
    | ok fl =>
      cases fl with
      | ret u => exact I1.after hq
      | next => exact False.elim hq
      | brk => exact False.elim hq
      | cont => exact False.elim hq
  · rw [if_neg ht] at pp; exact pp.elim
/-- x(e, lambda) -/
theorem dn_lam1 {x a : Str} {st : Stmt} {Ng pg ps fr N : List Str} {js : List Nat} {i : Nat} {bd : (List S → Cs → R S) → MS} {params : Arguments} {body : Expr} {scope : Scope} {lpos p pos : Pos} {kp : Bool} {e1 : Expr}
    (D : DefAt X.K X.mg x st pg) (Sg : FnScope Ng pg (defScope st)) (LB : LamBody X.prog X.w X.K X.mg X.base T x st Ng kc a i bd) (hr : Room (kc + 1) X.A) (hg : Gl X x) (tk : Takes X W) (hk : kl + 1 ≤ kc) (L : LamQ X T j params body scope N ps fr js kl Bd) (h1 : PE X e1 (tD T W A1))
    (hl : pg.length = 2) (hNg : Ng[i]? = some a) (hva : Vis (defScope st) a) (hdb : (x == ("__debug__" : Str)) = false := by decide) (hd : (a == ("__debug__" : Str)) = false := by decide) (hcd : (a == ("__classdict__" : Str)) = false := by decide)
    (he : starEach [e1, .Lambda params body scope lpos] X.env = (false, eval e1 X.env) :: starEach [.Lambda params body scope lpos] X.env := by rfl) :
    PE X (.Call (.Name x p) [e1, .Lambda params body scope lpos] [] pos) (tD T W (mLamN j (fun gl => fnG kp pg.length Ng.length (bd gl)) ps.length N.length js Bd (mCons A1 mNil))) := by
  obtain ⟨g, fd, F, hm, hkk, hb⟩ := D
  refine ⟨fun pins s σ H Q I ⟨δ, c, G, ρ, hs, hh, pp⟩ => ?_⟩
  refine wpAny_Call_Name_kw (ld_glob I hg hm ?_ hdb)
  refine PySem.W.callWith_K (h₀ := X.base) I.ok.mod.kin hkk ?_ he (by rfl)
  rw [he]
  show wpAny _ _ (spliced ((false, eval e1 X.env) :: (false, eval (.Lambda params body scope lpos) X.env) :: backTo pos (starEach [] X.env))) _ _ s
  have pp2 : Post (SRep T) T W σ G ρ ((A1 δ c).bind fun s c => mLamEnd j (fun gl => fnG kp pg.length Ng.length (bd gl)) ps.length N.length js Bd δ [s] c) Q := by
    unfold mLamN mCons mNil at pp
    cases hA : A1 δ c with
    | ok s1 c1 => rw [hA] at pp; exact pp
    | ex k xs c1 => rw [hA] at pp; exact pp
    | bad => rw [hA] at pp; exact pp
  refine Calls.spliced_cons (thn (h1.run pins s σ H _ I ⟨δ, c, G, ρ, hs, hh, Post.bind (rel := SRep T) pp2⟩) fun u s1 ⟨v, H1, I1, r1, s, c1, G1, ρ1, e1', p1, h1', rs1, q1⟩ => ?_)
  refine Calls.spliced_cons (thn (lam_core (us := [u]) F hb Sg LB hr hk hNg hva L tk I1 (hs.mono e1' p1) h1' (.cons r1 .nil) (.cons rs1 .nil) (by simp [hl]) q1 hd hcd) fun fv s2 h => ?_)
  exact Calls.spliced_nil h
end
/-! ### a def that makes lambdas -/
section
variable {P : Program} {w : World} {K : PySem.W.Frag} {mg : Str → Option Value} {base : Heap} {T : Tb} {k : Nat} {N ps : List Str}
theorem fn_atCL {ext : Nat → RS → R S} (X : ExitOk T ext) {x : Str} {st : Stmt} {body : MS} {j : Nat} (D : DefAtC K mg x st ps (T.tb (1000 + j))) (TB : TabA base mg T j) {lq : Option Str} (hl : T.lam j = lq) (S : FnScope N ps (defScope st))
    (hbody : ∀ (f : Addr) (cdv : Value) (A : Around) (outer : List Env) (s : Shared) (H : Hp) (E : XK), (∃ c, cdv = .ref c ∧ GxR.TabB base mg c (T.tb j) ∧ T.lam j = lq) → Room k (A.deeper (envOfC x (defScope st) s.heap.objs.size f cdv)) → Takes (cxOf (L2.CX P w) P w K mg base N x (defScope st) f cdv A outer s H E) (fun cls d _ H => E cls d H) →
      PSs (cxOf (L2.CX P w) P w K mg base N x (defScope st) f cdv A outer s H E) (defBody st) (tS T (fun cls d _ H => E cls d H) body)) : FnAt P w K mg base T x (k + 1) (fnE ext ps.length N.length body) := by
  obtain ⟨f, fd, F, hm, hk, hb, hc⟩ := D
  refine ⟨f, fd, ps, ?_, hm, hk, hb⟩
  obtain ⟨oc, od, kV, doc, pm, an, cdv, ct, osl, rfl, lk, hcd⟩ := F.ex
  have hc : cdv = .ref (T.tb (1000 + j)) := hc
  refine fn_of lk hcd S ?_ ?_
  · rintro vs H Q E ⟨ss, c, G, ρ, rs, rh, p⟩
    rw [rs.length]
    unfold fnE at p
    by_cases h : ss.length = ps.length
    · exact h
    · rw [if_neg h] at p; exact p.elim
  · rintro A outer s H vs Q E hr ⟨ss, c, G, ρ, rs, rh, p⟩
    refine ⟨_, hbody f cdv A outer s H E ⟨_, hc, TB, hl⟩ hr cx_takes, ?_⟩
    unfold fnE at p
    by_cases h : ss.length = ps.length
    · rw [if_pos h] at p
      refine ⟨_, c, G, ρ, rs.start h, rh, ?_⟩
      rw [← rh.len] at p
      exact X.ok p
    · rw [if_neg h] at p; exact p.elim
end
end Dn

end
section
set_option maxHeartbeats 1000000
/-! Dn55: < and > of data. -/
namespace Dn
open PySem PySem.Spec PyProof.Rows L2
section
variable {X : Cx} {T : Tb} {W : WX} {a b : Expr} {A B : M} {pos : Pos} {k : Nat}
end
end Dn

end
section
set_option maxHeartbeats 2000000
/-! Dn56: a def's name handed to a def that calls it. -/
namespace Dn
open PySem PySem.Spec PyProof.Rows L2
section
variable {X : Cx} {T : Tb} {G : Hp} {ρ : List Addr}
end
section
variable {X : Cx} {T : Tb} {W : WX} {A1 : M} {kf kc : Nat}
end
end Dn

end
section
set_option maxHeartbeats 2000000
/-! Dn57: xs.pop(i), xs.pop(). -/
namespace Dn
open PySem PySem.Spec PyProof.Rows L2
section
variable {X : Cx} {T : Tb} {W : WX} {o e : Expr} {es : List Expr} {A : M} {B : MA} {pos apos : Pos}
end
end Dn

end
section
set_option maxHeartbeats 2000000
/-! Dn58: dict(xs) of a list of pairs whose keys are tuples. -/
namespace Dn
open PySem PySem.Spec PyProof.Rows L2
section
variable {P : Program} {w : World} {A : Around} {E : Value → Shared → Prop}
end
end Dn

end
section
set_option maxHeartbeats 2000000
/-! Dn59: dicts whose keys are tuples: made of a list of pairs, read, written. -/
namespace Dn
open PySem PySem.Spec PyProof.Rows L2
section
variable {κ β : Type} [DecidableEq κ]
def valA (kvs : List (κ × β)) (k : κ) : Option β := (kvs.find? fun kv => decide (kv.1 = k)).map (·.2)
end
section
variable {T : Tb} {G H : Hp} {κ : Type} [DecidableEq κ]
def RepsA (T : Tb) (G : Hp) (kvs : List (κ × D)) (kv : List (κ × V)) : Prop := kv.map (·.1) = kvs.map (·.1) ∧ Reps T G (kvs.map (·.2)) (kv.map (·.2))
theorem RepsA.nil : RepsA (κ := κ) T G [] [] := ⟨rfl, Reps.nil⟩
theorem RepsA.inv {z : κ × D} {zs : List (κ × D)} {kv : List (κ × V)} (h : RepsA T G (z :: zs) kv) : ∃ (v : V) (r : List (κ × V)), kv = (z.1, v) :: r ∧ Rep T G z.2 v ∧ RepsA T G zs r := by
  obtain ⟨e, q⟩ := h
  cases kv with
  | nil => cases e
  | cons y ys =>
    simp only [List.map_cons, List.cons.injEq] at e q
    obtain ⟨v, rr, eq, a, b⟩ := q.cons_inv
    cases eq
    exact ⟨y.2, ys, by rw [← e.1], a, e.2, b⟩
theorem RepsA.cons {k : κ} {d : D} {v : V} {zs : List (κ × D)} {kv : List (κ × V)} (a : Rep T G d v) (h : RepsA T G zs kv) : RepsA T G ((k, d) :: zs) ((k, v) :: kv) := ⟨by simp [h.1], Reps.cons a h.2⟩
theorem RepsA.len {zs : List (κ × D)} {kv : List (κ × V)} (h : RepsA T G zs kv) : kv.length = zs.length := by have := congrArg List.length h.1; simpa using this
theorem RepsA.val {k : κ} {x : D} : ∀ {kvs : List (κ × D)} {kv : List (κ × V)}, RepsA T G kvs kv → valA kvs k = some x → ∃ v, valV kv k = some v ∧ Rep T G x v
  | [], _, _, h => by cases h
  | z :: zs, kv, r, h => by
    obtain ⟨v, ys, rfl, a, b⟩ := r.inv
    unfold valA at h
    unfold valV
    by_cases hk : z.1 = k
    · simp only [List.find?_cons, hk, decide_true, Option.map_some, Option.some.injEq] at h ⊢
      subst h
      exact ⟨_, rfl, a⟩
    · have hd : decide (z.1 = k) = false := decide_eq_false hk
      simp only [List.find?_cons, hd] at h ⊢
      exact RepsA.val b h
theorem RepsA.any {k : κ} : ∀ {kvs : List (κ × D)} {kv : List (κ × V)}, RepsA T G kvs kv → (kv.any fun z => decide (z.1 = k)) = (kvs.any fun z => decide (z.1 = k))
  | [], kv, r => by
    have := r.len
    simp at this
    subst this
    rfl
  | z :: zs, kv, r => by
    obtain ⟨v, ys, rfl, a, b⟩ := r.inv
    simp only [List.any_cons, RepsA.any b]
end
section
variable {T : Tb} {G H : Hp}
end
/-! ### the call -/
section
variable {X : Cx}
end
/-! ### the dens -/
section
variable {X : Cx} {T : Tb} {W : WX} {o i e value : Expr} {es : List Expr} {A I Va : M} {pos tpos p : Pos} {k : Nat}
end
end Dn

end
section
set_option maxHeartbeats 2000000
/-! Dn60: len({x for x in ..}), the items ints and texts. -/
namespace Dn
open PySem PySem.Spec PyProof.Rows L2
section
variable {X : Cx}
end
/-! ### the den -/
section
variable {X : Cx} {T : Tb} {W : WX}
end
end Dn

end
section
set_option maxHeartbeats 2000000
/-! Dn61: cells that some statements made and filled become data behind them. -/
namespace Dn
open PySem PySem.Spec PyProof.Rows L2
def frz1 (n0 : Nat) (c : Cs) (js : List Nat) (δ0 : Sl) (i : Nat) : Option S → Option S
  | some (.d x) => some (.d x)
  | some (.c k) => if k < n0 then some (.c k) else if js.contains i = true then (frz n0 c 8 (.c k)).map S.d else none
  | some .f => match δ0[i]? with
    | some (some .f) => some .f
    | _ => none
  | _ => none
def frzSl (n0 : Nat) (c : Cs) (js : List Nat) (δ0 : Sl) : Nat → Sl → Sl
  | _, [] => []
  | i, o :: r => frz1 n0 c js δ0 i o :: frzSl n0 c js δ0 (i + 1) r
def sFrzA (js : List Nat) (δ0 : Sl) (n0 : Nat) (m m' : MS) : MS := fun δ c => match m δ c with
  | .nx δ1 c1 => m' (frzSl n0 c1 js δ0 0 δ1) (c1.take n0)
  | r => r
/-- m, then the cells in the slots js are data, other new cells are gone -/
def sFrz (js : List Nat) (m : MS) : MS := fun δ c => match m δ c with
  | .nx δ1 c1 => .nx (frzSl c.length c1 js δ 0 δ1) (c1.take c.length)
  | r => r
def seqs : List MS → MS
  | [] => sNil
  | m :: ms => sSeq m (seqs ms)
section
variable {X : Cx} {T : Tb} {W : WX}
theorem frzSl_len {n0 : Nat} {c : Cs} {js : List Nat} {δ0 : Sl} : ∀ {i : Nat} {δ : Sl}, (frzSl n0 c js δ0 i δ).length = δ.length
  | _, [] => rfl
  | i, o :: r => by unfold frzSl; rw [List.length_cons, List.length_cons, frzSl_len]
theorem frzSl_get {n0 : Nat} {c : Cs} {js : List Nat} {δ0 : Sl} : ∀ {i : Nat} {δ : Sl} {j : Nat}, (frzSl n0 c js δ0 i δ)[j]? = (δ[j]?).map (frz1 n0 c js δ0 (i + j))
  | _, [], j => by simp [frzSl]
  | i, o :: r, 0 => by simp [frzSl]
  | i, o :: r, j + 1 => by
    unfold frzSl
    rw [List.getElem?_cons_succ, List.getElem?_cons_succ, frzSl_get]
    congr 2
    omega
/-- where the statements began -/
structure Began (T : Tb) (δ0 : Sl) (G0 : Hp) (ρ0 : List Addr) (G : Hp) (ρ : List Addr) : Prop where
  ex : Ex G0 G
  pre : ρ0 <+: ρ
  fs : ∀ i : Nat, δ0[i]? = some (some .f) → ∀ L, T.lm = some L → Ex L.G G0 ∧ L.ρ <+: ρ0
theorem frz_rel {G0 G H : Hp} {ρ0 ρ : List Addr} {c : Cs} {σ : L2.St} {δ δ0 : Sl} {js : List Nat} (b : Began T δ0 G0 ρ0 G ρ) (rs : RelS T G ρ σ δ) (rh : RelH T H c G ρ) : ∃ G', Ex G G' ∧ RelS T G' ρ0 σ (frzSl ρ0.length c js δ0 0 δ) ∧ RelH T H (c.take ρ0.length) G' ρ0 := by
  obtain ⟨e, r⟩ := rh.thaw b.pre
  refine ⟨_, e, ⟨by rw [frzSl_len]; exact rs.len, fun i s hs => ?_⟩, r⟩
  rw [frzSl_get, Nat.zero_add] at hs
  cases hd : δ[i]? with
  | none => rw [hd] at hs; cases hs
  | some o =>
    rw [hd] at hs
    have hs : frz1 ρ0.length c js δ0 i o = some s := Option.some.inj hs
    cases o with
    | none => cases hs
    | some t =>
      obtain ⟨v, hv, rv⟩ := rs.at_ i t hd
      refine ⟨v, hv, ?_⟩
      cases t with
      | d x => cases hs; exact Rep.mono e _ _ rv
      | x _ _ => cases hs
      | f =>
        simp only [frz1] at hs
        split at hs
        · rename_i h0
          cases hs
          intro L hL
          obtain ⟨q1, q2, q3, q4⟩ := rv L hL
          obtain ⟨z1, z2⟩ := b.fs i h0 L hL
          exact ⟨q1, q2.trans e, z2, fun c q hq => e _ _ (q4 c q hq)⟩
        · cases hs
      | c k =>
        simp only [frz1] at hs
        by_cases hk : k < ρ0.length
        · rw [if_pos hk] at hs
          cases hs
          obtain ⟨p, hp, hv⟩ := rv
          obtain ⟨t, rfl⟩ := b.pre
          rw [List.getElem?_append_left hk] at hp
          exact ⟨p, hp, hv⟩
        · rw [if_neg hk] at hs
          split at hs
          · cases hf : frz ρ0.length c 8 (.c k) with
            | none => rw [hf] at hs; cases hs
            | some d =>
              rw [hf] at hs
              cases hs
              exact frz_ok rh b.pre 8 (.c k) v d hf rv
          · cases hs
inductive Chain (X : Cx) (T : Tb) (W : WX) : List Stmt → List MS → Prop
  | nil : Chain X T W [] []
  | cons {st : Stmt} {m : MS} {sts : List Stmt} {ms : List MS} : PS X st (tS T W m) → Chain X T W sts ms → Chain X T W (st :: sts) (m :: ms)
def tFz (T : Tb) (W : WX) (js : List Nat) (m m' : MS) : TS := fun E σ H => ∃ δ c G ρ δ0 G0 ρ0, RelS T G ρ σ δ ∧ RelH T H c G ρ ∧ Began T δ0 G0 ρ0 G ρ ∧ PostS T W G0 ρ0 (sFrzA js δ0 ρ0.length m m' δ c) E
theorem chain_frz {js : List Nat} {sts : List Stmt} {ms : List MS} (h : Chain X T W sts ms) {rest : List Stmt} {m' : MS} (k : PSs X rest (tS T W m')) : PSs X (sts ++ rest) (tFz T W js (seqs ms) m') := by
  induction h with
  | nil =>
    refine PSs.imp k fun E σ H ⟨δ, c, G, ρ, δ0, G0, ρ0, rs, rh, b, p⟩ => ?_
    obtain ⟨G', e, rs', rh'⟩ := frz_rel (js := js) b rs rh
    refine ⟨_, _, G', ρ0, rs', rh', ?_⟩
    exact PostS.mono (r := m' (frzSl ρ0.length c js δ0 0 δ) (c.take ρ0.length)) p (b.ex.trans e) (List.prefix_refl _)
  | @cons st m sts ms h1 _ ih =>
    refine PSs.imp (pss_cons h1 ih) fun E σ H ⟨δ, c, G, ρ, δ0, G0, ρ0, rs, rh, b, p⟩ => ?_
    refine ⟨δ, c, G, ρ, rs, rh, ?_⟩
    unfold sFrzA seqs sSeq at p
    cases e : m δ c with
    | nx δ1 c1 =>
      simp only [e] at p
      exact fun σ' H' G' ρ' e1 p1 s1 h1 => ⟨δ1, c1, G', ρ', δ0, G0, ρ0, s1, h1, ⟨b.ex.trans e1, b.pre.trans p1, b.fs⟩, p⟩
    | bk δ1 c1 => simp only [e] at p; exact PostS.mono (r := .bk δ1 c1) p b.ex b.pre
    | ct δ1 c1 => simp only [e] at p; exact PostS.mono (r := .ct δ1 c1) p b.ex b.pre
    | rt s1 c1 => simp only [e] at p; exact PostS.mono (r := .rt s1 c1) p b.ex b.pre
    | ex k xs δ1 c1 => simp only [e] at p; exact PostS.mono (r := .ex k xs δ1 c1) p b.ex b.pre
    | bad => simp only [e] at p; exact p
theorem ss_frz {js : List Nat} {sts : List Stmt} {ms : List MS} (h : Chain X T W sts ms) {rest : List Stmt} {m' : MS} (k : PSs X rest (tS T W m')) : PSs X (sts ++ rest) (tS T W (sSeq (sFrz js (seqs ms)) m')) := by
  refine PSs.imp (chain_frz (js := js) h k) fun E σ H ⟨δ, c, G, ρ, rs, rh, p⟩ => ?_
  refine ⟨δ, c, G, ρ, δ, G, ρ, rs, rh, ⟨.refl _, List.prefix_refl _, fun i h0 L hL => ?_⟩, ?_⟩
  · obtain ⟨v, hv, rv⟩ := rs.at_ i _ h0
    obtain ⟨_, q2, q3, _⟩ := rv L hL
    exact ⟨q2, q3⟩
  · unfold sSeq sFrz at p
    unfold sFrzA
    rw [rh.len]
    cases e : seqs ms δ c with
    | nx δ1 c1 => simp only [e] at p ⊢; exact p
    | bk δ1 c1 => simp only [e] at p ⊢; exact p
    | ct δ1 c1 => simp only [e] at p ⊢; exact p
    | rt s1 c1 => simp only [e] at p ⊢; exact p
    | ex k xs δ1 c1 => simp only [e] at p ⊢; exact p
    | bad => simp only [e] at p; exact p.elim
theorem ss_frz2 {js : List Nat} {s1 s2 : Stmt} {m1 m2 : MS} {rest : List Stmt} {m' : MS} (h1 : PS X s1 (tS T W m1)) (h2 : PS X s2 (tS T W m2)) (k : PSs X rest (tS T W m')) : PSs X (s1 :: s2 :: rest) (tS T W (sSeq (sFrz js (seqs [m1, m2])) m')) := ss_frz (.cons h1 (.cons h2 .nil)) k
end
end Dn

end
section
set_option maxHeartbeats 2000000
/-! Dn62: zip of a tuple and a list. -/
namespace Dn
open PySem PySem.Spec PyProof.Rows L2
/-- the zip at its i-th turn -/
structure ZTL (z TI TO i j a b : Addr) (k : Nat) (h : Heap) : Prop where
  zz : IsZip h z TI TO .none
  ti : IsTupOf2 h TI (.ref i) (.ref j)
  to : ∃ x y, IsTupOf2 h TO x y
  ia : h.IsTupleIter i a k
  ib : h.IsListIter j b k
theorem ZTL.kp {z TI TO i j a b : Addr} {k : Nat} {h h' : Heap} (r : ZTL z TI TO i j a b k h) (q : ∀ c ∈ [z, TI, TO, i, j], ∀ o, h.get? c = some o → h'.get? c = some o) : ZTL z TI TO i j a b k h' := by
  obtain ⟨x, y, e⟩ := r.to
  exact ⟨q _ (by simp) _ r.zz, q _ (by simp) _ r.ti, ⟨x, y, q _ (by simp) _ e⟩, r.ia.at fun o => q _ (by simp) o, r.ib.at fun o => q _ (by simp) o⟩
theorem in5 {z TI TO i j c : Addr} {p : Addr → Prop} (hc : c ∈ [z, TI, TO, i, j]) (h1 : p z) (h2 : p TI) (h3 : p TO) (h4 : p i) (h5 : p j) : p c := by
  simp only [List.mem_cons, List.not_mem_nil, or_false] at hc
  rcases hc with e | e | e | e | e <;> (rw [e]; assumption)
theorem ZTL.obj {z TI TO i j a b : Addr} {k : Nat} {h : Heap} (r : ZTL z TI TO i j a b k h) : ∀ c ∈ [z, TI, TO, i, j], ∃ o, h.get? c = some o ∧ ∀ v, o.data ≠ .cell v := fun c hc => by
  obtain ⟨x, y, e⟩ := r.to
  obtain ⟨o1, e1, _, d1⟩ := r.ia
  obtain ⟨o2, e2, _, d2⟩ := r.ib
  exact in5 (p := fun c => ∃ o, h.get? c = some o ∧ ∀ v, o.data ≠ .cell v) hc ⟨_, r.zz, fun v q => nomatch q⟩ ⟨_, r.ti, fun v q => nomatch q⟩ ⟨_, e, fun v q => nomatch q⟩ ⟨o1, e1, fun v q => by rw [d1] at q; cases q⟩ ⟨o2, e2, fun v q => by rw [d2] at q; cases q⟩
section
variable {X : Cx} {T : Tb} {W : WX} {a b : Expr} {p pos : Pos}
end
end Dn

end
section
set_option maxHeartbeats 2000000
/-! Dn63: != of lists of own lists, slices of such lists, zip of any two rows. -/
namespace Dn
open PySem PySem.Spec PyProof.Rows L2
section
variable {X : Cx} {T : Tb} {W : WX} {a b e : Expr} {A B : M} {p p2 pos : Pos}
/-! ### zip -/
/-! ### slices -/
theorem CReps.drop {G : Hp} {ρ : List Addr} : ∀ {xs : List S} {vs : List V} (n : Nat), CReps T G ρ xs vs → CReps T G ρ (xs.drop n) (vs.drop n)
  | _, _, 0, r => r
  | _, _, n + 1, .nil => by simpa using CReps.nil
  | _, _, n + 1, .cons _ b => by simpa using CReps.drop n b
/-! ### == and != -/
def keepB (r : R S) (c : Cs) : R S := match r with
  | .ok (.d (.bl b)) _ => .ok (.d (.bl b)) c
  | _ => .bad
def eqYF (tbl : Tbl) (f : Nat) (neg : Bool) (s t : S) (c : Cs) : R S := match frz 0 c 8 s, frz 0 c 8 t with
  | some x, some y => keepB (eqY tbl f neg (.d x) (.d y) []) c
  | _, _ => eqY tbl f neg s t c
theorem prim_eqYF {tbl : Tbl} {f n : Nat} {neg : Bool} (hM : MethsAt X.prog X.w X.K X.mg X.base T "__eq__" n tbl) (hT : X.K = T.K) (hr : Room (n + f + 1) X.A) : Prim2 T (eqYF tbl f neg) (rSem X (compareOp (cmpOf neg))) := by
  intro W σ G ρ H c s t v u Q hh rs rt p
  unfold eqYF at p
  split at p
  · rename_i x y hx hy
    have pr : ([] : List Addr) <+: ρ := List.nil_prefix
    have fx := frz_ok (ρ := []) hh pr 8 s v x hx rs
    have fy := frz_ok (ρ := []) hh pr 8 t u y hy rt
    have h0 := (hh.thaw pr).2
    have h0 : RelH T H [] (Dn.thaw G H (ρ.drop ([] : List Addr).length)) [] := by simpa using h0
    unfold keepB at p
    split at p
    · rename_i b c' he
      have := prim_eqY hM hT hr W σ _ [] H [] (.d x) (.d y) v u (fun z _ => z = .bl b) h0 fx fy (by
        rw [he]
        intro v' H' G' ρ' e pr rh rs
        exact SRep.bl_inv rs)
      obtain ⟨r, h, q⟩ := this
      have : (V.bl r) = .bl b := q H (.refl _)
      cases this
      exact ⟨b, h, fun H' e' => p _ H' G ρ (.refl _) (List.prefix_refl _) (hh.grow e') SRep.bl⟩
    · exact p.elim
  · exact prim_eqY hM hT hr W σ G ρ H c s t v u Q hh rs rt p
variable {tbl : Tbl} {n f : Nat} (hM : MethsAt X.prog X.w X.K X.mg X.base T "__eq__" n tbl) (hT : X.K = T.K) (hr : Room (n + f + 1) X.A) (ha : PE X a (tD T W A)) (hb : PE X b (tD T W B))
include hM hT hr ha hb
theorem dt_neYF : PT X (.Compare a [.NotEq] [b] pos) (tDT T W (mTB (mBin (eqYF tbl f true) A B))) := dt_cmp (r := rSem X (compareOp (cmpOf true))) op_sem (prim_eqYF hM hT hr) ha hb (nomark _)
end
end Dn

end
section
set_option maxHeartbeats 1000000
/-! Dn64: list(range(a, b)); a, b = a list; x, y, z = a, b, d. -/
namespace Dn
open PySem PySem.Spec PyProof.Rows L2
section
variable {X : Cx} {T : Tb} {W : WX} {a b o e : Expr} {es : List Expr} {A B : M} {pos p p2 pos2 apos : Pos}
end
end Dn

end
section
set_option maxHeartbeats 1000000
/-! Dn65: dict(pairs) whose keys are numbers or texts, as data that stay; d[k] of it. -/
namespace Dn
open PySem PySem.Spec PyProof.Rows L2
section
variable {X : Cx} {T : Tb} {W : WX} {o i e value : Expr} {es : List Expr} {A I Va : M} {pos tpos p : Pos} {k : Nat}
/-! ### list(zip(a, b)), a a list and b a tuple -/
end
end Dn

end
section
set_option maxHeartbeats 4000000
/-! Dn66: an expression over data without lists: all lists are hidden while it is evaluated, so the list that it tells is a new one. -/
namespace Dn
open PySem PySem.Spec PyProof.Rows L2
mutual
/-- no list and no dict in it -/
def noLst : D → Bool
  | .lst _ => false
  | .scr _ => false
  | .dct _ _ => false
  | .tup xs => noLsts xs
  | .obj _ xs => noLsts xs
  | _ => true
def noLsts : List D → Bool
  | [] => true
  | x :: xs => noLst x && noLsts xs
end
/-- the slots that hold data without lists -/
def flatSl (δ : Sl) : Sl := δ.map fun o => match o with
  | some (.d x) => if noLst x = true then some (.d x) else none
  | _ => none
/-- what is told, as new cells -/
def freshen (x : D) (c : Cs) : R S := match x with
  | .lst xs => if noLsts xs = true then .ok (.c c.length) (c ++ [.lst xs]) else match xs with
    | [a, .lst ys] => if (noLst a && noLsts ys) = true then .ok (.c (c.length + 1)) (c ++ [.lst ys, .lS [.d a, .c c.length]]) else .bad
    | _ => .bad
  | x => if noLst x = true then .ok (.d x) c else .bad
def mFr (n : Nat) (A : M) : M := fun δ c => if (tbsOk n c && (c.drop n).all canHide) = true then (match A (flatSl δ) (tbs n) with
  | .ok (.d x) c' => if tbsOk n c' = true then freshen x c else .bad
  | _ => .bad) else .bad
mutual
/-- data without lists stand in any part that keeps all but lists and dicts -/
theorem Rep.out {T : Tb} {G G' : Hp} (h : ∀ b o, G b = some o → ¬ isLD o → G' b = some o) : ∀ (d : D) (v : V), noLst d = true → Rep T G d v → Rep T G' d v
  | .non, _, _, r => Rep.non_inv r ▸ Rep.non
  | .bl _, _, _, r => Rep.bl_inv r ▸ Rep.bl
  | .int _, _, _, r => Rep.int_inv r ▸ Rep.int
  | .str _, _, _, r => Rep.str_inv r ▸ Rep.str
  | .lst _, _, n, _ => by simp [noLst] at n
  | .scr _, _, n, _ => by simp [noLst] at n
  | .dct _ _, _, n, _ => by simp [noLst] at n
  | .tup xs, _, n, r => by
    obtain ⟨p, vs, rfl, g, l, rs⟩ := r.tup_inv
    exact Rep.tup (h p _ g (by rintro (⟨_, z⟩ | ⟨_, z⟩) <;> cases z)) l (Reps.out h xs vs (by simpa [noLst] using n) rs)
  | .obj c xs, _, n, r => by
    obtain ⟨p, dx, fv, rfl, g, l, rs⟩ := r.obj_inv
    exact Rep.obj (h p _ g (by rintro (⟨_, z⟩ | ⟨_, z⟩) <;> cases z)) l (Reps.out h xs _ (by simpa [noLst] using n) rs)
theorem Reps.out {T : Tb} {G G' : Hp} (h : ∀ b o, G b = some o → ¬ isLD o → G' b = some o) : ∀ (ds : List D) (vs : List V), noLsts ds = true → Reps T G ds vs → Reps T G' ds vs
  | [], _, _, r => by cases r.nil_inv; exact Reps.nil
  | d :: ds, _, n, r => by
    obtain ⟨v, vs, rfl, a, b⟩ := r.cons_inv
    simp only [noLsts, Bool.and_eq_true] at n
    exact Reps.cons (Rep.out h d v n.1 a) (Reps.out h ds vs n.2 b)
end
/-- a thing without lists is no list in the heap -/
theorem Rep.nol {T : Tb} {G : Hp} {d : D} {p : Addr} {vs : List V} (n : noLst d = true) (r : Rep T G d (.ref p)) (g : G p = some (.lst vs)) : False := by
  cases d with
  | non => cases r.non_inv
  | bl _ => cases r.bl_inv
  | int _ => cases r.int_inv
  | str _ => cases r.str_inv
  | lst _ => simp [noLst] at n
  | scr _ => simp [noLst] at n
  | dct _ _ => simp [noLst] at n
  | tup xs =>
    obtain ⟨p', vs', e, g', _⟩ := r.tup_inv
    cases e
    rw [g] at g'; cases g'
  | obj c xs =>
    obtain ⟨p', dx, fv, e, g', _⟩ := r.obj_inv
    cases e
    rw [g] at g'; cases g'
section
variable {X : Cx} {T : Tb} {W : WX} {e : Expr} {A : M}
theorem flatSl_rel {G G' : Hp} {ρ ρ' : List Addr} {σ : L2.St} {δ : Sl} (h : ∀ b o, G b = some o → ¬ isLD o → G' b = some o) (hs : RelS T G ρ σ δ) : RelS T G' ρ' σ (flatSl δ) := by
  refine ⟨by unfold flatSl; rw [List.length_map]; exact hs.len, fun i s e => ?_⟩
  unfold flatSl at e
  rw [List.getElem?_map] at e
  cases hd : δ[i]? with
  | none => rw [hd] at e; cases e
  | some o =>
    rw [hd] at e
    cases o with
    | none => cases e
    | some z =>
      cases z with
      | d x =>
        simp only [Option.map_some] at e
        by_cases hx : noLst x = true
        · rw [if_pos hx] at e
          cases e
          obtain ⟨v, a, b⟩ := hs.at_ i (.d x) hd
          exact ⟨v, a, Rep.out h x v hx b⟩
        · rw [if_neg hx] at e; cases e
      | c _ => cases e
      | x _ _ => cases e
      | f => cases e
/-- all lists and dicts -/
noncomputable def ldsOf (s : Shared) (H : Hp) : List Addr := (List.range s.heap.objs.size).filter fun b => @decide (∃ o, H b = some o ∧ isLD o) (Classical.propDecidable _)
theorem mem_lds {pins : List (Addr × Obj)} {σ : L2.St} {H : Hp} {s : Shared} (I : L2.Inv X pins σ H s) {b : Addr} : b ∈ ldsOf s H ↔ ∃ o, H b = some o ∧ isLD o := by
  unfold ldsOf
  rw [List.mem_filter, List.mem_range]
  exact ⟨fun z => @of_decide_eq_true _ (Classical.propDecidable _) z.2, fun ⟨o, e, k⟩ => ⟨I.hok.lt e, @decide_eq_true _ (Classical.propDecidable _) ⟨o, e, k⟩⟩⟩
theorem dn_fresh {n : Nat} (he : PE X e (tD T W0 A)) : PE X e (tD T W (mFr n A)) := by
  refine ⟨fun pins s σ H Q I ⟨δ, c, G, ρ, hs, hh, p⟩ => ?_⟩
  unfold mFr at p
  by_cases ht : (tbsOk n c && (c.drop n).all canHide) = true
  · rw [if_pos ht] at p
    rw [Bool.and_eq_true] at ht
    obtain ⟨ht, hc⟩ := ht
    obtain ⟨ct, hn⟩ := tbsOk_take ht
    obtain ⟨L, hLd⟩ : ∃ L, L = ldsOf s H := ⟨_, rfl⟩
    have hL : ∀ b, b ∈ L ↔ ∃ o, H b = some o ∧ isLD o := fun b => by rw [hLd]; exact mem_lds I
    have hl : ∀ b ∈ L, ∃ o, H b = some o ∧ isLD o := fun b hb => (hL b).mp hb
    have cin : ∀ i b, n ≤ i → ρ[i]? = some b → b ∈ L := fun i b hi e => by
      have li := (List.getElem?_eq_some_iff.mp e).1
      rw [hh.len] at li
      have hx : c[i]? = some c[i] := List.getElem?_eq_getElem li
      obtain ⟨_, ok⟩ := hh.at_ i b _ e hx
      have can : canHide c[i] = true := List.all_eq_true.mp hc _ (List.mem_of_getElem? (i := i - n) (by rw [List.getElem?_drop, show n + (i - n) = i by omega]; exact hx))
      refine (hL b).mpr ?_
      revert ok can
      cases c[i] with
      | lst xs => exact fun ⟨vs, a, _⟩ _ => ⟨_, a, .inl ⟨_, rfl⟩⟩
      | lS xs => exact fun ⟨vs, a, _⟩ _ => ⟨_, a, .inl ⟨_, rfl⟩⟩
      | dct xs => exact fun ⟨kv, a, _⟩ _ => ⟨_, a, .inr ⟨_, rfl⟩⟩
      | obj _ _ => exact fun _ z => by cases z
      | tS _ => exact fun _ z => by cases z
      | tb _ => exact fun _ z => by cases z
      | dT _ => exact fun _ z => by cases z
    have tout : ∀ i b, i < n → ρ[i]? = some b → b ∉ L ∧ ∃ ps : Array Value, H b = some (.tbl ps) := fun i b hi e => by
      obtain ⟨_, q1, ps, q2, q3⟩ := hh.at_ i b _ e (tbsOk_get ht i hi)
      refine ⟨fun z => ?_, ps, q2⟩
      obtain ⟨o, ho, k⟩ := (hL b).mp z
      rw [q2] at ho
      cases ho
      rcases k with ⟨_, z⟩ | ⟨_, z⟩ <;> cases z
    have gl : ∀ b o, G b = some o → ¬ isLD o → hid L G b = some o := fun b o e k => by
      rw [hid_out fun z => ?_]
      · exact e
      · obtain ⟨o', ho, k'⟩ := (hL b).mp z
        rw [hh.ex b o e] at ho
        cases ho
        exact k k'
    have I1 := Inv.hide I hl
    have h1 : RelH T (hid L H) (tbs n) (hid L G) (ρ.take n) := by
      refine ⟨fun b o eb => ?_, by rw [List.length_take, hh.len]; simp [tbs]; omega, hh.nd.sublist (List.take_sublist _ _), fun i b x hi hx => ?_⟩
      · by_cases hb : b ∈ L
        · rw [hid_in hb] at eb; cases eb
        · rw [hid_out hb] at eb ⊢; exact hh.ex b o eb
      · have li : i < n := by
          have := (List.getElem?_eq_some_iff.mp hi).1
          rw [List.length_take] at this
          omega
        rw [List.getElem?_take, if_pos li] at hi
        rw [← ct, List.getElem?_take, if_pos li] at hx
        obtain ⟨g, ok⟩ := hh.at_ i b x hi hx
        have e1 := tbsOk_get ht i li
        rw [e1] at hx
        cases hx
        obtain ⟨q1, ps, q2, q3, q4⟩ := ok
        have hb := (tout i b li hi).1
        refine ⟨by rw [hid_out hb]; exact g, q1, ps, by rw [hid_out hb]; exact q2, q3, fun q hq pos cv hcv => ?_⟩
        obtain ⟨cc, e2, e3⟩ := q4 q hq pos cv hcv
        exact ⟨cc, e2, gl _ _ e3 (by rintro (⟨_, z⟩ | ⟨_, z⟩) <;> cases z)⟩
    refine wpAny_mono (he.run (pins ++ pinsAt L s.heap) s σ (hid L H) (fun v H' => ∃ x c' G' ρ', A (flatSl δ) (tbs n) = .ok (.d x) c' ∧ Ex (hid L G) G' ∧ ρ.take n <+: ρ' ∧ RelH T H' c' G' ρ' ∧ Rep T G' x v) I1 ⟨flatSl δ, tbs n, hid L G, ρ.take n, flatSl_rel gl hs, h1, ?_⟩) (fun u s' z => ?_) fun _ _ z => z
    · cases hA : A (flatSl δ) (tbs n) with
      | bad => rw [hA] at p; exact p.elim
      | ex _ _ _ => rw [hA] at p; exact p.elim
      | ok a c' =>
        rw [hA] at p
        cases a with
        | c _ => exact p.elim
        | x _ _ => exact p.elim
        | f => exact p.elim
        | d x => exact fun v H' G' ρ' eg pr rh rs => ⟨x, c', G', ρ', rfl, eg, pr, rh, rs⟩
    · obtain ⟨v, H', J, rv, x, c', G1, ρ', hA, eg, pr, rh, rx⟩ := z
      rw [hA] at p
      have p : Post (SRep T) T W σ G ρ (if tbsOk n c' = true then freshen x c else .bad) Q := p
      by_cases ht' : tbsOk n c' = true
      · rw [if_pos ht'] at p
        obtain ⟨K, gone⟩ := Inv.unhide I hl J
        have Gout : ∀ b ∈ L, G1 b = none := fun b hb => rh.ex.back (gone b hb)
        -- a new list is known neither to G nor to the cells
        have fresh : ∀ q vs, G1 q = some (.lst vs) → q ∉ L ∧ G q = none ∧ q ∉ ρ := fun q vs g => by
          have hq : q ∉ L := fun z => by rw [Gout q z] at g; cases g
          refine ⟨hq, ?_, fun z => ?_⟩
          · cases hG : G q with
            | none => rfl
            | some o =>
              by_cases k : isLD o
              · exact absurd ((hL q).mpr ⟨o, hh.ex q o hG, k⟩) hq
              · have := eg q o (gl q o hG k)
                rw [g] at this
                cases this
                exact absurd (.inl ⟨_, rfl⟩) k
          · obtain ⟨i, hi⟩ := List.getElem?_of_mem z
            by_cases li : i < n
            · have hi' : ρ'[i]? = some q := pre_get pr (by rw [List.getElem?_take, if_pos li]; exact hi)
              have := (rh.at_ i q _ hi' (tbsOk_get ht' i li)).1
              rw [g] at this; cases this
            · exact hq (cin i q (by omega) hi)
        -- the part that is known behind: the new lists N apart
        have main : ∀ N : List Addr, (∀ q ∈ N, ∃ vs, G1 q = some (.lst vs)) →
            ∃ G', Ex G G' ∧ (∀ b o, G1 b = some o → ¬ isLD o → G' b = some o) ∧ (∀ q ∈ N, G' q = none) ∧ Ex G' (back L H H') ∧
              ∀ (i : Nat) (b : Addr) (y : CC), ρ[i]? = some b → c[i]? = some y → G' b = none ∧ CellOk T G' (back L H H') (ρ.take i) b y := fun N hN => by
          have nN : ∀ {b : Addr}, G b ≠ none → b ∉ N := fun {b} hb z => by
            obtain ⟨vs, g⟩ := hN b z
            exact hb (fresh b vs g).2.1
          have E1 : Ex G (fun b => if b ∈ L then G b else if b ∈ N then none else G1 b) := fun b o e => by
            show (if b ∈ L then G b else if b ∈ N then none else G1 b) = some o
            by_cases hb : b ∈ L
            · rw [if_pos hb]; exact e
            · rw [if_neg hb, if_neg (nN (by rw [e]; simp))]
              exact eg b o (by rw [hid_out hb]; exact e)
          refine ⟨fun b => if b ∈ L then G b else if b ∈ N then none else G1 b, E1, fun b o e k => ?_, fun q hq => ?_, fun b o e => ?_, fun i b y hi hy => ?_⟩
          · have hb : b ∉ L := fun z => by rw [Gout b z] at e; cases e
            have hb2 : b ∉ N := fun z => by
              obtain ⟨vs, g⟩ := hN b z
              rw [e] at g; cases g
              exact k (.inl ⟨_, rfl⟩)
            show (if b ∈ L then G b else if b ∈ N then none else G1 b) = some o
            rw [if_neg hb, if_neg hb2]; exact e
          · obtain ⟨vs, g⟩ := hN q hq
            show (if q ∈ L then G q else if q ∈ N then none else G1 q) = none
            rw [if_neg (fresh q vs g).1, if_pos hq]
          · replace e : (if b ∈ L then G b else if b ∈ N then none else G1 b) = some o := e
            by_cases hb : b ∈ L
            · rw [if_pos hb] at e
              rw [back_in hb]; exact hh.ex b o e
            · rw [if_neg hb] at e
              rw [back_out hb]
              by_cases hb2 : b ∈ N
              · rw [if_pos hb2] at e; cases e
              · rw [if_neg hb2] at e; exact rh.ex b o e
          · obtain ⟨g, ok⟩ := hh.at_ i b y hi hy
            by_cases li : i < n
            · have hi' : ρ'[i]? = some b := pre_get pr (by rw [List.getElem?_take, if_pos li]; exact hi)
              have e1 := tbsOk_get ht i li
              rw [e1] at hy
              cases hy
              obtain ⟨g1, q1, ps, q2, q3, q4⟩ := rh.at_ i b _ hi' (tbsOk_get ht' i li)
              have hb := (tout i b li hi).1
              refine ⟨?_, q1, ps, by rw [back_out hb]; exact q2, q3, fun q hq pos cv hcv => ?_⟩
              · show (if b ∈ L then G b else if b ∈ N then none else G1 b) = none
                rw [if_neg hb]
                split
                · rfl
                · exact g1
              · obtain ⟨cc, e2, e3⟩ := q4 q hq pos cv hcv
                refine ⟨cc, e2, ?_⟩
                have hb1 : cc ∉ L := fun z => by rw [Gout cc z] at e3; cases e3
                have hb2 : cc ∉ N := fun z => by
                  obtain ⟨vs, g⟩ := hN cc z
                  rw [e3] at g; cases g
                show (if cc ∈ L then G cc else if cc ∈ N then none else G1 cc) = _
                rw [if_neg hb1, if_neg hb2]; exact e3
            · have hb := cin i b (by omega) hi
              refine ⟨?_, ok.keep E1 (back_in hb) (List.prefix_refl _)⟩
              show (if b ∈ L then G b else if b ∈ N then none else G1 b) = none
              rw [if_pos hb]; exact g
        have flat : ∀ x : D, noLst x = true → Rep T G1 x v → freshen x c = .ok (.d x) c → Post (SRep T) T W σ G ρ (freshen x c) Q → Q v (back L H H') := fun x nx rx ex p => by
          obtain ⟨G', E1, E2, _, E4, E5⟩ := main [] (fun q hq => by cases hq)
          rw [ex] at p
          exact p v _ G' ρ E1 (List.prefix_refl _) ⟨E4, hh.len, hh.nd, E5⟩ (Rep.out E2 x v nx rx)
        refine ⟨v, back L H H', K, rv, ?_⟩
        cases x with
        | lst xs =>
          obtain ⟨q, vs, rfl, g, lx, rs⟩ := rx.lst_inv
          obtain ⟨f1, f2, f3⟩ := fresh q vs g
          unfold freshen at p
          simp only at p
          by_cases nx : noLsts xs = true
          · rw [if_pos nx] at p
            obtain ⟨G', E1, E2, E3, E4, E5⟩ := main [q] (fun b hb => by rw [List.mem_singleton.mp hb]; exact ⟨vs, g⟩)
            refine p (.ref q) _ G' (ρ ++ [q]) E1 (List.prefix_append _ _) ⟨E4, by simp [hh.len], ?_, fun i b y hi hy => ?_⟩ ⟨q, by rw [← hh.len]; simp, rfl⟩
            · rw [List.nodup_append]
              exact ⟨hh.nd, by simp, fun a ha b hb => by rw [List.mem_singleton.mp hb]; exact fun z => f3 (z ▸ ha)⟩
            · by_cases li : i < ρ.length
              · rw [List.getElem?_append_left li] at hi
                rw [List.getElem?_append_left (by rw [← hh.len]; exact li)] at hy
                rw [List.take_append_of_le_length (by omega)]
                exact E5 i b y hi hy
              · have ei : i = ρ.length := by
                  have := (List.getElem?_eq_some_iff.mp hi).1
                  rw [List.length_append, List.length_singleton] at this
                  omega
                subst ei
                rw [hh.len] at hy
                simp at hi hy
                subst hi hy
                exact ⟨E3 _ (by simp), vs, by rw [back_out f1]; exact rh.ex _ _ g, lx, Reps.out E2 xs vs nx rs⟩
          · rw [if_neg nx] at p
            match xs, rs, lx, p with
            | [], _, _, p => exact p.elim
            | [_], _, _, p => exact p.elim
            | a :: b :: d :: r, _, _, p => cases b <;> exact p.elim
            | [a, .non], _, _, p => exact p.elim
            | [a, .bl _], _, _, p => exact p.elim
            | [a, .int _], _, _, p => exact p.elim
            | [a, .str _], _, _, p => exact p.elim
            | [a, .tup _], _, _, p => exact p.elim
            | [a, .obj _ _], _, _, p => exact p.elim
            | [a, .scr _], _, _, p => exact p.elim
            | [a, .dct _ _], _, _, p => exact p.elim
            | [a, .lst ys], rs, lx, p =>
              simp only at p
              by_cases ny : (noLst a && noLsts ys) = true
              · rw [if_pos ny] at p
                rw [Bool.and_eq_true] at ny
                obtain ⟨va, r1, rfl, ra, rs1⟩ := rs.cons_inv
                obtain ⟨vy, r2, rfl, ry, rs2⟩ := rs1.cons_inv
                cases rs2.nil_inv
                obtain ⟨w, us, rfl, gw, ly, ru⟩ := ry.lst_inv
                obtain ⟨w1, w2, w3⟩ := fresh w us gw
                have ne : w ≠ q := fun z => by
                  subst z
                  rw [g] at gw
                  cases gw
                  match ys, ny.2, ru with
                  | [], _, ru => cases ru.nil_inv
                  | [y1], _, ru =>
                    obtain ⟨_, _, z1, _, z3⟩ := ru.cons_inv
                    cases z1
                    cases z3.nil_inv
                  | y1 :: y2 :: yr, ny2, ru =>
                    obtain ⟨_, _, z1, _, z3⟩ := ru.cons_inv
                    cases z1
                    obtain ⟨_, _, z4, z5, z6⟩ := z3.cons_inv
                    cases z4
                    simp only [noLsts, Bool.and_eq_true] at ny2
                    exact Rep.nol ny2.2.1 z5 g
                obtain ⟨G', E1, E2, E3, E4, E5⟩ := main [w, q] (fun b hb => by
                  rcases List.mem_cons.mp hb with rfl | hb
                  · exact ⟨us, gw⟩
                  · rw [List.mem_singleton.mp hb]; exact ⟨_, g⟩)
                refine p (.ref q) _ G' (ρ ++ [w, q]) E1 (List.prefix_append _ _) ⟨E4, by simp [hh.len], ?_, fun i b y hi hy => ?_⟩ ⟨q, by rw [← hh.len]; simp, rfl⟩
                · rw [List.nodup_append]
                  refine ⟨hh.nd, by simp [ne], fun a ha b hb => ?_⟩
                  rcases List.mem_cons.mp hb with rfl | hb
                  · exact fun z => w3 (z ▸ ha)
                  · rw [List.mem_singleton.mp hb]; exact fun z => f3 (z ▸ ha)
                · by_cases li : i < ρ.length
                  · rw [List.getElem?_append_left li] at hi
                    rw [List.getElem?_append_left (by rw [← hh.len]; exact li)] at hy
                    rw [List.take_append_of_le_length (by omega)]
                    exact E5 i b y hi hy
                  · have ei : i = ρ.length ∨ i = ρ.length + 1 := by
                      have := (List.getElem?_eq_some_iff.mp hi).1
                      rw [List.length_append, List.length_cons, List.length_singleton] at this
                      omega
                    rcases ei with rfl | rfl
                    · rw [hh.len] at hy
                      simp at hi hy
                      subst hi hy
                      exact ⟨E3 _ (by simp), us, by rw [back_out w1]; exact rh.ex _ _ gw, ly, Reps.out E2 ys us ny.2 ru⟩
                    · rw [hh.len] at hy
                      simp at hi hy
                      subst hi hy
                      refine ⟨E3 _ (by simp), _, by rw [back_out f1]; exact rh.ex _ _ g, lx, CReps.cons (Rep.out E2 a va ny.1 ra) (CReps.cons ⟨w, ?_, rfl⟩ CReps.nil)⟩
                      rw [List.getElem?_take, if_pos (by rw [← hh.len]; omega), ← hh.len]
                      simp
              · rw [if_neg ny] at p; exact p.elim
        | scr ns => exact p.elim
        | dct ks xs => exact p.elim
        | non => exact flat _ rfl rx rfl p
        | bl b => exact flat _ rfl rx rfl p
        | int i => exact flat _ rfl rx rfl p
        | str z => exact flat _ rfl rx rfl p
        | tup xs =>
          by_cases nx : noLst (.tup xs) = true
          · exact flat _ nx rx (if_pos nx) p
          · have p : Post (SRep T) T W σ G ρ (if noLst (.tup xs) = true then .ok (.d (.tup xs)) c else .bad) Q := p
            rw [if_neg nx] at p
            exact p.elim
        | obj k xs =>
          by_cases nx : noLst (.obj k xs) = true
          · exact flat _ nx rx (if_pos nx) p
          · have p : Post (SRep T) T W σ G ρ (if noLst (.obj k xs) = true then .ok (.d (.obj k xs)) c else .bad) Q := p
            rw [if_neg nx] at p
            exact p.elim
      · rw [if_neg ht'] at p; exact p.elim
  · rw [if_neg ht] at p; exact p.elim
end
end Dn

end
/-! what the defs of law_k21_talks compute, printed by gen.py -/
namespace Dn
def f__bottom : List (Nat × Nat) := [(1, 1)]
def f__top : List (Nat × Nat) := [(1, 0)]
def f_heard_lots : List (Nat × Nat) := [(0, 1)]
def f_seats : List (Nat × Nat) := [(0, 0)]
def k_Ratio : Kinds := kAll false false false false false false false [(1, true), (0, false)]
def k_Web : Kinds := kAll false false false false false false false [(1, false), (0, true)]
def k_bool : Kinds := kAll false true false false false false false [(1, false), (0, false)]
def k_int : Kinds := kAll false true true false false false false [(1, false), (0, false)]
def k_int_Ratio : Kinds := kAll false true true false false false false [(1, true), (0, false)]
def k_list_tuple : Kinds := kAll false false false false true true false [(1, false), (0, false)]
def k_tuple : Kinds := kAll false false false false false true false [(1, false), (0, false)]
def kEq : Kinds := kAll true true true true true true true [(1, true), (0, true)]
def xf_given : List (Nat × Nat) := [(37, 0), (27, 0), (26, 0), (59, 0)]
abbrev nT : Nat := 2
def b_is_number : MS := (sSeq (sIf (mTB (mIsi k_bool (mVar 0))) (sRet (mC (.bl false))) sNil) (sRet (mIsi k_int_Ratio (mVar 0))))
def d_is_number : List S → Cs → R S := fnG false 1 1 b_is_number
def b_parts_of : MS := (sSeq (sIf (mTB (mIsi k_Ratio (mVar 0))) (sRet (mTup (mCons (mProp 1 0 (mVar 0)) (mCons (mProp 1 1 (mVar 0)) mNil)))) sNil) (sRet (mTup (mCons (mVar 0) (mCons (mC (.int 1)) mNil)))))
def d_parts_of : List S → Cs → R S := fnG false 1 1 b_parts_of
def b_Ratio_eq : MS := (sSeq (sIf (mtNot (mTB (mBlt d_is_number (mCons (mVar 1) mNil)))) (sRet (mC (.bl false))) sNil) (sSeq (sAsg (gtTup (gtCons (gtName 2) (gtCons (gtName 3) gtNil))) (mBlt d_parts_of (mCons (mVar 1) mNil))) (sRet (mAnd (mBin (lift2 (eqP false)) (mAttr f__top (mVar 0)) (mVar 2)) (mBin (lift2 (eqP false)) (mAttr f__bottom (mVar 0)) (mVar 3))))))
def d_Ratio_eq : List S → Cs → R S := fnG false 2 4 b_Ratio_eq
def b_Web_eq : MS := (sRet (mAnd (mIsi k_Web (mVar 1)) (mAnd (mBin (lift2 (eqP false)) (mAttr f_seats (mVar 0)) (mAttr f_seats (mVar 1))) (mBin (lift2 (eqP false)) (mAttr f_heard_lots (mVar 0)) (mAttr f_heard_lots (mVar 1))))))
def d_Web_eq : List S → Cs → R S := fnG false 2 2 b_Web_eq
def b_Web_len : MS := (sRet (mBlt (lenX lenD) (mCons (mAttr f_heard_lots (mVar 0)) mNil)))
def d_Web_len : List S → Cs → R S := fnG false 1 1 b_Web_len
def eqs : List (Nat × (List S → Cs → R S)) := [(1, d_Ratio_eq), (0, d_Web_eq)]
def lens : List (Nat × (Nat × (List S → Cs → R S))) := [(0, 2, d_Web_len)]
def b_law_box : MS := (sSeq (sSet 2 (mBin (lift2 modD) (mBlt (liftN intD) (mCons (mBin (lift2 addD) (mBlt (liftN sumD) (mCons (mVar 0) mNil)) (mBlt (lenX (lenO lens)) (mCons (mVar 0) mNil))) mNil)) (mC (.int 1000003)))) (sRet (mCell (mCons (mIf (mTB (mBin (lift2 ltD) (mVar 1) (mBlt (lenX (lenO lens)) (mCons (mVar 0) mNil)))) (mBlt (liftN absD) (mCons (mBlt (liftN intD) (mCons (mBin (lift2 ixD) (mVar 0) (mVar 1)) mNil)) mNil)) (mC (.int 0))) (mCons (mC (.int 0)) (mCons (mBin (lift2 addD) (mBin (lift2 addD) (mBin (lift2 mulD) (mC (.int 40637)) (mVar 1)) (mC (.int 911))) (mVar 2)) mNil))))))
def d_law_box : List S → Cs → R S := fnG true 2 3 b_law_box
def b_law_all_talks : MS := (sSeq (sSet 1 (mLst mNil)) (sSeq (sFor (iRng (mCons (mVar 0) mNil)) (gtName 2) (sSet 1 (mBin (lift2 addD) (mVar 1) (mComp (iRng (mCons (mVar 0) mNil)) (gtName 3) (mTB (mBin (eqY eqs 4 true) (mVar 3) (mVar 2))) (mTup (mCons (mVar 2) (mCons (mVar 3) mNil))) [3])))) (sRet (mVar 1))))
def d_law_all_talks : List S → Cs → R S := fnG false 1 4 b_law_all_talks
def b_law_talked : MS := (sSeq (sFrz [2] (seqs [(sSet 2 (mCompK (iSeq (mVar 0)) (gtName 3) mtYes (mBlt (liftN listD) (mCons (mVar 3) mNil)) [3])), (sSetIx (mVar 2) (mBin (lift2 ixD) (mVar 1) (mC (.int 1))) (mSortSet (mBin (lift2 addD) (mBin (lift2 ixD) (mVar 0) (mBin (lift2 ixD) (mVar 1) (mC (.int 0)))) (mBin (lift2 ixD) (mVar 0) (mBin (lift2 ixD) (mVar 1) (mC (.int 1)))))))])) (sRet (mVar 2)))
def d_law_talked : List S → Cs → R S := fnG false 2 4 b_law_talked
def b_law_firsts : MS := (sSeq (sPar 1 2 (mCons (mCell mNil) (mCons (mLst (mCons (mTup (mCons (mComp (iRng (mCons (mVar 0) mNil)) (gtName 7) mtYes (mLst (mCons (mVar 7) mNil)) [7]) (mCons (mLst mNil) mNil))) mNil)) mNil))) (sSeq (wloop (mTB (mBin (eqY eqs 4 true) (mVar 2) (mLst mNil))) (sSeq (sFor (iSeq (mVar 2)) (gtTup (gtCons (gtName 3) (gtCons (gtName 4) gtNil))) (sIf (mTB (mBin (eqG eqs kEq 4) (mComp (iSeq (mVar 1)) (gtName 8) (mTB (mBin (eqG eqs kEq 4) (mBin (lift2 ixD) (mVar 8) (mC (.int 0))) (mVar 3))) (mVar 8) [8]) (mLst mNil))) (sExpr (mAppend (mVar 1) (mCons (mTup (mCons (mVar 3) (mCons (mVar 4) mNil))) mNil))) sNil)) (sSeq (sFrz [5] (seqs [(sSet 5 (mCell mNil)), (sFor (iSeq (mVar 2)) (gtTup (gtCons (gtName 3) (gtCons (gtName 4) gtNil))) (sFor (iSeq (mBlt d_law_all_talks (mCons (mVar 0) mNil))) (gtName 6) (sIf (mtAnd (mTB (mBin (lift2 ltD) (mBin (lift2 ixD) (mVar 6) (mC (.int 0))) (mVar 0))) (mTB (mBin (eqY eqs 4 true) (mBlt d_law_talked (mCons (mVar 3) (mCons (mVar 6) mNil))) (mVar 3)))) (sExpr (mAppend (mVar 5) (mCons (mTup (mCons (mBlt d_law_talked (mCons (mVar 3) (mCons (mVar 6) mNil))) (mCons (mBin (lift2 addD) (mVar 4) (mLst (mCons (mVar 6) mNil))) mNil))) mNil))) sNil)))])) (sSet 2 (mIf (mTB (mBin (lift2 ltD) (mBlt (lenX (lenO lens)) (mCons (mBin (lift2 ixD) (mBin (lift2 ixD) (mVar 2) (mC (.int 0))) (mC (.int 1))) mNil)) (mC (.int 5)))) (mVar 5) (mLst mNil))))) 1000) (sRet (mVar 1))))
def d_law_firsts : List S → Cs → R S := fnG false 1 9 b_law_firsts
def b_law_take : MS := (sSeq (sIf (mTB (mBin (lift2 geD) (mBin (lift2 ixD) (mVar 0) (mC (.int 0))) (mBin (lift2 powD) (mC (.int 10)) (mC (.int 18))))) (sSeq (sSet 2 (mBin (lift2 modD) (mBlt (liftN intD) (mCons (mBin (lift2 ixD) (mVar 0) (mC (.int 0))) mNil)) (mVar 1))) (sSeq (sSetIx (mVar 0) (mC (.int 0)) (mBin (lift2 fdivD) (mBin (lift2 ixD) (mVar 0) (mC (.int 0))) (mVar 1))) (sRet (mVar 2)))) sNil) (sSeq (sSetIx (mVar 0) (mC (.int 1)) (mBin (lift2 addD) (mBin (lift2 ixD) (mVar 0) (mC (.int 1))) (mC (.int 1)))) (sSeq (sSet 3 (mBin (lift2 modD) (mBin (lift2 powD) (mBlt (liftN intD) (mCons (mBin (lift2 addD) (mBin (lift2 addD) (mBin (lift2 mulD) (mBin (lift2 addD) (mBin (lift2 ixD) (mVar 0) (mC (.int 0))) (mC (.int 7))) (mC (.int 69069))) (mBin (lift2 mulD) (mBin (lift2 ixD) (mVar 0) (mC (.int 1))) (mC (.int 40829)))) (mBin (lift2 ixD) (mVar 0) (mC (.int 2)))) mNil)) (mC (.int 3))) (mC (.int 2147483647)))) (sSeq (sSet 3 (mBin (lift2 modD) (mBin (lift2 powD) (mBlt (liftN intD) (mCons (mBin (lift2 addD) (mVar 3) (mBin (lift2 mulD) (mBin (lift2 ixD) (mVar 0) (mC (.int 1))) (mC (.int 17389)))) mNil)) (mC (.int 3))) (mC (.int 2147483399)))) (sRet (mBin (lift2 modD) (mBlt (liftN intD) (mCons (mBin (lift2 fdivD) (mVar 3) (mC (.int 64))) mNil)) (mVar 1)))))))
def d_law_take : List S → Cs → R S := fnG false 2 4 b_law_take
def b_law_own_lots : MS := (sSeq (sFrz [2] (seqs [(sSet 2 (mCell mNil)), (sFor (iRng (mCons (mVar 1) mNil)) (gtName 3) (sExpr (mAppend (mVar 2) (mCons (mComp (iRng (mCons (mVar 1) mNil)) (gtName 4) (mtOr (mTB (mBin (eqG eqs kEq 4) (mVar 4) (mVar 3))) (mTB (mBin (eqG eqs kEq 4) (mBlt d_law_take (mCons (mVar 0) (mCons (mC (.int 2)) mNil))) (mC (.int 0))))) (mVar 4) [4]) mNil))))])) (sRet (mVar 2)))
def d_law_own_lots : List S → Cs → R S := fnG false 2 5 b_law_own_lots
def b_is_integer : MS := (sRet (mAnd (mIsi k_int (mVar 0)) (mNot (mIsi k_bool (mVar 0)))))
def d_is_integer : List S → Cs → R S := fnG false 1 1 b_is_integer
def b_is_place : MS := (sRet (mAnd (mBlt d_is_integer (mCons (mVar 0) mNil)) (mChain (lift2 leD) (lift2 ltD) (mC (.int 0)) (mVar 0) (mVar 1))))
def d_is_place : List S → Cs → R S := fnG false 2 2 b_is_place
def b_is_talk : MS := (sSeq (sIf (mtOr (mtNot (mTB (mIsi k_tuple (mVar 0)))) (mTB (mBin (lift2 (eqP true)) (mBlt (lenX (lenO lens)) (mCons (mVar 0) mNil)) (mC (.int 2))))) (sRet (mC (.bl false))) sNil) (sRet (mAnd (mBlt d_is_place (mCons (mBin (lift2 ixD) (mVar 0) (mC (.int 0))) (mCons (mVar 1) mNil))) (mAnd (mBlt d_is_place (mCons (mBin (lift2 ixD) (mVar 0) (mC (.int 1))) (mCons (mVar 1) mNil))) (mBin (lift2 (eqP true)) (mBin (lift2 ixD) (mVar 0) (mC (.int 0))) (mBin (lift2 ixD) (mVar 0) (mC (.int 1))))))))
def d_is_talk : List S → Cs → R S := fnG false 2 2 b_is_talk
def b_are_talks : MS := (sSeq (sIf (mtOr (mtNot (mTB (mIsi k_list_tuple (mVar 0)))) (mTB (mBin (lift2 gtD) (mBlt (lenX (lenO lens)) (mCons (mVar 0) mNil)) (mC (.int 9))))) (sRet (mC (.bl false))) sNil) (sRet (mBlt (liftN allD) (mCons (mComp (iSeq (mVar 0)) (gtName 2) mtYes (mBlt d_is_talk (mCons (mVar 2) (mCons (mVar 1) mNil))) [2]) mNil))))
def d_are_talks : List S → Cs → R S := fnG false 2 3 b_are_talks
def b_is_many : MS := (sRet (mAnd (mBlt d_is_place (mCons (mVar 0) (mCons (mBin (lift2 addD) (mC (.int 3)) (mC (.int 1))) mNil))) (mBin (lift2 gtD) (mVar 0) (mC (.int 0)))))
def d_is_many : List S → Cs → R S := fnG false 1 1 b_is_many
def b_union_of : MS := (sRet (mComp (iRng (mCons (mC (.int 3)) mNil)) (gtName 1) (mTB (mBlt (liftN anyD) (mCons (mComp (iSeq (mVar 0)) (gtName 2) mtYes (mBin (lift2 (inP false)) (mVar 1) (mVar 2)) [2]) mNil))) (mVar 1) [1]))
def d_union_of : List S → Cs → R S := fnG false 1 3 b_union_of
def b_talked : MS := (sSeq (sAsg (gtTup (gtCons (gtName 2) (gtCons (gtName 3) gtNil))) (mVar 1)) (sRet (mComp (iEnum' (mCons (mVar 0) mNil)) (gtTup (gtCons (gtName 4) (gtCons (gtName 5) gtNil))) mtYes (mIf (mTB (mBin (lift2 (eqP false)) (mVar 4) (mVar 3))) (mBlt d_union_of (mCons (mLst (mCons (mVar 5) (mCons (mBin (lift2 ixD) (mVar 0) (mVar 2)) mNil))) mNil)) (mVar 5)) [4, 5])))
def d_talked : List S → Cs → R S := fnG false 2 6 b_talked
def b_is_lot : MS := (sSeq (sIf (mtOr (mtNot (mTB (mIsi k_list_tuple (mVar 0)))) (mtNot (mTB (mBlt (liftN allD) (mCons (mComp (iSeq (mVar 0)) (gtName 2) mtYes (mBlt d_is_place (mCons (mVar 2) (mCons (mVar 1) mNil))) [2]) mNil))))) (sRet (mC (.bl false))) sNil) (sRet (mBlt (liftN allD) (mCons (mComp (iRng (mCons (mBin (lift2 subD) (mBlt (lenX (lenO lens)) (mCons (mVar 0) mNil)) (mC (.int 1))) mNil)) (gtName 3) mtYes (mBin (lift2 ltD) (mBin (lift2 ixD) (mVar 0) (mVar 3)) (mBin (lift2 ixD) (mVar 0) (mBin (lift2 addD) (mVar 3) (mC (.int 1))))) [3]) mNil))))
def d_is_lot : List S → Cs → R S := fnG false 2 4 b_is_lot
def b_are_lots : MS := (sSeq (sIf (mtOr (mtNot (mTB (mIsi k_list_tuple (mVar 0)))) (mtNot (mTB (mChain (lift2 leD) (lift2 leD) (mC (.int 1)) (mBlt (lenX (lenO lens)) (mCons (mVar 0) mNil)) (mC (.int 3)))))) (sRet (mC (.bl false))) sNil) (sRet (mBlt (liftN allD) (mCons (mComp (iSeq (mVar 0)) (gtName 2) mtYes (mBlt d_is_lot (mCons (mVar 2) (mCons (mVar 1) mNil))) [2]) mNil))))
def d_are_lots : List S → Cs → R S := fnG false 2 3 b_are_lots
def b_Web_init : MS := (sSeq (sIf (mtNot (mTB (mBlt d_is_many (mCons (mVar 1) mNil)))) (sRaise1 27 (mVar 1)) sNil) (sSeq (sIf (mtNot (mTB (mBlt d_are_lots (mCons (mVar 2) (mCons (mVar 1) mNil))))) (sRaise1 26 (mVar 2)) sNil) (sSeq (sFldSet f_seats (mVar 0) (mVar 1)) (sFldSet f_heard_lots (mVar 0) (mBlt (liftN tupleD) (mCons (mComp (iSeq (mVar 2)) (gtName 3) mtYes (mBlt (liftN tupleD) (mCons (mVar 3) mNil)) [3]) mNil))))))
def d_Web_init : List S → Cs → R S := fnG false 3 4 b_Web_init
def b_after_talks : MS := (sSeq (sIf (mtNot (mTB (mBlt d_is_many (mCons (mVar 0) mNil)))) (sRaise1 27 (mVar 0)) sNil) (sSeq (sIf (mtNot (mTB (mBlt d_are_talks (mCons (mVar 1) (mCons (mVar 0) mNil))))) (sRaise1 59 (mVar 1)) sNil) (sSeq (sSet 2 (mComp (iRng (mCons (mVar 0) mNil)) (gtName 4) mtYes (mLst (mCons (mVar 4) mNil)) [4])) (sSeq (sFor (iSeq (mVar 1)) (gtName 3) (sSet 2 (mBlt d_talked (mCons (mVar 2) (mCons (mVar 3) mNil))))) (sRet (mMake 0 2 d_Web_init (mCons (mVar 0) (mCons (mVar 2) mNil))))))))
def d_after_talks : List S → Cs → R S := fnG false 2 5 b_after_talks
def b_is_square : MS := (sRet (mAnd (mIsi k_Web (mVar 0)) (mBin (lift2 (eqP false)) (mAttr f_seats (mVar 0)) (mBlt (lenX (lenO lens)) (mCons (mVar 0) mNil)))))
def d_is_square : List S → Cs → R S := fnG false 1 1 b_is_square
def b_need_own : MS := (sIf (mtOr (mtNot (mTB (mBlt d_is_square (mCons (mVar 0) mNil)))) (mtNot (mTB (mBlt (liftN allD) (mCons (mComp (iEnum' (mCons (mAttr f_heard_lots (mVar 0)) mNil)) (gtTup (gtCons (gtName 1) (gtCons (gtName 2) gtNil))) mtYes (mBin (lift2 (inP false)) (mVar 1) (mVar 2)) [1, 2]) mNil))))) (sRaise1 37 (mVar 0)) sNil)
def d_need_own : List S → Cs → R S := fnG false 1 3 b_need_own
def b_all_talks : MS := (sRet (mComp2 (iRng (mCons (mVar 0) mNil)) (gtName 1) mtYes (iRng (mCons (mVar 0) mNil)) (gtName 2) (mTB (mBin (lift2 (eqP true)) (mVar 1) (mVar 2))) (mTup (mCons (mVar 1) (mCons (mVar 2) mNil))) [1, 2] [2]))
def d_all_talks : List S → Cs → R S := fnG false 1 3 b_all_talks
def b_shortest_talks (gl : List S → Cs → R S) : MS := (sSeq (sSet 2 (mComp (iRng (mCons (mVar 0) mNil)) (gtName 10) mtYes (mLst (mCons (mVar 10) mNil)) [10])) (sSeq (sPar 3 4 (mCons (mLst (mCons (mTup (mCons (mVar 2) (mCons (mLst mNil) mNil))) mNil)) (mCons (mCell (mCons (mVar 2) mNil)) mNil))) (sSeq (wloop (mTB (mBin (lift2 (eqP true)) (mVar 3) (mLst mNil))) (sSeq (sFor (iSeq (mVar 3)) (gtTup (gtCons (gtName 5) (gtCons (gtName 6) gtNil))) (sIf (mTB (mCallV 1 gl (mCons (mVar 5) mNil))) (sRet (mVar 6)) sNil)) (sSeq (sSet 7 (mCell mNil)) (sSeq (sFor (iSeq (mVar 3)) (gtTup (gtCons (gtName 5) (gtCons (gtName 6) gtNil))) (sFor (iSeq (mBlt d_all_talks (mCons (mVar 0) mNil))) (gtName 8) (sSeq (sSet 9 (mBlt d_talked (mCons (mVar 5) (mCons (mVar 8) mNil)))) (sIf (mTB (mBin (lift2 (inP true)) (mVar 9) (mVar 4))) (sSeq (sExpr (mAppend (mVar 4) (mCons (mVar 9) mNil))) (sExpr (mAppend (mVar 7) (mCons (mTup (mCons (mVar 9) (mCons (mLst (mStarC (mVar 6) (mCons (mVar 8) mNil))) mNil))) mNil)))) sNil)))) (sSet 3 (mVar 7))))) 1000) (sRet (mC .non)))))
def d_shortest_talks (gl : List S → Cs → R S) : List S → Cs → R S := fnG false 2 11 (b_shortest_talks gl)
def b_Web_links : MS := (sRet (mBlt (liftN sortedD) (mCons (mComp2 (iEnum' (mCons (mAttr f_heard_lots (mVar 0)) mNil)) (gtTup (gtCons (gtName 1) (gtCons (gtName 2) gtNil))) mtYes (iSeq (mVar 2)) (gtName 3) mtYes (mTup (mCons (mVar 3) (mCons (mVar 1) mNil))) [1, 2, 3] [3]) mNil)))
def d_Web_links : List S → Cs → R S := fnG false 1 4 b_Web_links
def t_links : List (Nat × (List S → Cs → R S)) := [(0, d_Web_links)]
def b_enough_talks : MS := (sSeq (sExpr (mBlt d_need_own (mCons (mVar 0) mNil))) (sSeq (sSet 1 (mMeth t_links (mVar 0) mNil)) (sRet (mLamN 1 d_shortest_talks 1 4 [1] (mBlt (liftN allD) (mCons (mComp (iSeq (mVar 1)) (gtTup (gtCons (gtName 2) (gtCons (gtName 3) gtNil))) mtYes (mBin (lift2 (inP false)) (mVar 2) (mBin (lift2 ixD) (mVar 0) (mVar 3))) [2, 3]) mNil)) (mCons (mAttr f_seats (mVar 0)) mNil)))))
def d_enough_talks : List S → Cs → R S := fnE (exitR false) 1 2 b_enough_talks
def b_Web_lots : MS := (sRet (mComp (iSeq (mAttr f_heard_lots (mVar 0))) (gtName 1) mtYes (mBlt (liftN listD) (mCons (mVar 1) mNil)) [1]))
def d_Web_lots : List S → Cs → R S := fnG false 1 2 b_Web_lots
def t_lots : List (Nat × (List S → Cs → R S)) := [(0, d_Web_lots)]
def b_fewest_talks : MS := (sSeq (sExpr (mBlt d_need_own (mCons (mVar 0) mNil))) (sSeq (sSet 1 (mMeth t_lots (mVar 0) mNil)) (sRet (mLamN 0 d_shortest_talks 1 2 [1] (mBin (lift2 (eqP false)) (mVar 0) (mVar 1)) (mCons (mAttr f_seats (mVar 0)) mNil)))))
def d_fewest_talks : List S → Cs → R S := fnE (exitR false) 1 2 b_fewest_talks
def b_law_caught : MS := (sTryM [⟨[27], [59, 37, 13, 26], (some 3), (sRet (mLst (mCons (mC (.str "seat")) (mCons (mXf xf_given 3) mNil))))⟩, ⟨[59], [27, 37, 13, 26], (some 3), (sRet (mLst (mCons (mC (.str "talks")) (mCons (mXf xf_given 3) mNil))))⟩, ⟨[37], [27, 59, 13, 26], (some 3), (sRet (mLst (mCons (mC (.str "web")) (mCons (mXf xf_given 3) mNil))))⟩] (sSeq (sIf (mTB (mBin (eqG eqs kEq 4) (mVar 0) (mC (.int 0)))) (sRet (mLst (mCons (mC (.str "told")) (mCons (mBlt d_after_talks (mCons (mVar 1) (mCons (mVar 2) mNil))) mNil)))) sNil) (sRet (mLst (mCons (mC (.str "told")) (mCons (mIf (mTB (mBin (eqG eqs kEq 4) (mVar 0) (mC (.int 1)))) (mBlt d_fewest_talks (mCons (mVar 1) mNil)) (mBlt d_enough_talks (mCons (mVar 1) mNil))) mNil))))))
def d_law_caught : List S → Cs → R S := fnG false 3 4 b_law_caught
def b_Ratio_init : MS := (sSeq (sIf (mTB (mBin (lift2 (eqP false)) (mVar 2) (mC (.int 0)))) (sRaise0 13) sNil) (sSeq (sSet 3 (mBlt (liftN gcdD) (mCons (mVar 1) (mCons (mVar 2) mNil)))) (sSeq (sIf (mTB (mBin (lift2 ltD) (mVar 2) (mC (.int 0)))) (sSet 3 (mUn (lift1 negD) (mVar 3))) sNil) (sSeq (sFldSet f__top (mVar 0) (mBin (lift2 fdivD) (mVar 1) (mVar 3))) (sFldSet f__bottom (mVar 0) (mBin (lift2 fdivD) (mVar 2) (mVar 3)))))))
def d_Ratio_init : List S → Cs → R S := fnG false 3 4 b_Ratio_init
def b_law_refused_right : MS := (sSeq (sSet 3 (mBin (lift2 mulD) (mLst (mCons (mTup (mCons (mC (.int 0)) (mCons (mC (.int 1)) mNil))) mNil)) (mBlt (liftN intBD) (mCons (mBin (lift2 gtD) (mVar 1) (mC (.int 1))) mNil)))) (sSeq (sSet 4 (mLst (mCons (mC .non) (mCons (mC (.int 5)) (mCons (mC (.str "01")) (mCons (mDct1 "a" 1) (mCons (mLst (mCons (mC .non) mNil)) (mCons (mLst (mCons (mTup (mCons (mC (.int 0)) (mCons (mC (.int 0)) mNil))) mNil)) (mCons (mLst (mCons (mLst (mCons (mC (.int 0)) (mCons (mC (.int 1)) mNil))) mNil)) (mCons (mLst (mCons (mTup (mCons (mC (.int 0)) mNil)) mNil)) (mCons (mLst (mCons (mTup (mCons (mC (.int 0)) (mCons (mC (.int 1)) (mCons (mC (.int 0)) mNil)))) mNil)) (mCons (mLst (mCons (mTup (mCons (mC (.int 0)) (mCons (mVar 1) mNil))) mNil)) (mCons (mLst (mCons (mTup (mCons (mUn (lift1 negD) (mC (.int 1))) (mCons (mC (.int 0)) mNil))) mNil)) (mCons (mLst (mCons (mC (.str "01")) mNil)) mNil)))))))))))))) (sSeq (sSet 4 (mBin (lift2 addD) (mVar 4) (mLst (mCons (mLst (mCons (mTup (mCons (mC (.int 0)) (mCons (mC (.bl true)) mNil))) mNil)) (mCons (mLst (mCons (mTup (mCons (mC (.int 0)) (mCons (mC (.str "1")) mNil))) mNil)) (mCons (mLst (mCons (mTup (mCons (mC (.int 0)) (mCons (mC .non) mNil))) mNil)) (mCons (mLst (mCons (mTup (mCons (mC (.int 0)) (mCons (mMake 1 2 d_Ratio_init (mDfl (mCons (mC (.int 1)) mNil) 1)) mNil))) mNil)) (mCons (mBin (lift2 addD) (mVar 3) (mLst (mCons (mTup (mCons (mVar 1) (mCons (mC (.int 0)) mNil))) mNil))) (mCons (mTup (mCons (mC (.int 0)) (mCons (mC (.int 1)) mNil))) mNil))))))))) (sSeq (sSet 4 (mBin (lift2 addD) (mVar 4) (mLst (mCons (mBin (lift2 mulD) (mLst (mCons (mTup (mCons (mC (.int 0)) (mCons (mC (.int 1)) mNil))) mNil)) (mC (.int 10))) (mCons (mBin (lift2 addD) (mBin (lift2 mulD) (mLst (mCons (mTup (mCons (mC (.int 0)) (mCons (mC (.int 1)) mNil))) mNil)) (mC (.int 3))) (mLst (mCons (mC (.int 3)) mNil))) mNil))))) (sSeq (sFor (iSeq (mLst (mCons (mC .non) (mCons (mC (.int 0)) (mCons (mC (.int 4)) (mCons (mC (.bl true)) (mCons (mC (.str "2")) (mCons (mLst (mCons (mC (.int 2)) mNil)) (mCons (mMake 1 2 d_Ratio_init (mDfl (mCons (mC (.int 2)) mNil) 1)) mNil))))))))) (gtName 5) (sIf (mTB (mBin (eqY eqs 4 true) (mBlt d_law_caught (mCons (mC (.int 0)) (mCons (mVar 5) (mCons (mBin (lift2 ixD) (mLst (mCons (mLst mNil) (mCons (mBin (lift2 ixD) (mVar 4) (mBlt d_law_take (mCons (mVar 0) (mCons (mBlt (lenX (lenO lens)) (mCons (mVar 4) mNil)) mNil)))) mNil))) (mBlt d_law_take (mCons (mVar 0) (mCons (mC (.int 2)) mNil)))) mNil)))) (mLst (mCons (mC (.str "seat")) (mCons (mVar 5) mNil))))) (sRet (mC (.bl false))) sNil)) (sSeq (sIf (mTB (mBin (eqY eqs 4 true) (mComp (iSeq (mVar 4)) (gtName 5) (mTB (mBin (eqY eqs 4 true) (mBlt d_law_caught (mCons (mC (.int 0)) (mCons (mVar 1) (mCons (mVar 5) mNil)))) (mLst (mCons (mC (.str "talks")) (mCons (mVar 5) mNil))))) (mVar 5) [5]) (mLst mNil))) (sRet (mC (.bl false))) sNil) (sSeq (sFrz [6] (seqs [(sSet 6 (mCompK (iSeq (mVar 2)) (gtName 8) mtYes (mBlt (liftN listD) (mCons (mVar 8) mNil)) [8])), (sSetIx (mVar 6) (mBlt d_law_take (mCons (mVar 0) (mCons (mVar 1) mNil))) (mLst mNil))])) (sSeq (sSet 7 (mLst (mCons (mC .non) (mCons (mVar 2) (mCons (mC (.int 5)) (mCons (mC (.str "web")) (mCons (mC (.bl true)) (mCons (mDct1 "a" 1) (mCons (mMake 0 2 d_Web_init (mCons (mVar 1) (mCons (mVar 6) mNil))) (mCons (mMake 0 2 d_Web_init (mCons (mVar 1) (mCons (mSl (mBin (lift2 addD) (mVar 2) (mVar 2)) moNone (moSome (mBin (lift2 addD) (mC (.int 1)) (mBin (lift2 modD) (mVar 1) (mC (.int 3)))))) mNil))) mNil)))))))))) (sSeq (sFor (iSeq (mIf (mTB (mBin (lift2 gtD) (mVar 1) (mC (.int 1)))) (mVar 7) (mSl (mVar 7) moNone (moSome (mC (.int 6)))))) (gtName 5) (sIf (mtOr (mTB (mBin (eqY eqs 4 true) (mBlt d_law_caught (mCons (mC (.int 1)) (mCons (mVar 5) (mCons (mC .non) mNil)))) (mLst (mCons (mC (.str "web")) (mCons (mVar 5) mNil))))) (mTB (mBin (eqY eqs 4 true) (mBlt d_law_caught (mCons (mC (.int 2)) (mCons (mVar 5) (mCons (mC .non) mNil)))) (mLst (mCons (mC (.str "web")) (mCons (mVar 5) mNil)))))) (sRet (mC (.bl false))) sNil)) (sRet (mC (.bl true))))))))))))
def d_law_refused_right : List S → Cs → R S := fnG false 3 9 b_law_refused_right
def b_law_talks_right : MS := (sSeq (sFrz [2] (seqs [(sPar 2 3 (mCons (mCell mNil) (mCons (mComp (iRng (mCons (mVar 1) mNil)) (gtName 6) mtYes (mLst (mCons (mVar 6) mNil)) [6]) mNil))), (sFor (iRng (mCons (mBin (lift2 mulD) (mBlt d_law_take (mCons (mVar 0) (mCons (mC (.int 10)) mNil))) (mBlt (liftN intBD) (mCons (mBin (lift2 gtD) (mVar 1) (mC (.int 1))) mNil))) mNil)) (gtName 4) (sSeq (sSet 5 (mBlt d_law_all_talks (mCons (mVar 1) mNil))) (sSeq (sExpr (mAppend (mVar 2) (mCons (mBin (lift2 ixD) (mVar 5) (mBlt d_law_take (mCons (mVar 0) (mCons (mBlt (lenX (lenO lens)) (mCons (mVar 5) mNil)) mNil)))) mNil))) (sSet 3 (mBlt d_law_talked (mCons (mVar 3) (mCons (mBin (lift2 ixD) (mVar 2) (mUn (lift1 negD) (mC (.int 1)))) mNil)))))))])) (sSeq (sIf (mTB (mBin (eqY eqs 4 true) (mBlt d_law_caught (mCons (mC (.int 0)) (mCons (mVar 1) (mCons (mVar 2) mNil)))) (mLst (mCons (mC (.str "told")) (mCons (mMake 0 2 d_Web_init (mCons (mVar 1) (mCons (mVar 3) mNil))) mNil))))) (sRet (mC .non)) sNil) (sSeq (sIf (mTB (mBin (eqY eqs 4 true) (mBlt d_law_caught (mCons (mC (.int 0)) (mCons (mVar 1) (mCons (mBlt (liftN tupleD) (mCons (mVar 2) mNil)) mNil)))) (mLst (mCons (mC (.str "told")) (mCons (mMake 0 2 d_Web_init (mCons (mVar 1) (mCons (mVar 3) mNil))) mNil))))) (sRet (mC .non)) sNil) (sRet (mVar 3)))))
def d_law_talks_right : List S → Cs → R S := fnG false 2 7 b_law_talks_right
def b_law_webs_right : MS := (sSeq (sSet 3 (mMake 0 2 d_Web_init (mCons (mVar 0) (mCons (mVar 1) mNil)))) (sSeq (sSet 4 (mComp (iSeq (mVar 2)) (gtTup (gtCons (gtName 8) (gtCons (gtName 9) gtNil))) (mTB (mBin (eqG eqs kEq 4) (mVar 8) (mVar 1))) (mVar 9) [8, 9])) (sSeq (sFor (iRng (mCons (mC (.int 2)) mNil)) (gtName 5) (sSeq (sSet 6 (mFr nT (mBlt d_law_caught (mCons (mC (.int 1)) (mCons (mVar 3) (mCons (mC .non) mNil)))))) (sSeq (sIf (mTB (mBin (eqYF eqs 4 true) (mVar 6) (mLst (mCons (mC (.str "told")) (mCons (mIf (mTB (mBin (eqY eqs 4 true) (mVar 4) (mLst mNil))) (mBin (lift2 ixD) (mVar 4) (mC (.int 0))) (mC .non)) mNil))))) (sRet (mC (.bl false))) sNil) (sIf (mTB (mIsN true (mBin ixS (mVar 6) (mC (.int 1))))) (sExpr (mAppendS (mBin ixS (mVar 6) (mC (.int 1))) (mCons (mC .non) mNil))) sNil)))) (sSeq (sFrz [7] (seqs [(sSet 7 (mCell mNil)), (sFor (iSeq (mVar 2)) (gtTup (gtCons (gtName 8) (gtCons (gtName 9) gtNil))) (sIf (mTB (mBin (eqG eqs kEq 4) (mComp (iZip' (mCons (mVar 1) (mCons (mVar 8) mNil))) (gtTup (gtCons (gtName 10) (gtCons (gtName 11) gtNil))) (mTB (mBin (eqY eqs 4 true) (mSortSet (mBin (lift2 addD) (mVar 10) (mVar 11))) (mVar 11))) (mVar 10) [10, 11]) (mLst mNil))) (sExpr (mAppend (mVar 7) (mCons (mTup (mCons (mBlt (lenX (lenO lens)) (mCons (mVar 9) mNil)) (mCons (mVar 9) mNil))) mNil))) sNil))])) (sSeq (sExpr (mAppendS (mFr nT (mBlt d_enough_talks (mCons (mVar 3) mNil))) (mCons (mC .non) mNil))) (sRet (mBin (eqG eqs kEq 4) (mBlt d_law_caught (mCons (mC (.int 2)) (mCons (mVar 3) (mCons (mC .non) mNil)))) (mLst (mCons (mC (.str "told")) (mCons (mBin (lift2 ixD) (mBlt (liftN minLD) (mCons (mVar 7) mNil)) (mC (.int 1))) mNil))))))))))
def d_law_webs_right : List S → Cs → R S := fnG false 3 12 b_law_webs_right
def b_law : MS := (sSeq (sFor (iRng (mCons (mBlt (liftN max2D) (mCons (mC (.int 1)) (mCons (mBlt (liftN min2D) (mCons (mC (.int 2)) (mCons (mBlt (lenX (lenO lens)) (mCons (mVar 0) mNil)) mNil))) mNil))) mNil)) (gtName 1) (sSeq (sSet 2 (mBlt d_law_box (mCons (mVar 0) (mCons (mVar 1) mNil)))) (sSeq (sSet 3 (mBin (lift2 ixD) (mLst (mCons (mC (.int 3)) (mCons (mC (.int 3)) (mCons (mC (.int 3)) (mCons (mC (.int 2)) (mCons (mC (.int 1)) mNil)))))) (mBlt d_law_take (mCons (mVar 2) (mCons (mC (.int 5)) mNil))))) (sSeq (sSet 4 (mBlt d_law_firsts (mCons (mVar 3) mNil))) (sFor (iRng (mCons (mC (.int 3)) mNil)) (gtName 5) (sSeq (sSet 6 (mBlt d_law_talks_right (mCons (mVar 2) (mCons (mVar 3) mNil)))) (sSeq (sIf (mtOr (mTB (mIsN false (mVar 6))) (mtNot (mTB (mBlt d_law_webs_right (mCons (mVar 3) (mCons (mVar 6) (mCons (mVar 4) mNil))))))) (sRet (mC (.bl false))) sNil) (sSeq (sSet 7 (mBlt d_law_own_lots (mCons (mVar 2) (mCons (mVar 3) mNil)))) (sSeq (sIf (mtAnd (mTB (mBin (eqG eqs kEq 4) (mVar 3) (mC (.int 3)))) (mTB (mBin (eqG eqs kEq 4) (mBlt d_law_take (mCons (mVar 2) (mCons (mC (.int 4)) mNil))) (mC (.int 0))))) (sSet 7 (mBin (lift2 ixD) (mLst (mCons (mLst (mCons (mLst (mCons (mC (.int 0)) (mCons (mC (.int 1)) mNil))) (mCons (mLst (mCons (mC (.int 1)) (mCons (mC (.int 2)) mNil))) (mCons (mLst (mCons (mC (.int 0)) (mCons (mC (.int 2)) mNil))) mNil)))) (mCons (mLst (mCons (mLst (mCons (mC (.int 0)) (mCons (mC (.int 2)) mNil))) (mCons (mLst (mCons (mC (.int 0)) (mCons (mC (.int 1)) mNil))) (mCons (mLst (mCons (mC (.int 1)) (mCons (mC (.int 2)) mNil))) mNil)))) mNil))) (mBlt d_law_take (mCons (mVar 2) (mCons (mC (.int 2)) mNil))))) sNil) (sIf (mtOr (mtNot (mTB (mBlt d_law_webs_right (mCons (mVar 3) (mCons (mVar 7) (mCons (mVar 4) mNil)))))) (mtNot (mTB (mBlt d_law_refused_right (mCons (mVar 2) (mCons (mVar 3) (mCons (mVar 7) mNil))))))) (sRet (mC (.bl false))) sNil)))))))))) (sRet (mC (.bl true))))
def d_law : List S → Cs → R S := fnG false 1 8 b_law
end Dn

section
/-! K21_1: lots; from K22_1, K22_2 turned to the newer machine. -/
namespace Dn
open PySem
section
variable {δ : Sl} {c : Cs}
theorem compY {I : MI} {g : GT} {A : M} {vs : List Nat} {xs : List D} (f : D → D) (hI : I δ c = .ok (.xs (xs.map S.d)) c) (hl : xs.length ≤ PySem.sizeLine)
    (h : ∀ x ∈ xs, ∃ δ1, (∀ c', g (S.d x) c' (wipeD δ vs) = some δ1) ∧ ∀ c', A δ1 c' = .ok (.d (f x)) c') : mComp I g mtYes A vs δ c = .ok (.d (.lst (xs.map f))) c :=
  compM xs S.d f hI hl fun y hy acc => let ⟨δ1, h1, h2⟩ := h y hy; ⟨δ1, h1 _, h2 _⟩
theorem compMo {α : Type} {I : MI} {g : GT} {A : M} {vs : List Nat} (ys : List α) (q : α → D) (f : α → D) (hI : I δ c = .ok (.xs (ys.map fun y => S.d (q y))) c) (hl : ys.length ≤ PySem.sizeLine)
    (h : ∀ y ∈ ys, ∃ δ1, (∀ c', g (S.d (q y)) c' (wipeD δ vs) = some δ1) ∧ ∀ c', A δ1 c' = .ok (.d (f y)) c') : mComp I g mtYes A vs δ c = .ok (.d (.lst (ys.map f))) c :=
  compM ys (fun y => S.d (q y)) f hI hl fun y hy acc => let ⟨δ1, h1, h2⟩ := h y hy; ⟨δ1, h1 _, h2 _⟩
theorem compFo {α : Type} {I : MI} {g : GT} {C : MT} {A : M} {vs : List Nat} (ys : List α) (q : α → D) (p : α → Bool) (f : α → D) (hI : I δ c = .ok (.xs (ys.map fun y => S.d (q y))) c) (hl : ys.length ≤ PySem.sizeLine)
    (h : ∀ y ∈ ys, ∃ δ1, (∀ c', g (S.d (q y)) c' (wipeD δ vs) = some δ1) ∧ (∀ c', C δ1 c' = .ok (p y) c') ∧ ∀ c', A δ1 c' = .ok (.d (f y)) c') : mComp I g C A vs δ c = .ok (.d (.lst ((ys.filter p).map f))) c :=
  compF ys (fun y => S.d (q y)) p f hI hl fun y hy acc => let ⟨δ1, h1, h2, h3⟩ := h y hy; ⟨δ1, h1 _, h2 _, fun _ => h3 _⟩
end
theorem is_integer_int (i : Int) (c : Cs) : d_is_integer [.d (.int i)] c = .ok (.d (.bl true)) c := by
  refine (fnG_eq rfl).trans ?_
  simp [b_is_integer, sRet, mAnd, mIsi, mVar, mNot, askD, topD, deref, Kinds.ask, k_int, k_bool, kAll]
theorem is_place_int (i m : Int) (c : Cs) : d_is_place [.d (.int i), .d (.int m)] c = .ok (.d (.bl (decide (0 ≤ i) && decide (i < m)))) c := by
  refine (fnG_eq rfl).trans ?_
  simp [b_is_place, sRet, mAnd, mVar, mBlt, mCons, mNil, is_integer_int, mChain, mC, lift2, deref, leD, ltD, cmpD]
  by_cases h : 0 ≤ i <;> simp [h]
theorem is_many_int (i : Int) (c : Cs) : d_is_many [.d (.int i)] c = .ok (.d (.bl (decide (0 < i) && decide (i < 4)))) c := by
  refine (fnG_eq rfl).trans ?_
  simp [b_is_many, sRet, mAnd, mVar, mBlt, mCons, mNil, is_place_int, mBin, mC, lift2, deref, gtD, addD, cmpD]
  by_cases h : 0 ≤ i <;> by_cases k : i < 4 <;> simp [h, k] <;> omega
/-- a list or a tuple of these -/
def IsSeq (d : D) (xs : List D) : Prop := d = .lst xs ∨ d = .tup xs
theorem lenO_seq {tbl : List (Nat × (Nat × (List S → Cs → R S)))} {d : D} {xs : List D} (h : IsSeq d xs) : lenO tbl [d] = some (.int xs.length) := by
  rcases h with rfl | rfl <;> rfl
theorem items_seq {d : D} {xs : List D} {c : Cs} (h : IsSeq d xs) : items (.d d) c = .ok (.xs (xs.map S.d)) c := by
  rcases h with rfl | rfl <;> rfl
theorem ix_seq {d : D} {xs : List D} {n : Nat} (h : IsSeq d xs) (hn : n < xs.length) : ixD d (.int n) = some xs[n] := by
  rcases h with rfl | rfl <;> exact atI_nat hn
theorem lt_seq {d : D} {xs : List D} (h : IsSeq d xs) : k_list_tuple.ask d = some true := by
  rcases h with rfl | rfl <;> rfl
theorem all_bl {δ : Sl} {c c' : Cs} {A : M} {α : Type} {xs : List α} {f : α → Bool} (h : A δ c = .ok (.d (.lst (xs.map fun x => D.bl (f x)))) c') : mBlt (liftN allD) (mCons A mNil) δ c = .ok (.d (.bl (xs.all f))) c' :=
  blt (a1 h) (lN1 (by simp [allD, bls_map]))
theorem any_bl {δ : Sl} {c c' : Cs} {A : M} {α : Type} {xs : List α} {f : α → Bool} (h : A δ c = .ok (.d (.lst (xs.map fun x => D.bl (f x)))) c') : mBlt (liftN anyD) (mCons A mNil) δ c = .ok (.d (.bl (xs.any f))) c' :=
  blt (a1 h) (lN1 (by simp [anyD, bls_map]))
theorem is_lot_ok {s : Int} {l : List Int} {d : D} (hd : IsSeq d (l.map D.int)) (hl : l.length ≤ 10) (hp : ∀ x ∈ l, 0 ≤ x ∧ x < s) (hs : l.Pairwise (· < ·)) (c : Cs) : d_is_lot [.d d, .d (.int s)] c = .ok (.d (.bl true)) c := by
  refine fn_rt rfl (seq_go (if_no (tor_no (tnot_ok (tb_ok (isi (vr rfl) (lt_seq hd)))) ?_)) (ret_ok ?_))
  · refine (tnot_ok (tb_ok (all_bl (f := fun _ => true) (compY (fun _ => .bl true) (seqI (vr rfl) (items_seq hd)) (small_size (by simp; omega)) fun x hx => ?_)))).trans (by simp)
    obtain ⟨i, hi, rfl⟩ := List.mem_map.mp hx
    obtain ⟨h1, h2⟩ := hp i hi
    exact ⟨_, fun _ => rfl, fun c' => blt (a2 (vr rfl) (a1 (vr rfl))) (by rw [is_place_int]; simp [h1, h2])⟩
  · refine (all_bl (xs := rngL 0 (l.length - 1)) (f := fun _ => true) (compY (fun _ => .bl true) ?_ (small_size (by rw [rngL_len]; omega)) fun x hx => ?_)).trans (by simp)
    · have e1 : ((l.length : Int) - 1) ≤ 16777216 ∧ -(2 ^ 62) ≤ ((l.length : Int) - 1) := by omega
      have e2 : ((l.length : Int) - 1).toNat = l.length - 1 := by omega
      refine (congrArg (fun r => R.bind r rng1) (a1 (bin (blt (a1 (vr rfl)) (lX1 (lenO_seq hd))) rfl (l2 rfl)))).trans ?_
      simp only [bind_ok, rng1, List.length_map]
      rw [if_pos e1, e2]
    · obtain ⟨i, hi, rfl⟩ := List.mem_map.mp hx
      have hi := List.mem_range.mp hi
      have a1' : i < (l.map D.int).length := by simp; omega
      have a2' : i + 1 < (l.map D.int).length := by simp; omega
      have z1 := ix_seq hd a1'
      have z2 := ix_seq hd a2'
      have lt : l[i]'(by omega) < l[i + 1]'(by omega) := List.pairwise_iff_getElem.mp hs i (i + 1) _ _ (by omega)
      simp only [List.getElem_map] at z1 z2
      refine ⟨_, fun _ => rfl, fun c' => bin (bin (vr rfl) (vr rfl) (l2 (d := .int l[i]) (by rw [Int.zero_add]; exact z1))) (bin (vr rfl) (bin (vr rfl) rfl (l2 rfl)) (l2 (d := .int l[i + 1]) (by rw [Int.zero_add]; exact z2))) (l2 (by simp [ltD, cmpD, lt]))⟩
end Dn

end
section
/-! K21_2: webs; from K22_3. -/
namespace Dn
open PySem
def lotT (l : List Int) : D := .tup (l.map D.int)
def lotL (l : List Int) : D := .lst (l.map D.int)
def wb (s : Int) (ls : List (List Int)) : D := .obj 0 [.int s, .tup (ls.map lotT)]
structure LotOk (s : Int) (l : List Int) : Prop where
  pl : ∀ x ∈ l, 0 ≤ x ∧ x < s
  so : l.Pairwise (· < ·)
theorem short_of {a b : Int} : ∀ {l : List Int}, (∀ x ∈ l, a ≤ x ∧ x < b) → l.Pairwise (· < ·) → a ≤ b → (l.length : Int) ≤ b - a
  | [], _, _, h => by simp; omega
  | x :: r, h, k, hab => by
    obtain ⟨k1, k2⟩ := List.pairwise_cons.mp k
    have hx := h x List.mem_cons_self
    have := short_of (a := x + 1) (b := b) (l := r) (fun y hy => ⟨by have := k1 y hy; omega, (h y (List.mem_cons_of_mem _ hy)).2⟩) k2 (by omega)
    simp only [List.length_cons]; omega
theorem LotOk.len {s : Int} {l : List Int} (h : LotOk s l) (hs : s < 4) : l.length ≤ 3 := by
  by_cases h0 : 0 ≤ s
  · have := short_of h.pl h.so h0; omega
  · cases l with
    | nil => simp
    | cons x r => have := h.pl x List.mem_cons_self; omega
structure WOk (s : Int) (ls : List (List Int)) : Prop where
  lo : 0 < s
  hi : s < 4
  l1 : 1 ≤ ls.length
  l3 : ls.length ≤ 3
  ok : ∀ l ∈ ls, LotOk s l
theorem seq_L (l : List Int) : IsSeq (lotL l) (l.map D.int) := .inl rfl
theorem seq_T (l : List Int) : IsSeq (lotT l) (l.map D.int) := .inr rfl
theorem chain_yes {δ : Sl} {c : Cs} {f g : S → S → Cs → R S} {A B C : M} {x y w : S} {c1 c2 c3 : Cs} {r : R S} (hA : A δ c = .ok x c1) (hB : B δ c1 = .ok y c2) (hf : f x y c2 = .ok (.d (.bl true)) c2) (hC : C δ c2 = .ok w c3) (hg : g y w c3 = r) : mChain f g A B C δ c = r := by
  unfold mChain
  rw [hA]
  simp only [bind_ok]
  rw [hB]
  simp only [bind_ok]
  rw [hf]
  simp only [bind_ok, asB_bl, if_true]
  rw [hC]
  exact hg
theorem are_lots_ok {s : Int} {ls : List (List Int)} (h : WOk s ls) (c : Cs) : d_are_lots [.d (.lst (ls.map lotL)), .d (.int s)] c = .ok (.d (.bl true)) c := by
  have hd : IsSeq (.lst (ls.map lotL)) (ls.map lotL) := .inl rfl
  refine fn_rt rfl (seq_go (if_no (tor_no (tnot_ok (tb_ok (isi (vr rfl) (lt_seq hd)))) ?_)) (ret_ok ?_))
  · have h1 := h.l1
    have h3 := h.l3
    have a1' : decide ((1 : Int) ≤ ((ls.map lotL).length : Nat)) = true := by simp; omega
    have a2' : decide ((((ls.map lotL).length : Nat) : Int) ≤ 3) = true := by simp; omega
    exact (tnot_ok (tb_ok (chain_yes rfl (blt (a1 (vr rfl)) (lX1 (g := lenO lens) (lenO_seq hd))) (l2 (congrArg (fun b => some (D.bl b)) a1')) rfl (l2 (congrArg (fun b => some (D.bl b)) a2'))))).trans rfl
  · refine (all_bl (f := fun _ => true) (compY (fun _ => .bl true) (seqI (vr rfl) (items_seq hd)) (small_size (by have := h.l3; simp; omega)) fun x hx => ?_)).trans (by simp)
    obtain ⟨l, hl, rfl⟩ := List.mem_map.mp hx
    have ok := h.ok l hl
    exact ⟨_, fun _ => rfl, fun c' => blt (a2 (vr rfl) (a1 (vr rfl))) (is_lot_ok (seq_L l) (by have := ok.len h.hi; omega) ok.pl ok.so c')⟩
theorem make_web {δ : Sl} {c c' : Cs} {s : Int} {ls : List (List Int)} {B : MA} (h : WOk s ls) (hB : B δ c = .ok [.d (.int s), .d (.lst (ls.map lotL))] c') : mMake 0 2 d_Web_init B δ c = .ok (.d (wb s ls)) c' := by
  have key : d_Web_init [.c c'.length, .d (.int s), .d (.lst (ls.map lotL))] (c' ++ [.obj 0 []]) = .ok (.d .non) (c' ++ [.obj 0 [.int s, .tup (ls.map lotT)]]) := by
    refine fn_to (δ' := [some (.c c'.length), some (.d (.int s)), some (.d (.lst (ls.map lotL))), none]) rfl ?_ (by simp)
    · refine seq_go (if_no ((tnot_ok (tb_ok (blt (a1 (vr rfl)) (is_many_int s _)))).trans (by simp [h.lo, h.hi]))) (seq_go (if_no ((tnot_ok (tb_ok (blt (a2 (vr rfl) (a1 (vr rfl))) (are_lots_ok h _)))).trans (by simp))) (seq_go (fld_ok (vr rfl) (vr rfl) rfl rfl) (fld_ok ?_ (vr rfl) rfl rfl)))
      refine blt (a1 (compY (fun d => match d with | .lst xs => .tup xs | x => x) (seqI (vr rfl) rfl) (small_size (by have := h.l3; simp; omega)) fun x hx => ?_)) (lN1 ?_)
      · obtain ⟨l, hl, rfl⟩ := List.mem_map.mp hx
        exact ⟨_, fun _ => rfl, fun c' => blt (a1 (vr rfl)) (lN1 rfl)⟩
      · simp only [tupleD, List.map_map]
        rfl
  unfold mMake
  rw [hB]
  simp only [bind_ok]
  rw [key]
  simp [fin, wb]
end Dn

end
section
/-! K21_3: webs compared, put together; from K22_4. -/
namespace Dn
open PySem
theorem eqDs_int : ∀ (l m : List Int), eqDs (l.map D.int) (m.map D.int) = decide (l = m)
  | [], [] => by simp [eqDs]
  | [], _ :: _ => by simp [eqDs]
  | _ :: _, [] => by simp [eqDs]
  | x :: l, y :: m => by
    have ih := eqDs_int l m
    simp only [List.map_cons, eqDs, ih, eqD]
    by_cases h : x = y <;> by_cases k : l = m <;> simp [h, k]
theorem eqDs_lot : ∀ (l m : List (List Int)), eqDs (l.map lotT) (m.map lotT) = decide (l = m)
  | [], [] => by simp [eqDs]
  | [], _ :: _ => by simp [eqDs]
  | _ :: _, [] => by simp [eqDs]
  | x :: l, y :: m => by
    have ih := eqDs_lot l m
    simp only [List.map_cons, eqDs, ih, lotT, eqD, eqDs_int]
    by_cases h : x = y <;> by_cases k : l = m <;> simp [h, k]
theorem oks_int (n : Nat) (l : List Int) : oks n (l.map D.int) = true := by
  induction l with
  | nil => simp [oks]
  | cons x r ih => simp [oks, ih, D.ok]
theorem oks_lot (n : Nat) (ls : List (List Int)) : oks (n + 1) (ls.map lotT) = true := by
  induction ls with
  | nil => simp [oks]
  | cons x r ih => simp [oks, ih, lotT, D.ok, oks_int]
theorem eqP_int {neg : Bool} (x y : Int) : eqP neg (.int x) (.int y) = some (.bl (if neg then !decide (x = y) else decide (x = y))) := by
  simp [eqP, D.ok, eqD]
  cases neg <;> by_cases h : x = y <;> simp [h]
theorem eqP_lots {neg : Bool} (l m : List (List Int)) : eqP neg (.tup (l.map lotT)) (.tup (m.map lotT)) = some (.bl (if neg then !decide (l = m) else decide (l = m))) := by
  simp [eqP, D.ok, eqD, eqDs_lot, oks_lot 58]
section
variable {s t : Int} {ls ms : List (List Int)} {c : Cs}
theorem web_len : d_Web_len [.d (wb s ls)] c = .ok (.d (.int ls.length)) c :=
  fn_rt rfl (ret_ok (blt (a1 (attr (vr rfl) rfl rfl)) (lX1 (show lenD [.tup (ls.map lotT)] = some (.int ls.length) by show some (D.int (ls.map lotT).length) = _; rw [List.length_map]))))
theorem lenO_web (h : ls.length ≤ 3) : lenO lens [wb s ls] = some (.int ls.length) := by
  have e : d_Web_len [.d (wb s ls)] [] = .ok (.d (.int ls.length)) [] := web_len
  have hb : (0 : Int) ≤ (ls.length : Int) ∧ (ls.length : Int) < 2 ^ 63 := by omega
  unfold wb at e ⊢
  unfold lenO
  simp only [lens, look, if_true, List.length_cons, List.length_nil]
  rw [e]
  simp only
  rw [if_pos hb]
theorem web_eq : d_Web_eq [.d (wb s ls), .d (wb t ms)] c = .ok (.d (.bl (decide (s = t) && decide (ls = ms)))) c := by
  refine fn_rt rfl (ret_ok ?_)
  refine and_yes (isi (vr rfl) rfl) ?_
  by_cases h : s = t
  · refine (and_yes (bin (attr (vr rfl) rfl rfl) (attr (vr rfl) rfl rfl) (l2 ((eqP_int s t).trans (by simp [h])))) (bin (attr (vr rfl) rfl rfl) (attr (vr rfl) rfl rfl) (l2 (eqP_lots ls ms)))).trans (by simp [h])
  · refine (and_no (bin (attr (vr rfl) rfl rfl) (attr (vr rfl) rfl rfl) (l2 ((eqP_int s t).trans (by simp [h]))))).trans (by simp [h])
def uni (ls : List (List Int)) : List Int := [0, 1, 2].filter fun x => ls.any fun l => decide (x ∈ l)
theorem flat_ints (l : List Int) : (l.map D.int).all flatD = true := by
  induction l with
  | nil => rfl
  | cons y r ih => simpa [flatD] using ih
theorem any_ints (x : Int) (l : List Int) : ((l.map D.int).any fun z => eqD z (.int x)) = decide (x ∈ l) := by
  induction l with
  | nil => rfl
  | cons y r ih =>
    simp only [List.map_cons, List.any_cons, ih, eqD, List.mem_cons]
    by_cases h : y = x
    · simp [h]
    · have h' : ¬ x = y := fun z => h z.symm
      simp [h, h']
theorem in_lotS (x : Int) (l : List Int) {d : D} (hd : IsSeq d (l.map D.int)) : inP false (.int x) d = some (.bl (decide (x ∈ l))) := by
  rcases hd with rfl | rfl
  · have e : (D.ok 60 (.int x) && oks 59 (l.map D.int)) = true := by rw [oks_int]; rfl
    exact (if_pos e).trans (congrArg (fun b => some (D.bl b)) (any_ints x l))
  · have e : (flatD (.int x) && (l.map D.int).all flatD) = true := by rw [flat_ints]; rfl
    exact (if_pos e).trans (congrArg (fun b => some (D.bl b)) (any_ints x l))
theorem in_lot (x : Int) (l : List Int) : inP false (.int x) (lotT l) = some (.bl (decide (x ∈ l))) := in_lotS x l (seq_T l)
theorem union_okS {q : List Int → D} (hq : ∀ l, IsSeq (q l) (l.map D.int)) (h : ls.length ≤ 10) : d_union_of [.d (.lst (ls.map q))] c = .ok (.d (lotL (uni ls))) c := by
  refine fn_rt rfl (ret_ok ?_)
  refine (compFo [0, 1, 2] D.int (fun x => ls.any fun l => decide (x ∈ l)) D.int (I := iRng (mCons (mC (.int 3)) mNil)) rfl (by decide) fun x _ => ⟨[some (.d (.lst (ls.map q))), some (.d (.int x)), none], fun _ => rfl, fun c' => tb_ok (any_bl (f := fun l => decide (x ∈ l)) (compMo ls q (fun l => .bl (decide (x ∈ l))) (seqI (vr rfl) (by show R.ok (Src.xs ((ls.map q).map S.d)) c' = _; rw [List.map_map]; rfl)) (small_size (by omega)) fun l _ => ⟨[some (.d (.lst (ls.map q))), some (.d (.int x)), some (.d (q l))], fun _ => rfl, fun c'' => bin (vr rfl) (vr rfl) (l2 (in_lotS x l (hq l)))⟩)), fun c' => vr rfl⟩).trans ?_
  rfl
end
end Dn

end
section
/-! K21_4: from K22_5. -/
namespace Dn
open PySem
theorem itm {α : Type} {q : α → D} {ys : List α} {d : D} {c : Cs} (h : IsSeq d (ys.map q)) : items (.d d) c = .ok (.xs (ys.map fun y => S.d (q y))) c := (items_seq h).trans (by rw [List.map_map]; rfl)
section
variable {s t : Int} {ls ms : List (List Int)} {c : Cs}
theorem mem_uni {x : Int} : x ∈ uni ls ↔ (x = 0 ∨ x = 1 ∨ x = 2) ∧ ∃ l ∈ ls, x ∈ l := by
  simp [uni, List.mem_filter, List.any_eq_true]
theorem uni_lt : (uni ls).Pairwise (· < ·) := List.Pairwise.filter _ (by decide)
theorem uni_ok (h : ∀ l ∈ ls, LotOk s l) : LotOk s (uni ls) :=
  ⟨fun x hx => let ⟨_, l, hl, hxl⟩ := mem_uni.mp hx; (h l hl).pl x hxl, uni_lt⟩
theorem zipL_lotL : ∀ (l m : List (List Int)), zipL (l.map lotL) (m.map lotL) = (l.zip m).map fun p => D.tup [lotL p.1, lotL p.2]
  | [], _ => rfl
  | _ :: _, [] => rfl
  | x :: r, y :: r2 => by simp [zipL, zipL_lotL r r2]
/-- the lots of the seats of a lot, together -/
def thn (ls : List (List Int)) (lot : List Int) : List Int := uni (lot.map fun i => ls.getD i.toNat [])
theorem lots_ok (h : ls.length ≤ 3) (k : ∀ l ∈ ls, l.length ≤ 10) : d_Web_lots [.d (wb s ls)] c = .ok (.d (.lst (ls.map lotL))) c :=
  fn_rt rfl (ret_ok (compMo ls lotT lotL (seqI (attr (vr rfl) rfl rfl) (itm (.inr rfl))) (small_size (by omega)) fun l _ => ⟨_, fun _ => rfl, fun c' => blt (a1 (vr rfl)) (lN1 rfl)⟩))
def own (n : Nat) : List (List Int) := (List.range n).map fun (i : Nat) => [(i : Int)]
theorem WOk.own {n : Nat} (h1 : 0 < n) (h2 : n < 4) : WOk n (own n) := by
  refine ⟨by omega, by omega, by simp [Dn.own]; omega, by simp [Dn.own]; omega, fun l hl => ?_⟩
  obtain ⟨i, hi, rfl⟩ := List.mem_map.mp hl
  have := List.mem_range.mp hi
  exact ⟨fun x hx => by rw [List.mem_singleton.mp hx]; omega, List.pairwise_singleton _ _⟩
end
end Dn

end
section
/-! K21_5: links, within; from K22_6. -/
namespace Dn
open PySem
def pr (p : Int × Int) : D := .tup [.int p.1, .int p.2]
/-- the links, hearer by hearer -/
def lnk (n : Nat) : List (List Int) → List (Int × Int)
  | [] => []
  | l :: r => (l.map fun x => (x, (n : Int))) ++ lnk (n + 1) r
theorem mem_lnk {x h : Int} : ∀ {n : Nat} {ls : List (List Int)}, (x, h) ∈ lnk n ls ↔ ∃ i : Nat, h = (n : Int) + i ∧ ∃ l, ls[i]? = some l ∧ x ∈ l
  | n, [] => by simp [lnk]
  | n, l :: r => by
    simp only [lnk, List.mem_append, List.mem_map, mem_lnk (n := n + 1) (ls := r)]
    constructor
    · rintro (⟨y, hy, e⟩ | ⟨i, e, m, hm, hx⟩)
      · cases e; exact ⟨0, by simp, l, rfl, hy⟩
      · exact ⟨i + 1, by omega, m, by simpa using hm, hx⟩
    · rintro ⟨i, e, m, hm, hx⟩
      cases i with
      | zero =>
        simp at hm
        subst hm
        exact .inl ⟨x, hx, by rw [e]; simp⟩
      | succ i => exact .inr ⟨i, by omega, m, by simpa using hm, hx⟩
def en (n : Nat) : List (List Int) → List (Nat × List Int)
  | [] => []
  | l :: r => (n, l) :: en (n + 1) r
theorem enum_en : ∀ (n : Nat) (ls : List (List Int)), enumL n (ls.map lotT) = (en n ls).map fun p => D.tup [.int p.1, lotT p.2]
  | _, [] => rfl
  | n, l :: r => by simp [enumL, en, enum_en (n + 1) r]
theorem en_lnk : ∀ (n : Nat) (ls : List (List Int)), ((en n ls).flatMap fun p => p.2.map fun x => pr (x, (p.1 : Int))) = (lnk n ls).map pr
  | _, [] => rfl
  | n, l :: r => by
    simp only [en, List.flatMap_cons, en_lnk (n + 1) r, lnk, List.map_append, List.map_map]
    rfl
theorem en_len : ∀ (n : Nat) (ls : List (List Int)), (en n ls).length = ls.length
  | _, [] => rfl
  | n, l :: r => by simp [en, en_len (n + 1) r]
theorem lnk_len : ∀ (n : Nat) (ls : List (List Int)), (∀ l ∈ ls, l.length ≤ 10) → (lnk n ls).length ≤ 10 * ls.length
  | _, [], _ => by simp [lnk]
  | n, l :: r, h => by
    have h1 := h l List.mem_cons_self
    have h2 := lnk_len (n + 1) r fun m hm => h m (List.mem_cons_of_mem _ hm)
    simp [lnk]; omega
theorem sort_pr (ps : List (Int × Int)) : sortOk (ps.map pr) = true := by
  have h1 : (ps.map pr).all (D.ok 50) = true := by
    rw [List.all_eq_true]; intro x hx
    obtain ⟨p, _, rfl⟩ := List.mem_map.mp hx
    rfl
  have h2 : allAlike (ps.map pr) = true := by
    unfold allAlike
    rw [List.all_eq_true]; intro x hx
    rw [List.all_eq_true]; intro y hy
    obtain ⟨p, _, rfl⟩ := List.mem_map.mp hx
    obtain ⟨q, _, rfl⟩ := List.mem_map.mp hy
    rfl
  have h3 : (ps.map pr).all (fun x => isTup1 x.py) = true := by
    rw [List.all_eq_true]; intro x hx
    obtain ⟨p, _, rfl⟩ := List.mem_map.mp hx
    rfl
  unfold sortOk
  rw [h1, h2, h3]; rfl
theorem links_ok {s : Int} {ls : List (List Int)} {c : Cs} (h : ls.length ≤ 3) (k : ∀ l ∈ ls, l.length ≤ 10) : d_Web_links [.d (wb s ls)] c = .ok (.d (.lst (sortL ((lnk 0 ls).map pr)))) c := by
  refine fn_rt rfl (ret_ok (blt (a1 ((comp2M (en 0 ls) (fun p => S.d (D.tup [.int p.1, lotT p.2])) (fun p => p.2) (fun x => S.d (D.int x)) (fun p x => pr (x, (p.1 : Int))) ?_ ?_ fun p hp => ⟨[some (.d (wb s ls)), some (.d (.int p.1)), some (.d (lotT p.2)), none], fun _ => rfl, fun c' => seqI (vr rfl) (itm (seq_T _)), fun x hx => ⟨[some (.d (wb s ls)), some (.d (.int p.1)), some (.d (lotT p.2)), some (.d (.int x))], fun _ => rfl, fun c' => ?_⟩⟩).trans (by rw [en_lnk]))) (lN1 ?_)))
  · refine (congrArg (fun r => R.bind r enum1) (a1 (attr (vr rfl) rfl rfl))).trans ?_
    simp only [bind_ok, enum1, enum_en, List.map_map]
    rfl
  · rw [en_lnk, List.length_map]
    have := lnk_len 0 ls k
    exact small_size (by omega)
  · exact (congrArg (fun r => R.bind r mkTup) (a2 (vr rfl) (a1 (vr rfl)))).trans rfl
  · show (if sortOk ((lnk 0 ls).map pr) = true then _ else _) = _
    rw [if_pos (sort_pr _)]
/-- lot by lot within -/
def wthn (ls ms : List (List Int)) : Bool := (lnk 0 ls).all fun p => decide (p ∈ lnk 0 ms)
theorem sortL_mem {xs : List D} {x : D} : x ∈ sortL xs ↔ x ∈ xs := by rw [sortL_merge]; exact List.mem_mergeSort
end Dn

end
section
/-! K21_6: the algebra of lots; from K22_7. -/
namespace Dn
open PySem
def In (ls : List (List Int)) (i : Nat) (x : Int) : Prop := ∃ l, ls[i]? = some l ∧ x ∈ l
section
variable {s t : Int} {ls ms : List (List Int)}
theorem In.lt {i : Nat} {x : Int} (h : In ls i x) : i < ls.length := by
  obtain ⟨l, hl, _⟩ := h
  exact (List.getElem?_eq_some_iff.mp hl).1
theorem In.pl {i : Nat} {x : Int} (k : WOk s ls) (h : In ls i x) : 0 ≤ x ∧ x < s := by
  obtain ⟨l, hl, hx⟩ := h
  exact (k.ok l (List.mem_of_getElem? hl)).pl x hx
theorem three {x : Int} (h : 0 ≤ x ∧ x < s) (hs : s < 4) : x = 0 ∨ x = 1 ∨ x = 2 := by omega
theorem In.three {i : Nat} {x : Int} (k : WOk s ls) (h : In ls i x) : x = 0 ∨ x = 1 ∨ x = 2 := Dn.three (h.pl k) k.hi
theorem wthn_iff : wthn ls ms = true ↔ ∀ i x, In ls i x → In ms i x := by
  unfold wthn
  rw [List.all_eq_true]
  constructor
  · rintro h i x ⟨l, hl, hx⟩
    have := h (x, ((0 : Nat) : Int) + i) (mem_lnk.mpr ⟨i, rfl, l, hl, hx⟩)
    rw [decide_eq_true_eq] at this
    obtain ⟨j, e, m, hm, hx'⟩ := mem_lnk.mp this
    have : i = j := by omega
    subst this
    exact ⟨m, hm, hx'⟩
  · rintro h ⟨x, k⟩ hp
    obtain ⟨i, e, l, hl, hx⟩ := mem_lnk.mp hp
    obtain ⟨m, hm, hx'⟩ := h i x ⟨l, hl, hx⟩
    rw [decide_eq_true_eq]
    exact mem_lnk.mpr ⟨i, e, m, hm, hx'⟩
theorem In_own {n i : Nat} {x : Int} : In (own n) i x ↔ i < n ∧ x = i := by
  unfold In own
  constructor
  · rintro ⟨l, hl, hx⟩
    rw [List.getElem?_map] at hl
    cases e : (List.range n)[i]? with
    | none => rw [e] at hl; cases hl
    | some j =>
      rw [e] at hl; cases hl
      obtain ⟨h1, h2⟩ := List.getElem?_eq_some_iff.mp e
      rw [List.getElem_range] at h2
      subst h2
      exact ⟨by simpa using h1, List.mem_singleton.mp hx⟩
  · rintro ⟨h, rfl⟩
    exact ⟨[(i : Int)], by rw [List.getElem?_map, List.getElem?_range h]; rfl, List.mem_singleton.mpr rfl⟩
/-! ### the algebra -/
variable {u v : Int} {th fa : List (List Int)}
end
end Dn

end
section
/-! K21_7: rounds; from K22_16. -/
namespace Dn
open PySem
section
variable {c : Cs} {δ : Sl} {n : Nat} {ls T : List (List Int)}
/-- a web from and to n seats -/
structure Sq (n : Nat) (ls : List (List Int)) : Prop where
  w : WOk n ls
  l : ls.length = n
theorem Sq.lo (h : Sq n ls) : 0 < n := by have := h.w.l1; have := h.l; omega
theorem Sq.hi (h : Sq n ls) : n < 4 := by have := h.w.l3; have := h.l; omega
theorem Sq.own (h1 : 0 < n) (h2 : n < 4) : Sq n (Dn.own n) := ⟨.own h1 h2, by simp [Dn.own]⟩
theorem square_ok (h : Sq n ls) : d_is_square [.d (wb n ls)] c = .ok (.d (.bl true)) c :=
  fn_rt rfl (ret_ok (and_yes (isi (vr rfl) rfl) (bin (attr (vr rfl) rfl rfl) (blt (a1 (vr rfl)) (lX1 (lenO_web h.w.l3))) (l2 ((eqP_int _ _).trans (by simp [h.l]))))))
theorem square_no {s : Int} (h : ls.length ≤ 3) (hs : ¬ s = ls.length) : d_is_square [.d (wb s ls)] c = .ok (.d (.bl false)) c :=
  fn_rt rfl (ret_ok (and_yes (isi (vr rfl) rfl) (bin (attr (vr rfl) rfl rfl) (blt (a1 (vr rfl)) (lX1 (lenO_web h))) (l2 ((eqP_int _ _).trans (by simp [hs]))))))
theorem square_other {x : D} (h : k_Web.ask x = some false) : d_is_square [.d x] c = .ok (.d (.bl false)) c :=
  fn_rt rfl (ret_ok (and_no (isi (vr rfl) h)))
theorem rngN_ok {A : MA} {j : Nat} {c' : Cs} (h : A δ c = .ok [.d (.int j)] c') (h1 : j ≤ 1000) : iRng A δ c = .ok (.xs ((List.range j).map fun (i : Nat) => sI i)) c' := by
  have := rng_ok h (by omega) (by omega)
  simpa using this
end
end Dn

end
section
/-! K21_8: the box, lots drawn; from K17_1. -/
namespace Dn
open PySem
/-- the box behind at most N draws -/
def BxOk (N : Nat) (xs : List D) : Prop := ∃ a b d : Int, xs = [.int a, .int b, .int d] ∧ 0 ≤ a ∧ 0 ≤ b ∧ b ≤ N ∧ 0 ≤ d ∧ d ≤ 1000000000
theorem BxOk.mono {N M : Nat} {xs : List D} (h : BxOk N xs) (k : N ≤ M) : BxOk M xs := by
  obtain ⟨a, b, d, e, h1, h2, h3, h4, h5⟩ := h
  exact ⟨a, b, d, e, h1, h2, by omega, h4, h5⟩
section
variable {c : Cs} {δ : Sl} {n : Nat}
theorem eqY_plain {neg : Bool} {x y : D} (hx : x.ok 60 = true) (hy : y.ok 60 = true) : eqY eqs 4 neg (.d x) (.d y) c = .ok (.d (.bl (if neg then !eqD x y else eqD x y))) c := by
  simp only [eqY, deref, hx, hy, Bool.and_self, if_true]
theorem eqG_plain {x y : D} (hx : x.ok 60 = true) (hy : y.ok 60 = true) : eqG eqs kEq 4 (.d x) (.d y) c = .ok (.d (.bl (eqD x y))) c := by
  have e : eqG eqs kEq 4 (.d x) (.d y) c = eqY eqs 4 false (.d x) (.d y) c := by
    cases x <;> first | rfl | (unfold D.ok at hx; cases hx)
  rw [e, eqY_plain hx hy]
  rfl
theorem eqG_int (a b : Int) : eqG eqs kEq 4 (.d (.int a)) (.d (.int b)) c = .ok (.d (.bl (a == b))) c := by
  rw [eqG_plain (by simp [D.ok]) (by simp [D.ok])]
  simp [eqD]
theorem take_ok {xs : List D} {N : Nat} {m : Int} (hn : c[n]? = some (.lst xs)) (hx : BxOk N xs) (hN : N ≤ 1000000) (hm : 1 ≤ m ∧ m ≤ 1000) :
    ∃ v xs', d_law_take [.c n, .d (.int m)] c = .ok (.d (.int v)) (c.set n (.lst xs')) ∧ 0 ≤ v ∧ v < m ∧ BxOk (N + 1) xs' := by
  obtain ⟨a, b, d, rfl, ha, hb, hbN, hd, hd9⟩ := hx
  have hm0 : m ≠ 0 := by omega
  have hdiv : divOk m = true := by
    have : m.natAbs.log2 < 10 := log_lt (by omega) (Int.lt_of_le_of_lt hm.2 (by decide)) (by decide)
    have : m.natAbs.log2 < 9000 := by omega
    simp [divOk, hm0, this]
  have e18 : powD (.int 10) (.int 18) = some (.int 1000000000000000000) := by
    have : powOk 10 18 = true := by decide +kernel
    simp only [powD, this, if_true]
    rfl
  have i0 : ixD (.lst [.int a, .int b, .int d]) (.int 0) = some (.int a) := rfl
  have i1 : ixD (.lst [.int a, .int b, .int d]) (.int 1) = some (.int b) := rfl
  have hnl : n < c.length := (List.getElem?_eq_some_iff.mp hn).1
  by_cases hbig : (1000000000000000000 : Int) ≤ a
  · refine ⟨a.fmod m, [.int (a.fdiv m), .int b, .int d], fn_rs rfl (by simp) (seq_rt ((if_t (c' := c) (tb_ok (bin (ix_cell hn (vr rfl) rfl i0) (bin rfl rfl (l2 e18)) (l2 (by simp [geD, cmpD, hbig]))))).trans (seq_go (set_ok (bin (blt (a1 (ix_cell hn (vr rfl) rfl i0)) (lN1 rfl)) (vr rfl) (l2 (show modD (.int a) (.int m) = some (.int (a.fmod m)) from if_pos hm0)))) (seq_go (set_cell hn (bin (ix_cell hn (vr rfl) rfl i0) (vr rfl) (l2 (show fdivD (.int a) (.int m) = some (.int (a.fdiv m)) from if_pos hdiv))) (vr rfl) rfl rfl rfl) (ret_ok (vr rfl)))))), ?_, ?_, ?_⟩
    · exact Int.fmod_nonneg_of_pos _ (by omega)
    · exact Int.fmod_lt_of_pos _ (by omega)
    · exact ⟨_, b, d, rfl, by rw [Int.fdiv_eq_ediv_of_nonneg _ (by omega)]; exact Int.ediv_nonneg ha (by omega), hb, by omega, hd, hd9⟩
  · have ha' : a < 1000000000000000000 := by omega
    have lg : ∀ {i : Int}, 0 ≤ i → i < 2 ^ 100 → i.natAbs.log2 < 100 := fun h0 h => log_lt h0 h (by decide)
    have bk : ∀ {i j : Int}, 0 ≤ i → i < 2 ^ 100 → 0 ≤ j → j < 2 ^ 100 → mulD (.int i) (.int j) = some (.int (i * j)) := fun {i j} h0 h1 h2 h3 => by
      have := lg h0 h1
      have := lg h2 h3
      have e : bitsOk i j = true := by simp only [bitsOk, decide_eq_true_eq]; omega
      exact if_pos e
    have pk : ∀ {i : Int}, 0 ≤ i → i < 2 ^ 100 → powD (.int i) (.int 3) = some (.int (i ^ 3)) := fun {i} h0 h1 => by
      have := lg h0 h1
      have e : powOk i 3 = true := by simp only [powOk, decide_eq_true_eq]; omega
      exact if_pos e
    have md : ∀ {i j : Int}, j ≠ 0 → modD (.int i) (.int j) = some (.int (i.fmod j)) := fun h => if_pos h
    have d64 : ∀ i : Int, fdivD (.int i) (.int 64) = some (.int (i.fdiv 64)) := fun i => by
      have e : divOk 64 = true := by decide +kernel
      simp only [fdivD, e, if_true]
    have e100 : (2 : Int) ^ 100 = 1267650600228229401496703205376 := by decide +kernel
    obtain ⟨x1, hx1⟩ : ∃ x1, x1 = (((a + 7) * 69069 + (b + 1) * 40829 + d) ^ 3).fmod 2147483647 := ⟨_, rfl⟩
    obtain ⟨x2, hx2⟩ : ∃ x2, x2 = ((x1 + (b + 1) * 17389) ^ 3).fmod 2147483399 := ⟨_, rfl⟩
    have x1a : 0 ≤ x1 := by rw [hx1]; exact Int.fmod_nonneg_of_pos _ (by decide)
    have x1b : x1 < 2147483647 := by rw [hx1]; exact Int.fmod_lt_of_pos _ (by decide)
    have hn2 : (c.set n (.lst [.int a, .int (b + 1), .int d]))[n]? = some (.lst [.int a, .int (b + 1), .int d]) := List.getElem?_set_self hnl
    have j0 : ixD (.lst [.int a, .int (b + 1), .int d]) (.int 0) = some (.int a) := rfl
    have j1 : ixD (.lst [.int a, .int (b + 1), .int d]) (.int 1) = some (.int (b + 1)) := rfl
    have j2 : ixD (.lst [.int a, .int (b + 1), .int d]) (.int 2) = some (.int d) := rfl
    refine ⟨(x2.fdiv 64).fmod m, [.int a, .int (b + 1), .int d], fn_rs rfl (by simp) (seq_go (if_no (tb_ok (bin (ix_cell hn (vr rfl) rfl i0) (bin rfl rfl (l2 e18)) (l2 (by simp [geD, cmpD]; omega))))) (seq_go (set_cell hn (bin (ix_cell hn (vr rfl) rfl i1) rfl (l2 rfl)) (vr rfl) rfl rfl rfl) (seq_go (set_ok (bin (bin (blt (a1 (bin (bin (bin (bin (ix_cell hn2 (vr rfl) rfl j0) rfl (l2 rfl)) rfl (l2 (bk ?_ ?_ ?_ ?_))) (bin (ix_cell hn2 (vr rfl) rfl j1) rfl (l2 (bk ?_ ?_ ?_ ?_))) (l2 rfl)) (ix_cell hn2 (vr rfl) rfl j2) (l2 rfl))) (lN1 rfl)) rfl (l2 (pk ?_ ?_))) rfl (l2 (d := .int x1) ((md (by decide)).trans (by rw [hx1]))))) (seq_go (set_ok (bin (bin (blt (a1 (bin (vr rfl) (bin (ix_cell hn2 (vr rfl) rfl j1) rfl (l2 (bk ?_ ?_ ?_ ?_))) (l2 rfl))) (lN1 rfl)) rfl (l2 (pk ?_ ?_))) rfl (l2 (d := .int x2) ((md (by decide)).trans (by rw [hx2]))))) (ret_ok (bin (blt (a1 (bin (vr rfl) rfl (l2 (d64 _)))) (lN1 rfl)) (vr rfl) (l2 (md hm0)))))))), Int.fmod_nonneg_of_pos _ (by omega), Int.fmod_lt_of_pos _ (by omega), ⟨a, b + 1, d, rfl, ha, by omega, by omega, hd, hd9⟩⟩
    all_goals (try rw [e100])
    all_goals omega
/-- the box stands at n, all else is as in c -/
def BxAt (c : Cs) (n N : Nat) (c1 : Cs) : Prop := ∃ xs, c1 = c.set n (.lst xs) ∧ BxOk N xs
theorem BxAt.len {N : Nat} {c1 : Cs} (h : BxAt c n N c1) : c1.length = c.length := by
  obtain ⟨xs, rfl, _⟩ := h; simp
theorem BxAt.mono {N M : Nat} {c1 : Cs} (h : BxAt c n N c1) (k : N ≤ M) : BxAt c n M c1 := by
  obtain ⟨xs, e, b⟩ := h; exact ⟨xs, e, b.mono k⟩
theorem take_at {N : Nat} {c1 e : Cs} {m : Int} (hn : n < c.length) (h : BxAt c n N c1) (hN : N ≤ 1000000) (hm : 1 ≤ m ∧ m ≤ 1000) : ∃ v c2, d_law_take [.c n, .d (.int m)] (c1 ++ e) = .ok (.d (.int v)) (c2 ++ e) ∧ 0 ≤ v ∧ v < m ∧ BxAt c n (N + 1) c2 := by
  obtain ⟨xs, rfl, hx⟩ := h
  have g : (c.set n (.lst xs) ++ e)[n]? = some (.lst xs) := by
    rw [List.getElem?_append_left (by simpa using hn), List.getElem?_set_self hn]
  obtain ⟨v, xs', e1, h1, h2, h3⟩ := take_ok g hx hN hm
  refine ⟨v, c.set n (.lst xs'), ?_, h1, h2, xs', rfl, h3⟩
  rw [e1, List.set_append_left _ _ (by simpa using hn), List.set_set]
theorem sub_lot {s : Nat} {zs : List Nat} (h : zs.Sublist (List.range s)) : LotOk s (zs.map fun (i : Nat) => (i : Int)) := by
  refine ⟨fun x hx => ?_, ?_⟩
  · obtain ⟨i, hi, rfl⟩ := List.mem_map.mp hx
    have := List.mem_range.mp (h.subset hi)
    omega
  · rw [List.pairwise_map]
    exact (List.pairwise_lt_range.sublist h).imp fun h => by omega
theorem box_ok {ns : List Int} {k : Nat} (hk : k ≤ 3) : ∃ xs, d_law_box [.d (.scr ns), .d (.int k)] c = .ok (.c c.length) (c ++ [.lst xs]) ∧ BxOk 0 xs := by
  obtain ⟨sp, hsp⟩ : ∃ sp : Int, sp = (ns.sum + (ns.length : Int)).fmod 1000003 := ⟨_, rfl⟩
  have s0 : 0 ≤ sp := by rw [hsp]; exact Int.fmod_nonneg_of_pos _ (by decide)
  have s1 : sp < 1000003 := by rw [hsp]; exact Int.fmod_lt_of_pos _ (by decide)
  have lnE : lenO lens [.scr ns] = some (.int ns.length) := rfl
  have mk : mulD (.int 40637) (.int (k : Int)) = some (.int (40637 * (k : Int))) := by
    have h1 : (40637 : Int).natAbs.log2 < 20 := log_lt (by decide) (by decide) (by decide)
    have h2 : ((k : Nat) : Int).natAbs.log2 < 20 := log_lt (by omega) (Int.lt_of_le_of_lt (show ((k : Nat) : Int) ≤ 3 by omega) (by decide)) (by decide)
    have e : bitsOk 40637 (k : Int) = true := by simp only [bitsOk, decide_eq_true_eq]; omega
    exact if_pos e
  have md : modD (.int (ns.sum + (ns.length : Int))) (.int 1000003) = some (.int sp) := by rw [hsp]; rfl
  have key : ∀ (a : Int), 0 ≤ a → mIf (mTB (mBin (lift2 ltD) (mVar 1) (mBlt (lenX (lenO lens)) (mCons (mVar 0) mNil)))) (mBlt (liftN absD) (mCons (mBlt (liftN intD) (mCons (mBin (lift2 ixD) (mVar 0) (mVar 1)) mNil)) mNil)) (mC (.int 0)) [some (.d (.scr ns)), some (.d (.int k)), some (.d (.int sp))] c = .ok (.d (.int a)) c →
      ∃ xs, d_law_box [.d (.scr ns), .d (.int k)] c = .ok (.c c.length) (c ++ [.lst xs]) ∧ BxOk 0 xs := by
    intro a ha e
    refine ⟨[.int a, .int 0, .int (40637 * (k : Int) + 911 + sp)], ?_, a, 0, _, rfl, ha, by omega, by omega, by omega, by omega⟩
    have body : b_law_box [some (.d (.scr ns)), some (.d (.int k)), none] c = .rt (.c c.length) (c ++ [.lst [.int a, .int 0, .int (40637 * (k : Int) + 911 + sp)]]) := by
      refine seq_go (set_ok (c' := c) (s := .d (.int sp)) (bin (blt (a1 (bin (blt (a1 (vr rfl)) (lN1 rfl)) (blt (a1 (vr rfl)) (lX1 lnE)) (l2 rfl))) (lN1 rfl)) rfl (l2 md))) (ret_ok ?_)
      exact (congrArg (fun r => R.bind r mkCell) (a2 e (a2 rfl (a1 (bin (bin (bin rfl (vr rfl) (l2 mk)) rfl (l2 rfl)) (vr rfl) (l2 rfl)))))).trans rfl
    refine (fnG_eq rfl).trans ?_
    show exitR true c.length (b_law_box [some (.d (.scr ns)), some (.d (.int k)), none] c) = _
    rw [body]
    simp [exitR]
  by_cases hlt : k < ns.length
  · refine key (if ns[k] < 0 then -ns[k] else ns[k]) (by split <;> omega) (mif_t (c' := c) ((tb_ok (bin (vr rfl) (blt (a1 (vr rfl)) (lX1 lnE)) (l2 rfl))).trans (by simp [hlt])) (blt (a1 (blt (a1 (bin (vr rfl) (vr rfl) (l2 (d := .int ns[k]) ?_))) (lN1 rfl))) (lN1 rfl)))
    have := atI_nat (xs := ns.map D.int) (n := k) (by simpa using hlt)
    rw [List.getElem_map] at this
    exact this
  · exact key 0 (by omega) (mif_f (c' := c) ((tb_ok (bin (vr rfl) (blt (a1 (vr rfl)) (lX1 lnE)) (l2 rfl))).trans (by
      have : ¬ ((k : Int) < (ns.length : Int)) := by omega
      simp [this])) rfl)
end
end Dn

end
section
/-! K21_9: talks. -/
namespace Dn
open PySem
structure TkOk (n : Int) (p : Int × Int) : Prop where
  a0 : 0 ≤ p.1
  a1 : p.1 < n
  b0 : 0 ≤ p.2
  b1 : p.2 < n
  ne : p.1 ≠ p.2
/-- lots behind a talk -/
def tkd (ls : List (List Int)) (p : Int × Int) : List (List Int) := (en 0 ls).map fun q => if (q.1 : Int) = p.2 then uni [q.2, ls.getD p.1.toNat []] else q.2
def aft (n : Nat) (ts : List (Int × Int)) : List (List Int) := ts.foldl tkd (own n)
section
variable {δ : Sl} {c : Cs} {n : Nat} {ls : List (List Int)} {p : Int × Int}
theorem pair_ok {i j : Nat} {A : M} {x y : D} {c' : Cs} (h : A δ c = .ok (.d (.tup [x, y])) c') : sAsg (gtTup (gtCons (gtName i) (gtCons (gtName j) gtNil))) A δ c = .nx ((δ.set i (some (.d x))).set j (some (.d y))) c' := by
  unfold sAsg
  rw [h]
  rfl
theorem lst2 {A B : M} {x y : D} {c1 c2 : Cs} (hA : A δ c = .ok (.d x) c1) (hB : B δ c1 = .ok (.d y) c2) : mLst (mCons A (mCons B mNil)) δ c = .ok (.d (.lst [x, y])) c2 := by unfold mLst; rw [a2 hA (a1 hB)]; rfl
theorem lst1 {A : M} {x : D} {c1 : Cs} (hA : A δ c = .ok (.d x) c1) : mLst (mCons A mNil) δ c = .ok (.d (.lst [x])) c1 := by unfold mLst; rw [a1 hA]; rfl
theorem tup2 {A B : M} {x y : D} {c1 c2 : Cs} (hA : A δ c = .ok (.d x) c1) (hB : B δ c1 = .ok (.d y) c2) : mTup (mCons A (mCons B mNil)) δ c = .ok (.d (.tup [x, y])) c2 := by unfold mTup; rw [a2 hA (a1 hB)]; rfl
theorem is_talk_ok (h : TkOk n p) : d_is_talk [.d (pr p), .d (.int n)] c = .ok (.d (.bl true)) c := by
  have h0 := h.a0; have h1 := h.a1; have h2 := h.b0; have h3 := h.b1; have h4 := h.ne
  obtain ⟨a, b⟩ := p
  simp only at h0 h1 h2 h3 h4
  refine fn_rt rfl (seq_go (if_no (tor_no ((tnot_ok (tb_ok (isi (vr rfl) rfl))).trans rfl) (tb_ok (bin (blt (a1 (vr rfl)) (lX1 (g := lenO lens) (d := .int 2) rfl)) rfl (l2 rfl))))) (ret_ok ?_))
  exact and_yes (blt (a2 (bin (vr rfl) rfl (l2 (d := .int a) rfl)) (a1 (vr rfl))) ((is_place_int a n c).trans (by simp [h0, h1]))) (and_yes (blt (a2 (bin (vr rfl) rfl (l2 (d := .int b) rfl)) (a1 (vr rfl))) ((is_place_int b n c).trans (by simp [h2, h3]))) (bin (bin (vr rfl) rfl (l2 (d := .int a) rfl)) (bin (vr rfl) rfl (l2 (d := .int b) rfl)) (l2 ((eqP_int a b).trans (by simp [h4])))))
theorem are_talks_ok {ts : List (Int × Int)} {d : D} (hd : IsSeq d (ts.map pr)) (h : ∀ p ∈ ts, TkOk n p) (hl : ts.length ≤ 9) : d_are_talks [.d d, .d (.int n)] c = .ok (.d (.bl true)) c := by
  have e : decide ((9 : Int) < ((ts.map pr).length : Nat)) = false := by simp; omega
  refine fn_rt rfl (seq_go (if_no (tor_no ((tnot_ok (tb_ok (isi (vr rfl) (lt_seq hd)))).trans rfl) (tb_ok (bin (blt (a1 (vr rfl)) (lX1 (g := lenO lens) (lenO_seq hd))) rfl (l2 (show gtD (.int ((ts.map pr).length : Nat)) (.int 9) = some (.bl false) from congrArg (fun b => some (D.bl b)) e)))))) (ret_ok ?_))
  refine (all_bl (f := fun _ => true) (compMo ts pr (fun _ => .bl true) (seqI (vr rfl) (itm hd)) (small_size (by omega)) fun p hp => ⟨[some (.d d), some (.d (.int n)), some (.d (pr p))], fun _ => rfl, fun c' => blt (a2 (vr rfl) (a1 (vr rfl))) (is_talk_ok (h p hp))⟩)).trans (by simp)
theorem enum_enL : ∀ (n : Nat) (ls : List (List Int)), enumL n (ls.map lotL) = (en n ls).map fun p => D.tup [.int p.1, lotL p.2]
  | _, [] => rfl
  | n, l :: r => by simp [enumL, en, enum_enL (n + 1) r]
theorem en_mem : ∀ (n : Nat) (ls : List (List Int)) (q : Nat × List Int), q ∈ en n ls → q.2 ∈ ls ∧ ∃ i, ls[i]? = some q.2 ∧ q.1 = n + i
  | _, [], q, h => by cases h
  | n, l :: r, q, h => by
    rcases List.mem_cons.mp h with rfl | h
    · exact ⟨List.mem_cons_self, 0, rfl, rfl⟩
    · obtain ⟨a, i, e1, e2⟩ := en_mem (n + 1) r q h
      exact ⟨List.mem_cons_of_mem _ a, i + 1, by simpa using e1, by omega⟩
theorem getD_mem {i : Nat} (h : i < ls.length) : ls.getD i [] ∈ ls := by
  rw [List.getD_eq_getElem?_getD, List.getElem?_eq_getElem h]
  exact List.getElem_mem _
theorem Sq.tkd (h : Sq n ls) (k : TkOk n p) : Sq n (Dn.tkd ls p) := by
  have hl := h.l
  have hw := h.w
  have ll : (Dn.tkd ls p).length = ls.length := by simp [Dn.tkd, en_len]
  refine ⟨⟨hw.lo, hw.hi, by rw [ll]; exact hw.l1, by rw [ll]; exact hw.l3, fun l hm => ?_⟩, by rw [ll]; exact hl⟩
  obtain ⟨q, hq, rfl⟩ := List.mem_map.mp hm
  obtain ⟨m, _⟩ := en_mem _ _ _ hq
  have k1 := k.a0; have k2 := k.a1
  split
  · refine uni_ok fun l hl => ?_
    simp only [List.mem_cons, List.not_mem_nil, or_false] at hl
    rcases hl with rfl | rfl
    · exact hw.ok _ m
    · exact hw.ok _ (getD_mem (by omega))
  · exact hw.ok _ m
theorem talked_ok (h : Sq n ls) (k : TkOk n p) : d_talked [.d (.lst (ls.map lotL)), .d (pr p)] c = .ok (.d (.lst ((tkd ls p).map lotL))) c := by
  have hl := h.l
  have h4 := h.hi
  have k1 := k.a0; have k2 := k.a1
  obtain ⟨a, b⟩ := p
  simp only at k1 k2
  have hix : ixD (.lst (ls.map lotL)) (.int a) = some (lotL (ls.getD a.toNat [])) := by
    have hn : a.toNat < ls.length := by omega
    have e : a = ((a.toNat : Nat) : Int) := by omega
    rw [e]
    refine (atI_nat (xs := ls.map lotL) (by simpa using hn)).trans ?_
    rw [List.getElem_map, Int.toNat_natCast, List.getD_eq_getElem?_getD, List.getElem?_eq_getElem hn]
    rfl
  refine fn_rt rfl (seq_go (pair_ok (vr (s := .d (.tup [.int a, .int b])) rfl)) (ret_ok ?_))
  refine (compMo (en 0 ls) (fun q => D.tup [.int q.1, lotL q.2]) (fun q => lotL (if (q.1 : Int) = b then uni [q.2, ls.getD a.toNat []] else q.2)) ?_ (small_size (by rw [en_len]; omega)) fun q _ => ⟨[some (.d (.lst (ls.map lotL))), some (.d (pr (a, b))), some (.d (.int a)), some (.d (.int b)), some (.d (.int q.1)), some (.d (lotL q.2))], fun _ => rfl, fun c' => ?_⟩).trans (by rw [tkd, List.map_map]; rfl)
  · refine (congrArg (fun r => R.bind r enum1) (a1 (vr rfl))).trans ?_
    simp only [bind_ok, enum1, enum_enL, List.map_map]
    rfl
  · by_cases hb : (q.1 : Int) = b
    · rw [if_pos hb]
      exact mif_t (c' := c') ((tb_ok (bin (vr rfl) (vr rfl) (l2 (eqP_int _ _)))).trans (by simp [hb])) (blt (a1 (lst2 (vr rfl) (bin (vr rfl) (vr rfl) (l2 hix)))) (union_okS (ls := [q.2, ls.getD a.toNat []]) seq_L (by simp)))
    · rw [if_neg hb]
      exact mif_f (c' := c') ((tb_ok (bin (vr rfl) (vr rfl) (l2 (eqP_int _ _)))).trans (by simp [hb])) (vr rfl)
theorem rng_own {i : Nat} {vs : List Nat} (h : n ≤ 3) (hv : ∀ δ1 : Sl, ∀ j : Nat, True) {I : MI} (hI : I δ c = .ok (.xs ((List.range n).map fun (i : Nat) => sI i)) c) (hi : i < (wipeD δ vs).length) : mComp I (gtName i) mtYes (mLst (mCons (mVar i) mNil)) vs δ c = .ok (.d (.lst ((own n).map lotL))) c := by
  refine (compM (List.range n) (fun (i : Nat) => sI i) (fun (i : Nat) => lotL [(i : Int)]) hI (small_size (by simp; omega)) fun j _ acc => ⟨_, rfl, ?_⟩).trans (by rw [own, List.map_map]; rfl)
  exact lst1 (vr (by rw [List.getElem?_set_self hi]; rfl))
theorem Sq.aft (h1 : 0 < n) (h4 : n < 4) {ts : List (Int × Int)} (h : ∀ p ∈ ts, TkOk n p) : ∀ {L : List (List Int)}, Sq n L → Sq n (ts.foldl Dn.tkd L) := by
  induction ts with
  | nil => intro L hL; exact hL
  | cons p r ih => intro L hL; exact ih (fun q hq => h q (List.mem_cons_of_mem _ hq)) (hL.tkd (h p List.mem_cons_self))
theorem after_talks_ok (h1 : 0 < n) (h4 : n < 4) {ts : List (Int × Int)} {d : D} (hd : IsSeq d (ts.map pr)) (h : ∀ p ∈ ts, TkOk n p) (hl : ts.length ≤ 9) : d_after_talks [.d (.int n), .d d] c = .ok (.d (wb n (aft n ts))) c := by
  have o := Sq.own h1 h4
  have hmany : d_is_many [.d (.int n)] c = .ok (.d (.bl true)) c := (is_many_int n c).trans (by
    have : (n : Int) < 4 := by omega
    simp [h1, this])
  obtain ⟨δ', c', e, x3, rfl, rfl⟩ := for_inv (δ := [some (.d (.int n)), some (.d d), some (.d (.lst ((own n).map lotL))), none, none]) (c := c) (I := iSeq (mVar 1)) (g := gtName 3) (B := sSet 2 (mBlt d_talked (mCons (mVar 2) (mCons (mVar 3) mNil)))) ts (fun p => S.d (pr p))
    (fun done δ c' => ∃ x3, δ = [some (.d (.int n)), some (.d d), some (.d (.lst ((aft n done).map lotL))), x3, none] ∧ c' = c) (seqI (vr rfl) (itm hd)) ⟨none, rfl, rfl⟩ (by
      rintro dn y r δ c2 hy ⟨x3, rfl, rfl⟩
      have hs : Sq n (aft n dn) := Sq.aft h1 h4 (fun p hp => h p (by rw [hy]; simp [hp])) o
      refine ⟨_, _, _, rfl, set_ok (blt (a2 (vr rfl) (a1 (vr rfl))) (talked_ok hs (h y (by rw [hy]; simp)))), some (.d (pr y)), ?_, rfl⟩
      simp [aft])
  refine fn_rt rfl (seq_go (if_no ((tnot_ok (tb_ok (blt (a1 (vr rfl)) hmany))).trans rfl)) (seq_go (if_no ((tnot_ok (tb_ok (blt (a2 (vr rfl) (a1 (vr rfl))) (are_talks_ok hd h hl)))).trans rfl)) (seq_go (set_ok (rng_own (by omega) (fun _ _ => trivial) (rngN_ok (a1 (vr rfl)) (by omega)) (Nat.lt_succ_self 4))) (seq_go e (ret_ok (make_web (Sq.aft h1 h4 h o).w (a2 (vr rfl) (a1 (vr rfl)))))))))
end
end Dn

end
section
/-! K21_A: rules: two fors with a test, a for over data or a cell that may hand back, append to a cell. -/
namespace Dn
open PySem
/-- the things of a list or a tuple, be it data or a cell -/
def SeqAt (c : Cs) (x : S) (ss : List S) : Prop := (∃ d ds, x = .d d ∧ (d = .lst ds ∨ d = .tup ds) ∧ ss = ds.map S.d) ∨ ∃ n, x = .c n ∧ cellL n c = some ss
section
variable {δ : Sl} {c : Cs}
theorem iseq_at {i : Nat} {x : S} {ss : List S} (hx : SeqAt c x ss) (hi : δ[i]? = some (some x)) : iSeq (mVar i) δ c = .ok (.xs ss) c ∨ ∃ n, x = .c n ∧ iSeq (mVar i) δ c = .ok (.cell n) c ∧ cellL n c = some ss := by
  rcases hx with ⟨d, ds, rfl, e, rfl⟩ | ⟨n, rfl, e⟩
  · refine .inl (seqI (vr hi) ?_)
    rcases e with rfl | rfl <;> rfl
  · exact .inr ⟨n, rfl, seqI (vr hi) (by simp only [Dn.items, e]), e⟩
/-- how a turn of a for may end -/
def Turn (B : MS) (δ1 : Sl) (c : Cs) (N : Sl → Cs → Prop) (P : S → Cs → Prop) : Prop := (∃ δ2 c2, B δ1 c = .nx δ2 c2 ∧ N δ2 c2) ∨ ∃ s c2, B δ1 c = .rt s c2 ∧ P s c2
theorem loop_gen {g : GT} {B : MS} {all : List S} (J : Nat → Sl → Cs → Prop) (P : S → Cs → Prop) (hs : ∀ (j : Nat) (hj : j < all.length) (δ : Sl) (c : Cs), J j δ c → ∃ δ1, g all[j] c δ = some δ1 ∧ Turn B δ1 c (J (j + 1)) P) : ∀ (ss : List S) (j : Nat) (δ : Sl) (c : Cs), all.drop j = ss → j ≤ all.length → J j δ c → Turn (loop g B ss) δ c (J all.length) P
  | [], j, δ, c, e, hj, h => by
    have : j = all.length := by
      have := congrArg List.length e
      simp at this; omega
    subst this
    exact .inl ⟨δ, c, rfl, h⟩
  | x :: ss, j, δ, c, e, hj, h => by
    have hj2 : j < all.length := by
      have := congrArg List.length e
      simp at this; omega
    rw [List.drop_eq_getElem_cons hj2] at e
    obtain ⟨ex, es⟩ := List.cons.inj e
    obtain ⟨δ1, h1, h2⟩ := hs j hj2 δ c h
    rw [ex] at h1
    rcases h2 with ⟨δ2, c2, e2, h3⟩ | ⟨s, c2, e2, h3⟩
    · have ih := loop_gen J P hs ss (j + 1) δ2 c2 es (by omega) h3
      have el : loop g B (x :: ss) δ c = loop g B ss δ2 c2 := by
        show (match g x c δ with
          | none => RS.bad
          | some δ => match B δ c with
            | .nx δ c => loop g B ss δ c
            | .ct δ c => loop g B ss δ c
            | .bk δ c => .nx δ c
            | r => r) = _
        rw [h1]
        simp only [e2]
      unfold Turn
      rw [el]
      exact ih
    · refine .inr ⟨s, c2, ?_, h3⟩
      show (match g x c δ with
          | none => RS.bad
          | some δ => match B δ c with
            | .nx δ c => loop g B ss δ c
            | .ct δ c => loop g B ss δ c
            | .bk δ c => .nx δ c
            | r => r) = _
      rw [h1]
      simp only [e2]
theorem loopC_gen {n : Nat} {g : GT} {B : MS} {all : List S} (J : Nat → Sl → Cs → Prop) (P : S → Cs → Prop) (hk : ∀ j δ c, J j δ c → cellL n c = some all) (hs : ∀ (j : Nat) (hj : j < all.length) (δ : Sl) (c : Cs), J j δ c → ∃ δ1, g all[j] c δ = some δ1 ∧ Turn B δ1 c (J (j + 1)) P) : ∀ (k j : Nat) (δ : Sl) (c : Cs), j + k = all.length → J j δ c → Turn (loopC n g B (k + 1) j) δ c (J all.length) P
  | 0, j, δ, c, e, h => by
    obtain rfl : j = all.length := by omega
    refine .inl ⟨δ, c, ?_, h⟩
    unfold loopC
    simp only [hk _ _ _ h]
    rw [List.getElem?_eq_none (Nat.le_refl _)]
  | k + 1, j, δ, c, e, h => by
    have hj : j < all.length := by omega
    obtain ⟨δ1, h1, h2⟩ := hs j hj δ c h
    rcases h2 with ⟨δ2, c2, e2, h3⟩ | ⟨s, c2, e2, h3⟩
    · have ih := loopC_gen J P hk hs k (j + 1) δ2 c2 (by omega) h3
      have el : loopC n g B (k + 1 + 1) j δ c = loopC n g B (k + 1) (j + 1) δ2 c2 := by
        rw [loopC]
        simp only [hk _ _ _ h]
        rw [List.getElem?_eq_getElem hj]
        simp only [h1, e2]
      unfold Turn
      rw [el]
      exact ih
    · refine .inr ⟨s, c2, ?_, h3⟩
      rw [loopC]
      simp only [hk _ _ _ h]
      rw [List.getElem?_eq_getElem hj]
      simp only [h1, e2]
theorem for_gen {i : Nat} {x : S} {g : GT} {B : MS} {all : List S} (J : Nat → Sl → Cs → Prop) (P : S → Cs → Prop) (hi : δ[i]? = some (some x)) (hk : ∀ j δ c, J j δ c → SeqAt c x all) (h0 : J 0 δ c) (hs : ∀ (j : Nat) (hj : j < all.length) (δ : Sl) (c : Cs), J j δ c → ∃ δ1, g all[j] c δ = some δ1 ∧ Turn B δ1 c (J (j + 1)) P) : Turn (sFor (iSeq (mVar i)) g B) δ c (J all.length) P := by
  have hx := hk _ _ _ h0
  rcases iseq_at hx hi with e | ⟨n, en, e, hn⟩
  · have el : sFor (iSeq (mVar i)) g B δ c = loop g B all δ c := by
      unfold sFor
      rw [e]
      rfl
    unfold Turn
    rw [el]
    exact loop_gen J P hs all 0 δ c rfl (by omega) h0
  · have hk2 : ∀ j δ c, J j δ c → cellL n c = some all := fun j δ c h => by
      rcases hk j δ c h with ⟨d, ds, z, _⟩ | ⟨m, z, w⟩
      · rw [en] at z; cases z
      · rw [en] at z; cases z; exact w
    have el : sFor (iSeq (mVar i)) g B δ c = loopC n g B (all.length + 1) 0 δ c := by
      unfold sFor
      rw [e]
      simp only [andS_ok, loopI, hn]
    unfold Turn
    rw [el]
    exact loopC_gen J P hk2 hs all.length 0 δ c (by omega) h0
theorem cloop2F {α β : Type} {g g1 : GT} {I1 : MI} {C : MT} {A : M} {vs1 : List Nat} {q : α → S} {zs : α → List β} {q1 : β → S} {p : α → β → Bool} {f : α → β → D} : ∀ (ys : List α) (acc : List D),
    (∀ y ∈ ys, ∃ δ1, (∀ acc, g (q y) (c ++ [.lst acc]) δ = some δ1) ∧ (∀ acc, I1 δ1 (c ++ [.lst acc]) = .ok (.xs ((zs y).map q1)) (c ++ [.lst acc])) ∧ ∀ z ∈ zs y, ∃ δ2, (∀ acc, g1 (q1 z) (c ++ [.lst acc]) (wipeD δ1 vs1) = some δ2) ∧ (∀ acc, C δ2 (c ++ [.lst acc]) = .ok (p y z) (c ++ [.lst acc])) ∧ ∀ acc, A δ2 (c ++ [.lst acc]) = .ok (.d (f y z)) (c ++ [.lst acc])) → acc.length + (ys.flatMap fun y => (zs y).map (f y)).length ≤ sizeLine →
    cloop g mtYes (fun δ1 c1 => (I1 δ1 c1).bindN fun ys c1 => cloopI g1 C (fun δ2 c2 => (A δ2 c2).bindN (push c.length)) (wipeD δ1 vs1) ys c1) δ (ys.map q) (c ++ [.lst acc]) = .ok () (c ++ [.lst (acc ++ ys.flatMap fun y => ((zs y).filter (p y)).map (f y))])
  | [], acc, _, _ => by simp [cloop]
  | y :: ys, acc, h, hl => by
    obtain ⟨δ1, h1, h2, h3⟩ := h y List.mem_cons_self
    simp only [List.flatMap_cons, List.length_append, List.length_map] at hl
    simp only [List.map_cons]
    unfold cloop
    rw [h1]
    have ey : ∀ (δ : Sl) (c : Cs), mtYes δ c = .ok true c := fun _ _ => rfl
    simp only [ey, bindN_ok, if_true, h2, cloopI]
    have e := cloop_map (c := c) (g := g1) (C := C) (A := A) (δ := wipeD δ1 vs1) (q := q1) (p := p y) (f := f y) (zs y) acc (fun z hz acc => let ⟨δ2, a, b, d⟩ := h3 z hz; ⟨δ2, a acc, b acc, fun _ => d acc⟩) (by omega)
    rw [e]
    simp only [bindN_ok]
    have fl : ((zs y).filter (p y)).length ≤ (zs y).length := List.length_filter_le _ _
    have ih := cloop2F (g := g) (g1 := g1) (I1 := I1) (C := C) (A := A) (vs1 := vs1) (q := q) (zs := zs) (q1 := q1) (p := p) (f := f) ys (acc ++ ((zs y).filter (p y)).map (f y)) (fun x hx => h x (List.mem_cons_of_mem _ hx)) (by rw [List.length_append, List.length_map]; omega)
    simp only [cloopI] at ih
    rw [ih, List.flatMap_cons, List.append_assoc]
theorem comp2F {α β : Type} {I I1 : MI} {g g1 : GT} {C : MT} {A : M} {vs vs1 : List Nat} (ys : List α) (q : α → S) (zs : α → List β) (q1 : β → S) (p : α → β → Bool) (f : α → β → D) (hI : I δ c = .ok (.xs (ys.map q)) c) (hl : (ys.flatMap fun y => (zs y).map (f y)).length ≤ sizeLine)
    (h : ∀ y ∈ ys, ∃ δ1, (∀ acc, g (q y) (c ++ [.lst acc]) (wipeD δ vs) = some δ1) ∧ (∀ acc, I1 δ1 (c ++ [.lst acc]) = .ok (.xs ((zs y).map q1)) (c ++ [.lst acc])) ∧ ∀ z ∈ zs y, ∃ δ2, (∀ acc, g1 (q1 z) (c ++ [.lst acc]) (wipeD δ1 vs1) = some δ2) ∧ (∀ acc, C δ2 (c ++ [.lst acc]) = .ok (p y z) (c ++ [.lst acc])) ∧ ∀ acc, A δ2 (c ++ [.lst acc]) = .ok (.d (f y z)) (c ++ [.lst acc])) :
    mComp2 I g mtYes I1 g1 C A vs vs1 δ c = .ok (.d (.lst (ys.flatMap fun y => ((zs y).filter (p y)).map (f y)))) c := by
  unfold mComp2
  rw [hI]
  simp only [bind_ok, cloopI]
  have := cloop2F (g := g) (g1 := g1) (I1 := I1) (C := C) (A := A) (vs1 := vs1) (δ := wipeD δ vs) (q := q) (zs := zs) (q1 := q1) (p := p) (f := f) ys [] h (by simpa using hl)
  simp only [cloopI] at this
  rw [this]
  simp [finC]
theorem appN_ok {A : M} {B : MA} {n : Nat} {x : D} {acc : List D} (hA : A δ c = .ok (.c n) c) (hn : c[n]? = some (.lst acc)) (hB : B δ c = .ok [.d x] c) (hl : acc.length < sizeLine) : mAppend A B δ c = .ok (.d .non) (c.set n (.lst (acc ++ [x]))) := by
  unfold mAppend
  rw [hA]
  simp only [bind_ok, hn]
  rw [hB]
  simp only [bind_ok, appendC, hn]
  rw [if_pos hl]
/-- all talks of n seats -/
def talksOf (n : Nat) : List (Int × Int) := (List.range n).flatMap fun (i : Nat) => ((List.range n).filter fun (j : Nat) => !decide ((i : Int) = (j : Int))).map fun (j : Nat) => ((i : Int), (j : Int))
theorem all_talks_ok {n : Nat} (h : n < 4) : d_all_talks [.d (.int n)] c = .ok (.d (.lst ((talksOf n).map pr))) c := by
  refine fn_rt rfl (ret_ok ?_)
  refine (comp2F (List.range n) (fun (i : Nat) => sI i) (fun _ => List.range n) (fun (i : Nat) => sI i) (fun i j => !decide ((i : Int) = (j : Int))) (fun i j => pr ((i : Int), (j : Int))) (rngN_ok (a1 (vr rfl)) (by omega)) ?_ fun i _ => ⟨[some (.d (.int n)), some (sI i), none], fun _ => rfl, fun _ => rngN_ok (a1 (vr rfl)) (by omega), fun j _ => ⟨[some (.d (.int n)), some (sI i), some (sI j)], fun _ => rfl, fun _ => tb_ok (bin (vr rfl) (vr rfl) (l2 ((eqP_int _ _).trans rfl))), fun _ => tup2 (vr rfl) (vr rfl)⟩⟩).trans ?_
  · have : n = 0 ∨ n = 1 ∨ n = 2 ∨ n = 3 := by omega
    rcases this with rfl | rfl | rfl | rfl <;> decide
  · unfold talksOf
    rw [List.map_flatMap]
    simp only [List.map_map]
    rfl
end
end Dn

end
section
set_option maxHeartbeats 1000000
/-! K21_B: shortest_talks goes level by level. -/
namespace Dn
open PySem
abbrev St := List (List Int)
abbrev Nd := St × List (Int × Int)
def qs (L : St) : D := .lst (L.map lotL)
def ts (T : List (Int × Int)) : D := .lst (T.map pr)
def qn (q : Nd) : D := .tup [qs q.1, ts q.2]
def exp1 (q : Nd) (a : List St × List Nd) (t : Int × Int) : List St × List Nd := if tkd q.1 t ∈ a.1 then a else (a.1 ++ [tkd q.1 t], a.2 ++ [(tkd q.1 t, q.2 ++ [t])])
def expT (n : Nat) (a : List St × List Nd) (q : Nd) : List St × List Nd := (talksOf n).foldl (exp1 q) a
def expd (n : Nat) (lv : List Nd) (sn : List St) : List St × List Nd := lv.foldl (expT n) (sn, [])
def stepR (n : Nat) : List Nd × List St → List Nd × List St
  | (lv, sn) => match expd n lv sn with
    | (a, b) => (b, a)
def rnds (n : Nat) : Nat → List Nd × List St
  | 0 => ([(own n, [])], [own n])
  | r + 1 => stepR n (rnds n r)
theorem eqDs_lotL : ∀ (l m : St), eqDs (l.map lotL) (m.map lotL) = decide (l = m)
  | [], [] => by simp [eqDs]
  | [], _ :: _ => by simp [eqDs]
  | _ :: _, [] => by simp [eqDs]
  | x :: l, y :: m => by
    have ih := eqDs_lotL l m
    simp only [List.map_cons, eqDs, ih, lotL, eqD, eqDs_int]
    by_cases h : x = y <;> by_cases k : l = m <;> simp [h, k]
theorem eqD_qs (A B : St) : eqD (qs A) (qs B) = decide (A = B) := by unfold qs; rw [eqD, eqDs_lotL]
theorem oks_lotL (n : Nat) (ls : St) : oks (n + 1) (ls.map lotL) = true := by
  induction ls with
  | nil => simp [oks]
  | cons x r ih => simp [oks, ih, lotL, D.ok, oks_int]
theorem qs_ok (n : Nat) (A : St) : (qs A).ok (n + 2) = true := by unfold qs; simp [D.ok, oks_lotL]
theorem oks_pr (n : Nat) (T : List (Int × Int)) : oks (n + 1) (T.map pr) = true := by
  induction T with
  | nil => simp [oks]
  | cons x r ih => simp [oks, ih, pr, D.ok]
theorem ts_ok (n : Nat) (T : List (Int × Int)) : (ts T).ok (n + 2) = true := by unfold ts; simp [D.ok, oks_pr]
theorem qn_ok (n : Nat) (q : Nd) : (qn q).ok (n + 3) = true := by
  unfold qn
  simp [D.ok, oks, qs_ok n, ts_ok n]
theorem oks_map {α : Type} {f : α → D} {n : Nat} (h : ∀ a, (f a).ok n = true) : ∀ l : List α, oks n (l.map f) = true
  | [] => by simp [oks]
  | a :: l => by simp [oks, h a, oks_map h l]
theorem any_qs (B : St) : ∀ sn : List St, ((sn.map qs).any fun z => eqD z (qs B)) = decide (B ∈ sn)
  | [] => by simp
  | A :: sn => by
    simp only [List.map_cons, List.any_cons, eqD_qs, any_qs B sn, List.mem_cons]
    by_cases h : A = B
    · simp [h]
    · have h' : ¬ B = A := fun z => h z.symm
      simp [h, h']
theorem in_states (B : St) (sn : List St) : inP true (qs B) (.lst (sn.map qs)) = some (.bl (!decide (B ∈ sn))) := by
  have e : ((qs B).ok 60 && oks 59 (sn.map qs)) = true := by rw [qs_ok 58, oks_map (qs_ok 57)]; rfl
  exact (if_pos e).trans (congrArg (fun b => some (D.bl (!b))) (any_qs B sn))
section
variable {δ : Sl} {c c1 : Cs} {n m : Nat}
theorem exp1_len (q : Nd) (a : List St × List Nd) (t : Int × Int) : (exp1 q a t).1.length ≤ a.1.length + 1 ∧ (exp1 q a t).2.length ≤ a.2.length + 1 := by
  unfold exp1
  split <;> simp
theorem foldT_len (q : Nd) : ∀ (l : List (Int × Int)) (a : List St × List Nd), (l.foldl (exp1 q) a).1.length ≤ a.1.length + l.length ∧ (l.foldl (exp1 q) a).2.length ≤ a.2.length + l.length
  | [], a => by simp
  | t :: l, a => by
    have h1 := exp1_len q a t
    have h2 := foldT_len q l (exp1 q a t)
    simp only [List.foldl_cons, List.length_cons]
    omega
theorem talks_len (h : n < 4) : (talksOf n).length ≤ 6 := by
  have : n = 0 ∨ n = 1 ∨ n = 2 ∨ n = 3 := by omega
  rcases this with rfl | rfl | rfl | rfl <;> decide
theorem talks_ok {t : Int × Int} (h : t ∈ talksOf n) : TkOk n t := by
  unfold talksOf at h
  obtain ⟨i, hi, h⟩ := List.mem_flatMap.mp h
  obtain ⟨j, hj, rfl⟩ := List.mem_map.mp h
  obtain ⟨hj1, hj2⟩ := List.mem_filter.mp hj
  have h1 := List.mem_range.mp hi
  have h2 := List.mem_range.mp hj1
  refine ⟨by show (0 : Int) ≤ (i : Int); omega, by show (i : Int) < (n : Int); omega, by show (0 : Int) ≤ (j : Int); omega, by show (j : Int) < (n : Int); omega, ?_⟩
  simpa using hj2
/-- the cells while a level is left behind -/
def cst (c1 : Cs) (m : Nat) (a : List St × List Nd) : Cs := c1.set m (.lst (a.1.map qs)) ++ [.lst (a.2.map qn)]
abbrev bl (n : Nat) (lvl : S) (m : Nat) (s5 s6 s7 s8 s9 : Option S) : Sl := [some (.d (.int n)), some .f, some (.d (qs (own n))), some lvl, some (.c m), s5, s6, s7, s8, s9, none]
abbrev inB : MS := (sSeq (sSet 9 (mBlt d_talked (mCons (mVar 5) (mCons (mVar 8) mNil)))) (sIf (mTB (mBin (lift2 (inP true)) (mVar 9) (mVar 4))) (sSeq (sExpr (mAppend (mVar 4) (mCons (mVar 9) mNil))) (sExpr (mAppend (mVar 7) (mCons (mTup (mCons (mVar 9) (mCons (mLst (mStarC (mVar 6) (mCons (mVar 8) mNil))) mNil))) mNil)))) sNil))
theorem cst_m {a : List St × List Nd} (hm : m < c1.length) : (cst c1 m a)[m]? = some (.lst (a.1.map qs)) := by
  unfold cst
  rw [List.getElem?_append_left (by simpa using hm), List.getElem?_set_self hm]
theorem cst_k {a : List St × List Nd} : (cst c1 m a)[c1.length]? = some (.lst (a.2.map qn)) := by
  unfold cst
  rw [List.getElem?_append_right (by simp)]
  simp
theorem star_ok {A B : M} {T : List (Int × Int)} {t : Int × Int} (hA : A δ c = .ok (.d (ts T)) c) (hB : B δ c = .ok (.d (pr t)) c) (hl : T.length ≤ 100) : mLst (mStarC A (mCons B mNil)) δ c = .ok (.d (ts (T ++ [t]))) c := by
  unfold mLst mStarC
  rw [hA]
  have e : starF (.d (ts T)) c = some (T.map pr) := rfl
  simp only [bind_ok, e]
  rw [a1 hB]
  simp only [bind_ok]
  have ed : (T.map pr).map S.d ++ [S.d (pr t)] = ((T ++ [t]).map pr).map S.d := by simp
  rw [ed]
  unfold mkLst
  rw [datas_map]
  simp only
  rw [if_pos (small_size (by simp; omega))]
  rfl
theorem inB_ok {q : Nd} {t : Int × Int} {a : List St × List Nd} {lvl : S} {s8 s9 : Option S} (hq : Sq n q.1) (hT : q.2.length ≤ 100) (ht : TkOk n t) (hm : m < c1.length) (h1 : a.1.length ≤ 100000) (h2 : a.2.length ≤ 100000) :
    inB (bl n lvl m (some (.d (qs q.1))) (some (.d (ts q.2))) (some (.c c1.length)) (some (.d (pr t))) s9) (cst c1 m a) = .nx (bl n lvl m (some (.d (qs q.1))) (some (.d (ts q.2))) (some (.c c1.length)) (some (.d (pr t))) (some (.d (qs (tkd q.1 t))))) (cst c1 m (exp1 q a t)) := by
  have e1 : sSet 9 (mBlt d_talked (mCons (mVar 5) (mCons (mVar 8) mNil))) (bl n lvl m (some (.d (qs q.1))) (some (.d (ts q.2))) (some (.c c1.length)) (some (.d (pr t))) s9) (cst c1 m a) = .nx (bl n lvl m (some (.d (qs q.1))) (some (.d (ts q.2))) (some (.c c1.length)) (some (.d (pr t))) (some (.d (qs (tkd q.1 t))))) (cst c1 m a) :=
    set_ok (blt (a2 (vr rfl) (a1 (vr rfl))) (talked_ok hq ht))
  have ein : ∀ b, b = (!decide (tkd q.1 t ∈ a.1)) → mTB (mBin (lift2 (inP true)) (mVar 9) (mVar 4)) (bl n lvl m (some (.d (qs q.1))) (some (.d (ts q.2))) (some (.c c1.length)) (some (.d (pr t))) (some (.d (qs (tkd q.1 t))))) (cst c1 m a) = .ok b (cst c1 m a) := fun b hb => by
    refine tb_ok (bin (vr rfl) (vr rfl) ?_)
    have ed : deref (.c m) (cst c1 m a) = some (.lst (a.1.map qs)) := by simp only [deref, cst_m hm]
    have ed2 : deref (.d (qs (tkd q.1 t))) (cst c1 m a) = some (qs (tkd q.1 t)) := rfl
    simp only [lift2, ed, ed2, in_states, hb]
  refine seq_go e1 ?_
  by_cases hin : tkd q.1 t ∈ a.1
  · have ee : exp1 q a t = a := if_pos hin
    rw [ee]
    exact if_no (ein false (by simp [hin]))
  · have ee : exp1 q a t = (a.1 ++ [tkd q.1 t], a.2 ++ [(tkd q.1 t, q.2 ++ [t])]) := if_neg hin
    rw [ee]
    refine (if_t (ein true (by simp [hin]))).trans ?_
    have c2 : (cst c1 m a).set m (.lst (a.1.map qs ++ [qs (tkd q.1 t)])) = cst c1 m (a.1 ++ [tkd q.1 t], a.2) := by
      unfold cst
      rw [List.set_append_left _ _ (by simpa using hm), List.set_set]
      simp
    have f1 : sExpr (mAppend (mVar 4) (mCons (mVar 9) mNil)) (bl n lvl m (some (.d (qs q.1))) (some (.d (ts q.2))) (some (.c c1.length)) (some (.d (pr t))) (some (.d (qs (tkd q.1 t))))) (cst c1 m a) = .nx (bl n lvl m (some (.d (qs q.1))) (some (.d (ts q.2))) (some (.c c1.length)) (some (.d (pr t))) (some (.d (qs (tkd q.1 t))))) (cst c1 m (a.1 ++ [tkd q.1 t], a.2)) := by
      rw [← c2]
      exact expr_ok (appN_ok (vr rfl) (cst_m hm) (a1 (vr rfl)) (Nat.lt_of_le_of_lt (show (a.1.map qs).length ≤ 100000 by simpa using h1) (by decide)))
    have c3 : (cst c1 m (a.1 ++ [tkd q.1 t], a.2)).set c1.length (.lst (a.2.map qn ++ [qn (tkd q.1 t, q.2 ++ [t])])) = cst c1 m (a.1 ++ [tkd q.1 t], a.2 ++ [(tkd q.1 t, q.2 ++ [t])]) := by
      unfold cst
      rw [List.set_append_right _ _ (by simp)]
      simp
    have f2 : sExpr (mAppend (mVar 7) (mCons (mTup (mCons (mVar 9) (mCons (mLst (mStarC (mVar 6) (mCons (mVar 8) mNil))) mNil))) mNil)) (bl n lvl m (some (.d (qs q.1))) (some (.d (ts q.2))) (some (.c c1.length)) (some (.d (pr t))) (some (.d (qs (tkd q.1 t))))) (cst c1 m (a.1 ++ [tkd q.1 t], a.2)) = .nx (bl n lvl m (some (.d (qs q.1))) (some (.d (ts q.2))) (some (.c c1.length)) (some (.d (pr t))) (some (.d (qs (tkd q.1 t))))) (cst c1 m (a.1 ++ [tkd q.1 t], a.2 ++ [(tkd q.1 t, q.2 ++ [t])])) := by
      rw [← c3]
      exact expr_ok (appN_ok (vr rfl) cst_k (a1 (tup2 (vr rfl) (star_ok (vr rfl) (vr rfl) hT))) (Nat.lt_of_le_of_lt (show (a.2.map qn).length ≤ 100000 by simpa using h2) (by decide)))
    exact seq_go f1 f2
theorem inner_ok {q : Nd} {a : List St × List Nd} {lvl : S} {s8 s9 : Option S} (hn : n < 4) (hq : Sq n q.1) (hT : q.2.length ≤ 100) (hm : m < c1.length) (h1 : a.1.length ≤ 90000) (h2 : a.2.length ≤ 90000) :
    ∃ y8 y9, sFor (iSeq (mBlt d_all_talks (mCons (mVar 0) mNil))) (gtName 8) inB (bl n lvl m (some (.d (qs q.1))) (some (.d (ts q.2))) (some (.c c1.length)) s8 s9) (cst c1 m a) = .nx (bl n lvl m (some (.d (qs q.1))) (some (.d (ts q.2))) (some (.c c1.length)) y8 y9) (cst c1 m (expT n a q)) := by
  have tl := talks_len hn
  obtain ⟨δ', c', e, y8, y9, rfl, rfl⟩ := for_inv (δ := bl n lvl m (some (.d (qs q.1))) (some (.d (ts q.2))) (some (.c c1.length)) s8 s9) (c := cst c1 m a) (I := iSeq (mBlt d_all_talks (mCons (mVar 0) mNil))) (g := gtName 8) (B := inB) (talksOf n) (fun t => S.d (pr t))
    (fun done δ c' => ∃ y8 y9, δ = bl n lvl m (some (.d (qs q.1))) (some (.d (ts q.2))) (some (.c c1.length)) y8 y9 ∧ c' = cst c1 m (done.foldl (exp1 q) a)) (seqI (blt (a1 (vr rfl)) (all_talks_ok hn)) (itm (.inl rfl))) ⟨s8, s9, rfl, rfl⟩ (by
      rintro dn t r δ c2 hy ⟨y8, y9, rfl, rfl⟩
      have hd : dn.length ≤ 6 := by
        have := congrArg List.length hy
        simp at this; omega
      obtain ⟨b1, b2⟩ := foldT_len q dn a
      refine ⟨bl n lvl m (some (.d (qs q.1))) (some (.d (ts q.2))) (some (.c c1.length)) (some (.d (pr t))) y9, _, _, rfl, inB_ok (s8 := none) hq hT (talks_ok (by rw [hy]; simp)) hm (by omega) (by omega), _, _, rfl, ?_⟩
      rw [List.foldl_append]
      rfl)
  exact ⟨y8, y9, e⟩
/-- where the level stands -/
def LvlAt (c : Cs) (m : Nat) (lvl : S) (lv : List Nd) : Prop := lvl = .d (.lst (lv.map qn)) ∨ ∃ k, lvl = .c k ∧ m < k ∧ c[k]? = some (.lst (lv.map qn))
theorem LvlAt.seq {lvl : S} {lv : List Nd} (h : LvlAt c m lvl lv) : SeqAt c lvl (lv.map fun q => S.d (qn q)) := by
  rcases h with rfl | ⟨k, rfl, _, h⟩
  · exact .inl ⟨_, lv.map qn, rfl, .inl rfl, by rw [List.map_map]; rfl⟩
  · exact .inr ⟨k, rfl, by simp only [cellL, h, List.map_map]; rfl⟩
theorem LvlAt.cst {lvl : S} {lv : List Nd} {a : List St × List Nd} (h : LvlAt c1 m lvl lv) : LvlAt (Dn.cst c1 m a) m lvl lv := by
  rcases h with rfl | ⟨k, rfl, hk, h⟩
  · exact .inl rfl
  · refine .inr ⟨k, rfl, hk, ?_⟩
    have hkl : k < c1.length := (List.getElem?_eq_some_iff.mp h).1
    unfold Dn.cst
    rw [List.getElem?_append_left (by simpa using hkl), List.getElem?_set_ne (by omega)]
    exact h
theorem LvlAt.deref {lvl : S} {lv : List Nd} (h : LvlAt c m lvl lv) : Dn.deref lvl c = some (.lst (lv.map qn)) := by
  rcases h with rfl | ⟨k, rfl, _, h⟩
  · rfl
  · simp only [Dn.deref, h]
theorem expT_len (hn : n < 4) (a : List St × List Nd) (q : Nd) : (expT n a q).1.length ≤ a.1.length + 6 ∧ (expT n a q).2.length ≤ a.2.length + 6 := by
  have := foldT_len q (talksOf n) a
  have := talks_len hn
  unfold expT
  omega
theorem foldE_len (hn : n < 4) : ∀ (l : List Nd) (a : List St × List Nd), (l.foldl (expT n) a).1.length ≤ a.1.length + 6 * l.length ∧ (l.foldl (expT n) a).2.length ≤ a.2.length + 6 * l.length
  | [], a => by simp
  | q :: l, a => by
    have h1 := expT_len hn a q
    have h2 := foldE_len hn l (expT n a q)
    simp only [List.foldl_cons, List.length_cons]
    omega
abbrev outB : MS := sFor (iSeq (mBlt d_all_talks (mCons (mVar 0) mNil))) (gtName 8) inB
theorem outer_ok {lv : List Nd} {sn : List St} {lvl : S} {s5 s6 s8 s9 : Option S} (hn : n < 4) (hq : ∀ q ∈ lv, Sq n q.1 ∧ q.2.length ≤ 100) (hl : LvlAt c1 m lvl lv) (hm : m < c1.length) (h1 : sn.length + 6 * lv.length ≤ 80000) :
    ∃ y5 y6 y8 y9, sFor (iSeq (mVar 3)) (gtTup (gtCons (gtName 5) (gtCons (gtName 6) gtNil))) outB (bl n lvl m s5 s6 (some (.c c1.length)) s8 s9) (cst c1 m (sn, [])) = .nx (bl n lvl m y5 y6 (some (.c c1.length)) y8 y9) (cst c1 m (expd n lv sn)) := by
  have t := for_gen (δ := bl n lvl m s5 s6 (some (.c c1.length)) s8 s9) (c := cst c1 m (sn, [])) (i := 3) (x := lvl) (g := gtTup (gtCons (gtName 5) (gtCons (gtName 6) gtNil))) (B := outB) (all := lv.map fun q => S.d (qn q))
    (fun j δ c => ∃ y5 y6 y8 y9, δ = bl n lvl m y5 y6 (some (.c c1.length)) y8 y9 ∧ c = cst c1 m ((lv.take j).foldl (expT n) (sn, []))) (fun _ _ => False) rfl (by
      rintro j δ c ⟨y5, y6, y8, y9, rfl, rfl⟩
      exact hl.cst.seq) ⟨s5, s6, s8, s9, rfl, rfl⟩ (by
      rintro j hj δ c ⟨y5, y6, y8, y9, rfl, rfl⟩
      rw [List.length_map] at hj
      obtain ⟨k1, k2⟩ := hq lv[j] (List.getElem_mem hj)
      have b1 : ((lv.take j).foldl (expT n) (sn, [])).1.length ≤ sn.length + 6 * (lv.take j).length := (foldE_len hn (lv.take j) (sn, [])).1
      have b2 : ((lv.take j).foldl (expT n) (sn, [])).2.length ≤ 0 + 6 * (lv.take j).length := (foldE_len hn (lv.take j) (sn, [])).2
      have tl : (lv.take j).length ≤ lv.length := by rw [List.length_take]; omega
      obtain ⟨z8, z9, e⟩ := inner_ok (c1 := c1) (m := m) (q := lv[j]) (a := (lv.take j).foldl (expT n) (sn, [])) (lvl := lvl) (s8 := y8) (s9 := y9) hn k1 k2 hm (by omega) (by omega)
      refine ⟨bl n lvl m (some (.d (qs lv[j].1))) (some (.d (ts lv[j].2))) (some (.c c1.length)) y8 y9, by rw [List.getElem_map]; rfl, .inl ⟨_, _, e, _, _, z8, z9, rfl, ?_⟩⟩
      rw [List.take_add_one, List.getElem?_eq_getElem hj, Option.toList_some, List.foldl_append]
      rfl)
  rcases t with ⟨δ2, c2, e, y5, y6, y8, y9, rfl, rfl⟩ | ⟨_, _, _, z⟩
  · rw [List.length_map] at e
    exact ⟨y5, y6, y8, y9, e.trans (by rw [List.take_of_length_le (Nat.le_refl _)]; rfl)⟩
  · exact z.elim
end
end Dn

end
section
set_option maxHeartbeats 1000000
/-! K21_C: what shortest_talks answers. -/
namespace Dn
open PySem
section
variable {δ : Sl} {c c1 : Cs} {n m : Nat} {gl : List S → Cs → R S} {p : St → Bool}
abbrev goB (gl : List S → Cs → R S) : MS := (sIf (mTB (mCallV 1 gl (mCons (mVar 5) mNil))) (sRet (mVar 6)) sNil)
/-- the function in hand asks p -/
def Asks (n : Nat) (gl : List S → Cs → R S) (p : St → Bool) : Prop := ∀ (L : St) (c : Cs), Sq n L → gl [.d (qs L)] c = .ok (.d (.bl (p L))) c
theorem goal_ok {lv : List Nd} {lvl : S} {s5 s6 s7 s8 s9 : Option S} (hg : Asks n gl p) (hq : ∀ q ∈ lv, Sq n q.1) (hl : LvlAt c1 m lvl lv) :
    (lv.find? (fun q => p q.1) = none ∧ ∃ y5 y6, sFor (iSeq (mVar 3)) (gtTup (gtCons (gtName 5) (gtCons (gtName 6) gtNil))) (goB gl) (bl n lvl m s5 s6 s7 s8 s9) c1 = .nx (bl n lvl m y5 y6 s7 s8 s9) c1) ∨ ∃ q, lv.find? (fun q => p q.1) = some q ∧ sFor (iSeq (mVar 3)) (gtTup (gtCons (gtName 5) (gtCons (gtName 6) gtNil))) (goB gl) (bl n lvl m s5 s6 s7 s8 s9) c1 = .rt (.d (ts q.2)) c1 := by
  have t := for_gen (δ := bl n lvl m s5 s6 s7 s8 s9) (c := c1) (i := 3) (x := lvl) (g := gtTup (gtCons (gtName 5) (gtCons (gtName 6) gtNil))) (B := goB gl) (all := lv.map fun q => S.d (qn q))
    (fun j δ c => (∃ y5 y6, δ = bl n lvl m y5 y6 s7 s8 s9 ∧ c = c1) ∧ (lv.take j).find? (fun q => p q.1) = none) (fun s c => c = c1 ∧ ∃ q, lv.find? (fun q => p q.1) = some q ∧ s = .d (ts q.2)) rfl (by
      rintro j δ c ⟨⟨y5, y6, rfl, rfl⟩, _⟩
      exact hl.seq) ⟨⟨s5, s6, rfl, rfl⟩, rfl⟩ (by
      rintro j hj δ c ⟨⟨y5, y6, rfl, rfl⟩, hn⟩
      rw [List.length_map] at hj
      have e : mTB (mCallV 1 gl (mCons (mVar 5) mNil)) (bl n lvl m (some (.d (qs lv[j].1))) (some (.d (ts lv[j].2))) s7 s8 s9) c = .ok (p lv[j].1) c := by
        refine tb_ok ?_
        show (mCons (mVar 5) mNil (bl n lvl m (some (.d (qs lv[j].1))) (some (.d (ts lv[j].2))) s7 s8 s9) c).bind (fun ss c => gl ss c) = _
        rw [a1 (vr rfl)]
        exact hg _ _ (hq _ (List.getElem_mem hj))
      have split : lv = lv.take j ++ lv[j] :: lv.drop (j + 1) := by rw [← List.drop_eq_getElem_cons hj, List.take_append_drop]
      refine ⟨bl n lvl m (some (.d (qs lv[j].1))) (some (.d (ts lv[j].2))) s7 s8 s9, by rw [List.getElem_map]; rfl, ?_⟩
      by_cases hp : p lv[j].1 = true
      · rw [hp] at e
        refine .inr ⟨.d (ts lv[j].2), c, (if_t e).trans (ret_ok (vr rfl)), rfl, lv[j], ?_, rfl⟩
        have hs := congrArg (List.find? fun q => p q.1) split
        rw [List.find?_append, hn] at hs
        rw [hs, Option.none_or]
        exact List.find?_cons_of_pos (by exact hp)
      · have hp' : p lv[j].1 = false := by simpa using hp
        rw [hp'] at e
        refine .inl ⟨_, c, if_no e, ⟨_, _, rfl, rfl⟩, ?_⟩
        rw [List.take_add_one, List.getElem?_eq_getElem hj, Option.toList_some, List.find?_append, hn]
        simp [hp'])
  rcases t with ⟨δ2, c2, e, ⟨y5, y6, rfl, rfl⟩, hn⟩ | ⟨s, c2, e, rfl, q, h1, rfl⟩
  · rw [List.length_map, List.take_of_length_le (Nat.le_refl _)] at hn
    exact .inl ⟨hn, y5, y6, e⟩
  · exact .inr ⟨q, h1, e⟩
abbrev whC : MT := (mTB (mBin (lift2 (eqP true)) (mVar 3) (mLst mNil)))
abbrev whB (gl : List S → Cs → R S) : MS := (sSeq (sFor (iSeq (mVar 3)) (gtTup (gtCons (gtName 5) (gtCons (gtName 6) gtNil))) (goB gl)) (sSeq (sSet 7 (mCell mNil)) (sSeq (sFor (iSeq (mVar 3)) (gtTup (gtCons (gtName 5) (gtCons (gtName 6) gtNil))) outB) (sSet 3 (mVar 7)))))
theorem whC_ok {lv : List Nd} {lvl : S} {s5 s6 s7 s8 s9 : Option S} (hl : LvlAt c1 m lvl lv) : whC (bl n lvl m s5 s6 s7 s8 s9) c1 = .ok (!decide (lv = [])) c1 := by
  refine tb_ok (bin (vr rfl) rfl ?_)
  have e2 : deref (S.d (.lst [])) c1 = some (.lst []) := rfl
  have ok : ((D.lst (lv.map qn)).ok 60 && (D.lst []).ok 60) = true := by simp [D.ok, oks, oks_map (qn_ok 56)]
  have eq : eqD (.lst (lv.map qn)) (.lst []) = decide (lv = []) := by
    cases lv with
    | nil => simp [eqD, eqDs]
    | cons q r => simp [eqD, eqDs]
  have ep : eqP true (.lst (lv.map qn)) (.lst []) = some (.bl (!decide (lv = []))) := (if_pos ok).trans (by rw [eq]; rfl)
  simp only [lift2, hl.deref, e2, ep]
/-- the nodes, level by level from the r-th on -/
def lvls (n r R : Nat) : List Nd := (List.range (R - r)).flatMap fun i => (rnds n (r + i)).1
theorem lvls_cons {r R : Nat} (h : r < R) : lvls n r R = (rnds n r).1 ++ lvls n (r + 1) R := by
  unfold lvls
  have e : R - r = (R - (r + 1)) + 1 := by omega
  rw [e, List.range_succ_eq_map, List.flatMap_cons, List.flatMap_map]
  congr 1
  refine congrArg (fun f => List.flatMap f (List.range (R - (r + 1)))) (funext fun i => ?_)
  show (rnds n (r + (i + 1))).1 = (rnds n (r + 1 + i)).1
  rw [show r + (i + 1) = r + 1 + i by omega]
/-- all is small, the last level is empty -/
structure Fin (n R : Nat) : Prop where
  hn : n < 4
  hR : R ≤ 50
  last : (rnds n R).1 = []
  ne : ∀ r, r < R → (rnds n r).1 ≠ []
  sq : ∀ r, r < R → ∀ q ∈ (rnds n r).1, Sq n q.1 ∧ q.2.length ≤ 100
  sz : ∀ r, r < R → (rnds n r).2.length + 6 * (rnds n r).1.length ≤ 80000
theorem rnds_succ (r : Nat) : rnds n (r + 1) = ((expd n (rnds n r).1 (rnds n r).2).2, (expd n (rnds n r).1 (rnds n r).2).1) := rfl
theorem wh_ok {R : Nat} (F : Fin n R) (hg : Asks n gl p) : ∀ (k r f : Nat) (c1 : Cs) (lvl : S) (s5 s6 s7 s8 s9 : Option S), r + k = R → k + 1 ≤ f → LvlAt c1 m lvl (rnds n r).1 → m < c1.length → c1[m]? = some (.lst ((rnds n r).2.map qs)) →
    match (lvls n r R).find? (fun q => p q.1) with
    | some q => ∃ c2, wloop whC (whB gl) f (bl n lvl m s5 s6 s7 s8 s9) c1 = .rt (.d (ts q.2)) c2 ∧ c2.take m = c1.take m
    | none => ∃ δ2 c2, wloop whC (whB gl) f (bl n lvl m s5 s6 s7 s8 s9) c1 = .nx δ2 c2 ∧ c2.take m = c1.take m
  | 0, r, f, c1, lvl, s5, s6, s7, s8, s9, hr, hf, hl, hm, hs => by
    obtain rfl : r = R := by omega
    obtain ⟨f, rfl⟩ : ∃ g, f = g + 1 := ⟨f - 1, by omega⟩
    have e0 : lvls n r r = [] := by unfold lvls; simp
    rw [e0]
    have w := whC_ok (n := n) (s5 := s5) (s6 := s6) (s7 := s7) (s8 := s8) (s9 := s9) hl
    rw [F.last] at w
    refine ⟨bl n lvl m s5 s6 s7 s8 s9, c1, ?_, rfl⟩
    rw [wloop, w]
    rfl
  | k + 1, r, f, c1, lvl, s5, s6, s7, s8, s9, hr, hf, hl, hm, hs => by
    obtain ⟨f, rfl⟩ : ∃ g, f = g + 1 := ⟨f - 1, by omega⟩
    have hrR : r < R := by omega
    have w := whC_ok (n := n) (s5 := s5) (s6 := s6) (s7 := s7) (s8 := s8) (s9 := s9) hl
    have nn : (!decide ((rnds n r).1 = [])) = true := by simp [F.ne r hrR]
    rw [nn] at w
    rw [lvls_cons hrR, List.find?_append]
    rcases goal_ok (s5 := s5) (s6 := s6) (s7 := s7) (s8 := s8) (s9 := s9) hg (fun q hq => (F.sq r hrR q hq).1) hl with ⟨hnone, y5, y6, e⟩ | ⟨q, hsome, e⟩
    · rw [hnone, Option.none_or]
      obtain ⟨z5, z6, z8, z9, e2⟩ := outer_ok (c1 := c1) (s5 := y5) (s6 := y6) (s8 := s8) (s9 := s9) (sn := (rnds n r).2) F.hn (F.sq r hrR) hl hm (F.sz r hrR)
      have e1 : sSet 7 (mCell mNil) (bl n lvl m y5 y6 s7 s8 s9) c1 = .nx (bl n lvl m y5 y6 (some (.c c1.length)) s8 s9) (cst c1 m ((rnds n r).2, [])) := by
        have : cst c1 m ((rnds n r).2, []) = c1 ++ [.lst []] := by
          unfold cst
          congr 1
          refine List.ext_getElem? fun i => ?_
          by_cases h : i = m
          · subst h; rw [List.getElem?_set_self hm, hs]
          · rw [List.getElem?_set_ne (fun z => h z.symm)]
        rw [this]
        rfl
      have hB : whB gl (bl n lvl m s5 s6 s7 s8 s9) c1 = .nx (bl n (.c c1.length) m z5 z6 (some (.c c1.length)) z8 z9) (cst c1 m (expd n (rnds n r).1 (rnds n r).2)) :=
        seq_go e (seq_go e1 (seq_go e2 (set_ok (vr rfl))))
      have ih := wh_ok F hg k (r + 1) f (cst c1 m (expd n (rnds n r).1 (rnds n r).2)) (.c c1.length) z5 z6 (some (.c c1.length)) z8 z9 (by omega) (by omega) (.inr ⟨c1.length, rfl, hm, by rw [rnds_succ]; exact cst_k⟩) (by unfold cst; simp; omega) (by rw [rnds_succ]; exact cst_m hm)
      have el : wloop whC (whB gl) (f + 1) (bl n lvl m s5 s6 s7 s8 s9) c1 = wloop whC (whB gl) f (bl n (.c c1.length) m z5 z6 (some (.c c1.length)) z8 z9) (cst c1 m (expd n (rnds n r).1 (rnds n r).2)) := by
        rw [wloop, w]
        simp only [andS_ok, if_true]
        rw [hB]
      have tk : (cst c1 m (expd n (rnds n r).1 (rnds n r).2)).take m = c1.take m := by
        unfold cst
        rw [List.take_append_of_le_length (by simp; omega), List.take_set_of_le (Nat.le_refl _)]
      rw [tk] at ih
      rw [el]
      exact ih
    · rw [hsome, Option.some_or]
      refine ⟨c1, ?_, rfl⟩
      have hB : whB gl (bl n lvl m s5 s6 s7 s8 s9) c1 = .rt (.d (ts q.2)) c1 := seq_rt e
      rw [wloop, w]
      simp only [andS_ok, if_true]
      rw [hB]
/-- the answer -/
def ansD : Option Nd → D
  | some q => ts q.2
  | none => .non
theorem shortest_ok {R : Nat} (F : Fin n R) (h0 : 0 < n) (hg : Asks n gl p) : d_shortest_talks gl [.d (.int n), .f] c = .ok (.d (ansD ((lvls n 0 R).find? fun q => p q.1))) c := by
  have hn := F.hn
  have e1 : sSet 2 (mComp (iRng (mCons (mVar 0) mNil)) (gtName 10) mtYes (mLst (mCons (mVar 10) mNil)) [10]) [some (.d (.int n)), some .f, none, none, none, none, none, none, none, none, none] c = .nx [some (.d (.int n)), some .f, some (.d (qs (own n))), none, none, none, none, none, none, none, none] c :=
    set_ok (rng_own (by omega) (fun _ _ => trivial) (rngN_ok (a1 (vr rfl)) (by omega)) (Nat.lt_succ_self 10))
  have e2 : sPar 3 4 (mCons (mLst (mCons (mTup (mCons (mVar 2) (mCons (mLst mNil) mNil))) mNil)) (mCons (mCell (mCons (mVar 2) mNil)) mNil)) [some (.d (.int n)), some .f, some (.d (qs (own n))), none, none, none, none, none, none, none, none] c = .nx (bl n (.d (.lst ((rnds n 0).1.map qn))) c.length none none none none none) (c ++ [.lst ((rnds n 0).2.map qs)]) :=
    par_ok (a2 (lst1 (tup2 (vr rfl) (y := .lst []) rfl)) (a1 (by
      show (mCons (mVar 2) mNil _ c).bind mkCell = _
      rw [a1 (vr rfl)]
      rfl)))
  have hm : c.length < (c ++ [CC.lst ((rnds n 0).2.map qs)]).length := by simp
  have w := wh_ok (m := c.length) F hg R 0 1000 (c ++ [.lst ((rnds n 0).2.map qs)]) (.d (.lst ((rnds n 0).1.map qn))) none none none none none (by omega) (by have := F.hR; omega) (.inl rfl) hm (by simp)
  have tk : (c ++ [CC.lst ((rnds n 0).2.map qs)]).take c.length = c := by simp
  rw [tk] at w
  cases hf : (lvls n 0 R).find? fun q => p q.1 with
  | some q =>
    simp only [hf] at w
    obtain ⟨c2, e3, e4⟩ := w
    have body : b_shortest_talks gl [some (.d (.int n)), some .f, none, none, none, none, none, none, none, none, none] c = .rt (.d (ts q.2)) c2 := seq_go e1 (seq_go e2 (seq_rt e3))
    refine (fnG_eq rfl).trans ?_
    show exitR false c.length (b_shortest_talks gl [some (.d (.int n)), some .f, none, none, none, none, none, none, none, none, none] c) = _
    rw [body]
    simp [exitR, e4, ansD]
  | none =>
    simp only [hf] at w
    obtain ⟨δ2, c2, e3, e4⟩ := w
    have body : b_shortest_talks gl [some (.d (.int n)), some .f, none, none, none, none, none, none, none, none, none] c = .rt (.d .non) c2 := seq_go e1 (seq_go e2 (seq_go e3 rfl))
    refine (fnG_eq rfl).trans ?_
    show exitR false c.length (b_shortest_talks gl [some (.d (.int n)), some .f, none, none, none, none, none, none, none, none, none] c) = _
    rw [body]
    simp [exitR, e4, ansD]
end
end Dn

end
section
set_option maxHeartbeats 1000000
/-! K21_D: the order of the nodes. -/
namespace Dn
open PySem
/-! ### talks compared -/
def leL : List (Int × Int) → List (Int × Int) → Bool
  | [], _ => true
  | _ :: _, [] => false
  | p :: a, q :: b => decide (p.1 < q.1) || (decide (p.1 = q.1) && (decide (p.2 < q.2) || (decide (p.2 = q.2) && leL a b)))
theorem leL_cons {p q : Int × Int} {a b : List (Int × Int)} : leL (p :: a) (q :: b) = true ↔ p.1 < q.1 ∨ p.1 = q.1 ∧ (p.2 < q.2 ∨ p.2 = q.2 ∧ leL a b = true) := by
  simp [leL]
theorem leL_trans : ∀ {a b c : List (Int × Int)}, leL a b = true → leL b c = true → leL a c = true
  | [], _, _, _, _ => rfl
  | p :: a, [], _, h, _ => by simp [leL] at h
  | p :: a, q :: b, [], _, k => by simp [leL] at k
  | p :: a, q :: b, r :: c, h, k => by
    rw [leL_cons] at h k ⊢
    rcases h with h | ⟨h1, h⟩
    · rcases k with k | ⟨k1, _⟩
      · left; omega
      · left; omega
    · rcases k with k | ⟨k1, k⟩
      · left; omega
      · right
        refine ⟨by omega, ?_⟩
        rcases h with h | ⟨h2, h⟩
        · rcases k with k | ⟨k2, _⟩
          · left; omega
          · left; omega
        · rcases k with k | ⟨k2, k⟩
          · left; omega
          · right; exact ⟨by omega, leL_trans h k⟩
theorem alike_ts : ∀ (a b : List (Int × Int)), PySem.W.alikeAll (pys (a.map pr)) (pys (b.map pr)) = true
  | [], _ => by simp [pys, PySem.W.alikeAll]
  | _ :: _, [] => by simp [pys, PySem.W.alikeAll]
  | p :: a, q :: b => by
    have ih := alike_ts a b
    simp only [List.map_cons, pys, pr, D.py, PySem.W.alikeAll, PySem.W.alike, ih, Bool.and_self, Bool.true_and]
/-! ### what stands in a node -/
structure NdOk (n r : Nat) (q : Nd) : Prop where
  a : q.1 = aft n q.2
  t : ∀ t ∈ q.2, TkOk n t
  l : q.2.length = r
section
variable {n R : Nat}
theorem NdOk.sq {r : Nat} {q : Nd} (h1 : 0 < n) (h4 : n < 4) (h : NdOk n r q) : Sq n q.1 := by
  rw [h.a]
  exact Sq.aft h1 h4 h.t (Sq.own h1 h4)
theorem foldT_nd {r : Nat} {q : Nd} (hq : NdOk n r q) : ∀ (l : List (Int × Int)) (a : List St × List Nd), (∀ t ∈ l, TkOk n t) → (∀ x ∈ a.2, NdOk n (r + 1) x) → ∀ x ∈ (l.foldl (exp1 q) a).2, NdOk n (r + 1) x
  | [], a, _, h => h
  | t :: l, a, ht, h => by
    refine foldT_nd hq l (exp1 q a t) (fun x hx => ht x (List.mem_cons_of_mem _ hx)) ?_
    unfold exp1
    split
    · exact h
    · intro x hx
      rcases List.mem_append.mp hx with hx | hx
      · exact h x hx
      · obtain rfl := List.mem_singleton.mp hx
        refine ⟨?_, fun y hy => ?_, by simp [hq.l]⟩
        · show tkd q.1 t = aft n (q.2 ++ [t])
          rw [hq.a]
          unfold aft
          rw [List.foldl_append]
          rfl
        · rcases List.mem_append.mp hy with hy | hy
          · exact hq.t y hy
          · obtain rfl := List.mem_singleton.mp hy
            exact ht _ List.mem_cons_self
theorem foldE_nd {r : Nat} : ∀ (lv : List Nd) (a : List St × List Nd), (∀ q ∈ lv, NdOk n r q) → (∀ x ∈ a.2, NdOk n (r + 1) x) → ∀ x ∈ (lv.foldl (expT n) a).2, NdOk n (r + 1) x
  | [], a, _, h => h
  | q :: lv, a, hq, h => foldE_nd lv (expT n a q) (fun x hx => hq x (List.mem_cons_of_mem _ hx)) (foldT_nd (hq q List.mem_cons_self) _ a (fun t ht => talks_ok ht) h)
theorem rnds_nd : ∀ r, ∀ q ∈ (rnds n r).1, NdOk n r q
  | 0, q, h => by
    obtain rfl := List.mem_singleton.mp h
    exact ⟨rfl, (fun t ht => by cases ht), rfl⟩
  | r + 1, q, h => by
    rw [rnds_succ] at h
    exact foldE_nd _ _ (rnds_nd r) (fun x hx => by cases hx) q h
theorem lvls_nd {r : Nat} {q : Nd} (h : q ∈ lvls n r R) : ∃ i, i < R ∧ NdOk n i q := by
  unfold lvls at h
  obtain ⟨i, hi, h⟩ := List.mem_flatMap.mp h
  have := List.mem_range.mp hi
  exact ⟨r + i, by omega, rnds_nd _ q h⟩
/-! ### what is looked at by running -/
def szB (n R : Nat) : Bool := decide ((rnds n R).1.length = 0) && (List.range R).all fun r => decide (0 < (rnds n r).1.length) && decide ((rnds n r).2.length + 6 * (rnds n r).1.length ≤ 80000)
def ltN (q r : Nd) : Bool := decide (q.2.length < r.2.length) || (decide (q.2.length = r.2.length) && leL q.2 r.2)
def sortB : List Nd → Bool
  | [] => true
  | q :: l => l.all (ltN q) && sortB l
def closB (n : Nat) (O : List Nd) : Bool := O.all fun q => (talksOf n).all fun t => O.any fun r => decide (r.1 = tkd q.1 t) && (decide (r.2.length < q.2.length + 1) || (decide (r.2.length = q.2.length + 1) && leL r.2 (q.2 ++ [t])))
def ordB (n R : Nat) : Bool := sortB (lvls n 0 R) && closB n (lvls n 0 R) && (lvls n 0 R).any (fun r => decide (r.1 = own n) && decide (r.2 = []))
theorem fin_of (h1 : 0 < n) (h4 : n < 4) (hR : R ≤ 50) (h : szB n R = true) : Fin n R := by
  unfold szB at h
  rw [Bool.and_eq_true, decide_eq_true_eq, List.all_eq_true] at h
  obtain ⟨ha, hb⟩ := h
  have hb2 : ∀ r, r < R → 0 < (rnds n r).1.length ∧ (rnds n r).2.length + 6 * (rnds n r).1.length ≤ 80000 := fun r hr => by
    have := hb r (List.mem_range.mpr hr)
    rw [Bool.and_eq_true, decide_eq_true_eq, decide_eq_true_eq] at this
    exact this
  refine ⟨h4, hR, List.eq_nil_of_length_eq_zero ha, fun r hr e => ?_, fun r hr q hq => ⟨(rnds_nd r q hq).sq h1 h4, by have := (rnds_nd r q hq).l; omega⟩, fun r hr => (hb2 r hr).2⟩
  have := (hb2 r hr).1
  rw [e] at this
  simp at this
theorem sz1 : szB 1 1 = true := by decide +kernel
theorem sz2 : szB 2 3 = true := by decide +kernel
theorem sz3 : szB 3 5 = true := by decide +kernel
theorem or1 : ordB 1 1 = true := by decide +kernel
theorem or2 : ordB 2 3 = true := by decide +kernel
theorem or3 : ordB 3 5 = true := by decide +kernel
def Rn (n : Nat) : Nat := if n = 1 then 1 else if n = 2 then 3 else 5
abbrev ord (n : Nat) : List Nd := lvls n 0 (Rn n)
theorem fin_n (h1 : 0 < n) (h4 : n < 4) : Fin n (Rn n) := by
  have : n = 1 ∨ n = 2 ∨ n = 3 := by omega
  rcases this with rfl | rfl | rfl
  · exact fin_of (by decide) (by decide) (by decide) sz1
  · exact fin_of (by decide) (by decide) (by decide) sz2
  · exact fin_of (by decide) (by decide) (by decide) sz3
theorem ord_n (h1 : 0 < n) (h4 : n < 4) : ordB n (Rn n) = true := by
  have : n = 1 ∨ n = 2 ∨ n = 3 := by omega
  rcases this with rfl | rfl | rfl
  · exact or1
  · exact or2
  · exact or3
/-- one is not behind the other -/
def leN (a b : List (Int × Int)) : Prop := a.length < b.length ∨ a.length = b.length ∧ leL a b = true
theorem leN.trans {a b c : List (Int × Int)} (h : leN a b) (k : leN b c) : leN a c := by
  unfold leN at *
  rcases h with h | ⟨h, h'⟩ <;> rcases k with k | ⟨k, k'⟩
  · left; omega
  · left; omega
  · left; omega
  · right; exact ⟨by omega, leL_trans h' k'⟩
end
end Dn

end
section
set_option maxHeartbeats 1000000
/-! K21_E: fewest_talks, enough_talks. -/
namespace Dn
open PySem
section
variable {δ : Sl} {c : Cs} {n : Nat} {L0 : St}
/-- each seat hears itself -/
structure OwnW (n : Nat) (L : St) : Prop where
  sq : Sq n L
  own : ∀ (i : Nat) (l : List Int), L[i]? = some l → (i : Int) ∈ l
theorem need_own_ok (h : OwnW n L0) : d_need_own [.d (wb n L0)] c = .ok (.d .non) c := by
  have hl := h.sq.l
  have h4 := h.sq.hi
  refine fn_nx rfl (if_no (tor_no ((tnot_ok (tb_ok (blt (a1 (vr rfl)) (square_ok h.sq)))).trans rfl) ((tnot_ok (tb_ok (b := true) ?_)).trans rfl)))
  refine (all_bl (f := fun _ => true) (compMo (en 0 L0) (fun q => D.tup [.int q.1, lotT q.2]) (fun _ => .bl true) ?_ (small_size (by rw [en_len]; omega)) fun q hq => ⟨[some (.d (wb n L0)), some (.d (.int q.1)), some (.d (lotT q.2))], fun _ => rfl, fun c' => bin (vr rfl) (vr rfl) (l2 ?_)⟩)).trans (by simp)
  · refine (congrArg (fun r => R.bind r enum1) (a1 (attr (vr rfl) rfl rfl))).trans ?_
    simp only [bind_ok, enum1, enum_en, List.map_map]
    rfl
  · obtain ⟨_, i, e1, e2⟩ := en_mem _ _ _ hq
    have := h.own i q.2 e1
    rw [in_lot]
    have e3 : (q.1 : Int) = (i : Int) := by omega
    rw [e3]
    simp [this]
theorem links_ps (h : Sq n L0) : ∃ ps : List (Int × Int), sortL ((lnk 0 L0).map pr) = ps.map pr ∧ (∀ p, p ∈ ps ↔ p ∈ lnk 0 L0) ∧ ps.length ≤ 30 := by
  have hw := h.w
  obtain ⟨ps, hps⟩ : ∃ ps : List (Int × Int), sortL ((lnk 0 L0).map pr) = ps.map pr := by
    have : ∀ xs : List D, (∀ x ∈ xs, ∃ p, x = pr p) → ∃ ps : List (Int × Int), xs = ps.map pr := by
      intro xs
      induction xs with
      | nil => intro _; exact ⟨[], rfl⟩
      | cons x r ih =>
        intro hh
        obtain ⟨p, rfl⟩ := hh x List.mem_cons_self
        obtain ⟨ps, rfl⟩ := ih fun y hy => hh y (List.mem_cons_of_mem _ hy)
        exact ⟨p :: ps, rfl⟩
    refine this _ fun x hx => ?_
    obtain ⟨q, _, rfl⟩ := List.mem_map.mp (sortL_mem.mp hx)
    exact ⟨q, rfl⟩
  have pin : ∀ p q, pr p = pr q → p = q := fun p q e => by
    obtain ⟨a, b⟩ := p
    obtain ⟨x, y⟩ := q
    simp only [pr] at e
    cases e; rfl
  refine ⟨ps, hps, fun p => ?_, ?_⟩
  · constructor
    · intro hp
      have : pr p ∈ sortL ((lnk 0 L0).map pr) := by rw [hps]; exact List.mem_map.mpr ⟨p, hp, rfl⟩
      obtain ⟨q, hq, e⟩ := List.mem_map.mp (sortL_mem.mp this)
      rw [pin _ _ e] at hq; exact hq
    · intro hp
      have : pr p ∈ sortL ((lnk 0 L0).map pr) := sortL_mem.mpr (List.mem_map.mpr ⟨p, hp, rfl⟩)
      rw [hps] at this
      obtain ⟨q, hq, e⟩ := List.mem_map.mp this
      rw [pin _ _ e] at hq; exact hq
  · have e := congrArg List.length hps
    rw [sortL_merge, List.length_mergeSort, List.length_map, List.length_map] at e
    have := lnk_len 0 L0 (fun l hl => by have := (hw.ok l hl).len hw.hi; omega)
    have := hw.l3
    omega
theorem lens10 (h : Sq n L0) : ∀ l ∈ L0, l.length ≤ 10 := fun l hl => by have := (h.w.ok l hl).len h.w.hi; omega
abbrev fwB : M := mBin (lift2 (eqP false)) (mVar 0) (mVar 1)
theorem fw_asks : Asks n (lamG 1 2 [1] fwB [some (.d (wb n L0)), some (.d (qs L0))]) (fun L => decide (L = L0)) := by
  intro L c _
  have e : eqP false (qs L) (qs L0) = some (.bl (decide (L = L0))) := by
    have ok : ((qs L).ok 60 && (qs L0).ok 60) = true := by rw [qs_ok 58, qs_ok 58]; rfl
    exact (if_pos ok).trans (congrArg (fun b => some (D.bl b)) (eqD_qs L L0))
  have r : sRet fwB [some (.d (qs L)), some (.d (qs L0))] c = .rt (.d (.bl (decide (L = L0)))) c := ret_ok (bin (vr rfl) (vr rfl) (l2 e))
  show exitR false c.length (sRet fwB [some (.d (qs L)), some (.d (qs L0))] c) = _
  rw [r]
  simp
theorem lamN_ok {j np m : Nat} {gd : (List S → Cs → R S) → List S → Cs → R S} {js : List Nat} {Bd : M} {B : MA} {s : D} {r : R S} (ht : hasTb j c = true) (hB : B δ c = .ok [.d s] c) (h : gd (lamG np m js Bd δ) [.d s, .f] c = r) : mLamN j gd np m js Bd B δ c = r := by
  unfold mLamN
  rw [hB]
  simp only [bind_ok]
  exact (if_pos ⟨ht, rfl⟩).trans h
theorem fewest_ok (h : OwnW n L0) (ht : hasTb 0 c = true) : d_fewest_talks [.d (wb n L0)] c = .ok (.d (ansD ((ord n).find? fun q => decide (q.1 = L0)))) c := by
  have sq := h.sq
  have F := fin_n sq.lo sq.hi
  exact fn_rt rfl (seq_go (expr_ok (blt (a1 (vr rfl)) (need_own_ok h))) (seq_go (set_ok (meth (vr rfl) rfl rfl (lots_ok sq.w.l3 (lens10 sq)))) (ret_ok (lamN_ok ht (a1 (attr (vr rfl) rfl rfl)) (shortest_ok F sq.lo fw_asks)))))
abbrev enB : M := (mBlt (liftN allD) (mCons (mComp (iSeq (mVar 1)) (gtTup (gtCons (gtName 2) (gtCons (gtName 3) gtNil))) mtYes (mBin (lift2 (inP false)) (mVar 2) (mBin (lift2 ixD) (mVar 0) (mVar 3))) [2, 3]) mNil))
theorem en_asks (h : Sq n L0) : Asks n (lamG 1 4 [1] enB [some (.d (wb n L0)), some (.d (.lst (sortL ((lnk 0 L0).map pr))))]) (fun L => wthn L0 L) := by
  intro L c hL
  obtain ⟨ps, hps, hmem, hlen⟩ := links_ps h
  have e0 : wthn L0 L = ps.all fun q => decide (q.1 ∈ L.getD q.2.toNat []) := by
    rw [Bool.eq_iff_iff, wthn_iff, List.all_eq_true]
    constructor
    · rintro hh ⟨x, y⟩ hp
      obtain ⟨i, e, l, hl, hx⟩ := mem_lnk.mp ((hmem _).mp hp)
      obtain ⟨m, hm, hx2⟩ := hh i x ⟨l, hl, hx⟩
      have ei : y.toNat = i := by omega
      show decide (x ∈ L.getD y.toNat []) = true
      rw [ei, List.getD_eq_getElem?_getD, hm]
      simpa using hx2
    · rintro hh i x ⟨l, hl, hx⟩
      have hp : (x, (i : Int)) ∈ ps := (hmem _).mpr (mem_lnk.mpr ⟨i, by omega, l, hl, hx⟩)
      have := hh _ hp
      rw [decide_eq_true_eq] at this
      have this : x ∈ L.getD (i : Int).toNat [] := this
      rw [Int.toNat_natCast, List.getD_eq_getElem?_getD] at this
      cases hm : L[i]? with
      | none => rw [hm] at this; simp at this
      | some m => rw [hm] at this; exact ⟨m, hm, by simpa using this⟩
  have r : sRet enB [some (.d (qs L)), some (.d (.lst (sortL ((lnk 0 L0).map pr)))), none, none] c = .rt (.d (.bl (wthn L0 L))) c := by
    rw [hps, e0]
    refine ret_ok (all_bl (compMo ps pr (fun q => .bl (decide (q.1 ∈ L.getD q.2.toNat []))) (seqI (vr rfl) (itm (.inl rfl))) (small_size (by omega)) fun q hq => ⟨[some (.d (qs L)), some (.d (.lst (ps.map pr))), some (.d (.int q.1)), some (.d (.int q.2))], fun _ => rfl, fun c' => bin (vr rfl) (bin (vr rfl) (vr rfl) (l2 (d := lotL (L.getD q.2.toNat [])) ?_)) (l2 (in_lotS q.1 _ (seq_L _)))⟩))
    obtain ⟨i, e, l, hl, _⟩ := mem_lnk.mp ((hmem (q.1, q.2)).mp hq)
    have hi : i < L0.length := (List.getElem?_eq_some_iff.mp hl).1
    have hn : i < L.length := by rw [hL.l, ← h.l]; exact hi
    have e2 : q.2 = ((i : Nat) : Int) := by omega
    rw [e2, Int.toNat_natCast]
    refine (atI_nat (xs := L.map lotL) (by simpa using hn)).trans ?_
    rw [List.getElem_map, List.getD_eq_getElem?_getD, List.getElem?_eq_getElem hn]
    rfl
  show exitR false c.length (sRet enB [some (.d (qs L)), some (.d (.lst (sortL ((lnk 0 L0).map pr)))), none, none] c) = _
  rw [r]
  simp
theorem enough_ok (h : OwnW n L0) (ht : hasTb 1 c = true) : d_enough_talks [.d (wb n L0)] c = .ok (.d (ansD ((ord n).find? fun q => wthn L0 q.1))) c := by
  have sq := h.sq
  have F := fin_n sq.lo sq.hi
  exact fn_rt rfl (seq_go (expr_ok (blt (a1 (vr rfl)) (need_own_ok h))) (seq_go (set_ok (meth (vr rfl) rfl rfl (links_ok sq.w.l3 (lens10 sq)))) (ret_ok (lamN_ok ht (a1 (attr (vr rfl) rfl rfl)) (shortest_ok F sq.lo (en_asks sq))))))
end
end Dn

end
section
set_option maxHeartbeats 1000000
/-! K21_F: the law's own talks. -/
namespace Dn
open PySem
section
variable {δ : Sl} {c : Cs} {n : Nat} {ls : List (List Int)} {p : Int × Int}
theorem frz_nx {js : List Nat} {m : MS} {δ1 : Sl} {c1 : Cs} (e : m δ c = .nx δ1 c1) : sFrz js m δ c = .nx (frzSl c.length c1 js δ 0 δ1) (c1.take c.length) := by unfold sFrz; rw [e]
theorem seqs2 {a b : MS} {δ1 δ2 : Sl} {c1 c2 : Cs} (h : a δ c = .nx δ1 c1) (k : b δ1 c1 = .nx δ2 c2) : seqs [a, b] δ c = .nx δ2 c2 := seq_go h (seq_go k rfl)
theorem frz_old {n0 k i : Nat} {cc : Cs} {js : List Nat} {δ0 : Sl} (h : k < n0) : frz1 n0 cc js δ0 i (some (.c k)) = some (.c k) := by
  show (if k < n0 then some (S.c k) else if js.contains i = true then (frz n0 cc 8 (.c k)).map S.d else none) = _
  rw [if_pos h]
theorem frz_lst {n0 i : Nat} {cc : Cs} {xs : List D} {js : List Nat} {δ0 : Sl} (hk : cc[n0]? = some (.lst xs)) (hj : js.contains i = true) : frz1 n0 cc js δ0 i (some (.c n0)) = some (.d (.lst xs)) := by
  show (if n0 < n0 then some (S.c n0) else if js.contains i = true then (frz n0 cc 8 (.c n0)).map S.d else none) = _
  rw [if_neg (Nat.lt_irrefl _), if_pos hj]
  simp [frz, hk]
theorem compK {α : Type} {I : MI} {g : GT} {A : M} {vs : List Nat} (ys : List α) (q : α → S) (f : α → D) (hI : I δ c = .ok (.xs (ys.map q)) c) (hl : ys.length ≤ PySem.sizeLine)
    (h : ∀ y ∈ ys, ∀ acc, ∃ δ1, g (q y) (c ++ [.lst acc]) (wipeD δ vs) = some δ1 ∧ A δ1 (c ++ [.lst acc]) = .ok (.d (f y)) (c ++ [.lst acc])) :
    mCompK I g mtYes A vs δ c = .ok (.c c.length) (c ++ [.lst (ys.map f)]) := by
  unfold mCompK
  rw [hI]
  simp only [bind_ok, cloopI]
  rw [cloop_map (p := fun _ => true) (f := f) ys [] (fun y hy acc => ?_) (by simpa using hl)]
  · rw [List.filter_eq_self.mpr (fun _ _ => rfl)]
    simp [finK]
  · obtain ⟨δ1, h1, h2⟩ := h y hy acc
    exact ⟨δ1, h1, rfl, fun _ => h2⟩
theorem ix_map {α : Type} {q : α → D} {ys : List α} {j : Int} {d : α} (h0 : 0 ≤ j) (h1 : j < (ys.length : Int)) : ixD (.lst (ys.map q)) (.int j) = some (q (ys.getD j.toNat d)) := by
  obtain ⟨k, rfl⟩ : ∃ k : Nat, j = k := ⟨j.toNat, by omega⟩
  have hk : k < ys.length := by omega
  refine (atI_nat (xs := ys.map q) (n := k) (by simpa using hk)).trans ?_
  rw [List.getElem_map, Int.toNat_natCast, List.getD_eq_getElem?_getD, List.getElem?_eq_getElem hk]
  rfl
theorem en_get : ∀ (ls : List (List Int)) (m i : Nat) (h : i < (en m ls).length) (h2 : i < ls.length), (en m ls)[i] = (m + i, ls[i])
  | l :: r, m, 0, _, _ => rfl
  | l :: r, m, i + 1, h, h2 => by
    have := en_get r (m + 1) i (by simpa [en] using h) (by simpa using h2)
    simp only [en, List.getElem_cons_succ, this]
    congr 1
    omega
theorem tkd_set (ls : List (List Int)) (p : Int × Int) (h0 : 0 ≤ p.2) (h1 : p.2 < (ls.length : Int)) : tkd ls p = ls.set p.2.toNat (uni [ls.getD p.2.toNat [], ls.getD p.1.toNat []]) := by
  unfold tkd
  refine List.ext_getElem (by rw [List.length_map, en_len, List.length_set]) fun i i1 i2 => ?_
  have hi : i < ls.length := by rwa [List.length_set] at i2
  rw [List.getElem_map, en_get ls 0 i (by rw [en_len]; exact hi) hi, List.getElem_set]
  simp only [Nat.zero_add]
  by_cases e : (i : Int) = p.2
  · rw [if_pos e, if_pos (by omega), show p.2.toNat = i by omega]
    simp [hi]
  · rw [if_neg e, if_neg (by omega)]
theorem sort_uni {s : Int} {a b : List Int} (hs : s < 4) (ha : ∀ x ∈ a, 0 ≤ x ∧ x < s) (hb : ∀ x ∈ b, 0 ≤ x ∧ x < s) : sortU (a ++ b) = uni [b, a] := by
  refine lt_unique (lt_sortU _) uni_lt fun x => ?_
  rw [mem_sortU, mem_uni, List.mem_append]
  constructor
  · rintro (h | h)
    · exact ⟨three (ha x h) hs, a, by simp, h⟩
    · exact ⟨three (hb x h) hs, b, by simp, h⟩
  · rintro ⟨_, l, hl, hx⟩
    rcases List.mem_cons.mp hl with rfl | hl
    · exact .inr hx
    · rw [List.mem_singleton.mp hl] at hx; exact .inl hx
theorem intsOf_map (l : List Int) : intsOf (l.map D.int) = some l := by
  induction l with
  | nil => rfl
  | cons x r ih => simp [intsOf, ih]
theorem sortSet_ok {A : M} {l : List Int} {c' : Cs} (h : A δ c = .ok (.d (lotL l)) c') (hl : l.length ≤ 50) : mSortSet A δ c = .ok (.d (lotL (sortU l))) c' := by
  unfold mSortSet
  rw [h]
  simp only [bind_ok, sortSet, lotL, deref, intsOf_map]
  rw [if_pos hl]
theorem addL {A B : M} {xs ys : List D} {c1 c2 : Cs} (hA : A δ c = .ok (.d (.lst xs)) c1) (hB : B δ c1 = .ok (.d (.lst ys)) c2) (h : xs.length + ys.length ≤ 1000) : mBin (lift2 addD) A B δ c = .ok (.d (.lst (xs ++ ys))) c2 := bin hA hB (l2 (if_pos (small_size h)))
theorem app_mv {A : M} {B : MA} {k : Nat} {x : D} {c1 c2 : Cs} {acc a0 : List D} (hA : A δ c = .ok (.c k) c1) (h1 : c1[k]? = some (.lst a0)) (hB : B δ c1 = .ok [.d x] c2) (h2 : c2[k]? = some (.lst acc)) (hl : acc.length < sizeLine) : mAppend A B δ c = .ok (.d .non) (c2.set k (.lst (acc ++ [x]))) := by
  unfold mAppend
  rw [hA]
  simp only [bind_ok, h1]
  rw [hB]
  simp only [bind_ok, appendC, h2]
  rw [if_pos hl]
theorem fn_cut {kp : Bool} {np m : Nat} {b : MS} {ss : List S} {c' e : Cs} {x : D} (h : ss.length = np) (hl : c'.length = c.length) (k : b (ss.map some ++ List.replicate (m - np) none) c = .rt (.d x) (c' ++ e)) : fnG kp np m b ss c = .ok (.d x) c' := by
  rw [fnG_eq h, k]
  simp [exitR, ← hl]
abbrev tk1 : MS := (sSet 2 (mCompK (iSeq (mVar 0)) (gtName 3) mtYes (mBlt (liftN listD) (mCons (mVar 3) mNil)) [3]))
abbrev tk2 : MS := (sSetIx (mVar 2) (mBin (lift2 ixD) (mVar 1) (mC (.int 1))) (mSortSet (mBin (lift2 addD) (mBin (lift2 ixD) (mVar 0) (mBin (lift2 ixD) (mVar 1) (mC (.int 0)))) (mBin (lift2 ixD) (mVar 0) (mBin (lift2 ixD) (mVar 1) (mC (.int 1)))))))
theorem law_talked_ok (h : Sq n ls) (k : TkOk n p) : d_law_talked [.d (qs ls), .d (pr p)] c = .ok (.d (qs (tkd ls p))) c := by
  have hl := h.l
  have h4 := h.hi
  obtain ⟨a, b⟩ := p
  have k1 : 0 ≤ a := k.a0; have k2 : a < n := k.a1; have k3 : 0 ≤ b := k.b0; have k4 : b < n := k.b1
  have lt : ∀ j : Int, 0 ≤ j → j < n → ls.getD j.toNat [] ∈ ls := fun j j0 j1 => getD_mem (by omega)
  have oa := h.w.ok _ (lt a k1 k2)
  have ob := h.w.ok _ (lt b k3 k4)
  have la := oa.len (by omega)
  have lb := ob.len (by omega)
  have f1 : tk1 [some (.d (qs ls)), some (.d (pr (a, b))), none, none] c = .nx [some (.d (qs ls)), some (.d (pr (a, b))), some (.c c.length), none] (c ++ [.lst (ls.map lotL)]) :=
    set_ok (compK ls (fun l => S.d (lotL l)) lotL (seqI (vr rfl) (itm (.inl rfl))) (small_size (by omega)) fun l hl2 acc => ⟨_, rfl, blt (a1 (vr rfl)) (lN1 rfl)⟩)
  have i0 : ∀ {s2 s3 : Option S} {c' : Cs}, mBin (lift2 ixD) (mVar 1) (mC (.int 0)) [some (.d (qs ls)), some (.d (pr (a, b))), s2, s3] c' = .ok (.d (.int a)) c' := bin (vr rfl) rfl (l2 rfl)
  have i1 : ∀ {s2 s3 : Option S} {c' : Cs}, mBin (lift2 ixD) (mVar 1) (mC (.int 1)) [some (.d (qs ls)), some (.d (pr (a, b))), s2, s3] c' = .ok (.d (.int b)) c' := bin (vr rfl) rfl (l2 rfl)
  have hset : (ls.map lotL).set b.toNat (lotL (sortU (ls.getD a.toNat [] ++ ls.getD b.toNat []))) = (tkd ls (a, b)).map lotL := by
    rw [tkd_set ls (a, b) k3 (by omega), List.map_set, sort_uni (s := n) (by omega) oa.pl ob.pl]
  have f2 : tk2 [some (.d (qs ls)), some (.d (pr (a, b))), some (.c c.length), none] (c ++ [.lst (ls.map lotL)]) = .nx [some (.d (qs ls)), some (.d (pr (a, b))), some (.c c.length), none] (c ++ [.lst ((tkd ls (a, b)).map lotL)]) := by
    refine (set_cell (n := c.length) (xs := ls.map lotL) (by simp) (sortSet_ok (l := ls.getD a.toNat [] ++ ls.getD b.toNat []) ?_ (by rw [List.length_append]; omega)) (vr rfl) i1 (j := b.toNat) ?_ hset).trans ?_
    · refine (addL (xs := (ls.getD a.toNat []).map D.int) (ys := (ls.getD b.toNat []).map D.int) (bin (vr rfl) i0 (l2 (ix_map (q := lotL) (d := []) k1 (by omega)))) (bin (vr rfl) i1 (l2 (ix_map (q := lotL) (d := []) k3 (by omega)))) (by rw [List.length_map, List.length_map]; omega)).trans ?_
      unfold lotL
      rw [List.map_append]
    · simp only [L2.ixN, List.length_map]
      rw [if_pos (by omega), if_pos (by omega)]
    · rw [List.set_append_right _ _ (Nat.le_refl _)]
      simp
  have e3 := frz_nx (js := [2]) (seqs2 f1 f2)
  rw [List.take_left] at e3
  refine fn_rt rfl (seq_go e3 (ret_ok (vr ?_)))
  rw [frzSl_get]
  show Option.map (frz1 _ _ _ _ (0 + 2)) (some (some (.c c.length))) = _
  rw [Option.map_some, frz_lst (xs := (tkd ls (a, b)).map lotL) (by simp) rfl]
  rfl
abbrev atB : MS := (sSet 1 (mBin (lift2 addD) (mVar 1) (mComp (iRng (mCons (mVar 0) mNil)) (gtName 3) (mTB (mBin (eqY eqs 4 true) (mVar 3) (mVar 2))) (mTup (mCons (mVar 2) (mCons (mVar 3) mNil))) [3])))
theorem law_all_ok (h : n < 4) : d_law_all_talks [.d (.int n)] c = .ok (.d (.lst ((talksOf n).map pr))) c := by
  obtain ⟨δ', c', e, y2, rfl, hc⟩ := for_inv (δ := [some (.d (.int n)), some (.d (.lst [])), none, none]) (c := c) (I := iRng (mCons (mVar 0) mNil)) (g := gtName 2) (B := atB) (List.range n) (fun (i : Nat) => sI i)
    (fun done δ c' => ∃ y2, δ = [some (.d (.int n)), some (.d (.lst ((done.flatMap fun (i : Nat) => ((List.range n).filter fun (j : Nat) => !decide ((i : Int) = (j : Int))).map fun (j : Nat) => ((i : Int), (j : Int))).map pr))), y2, none] ∧ c' = c) (rngN_ok (a1 (vr rfl)) (by omega)) ⟨none, rfl, rfl⟩ (by
      rintro done i rest δ c' hy ⟨y2, rfl, rfl⟩
      have hi : i < n := List.mem_range.mp (by rw [hy]; simp)
      have hd : done.length ≤ 3 := by
        have := congrArg List.length hy
        rw [List.length_range, List.length_append, List.length_cons] at this
        omega
      have fl : ∀ l : List Nat, (l.flatMap fun (i : Nat) => ((List.range n).filter fun (j : Nat) => !decide ((i : Int) = (j : Int))).map fun (j : Nat) => ((i : Int), (j : Int))).length ≤ l.length * 4 := fun l => by
        induction l with
        | nil => simp
        | cons x l ih =>
          have := List.length_filter_le (fun (j : Nat) => !decide ((x : Int) = (j : Int))) (List.range n)
          rw [List.length_range] at this
          simp only [List.flatMap_cons, List.length_append, List.length_map, List.length_cons]
          omega
      have cm : mComp (iRng (mCons (mVar 0) mNil)) (gtName 3) (mTB (mBin (eqY eqs 4 true) (mVar 3) (mVar 2))) (mTup (mCons (mVar 2) (mCons (mVar 3) mNil))) [3] [some (.d (.int n)), some (.d (.lst ((done.flatMap fun (i : Nat) => ((List.range n).filter fun (j : Nat) => !decide ((i : Int) = (j : Int))).map fun (j : Nat) => ((i : Int), (j : Int))).map pr))), some (sI i), none] c' = .ok (.d (.lst (((List.range n).filter fun (j : Nat) => !decide ((i : Int) = (j : Int))).map fun (j : Nat) => pr ((i : Int), (j : Int))))) c' :=
        compFo (List.range n) (fun (j : Nat) => D.int (j : Int)) (fun (j : Nat) => !decide ((i : Int) = (j : Int))) (fun (j : Nat) => pr ((i : Int), (j : Int))) (rngN_ok (a1 (vr rfl)) (by omega)) (small_size (by simp; omega)) fun j _ => ⟨_, fun _ => rfl, fun c2 => (tb_ok (bin (vr rfl) (vr rfl) (eqY_plain rfl rfl))).trans (by
          congr 1
          show (!eqD (.int (j : Int)) (.int (i : Int))) = _
          unfold eqD
          by_cases e : i = j
          · subst e; simp
          · have e1 : ¬ (i : Int) = (j : Int) := by omega
            have e2 : ¬ (j : Int) = (i : Int) := by omega
            rw [beq_eq_false_iff_ne.mpr e2, decide_eq_false e1]), fun c2 => tup2 (vr rfl) (vr rfl)⟩
      have l1 := fl done
      have l2' := List.length_filter_le (fun (j : Nat) => !decide ((i : Int) = (j : Int))) (List.range n)
      rw [List.length_range] at l2'
      refine ⟨_, _, c', rfl, set_ok (addL (vr rfl) cm (by rw [List.length_map, List.length_map]; omega)), some (sI i), ?_, rfl⟩
      simp [List.map_map, Function.comp_def])
  rw [hc] at e
  exact fn_rt rfl (seq_go (set_ok (s := .d (.lst [])) rfl) (seq_go e (ret_ok (vr rfl))))
end
end Dn

end
section
set_option maxHeartbeats 1000000
/-! K21_G: the law's own first lists of talks. -/
namespace Dn
open PySem
def lvS (n : Nat) (l : List Nd) : List Nd := l.flatMap fun q => ((talksOf n).filter fun t => !decide (tkd q.1 t = q.1)).map fun t => (tkd q.1 t, q.2 ++ [t])
def addF (f : List Nd) (q : Nd) : List Nd := if f.any (fun r => decide (r.1 = q.1)) then f else f ++ [q]
/-- the levels that are gone through: r the length of the first list -/
def lvR (n : Nat) : Nat → List Nd
  | 0 => [(own n, [])]
  | r + 1 => lvS n (lvR n r)
def firR (n : Nat) : Nat → List Nd
  | 0 => []
  | r + 1 => (lvR n r).foldl addF (firR n r)
theorem fir3 : firR 3 6 = ord 3 := by decide +kernel
theorem fir2 : firR 2 3 = ord 2 ∧ lvR 2 3 = [] := by decide +kernel
theorem fir1 : firR 1 1 = ord 1 ∧ lvR 1 1 = [] := by decide +kernel
theorem lv3_len : ∀ r ≤ 5, (lvR 3 r).length ≤ 700 := by decide +kernel
end Dn

end
section
set_option maxHeartbeats 1000000
/-! K21_H: the law's own first lists of talks, walked. -/
namespace Dn
open PySem
abbrev fw0 : MS := (sIf (mTB (mBin (eqG eqs kEq 4) (mComp (iSeq (mVar 1)) (gtName 8) (mTB (mBin (eqG eqs kEq 4) (mBin (lift2 ixD) (mVar 8) (mC (.int 0))) (mVar 3))) (mVar 8) [8]) (mLst mNil))) (sExpr (mAppend (mVar 1) (mCons (mTup (mCons (mVar 3) (mCons (mVar 4) mNil))) mNil))) sNil)
abbrev fw1 : MS := (sFor (iSeq (mVar 2)) (gtTup (gtCons (gtName 3) (gtCons (gtName 4) gtNil))) fw0)
abbrev fw2 : MS := (sIf (mtAnd (mTB (mBin (lift2 ltD) (mBin (lift2 ixD) (mVar 6) (mC (.int 0))) (mVar 0))) (mTB (mBin (eqY eqs 4 true) (mBlt d_law_talked (mCons (mVar 3) (mCons (mVar 6) mNil))) (mVar 3)))) (sExpr (mAppend (mVar 5) (mCons (mTup (mCons (mBlt d_law_talked (mCons (mVar 3) (mCons (mVar 6) mNil))) (mCons (mBin (lift2 addD) (mVar 4) (mLst (mCons (mVar 6) mNil))) mNil))) mNil))) sNil)
abbrev fw3 : MS := (sFor (iSeq (mBlt d_law_all_talks (mCons (mVar 0) mNil))) (gtName 6) fw2)
abbrev fw4 : MS := (sFor (iSeq (mVar 2)) (gtTup (gtCons (gtName 3) (gtCons (gtName 4) gtNil))) fw3)
abbrev fw5 : MS := (sFrz [5] (seqs [(sSet 5 (mCell mNil)), fw4]))
abbrev fw6 : MS := (sSet 2 (mIf (mTB (mBin (lift2 ltD) (mBlt (lenX (lenO lens)) (mCons (mBin (lift2 ixD) (mBin (lift2 ixD) (mVar 2) (mC (.int 0))) (mC (.int 1))) mNil)) (mC (.int 5)))) (mVar 5) (mLst mNil)))
abbrev fwL : MS := sSeq fw1 (sSeq fw5 fw6)
abbrev fwC : MT := (mTB (mBin (eqY eqs 4 true) (mVar 2) (mLst mNil)))
section
variable {δ : Sl} {c : Cs} {n : Nat} {ls : List (List Int)} {p : Int × Int} {q : Nd} {lv f : List Nd}
theorem cloopC_filt {α : Type} {n : Nat} {g : GT} {C : MT} {A : M} {δ : Sl} {q : α → S} {p : α → Bool} {f : α → D} {all : List α} (hn : ∀ acc, cellL n (c ++ [.lst acc]) = some (all.map q)) : ∀ (ys : List α) (i : Nat) (acc : List D), all.drop i = ys → (∀ y ∈ all, ∀ acc, ∃ δ1, g (q y) (c ++ [.lst acc]) δ = some δ1 ∧ (C δ1 (c ++ [.lst acc]) = .ok (p y) (c ++ [.lst acc]) ∧ (p y = true → A δ1 (c ++ [.lst acc]) = .ok (.d (f y)) (c ++ [.lst acc])))) → acc.length + ys.length ≤ PySem.sizeLine →
    cloopC n g C (fun δ1 c1 => (A δ1 c1).bindN (push c.length)) δ (ys.length + 1) i (c ++ [.lst acc]) = .ok () (c ++ [.lst (acc ++ (ys.filter p).map f)])
  | [], i, acc, e, h, _ => by
    have hi : all.length ≤ i := List.drop_eq_nil_iff.mp e
    unfold cloopC
    simp only [hn acc]
    rw [List.getElem?_eq_none (by simpa using hi)]
    simp
  | y :: ys, i, acc, e, h, hl => by
    simp only [List.length_cons] at hl
    have hi : all[i]? = some y := by
      have := congrArg List.head? e
      rwa [List.head?_drop] at this
    have hm : y ∈ all := List.mem_of_getElem? hi
    obtain ⟨δ1, h1, h3, h4⟩ := h y hm acc
    have ed : all.drop (i + 1) = ys := by rw [← List.drop_drop, e]; rfl
    unfold cloopC
    have e1 : (all.map q)[i]? = some (q y) := by rw [List.getElem?_map, hi]; rfl
    simp only [hn acc, e1, h1, h3, bindN_ok]
    by_cases hp : p y = true
    · rw [if_pos hp, h4 hp]
      simp only [bindN_ok, push_at (show acc.length < PySem.sizeLine by omega)]
      rw [List.length_cons, cloopC_filt hn ys (i + 1) (acc ++ [f y]) ed h (by simp; omega), List.filter_cons_of_pos hp]
      simp
    · rw [if_neg hp, List.length_cons, cloopC_filt hn ys (i + 1) acc ed h (by omega), List.filter_cons_of_neg hp]
theorem compFC {α : Type} {n : Nat} {I : MI} {g : GT} {C : MT} {A : M} {vs : List Nat} (ys : List α) (q : α → S) (p : α → Bool) (f : α → D) (hI : I δ c = .ok (.cell n) c) (hn : ∀ acc, cellL n (c ++ [.lst acc]) = some (ys.map q)) (hl : ys.length ≤ PySem.sizeLine)
    (h : ∀ y ∈ ys, ∀ acc, ∃ δ1, g (q y) (c ++ [.lst acc]) (wipeD δ vs) = some δ1 ∧ (C δ1 (c ++ [.lst acc]) = .ok (p y) (c ++ [.lst acc]) ∧ (p y = true → A δ1 (c ++ [.lst acc]) = .ok (.d (f y)) (c ++ [.lst acc])))) : mComp I g C A vs δ c = .ok (.d (.lst ((ys.filter p).map f))) c := by
  unfold mComp
  rw [hI]
  simp only [bind_ok, cloopI, hn, List.length_map]
  rw [cloopC_filt hn ys 0 [] rfl h (by simpa using hl)]
  simp [finC]
abbrev fz (n : Nat) (k : Nat) (lv : List Nd) (s3 s4 s5 s6 : Option S) : Sl := [some (.d (.int n)), some (.c k), some (.d (.lst (lv.map qn))), s3, s4, s5, s6, none, none]
theorem eqY_qs (A B : St) : eqY eqs 4 true (.d (qs A)) (.d (qs B)) c = .ok (.d (.bl (!decide (A = B)))) c := by
  rw [eqY_plain (qs_ok 58 A) (qs_ok 58 B), eqD_qs]
  rfl
theorem eqG_qs (A B : St) : eqG eqs kEq 4 (.d (qs A)) (.d (qs B)) c = .ok (.d (.bl (decide (A = B)))) c := by
  rw [eqG_plain (qs_ok 58 A) (qs_ok 58 B), eqD_qs]
theorem eqL_nil (xs : List Nd) : eqD (.lst (xs.map qn)) (.lst []) = decide (xs = []) := by
  cases xs with
  | nil => unfold eqD; simp [eqDs]
  | cons x xs => unfold eqD; simp [eqDs]
theorem nd_ok (xs : List Nd) : (D.lst (xs.map qn)).ok 60 = true := by
  simp only [D.ok]
  exact oks_map (qn_ok 56) xs
theorem fw0_ok {k : Nat} {s5 s6 : Option S} (hk : c[k]? = some (.lst (f.map qn))) (hf : f.length ≤ 5000) : fw0 (fz n k lv (some (.d (qs q.1))) (some (.d (ts q.2))) s5 s6) c = .nx (fz n k lv (some (.d (qs q.1))) (some (.d (ts q.2))) s5 s6) (c.set k (.lst ((addF f q).map qn))) := by
  have hc : cellL k c = some ((f.map qn).map S.d) := by unfold cellL; rw [hk]
  have cm : mComp (iSeq (mVar 1)) (gtName 8) (mTB (mBin (eqG eqs kEq 4) (mBin (lift2 ixD) (mVar 8) (mC (.int 0))) (mVar 3))) (mVar 8) [8] (fz n k lv (some (.d (qs q.1))) (some (.d (ts q.2))) s5 s6) c = .ok (.d (.lst ((f.filter fun r => decide (r.1 = q.1)).map qn))) c := by
    refine compFC f (fun r => S.d (qn r)) (fun r => decide (r.1 = q.1)) qn (n := k) ?_ (fun acc => cellL_app (by rw [hc, List.map_map]; rfl)) (Nat.le_trans hf (by decide)) fun r _ acc => ⟨_, rfl, tb_ok (bin (bin (vr rfl) rfl (l2 rfl)) (vr rfl) (eqG_qs _ _)), fun _ => vr rfl⟩
    unfold iSeq
    rw [vr (s := .c k) rfl]
    simp only [bind_ok, items, hc]
  have tst : mTB (mBin (eqG eqs kEq 4) (mComp (iSeq (mVar 1)) (gtName 8) (mTB (mBin (eqG eqs kEq 4) (mBin (lift2 ixD) (mVar 8) (mC (.int 0))) (mVar 3))) (mVar 8) [8]) (mLst mNil)) (fz n k lv (some (.d (qs q.1))) (some (.d (ts q.2))) s5 s6) c = .ok (!f.any fun r => decide (r.1 = q.1)) c := by
    refine (tb_ok (bin cm (y := .d (.lst [])) rfl (eqG_plain (nd_ok _) rfl))).trans ?_
    rw [eqL_nil]
    congr 1
    cases h : f.any fun r => decide (r.1 = q.1) with
    | true =>
      obtain ⟨r, hr, hr2⟩ := List.any_eq_true.mp h
      refine decide_eq_false fun z => ?_
      have := List.mem_filter (p := fun r : Nd => decide (r.1 = q.1)).mpr ⟨hr, hr2⟩
      rw [z] at this
      cases this
    | false =>
      refine decide_eq_true (List.filter_eq_nil_iff.mpr fun r hr z => ?_)
      rw [List.any_eq_false] at h
      exact h r hr z
  cases h : f.any fun r => decide (r.1 = q.1) with
  | true =>
    rw [h] at tst
    have : addF f q = f := if_pos h
    have lk := List.getElem?_eq_some_iff.mp hk
    have same : c.set k (.lst (f.map qn)) = c := by rw [← lk.2, List.set_getElem_self]
    rw [this, same]
    exact if_no tst
  | false =>
    rw [h] at tst
    have : addF f q = f ++ [q] := if_neg (by rw [h]; decide)
    rw [this]
    refine (if_t tst).trans (expr_ok ((app_mv (x := qn q) (vr rfl) hk (a1 (tup2 (vr rfl) (vr rfl))) hk ?_).trans (by rw [List.map_append]; rfl)))
    rw [List.length_map]
    exact Nat.lt_of_le_of_lt hf (by decide)
theorem addF_len (f : List Nd) (q : Nd) : (addF f q).length ≤ f.length + 1 := by
  unfold addF
  split <;> simp
theorem fold_len : ∀ (lv f : List Nd), (lv.foldl addF f).length ≤ f.length + lv.length
  | [], f => by simp
  | q :: lv, f => by
    have := fold_len lv (addF f q)
    have := addF_len f q
    simp only [List.foldl_cons, List.length_cons]
    omega
theorem seq_lv {A : M} (h : A δ c = .ok (.d (.lst (lv.map qn))) c) : iSeq A δ c = .ok (.xs (lv.map fun q => S.d (.tup [qs q.1, ts q.2]))) c := seqI h (by
  show R.ok (Src.xs ((lv.map qn).map S.d)) c = _
  rw [List.map_map]
  rfl)
theorem fw1_ok {k : Nat} {s3 s4 s5 s6 : Option S} (hk : c[k]? = some (.lst (f.map qn))) (hf : f.length + lv.length ≤ 5000) : ∃ y3 y4, fw1 (fz n k lv s3 s4 s5 s6) c = .nx (fz n k lv y3 y4 s5 s6) (c.set k (.lst ((lv.foldl addF f).map qn))) := by
  have lk := List.getElem?_eq_some_iff.mp hk
  have same : c.set k (.lst (f.map qn)) = c := by rw [← lk.2, List.set_getElem_self]
  obtain ⟨δ', c', e, y3, y4, rfl, hc⟩ := for_inv (δ := fz n k lv s3 s4 s5 s6) (c := c) (I := iSeq (mVar 2)) (g := gtTup (gtCons (gtName 3) (gtCons (gtName 4) gtNil))) (B := fw0) lv (fun q => S.d (.tup [qs q.1, ts q.2]))
    (fun done δ c' => ∃ y3 y4, δ = fz n k lv y3 y4 s5 s6 ∧ c' = c.set k (.lst ((done.foldl addF f).map qn))) (seq_lv (vr rfl)) ⟨s3, s4, rfl, same.symm⟩ (by
      rintro done q rest δ c' hy ⟨y3, y4, rfl, rfl⟩
      have hd : done.length ≤ lv.length := by rw [hy]; simp
      have := fold_len done f
      refine ⟨_, _, _, rfl, fw0_ok (q := q) (f := done.foldl addF f) (by simp [lk.1]) (by omega), _, _, rfl, ?_⟩
      rw [List.set_set, List.foldl_append]
      rfl)
  rw [hc] at e
  exact ⟨y3, y4, e⟩
def nxt (q : Nd) (l : List (Int × Int)) : List Nd := (l.filter fun t => !decide (tkd q.1 t = q.1)).map fun t => (tkd q.1 t, q.2 ++ [t])
theorem fw2_ok {k m : Nat} {t : Int × Int} {acc : List Nd} (h : Sq n q.1) (ht : TkOk n t) (hl : q.2.length ≤ 10) (hm : c[m]? = some (.lst (acc.map qn))) (ha : acc.length ≤ 5000) : fw2 (fz n k lv (some (.d (qs q.1))) (some (.d (ts q.2))) (some (.c m)) (some (.d (pr t)))) c = .nx (fz n k lv (some (.d (qs q.1))) (some (.d (ts q.2))) (some (.c m)) (some (.d (pr t)))) (c.set m (.lst ((acc ++ nxt q [t]).map qn))) := by
  have tk : ∀ {c' : Cs}, mBlt d_law_talked (mCons (mVar 3) (mCons (mVar 6) mNil)) (fz n k lv (some (.d (qs q.1))) (some (.d (ts q.2))) (some (.c m)) (some (.d (pr t)))) c' = .ok (.d (qs (tkd q.1 t))) c' := blt (a2 (vr rfl) (a1 (vr rfl))) (law_talked_ok h ht)
  have g1 : mTB (mBin (lift2 ltD) (mBin (lift2 ixD) (mVar 6) (mC (.int 0))) (mVar 0)) (fz n k lv (some (.d (qs q.1))) (some (.d (ts q.2))) (some (.c m)) (some (.d (pr t)))) c = .ok true c := by
    refine (tb_ok (bin (bin (vr rfl) rfl (l2 (d := .int t.1) rfl)) (vr rfl) (l2 (d := .bl (decide (t.1 < n))) rfl))).trans ?_
    rw [decide_eq_true ht.a1]
  have g2 : mTB (mBin (eqY eqs 4 true) (mBlt d_law_talked (mCons (mVar 3) (mCons (mVar 6) mNil))) (mVar 3)) (fz n k lv (some (.d (qs q.1))) (some (.d (ts q.2))) (some (.c m)) (some (.d (pr t)))) c = .ok (!decide (tkd q.1 t = q.1)) c := tb_ok (bin tk (vr rfl) (eqY_qs _ _))
  have lk := List.getElem?_eq_some_iff.mp hm
  by_cases e : tkd q.1 t = q.1
  · rw [decide_eq_true e] at g2
    have : nxt q [t] = [] := by simp [nxt, e]
    rw [this, List.append_nil, show c.set m (.lst (acc.map qn)) = c by rw [← lk.2, List.set_getElem_self]]
    exact if_no (tand_yes g1 g2)
  · rw [decide_eq_false e] at g2
    have : nxt q [t] = [(tkd q.1 t, q.2 ++ [t])] := by simp [nxt, e]
    rw [this]
    refine (if_t (tand_yes g1 g2)).trans (expr_ok ((app_mv (x := qn (tkd q.1 t, q.2 ++ [t])) (vr rfl) hm (a1 (tup2 tk ((addL (xs := q.2.map pr) (ys := [pr t]) (vr rfl) (lst1 (vr rfl)) (by simp; omega)).trans (by unfold ts; rw [List.map_append]; rfl)))) hm ?_).trans (by rw [List.map_append]; rfl)))
    rw [List.length_map]
    exact Nat.lt_of_le_of_lt ha (by decide)
theorem nxt_app (q : Nd) (a b : List (Int × Int)) : nxt q (a ++ b) = nxt q a ++ nxt q b := by simp [nxt]
theorem nxt_len (q : Nd) (l : List (Int × Int)) : (nxt q l).length ≤ l.length := by
  unfold nxt
  rw [List.length_map]
  exact List.length_filter_le _ _
theorem fw3_ok {k m : Nat} {acc : List Nd} {s6 : Option S} (h4 : n < 4) (h : Sq n q.1) (hl : q.2.length ≤ 10) (hm : c[m]? = some (.lst (acc.map qn))) (ha : acc.length ≤ 4900) : ∃ y6, fw3 (fz n k lv (some (.d (qs q.1))) (some (.d (ts q.2))) (some (.c m)) s6) c = .nx (fz n k lv (some (.d (qs q.1))) (some (.d (ts q.2))) (some (.c m)) y6) (c.set m (.lst ((acc ++ nxt q (talksOf n)).map qn))) := by
  have lk := List.getElem?_eq_some_iff.mp hm
  have tl := talks_len h4
  obtain ⟨δ', c', e, y6, rfl, hc⟩ := for_inv (δ := fz n k lv (some (.d (qs q.1))) (some (.d (ts q.2))) (some (.c m)) s6) (c := c) (I := iSeq (mBlt d_law_all_talks (mCons (mVar 0) mNil))) (g := gtName 6) (B := fw2) (talksOf n) (fun t => S.d (pr t))
    (fun done δ c' => ∃ y6, δ = fz n k lv (some (.d (qs q.1))) (some (.d (ts q.2))) (some (.c m)) y6 ∧ c' = c.set m (.lst ((acc ++ nxt q done).map qn))) (seqI (blt (a1 (vr rfl)) (law_all_ok h4)) (by show R.ok (Src.xs (((talksOf n).map pr).map S.d)) c = _; rw [List.map_map]; rfl)) ⟨s6, rfl, by rw [show nxt q [] = [] from rfl, List.append_nil, ← lk.2, List.set_getElem_self]⟩ (by
      rintro done t rest δ c' hy ⟨y6, rfl, rfl⟩
      have ht : t ∈ talksOf n := by rw [hy]; simp
      have hd : done.length ≤ 6 := by
        have := congrArg List.length hy
        rw [List.length_append] at this
        omega
      have := nxt_len q done
      refine ⟨_, _, _, rfl, fw2_ok (acc := acc ++ nxt q done) h (talks_ok ht) hl (by simp [lk.1]) (by simp; omega), _, rfl, ?_⟩
      rw [List.set_set, nxt_app, List.append_assoc])
  rw [hc] at e
  exact ⟨y6, e⟩
theorem lvS_eq (lv : List Nd) : lvS n lv = lv.flatMap fun q => nxt q (talksOf n) := rfl
theorem lvS_len (h4 : n < 4) (lv : List Nd) : (lv.flatMap fun q => nxt q (talksOf n)).length ≤ 6 * lv.length := by
  have tl := talks_len h4
  induction lv with
  | nil => simp
  | cons q lv ih =>
    have := nxt_len q (talksOf n)
    simp only [List.flatMap_cons, List.length_append, List.length_cons]
    omega
theorem fw5_ok {k : Nat} {s3 s4 s5 s6 : Option S} (h4 : n < 4) (hq : ∀ q ∈ lv, Sq n q.1 ∧ q.2.length ≤ 10) (hl : lv.length ≤ 800) (hk : k < c.length) : ∃ y3 y4 y6, fw5 (fz n k lv s3 s4 s5 s6) c = .nx (fz n k lv y3 y4 (some (.d (.lst ((lvS n lv).map qn)))) y6) c := by
  have e0 : sSet 5 (mCell mNil) (fz n k lv s3 s4 s5 s6) c = .nx (fz n k lv s3 s4 (some (.c c.length)) s6) (c ++ [.lst []]) := set_ok rfl
  obtain ⟨δ', c', e1, y3, y4, y6, rfl, hc⟩ := for_inv (δ := fz n k lv s3 s4 (some (.c c.length)) s6) (c := c ++ [.lst []]) (I := iSeq (mVar 2)) (g := gtTup (gtCons (gtName 3) (gtCons (gtName 4) gtNil))) (B := fw3) lv (fun q => S.d (.tup [qs q.1, ts q.2]))
    (fun done δ c' => ∃ y3 y4 y6, δ = fz n k lv y3 y4 (some (.c c.length)) y6 ∧ c' = c ++ [.lst ((done.flatMap fun q => nxt q (talksOf n)).map qn)]) (seq_lv (vr rfl)) ⟨s3, s4, s6, rfl, rfl⟩ (by
      rintro done q rest δ c' hy ⟨y3, y4, y6, rfl, rfl⟩
      have hd : done.length + 1 ≤ lv.length := by rw [hy]; simp
      obtain ⟨h1, h2⟩ := hq q (by rw [hy]; simp)
      have := lvS_len h4 done
      obtain ⟨z6, e⟩ := fw3_ok (c := c ++ [.lst ((done.flatMap fun q => nxt q (talksOf n)).map qn)]) (lv := lv) (k := k) (m := c.length) (acc := done.flatMap fun q => nxt q (talksOf n)) (s6 := y6) h4 h1 h2 (by simp) (by omega)
      refine ⟨_, _, _, rfl, e, _, _, z6, rfl, ?_⟩
      rw [List.set_append_right _ _ (Nat.le_refl _)]
      simp)
  rw [hc] at e1
  have e2 := frz_nx (js := [5]) (seqs2 e0 e1)
  rw [List.take_left] at e2
  obtain ⟨cc, hcc⟩ : ∃ cc : Cs, cc = c ++ [.lst ((lv.flatMap fun q => nxt q (talksOf n)).map qn)] := ⟨_, rfl⟩
  rw [← hcc] at e2
  obtain ⟨δ0, h0⟩ : ∃ δ0, δ0 = fz n k lv s3 s4 s5 s6 := ⟨_, rfl⟩
  have g1 : frz1 c.length cc [5] δ0 1 (some (.c k)) = some (.c k) := frz_old hk
  have g5 : frz1 c.length cc [5] δ0 5 (some (.c c.length)) = some (.d (.lst ((lvS n lv).map qn))) := frz_lst (by rw [hcc]; simp [lvS_eq]) rfl
  rw [← h0] at e2 ⊢
  refine ⟨frz1 c.length cc [5] δ0 3 y3, frz1 c.length cc [5] δ0 4 y4, frz1 c.length cc [5] δ0 6 y6, e2.trans (congrArg (RS.nx · c) ?_)⟩
  show [some (S.d (.int n)), frz1 c.length cc [5] δ0 1 (some (.c k)), some (S.d (.lst (lv.map qn))), frz1 c.length cc [5] δ0 3 y3, frz1 c.length cc [5] δ0 4 y4, frz1 c.length cc [5] δ0 5 (some (.c c.length)), frz1 c.length cc [5] δ0 6 y6, none, none] = _
  rw [g1, g5]
theorem lv_sq (h0 : 0 < n) (h4 : n < 4) : ∀ r, ∀ q ∈ lvR n r, Sq n q.1 ∧ q.2.length = r
  | 0, q, hq => by
    rw [List.mem_singleton.mp hq]
    exact ⟨Sq.own h0 h4, rfl⟩
  | r + 1, q, hq => by
    obtain ⟨p, hp, hq⟩ := List.mem_flatMap.mp hq
    obtain ⟨t, ht, rfl⟩ := List.mem_map.mp hq
    obtain ⟨i1, i2⟩ := lv_sq h0 h4 r p hp
    exact ⟨i1.tkd (talks_ok (List.mem_filter.mp ht).1), by simp [i2]⟩
/-- the level behind -/
theorem fw6_ok {k r : Nat} {s3 s4 s6 : Option S} (hne : lv ≠ []) (hr : ∀ q ∈ lv, q.2.length = r) : fw6 (fz n k lv s3 s4 (some (.d (.lst ((lvS n lv).map qn)))) s6) c = .nx (fz n k (if r < 5 then lvS n lv else []) s3 s4 (some (.d (.lst ((lvS n lv).map qn)))) s6) c := by
  obtain ⟨q, lv', rfl⟩ : ∃ q lv', lv = q :: lv' := by
    cases lv with
    | nil => exact absurd rfl hne
    | cons q lv => exact ⟨q, lv, rfl⟩
  have hq := hr q List.mem_cons_self
  have tst : mTB (mBin (lift2 ltD) (mBlt (lenX (lenO lens)) (mCons (mBin (lift2 ixD) (mBin (lift2 ixD) (mVar 2) (mC (.int 0))) (mC (.int 1))) mNil)) (mC (.int 5))) (fz n k (q :: lv') s3 s4 (some (.d (.lst ((lvS n (q :: lv')).map qn)))) s6) c = .ok (decide (r < 5)) c := by
    refine (tb_ok (bin (blt (a1 (bin (bin (vr rfl) rfl (l2 (d := qn q) (atI_nat (xs := (q :: lv').map qn) (n := 0) (by simp)))) rfl (l2 (d := ts q.2) (atI_nat (xs := [qs q.1, ts q.2]) (n := 1) (by simp))))) (lX1 (g := lenO lens) (d := .int ((q.2.map pr).length)) rfl)) rfl (l2 (d := .bl (decide (((q.2.map pr).length : Int) < 5))) rfl))).trans ?_
    rw [List.length_map, hq]
    congr 1
    exact decide_eq_decide.mpr (by omega)
  by_cases h : r < 5
  · rw [decide_eq_true h] at tst
    rw [if_pos h]
    exact set_ok (mif_t tst (vr rfl))
  · rw [decide_eq_false h] at tst
    rw [if_neg h]
    exact set_ok (s := .d (.lst [])) (mif_f tst rfl)
theorem fwC_ok {k : Nat} {s3 s4 s5 s6 : Option S} : fwC (fz n k lv s3 s4 s5 s6) c = .ok (!decide (lv = [])) c := by
  refine (tb_ok (bin (vr rfl) (y := .d (.lst [])) rfl (eqY_plain (nd_ok _) rfl))).trans ?_
  rw [eqL_nil]
  rfl
/-- R levels are gone through -/
structure FirOk (n R : Nat) : Prop where
  h0 : 0 < n
  h4 : n < 4
  R6 : R ≤ 6
  ne : ∀ r < R, lvR n r ≠ []
  last : R < 6 → lvR n R = []
  len : ∀ r < R, (lvR n r).length ≤ 700
theorem fir_len {R : Nat} (F : FirOk n R) : ∀ r ≤ R, (firR n r).length ≤ 700 * r
  | 0, _ => by simp [firR]
  | r + 1, h => by
    have := fir_len F r (by omega)
    have := F.len r (by omega)
    have := fold_len (lvR n r) (firR n r)
    show ((lvR n r).foldl addF (firR n r)).length ≤ _
    omega
theorem wl_ok {R : Nat} (F : FirOk n R) {c0 : Cs} : ∀ (j r fu : Nat) (s3 s4 s5 s6 : Option S), r + j = R → j + 1 ≤ fu → ∃ y3 y4 y5 y6 lv',
    wloop fwC fwL fu (fz n c0.length (if r < 6 then lvR n r else []) s3 s4 s5 s6) (c0 ++ [.lst ((firR n r).map qn)]) = .nx (fz n c0.length lv' y3 y4 y5 y6) (c0 ++ [.lst ((firR n R).map qn)])
  | 0, r, fu, s3, s4, s5, s6, hr, hf => by
    obtain rfl : r = R := by omega
    obtain ⟨fu, rfl⟩ : ∃ g, fu = g + 1 := ⟨fu - 1, by omega⟩
    have e : (if r < 6 then lvR n r else []) = [] := by
      by_cases h : r < 6
      · rw [if_pos h, F.last h]
      · rw [if_neg h]
    have w := fwC_ok (n := n) (lv := []) (c := c0 ++ [.lst ((firR n r).map qn)]) (k := c0.length) (s3 := s3) (s4 := s4) (s5 := s5) (s6 := s6)
    rw [e]
    refine ⟨s3, s4, s5, s6, [], ?_⟩
    rw [wloop, w]
    rfl
  | j + 1, r, fu, s3, s4, s5, s6, hr, hf => by
    obtain ⟨fu, rfl⟩ : ∃ g, fu = g + 1 := ⟨fu - 1, by omega⟩
    have hrR : r < R := by omega
    have r6 : r < 6 := by have := F.R6; omega
    have sq := lv_sq F.h0 F.h4 r
    have ll := F.len r hrR
    have fl := fir_len F r (by omega)
    have ne := F.ne r hrR
    rw [if_pos r6]
    have w := fwC_ok (n := n) (lv := lvR n r) (c := c0 ++ [.lst ((firR n r).map qn)]) (k := c0.length) (s3 := s3) (s4 := s4) (s5 := s5) (s6 := s6)
    rw [show (!decide (lvR n r = [])) = true by simp [ne]] at w
    obtain ⟨y3, y4, e1⟩ := fw1_ok (n := n) (lv := lvR n r) (f := firR n r) (c := c0 ++ [.lst ((firR n r).map qn)]) (k := c0.length) (s3 := s3) (s4 := s4) (s5 := s5) (s6 := s6) (by simp) (by omega)
    rw [List.set_append_right _ _ (Nat.le_refl _), Nat.sub_self, List.set_cons_zero] at e1
    obtain ⟨z3, z4, z6, e2⟩ := fw5_ok (n := n) (lv := lvR n r) (c := c0 ++ [.lst ((firR n (r + 1)).map qn)]) (k := c0.length) (s3 := y3) (s4 := y4) (s5 := s5) (s6 := s6) F.h4 (fun q hq => ⟨(sq q hq).1, by have := (sq q hq).2; omega⟩) (by omega) (by simp)
    have e3 := fw6_ok (n := n) (k := c0.length) (c := c0 ++ [.lst ((firR n (r + 1)).map qn)]) (s3 := z3) (s4 := z4) (s6 := z6) ne fun q hq => (sq q hq).2
    have e3' : (if r < 5 then lvS n (lvR n r) else []) = if r + 1 < 6 then lvR n (r + 1) else [] := by
      by_cases h : r < 5
      · rw [if_pos h, if_pos (by omega)]; rfl
      · rw [if_neg h, if_neg (by omega)]
    rw [e3'] at e3
    obtain ⟨w3, w4, w5, w6, lv', e4⟩ := wl_ok F (c0 := c0) j (r + 1) fu z3 z4 (some (.d (.lst ((lvS n (lvR n r)).map qn)))) z6 (by omega) (by omega)
    refine ⟨w3, w4, w5, w6, lv', ?_⟩
    rw [wloop, w]
    show (match fwL _ _ with
      | .nx δ c => _
      | .ct δ c => _
      | .bk δ c => _
      | r => r) = _
    rw [show fwL (fz n c0.length (lvR n r) s3 s4 s5 s6) (c0 ++ [CC.lst ((firR n r).map qn)]) = _ from seq_go e1 (seq_go e2 e3)]
    exact e4
abbrev fs1 : MS := (sPar 1 2 (mCons (mCell mNil) (mCons (mLst (mCons (mTup (mCons (mComp (iRng (mCons (mVar 0) mNil)) (gtName 7) mtYes (mLst (mCons (mVar 7) mNil)) [7]) (mCons (mLst mNil) mNil))) mNil)) mNil)))
theorem firsts_ok {R : Nat} (F : FirOk n R) : d_law_firsts [.d (.int n)] c = .ok (.d (.lst ((firR n R).map qn))) c := by
  have h4 := F.h4
  have R6 := F.R6
  have e1 : fs1 [some (.d (.int n)), none, none, none, none, none, none, none, none] c = .nx (fz n c.length (lvR n 0) none none none none) (c ++ [.lst []]) :=
    par_ok (a2 rfl (a1 (lst1 (tup2 (rng_own (by omega) (fun _ _ => trivial) (rngN_ok (a1 (vr rfl)) (by omega)) (by simp [wipeD])) rfl))))
  obtain ⟨y3, y4, y5, y6, lv', e2⟩ := wl_ok F (c0 := c) R 0 1000 none none none none (by omega) (by omega)
  exact (fnG_eq rfl).trans (by
    show exitR false c.length (b_law_firsts [some (.d (.int n)), none, none, none, none, none, none, none, none] c) = _
    rw [show b_law_firsts [some (.d (.int n)), none, none, none, none, none, none, none, none] c = .rt (.c c.length) (c ++ [.lst ((firR n R).map qn)]) from seq_go e1 (seq_go e2 (ret_ok (vr rfl)))]
    simp [exitR, frz])
end
end Dn

end
section
set_option maxHeartbeats 1000000
/-! K21_I: webs are right. -/
namespace Dn
open PySem
section
variable {δ : Sl} {c : Cs}
theorem eqR_ok50 {tbl : Tbl} {x : D} (f : Nat) (h : x.ok 50 = true) : eqR tbl f x x = some true := by
  cases f <;> (unfold eqR; rw [if_pos (by simp [h]), eqD_refl 50 _ h])
theorem eqR_dct {f : Nat} {k : L2.Key} {x : D} (n : noDct x = true) (h : eqR eqs f x x = some true) : eqR eqs (f + 1) (.dct [k] [x]) (.dct [k] [x]) = some true := by
  unfold eqR
  rw [if_neg (by simp [D.ok])]
  cases hf : flatEq x x with
  | true => simp [hf]
  | false => simp [hf, n, h]
theorem eqY_two {neg : Bool} {w : Str} {x : D} (hw : PyData.strOk w = true) (hx : eqR eqs 4 x x = some true) : eqY eqs 4 neg (.d (.lst [.str w, x])) (.d (.lst [.str w, x])) c = .ok (.d (.bl (!neg))) c := by
  by_cases ok : (D.lst [.str w, x]).ok 60 = true
  · rw [eqY_plain ok ok, eqD_refl 60 _ ok]
    cases neg <;> rfl
  · have hws : eqR eqs 4 (.str w) (.str w) = some true := eqR_ok50 _ (by unfold D.ok; exact hw)
    simp only [eqY, deref]
    rw [if_neg (by simp [ok])]
    simp only [if_true, eqRs, hws, hx]
    cases neg <;> rfl
/-! ### words -/
theorem tryM_ex {hds : List Hd} {m : MS} {k : Nat} {xs : List S} {δ' : Sl} {c' : Cs} {r : RS} (h : m δ c = .ex k xs δ' c') (e : runH hds k xs δ' c' = r) : sTryM hds m δ c = r := by unfold sTryM; rw [h]; exact e
theorem isn_no {i : Nat} {x : D} (hi : δ[i]? = some (some (.d x))) (h : isN false (.d x) c = .ok (.d (.bl false)) c) : mTB (mIsN false (mVar i)) δ c = .ok false c := tb_ok (by unfold mIsN; rw [vr hi]; exact h)
theorem tryM_rt {hds : List Hd} {m : MS} {s : S} {c' : Cs} (h : m δ c = .rt s c') : sTryM hds m δ c = .rt s c' := by unfold sTryM; rw [h]
end
section
variable {δ : Sl} {c : Cs} {n : Nat} {L0 : St} {O : List Nd}
theorem caught_1 (h : OwnW n L0) (ht : hasTb 0 c = true) {x : D} : d_law_caught [.d (.int 1), .d (wb n L0), .d x] c = .ok (.d (.lst [.str "told", ansD ((ord n).find? fun q => decide (q.1 = L0))])) c := by
  refine fn_rt rfl (tryM_rt (seq_go (if_no ((tb_ok (bin (vr rfl) rfl (eqG_int _ _))).trans rfl)) (ret_ok (lst2 rfl (mif_t (c' := c) ((tb_ok (bin (vr rfl) rfl (eqG_int _ _))).trans rfl) (blt (a1 (vr rfl)) (fewest_ok h ht)))))))
theorem caught_2 (h : OwnW n L0) (ht : hasTb 1 c = true) {x : D} : d_law_caught [.d (.int 2), .d (wb n L0), .d x] c = .ok (.d (.lst [.str "told", ansD ((ord n).find? fun q => wthn L0 q.1)])) c := by
  refine fn_rt rfl (tryM_rt (seq_go (if_no ((tb_ok (bin (vr rfl) rfl (eqG_int _ _))).trans rfl)) (ret_ok (lst2 rfl (mif_f (c' := c) ((tb_ok (bin (vr rfl) rfl (eqG_int _ _))).trans rfl) (blt (a1 (vr rfl)) (enough_ok h ht)))))))
theorem flat_wb (n : Int) (L : St) : noLst (wb n L) = true := by
  have k : ∀ l : List Int, noLsts (l.map D.int) = true := fun l => by
    induction l with
    | nil => rfl
    | cons x l ih => simp [noLsts, noLst, ih]
  have k2 : ∀ L : St, noLsts (L.map lotT) = true := fun L => by
    induction L with
    | nil => rfl
    | cons l L ih => simp [noLsts, noLst, ih, lotT, k]
  simp [wb, noLst, noLsts, k2]
theorem flat_ts (T : List (Int × Int)) : noLsts (T.map pr) = true := by
  induction T with
  | nil => rfl
  | cons x l ih => simp [noLsts, noLst, ih, pr]
/-- what is told, as a new list -/
theorem fresh_told (o : Option Nd) : ∃ e k, freshen (.lst [.str "told", ansD o]) c = .ok (.c (c.length + k)) (c ++ e) ∧ (∀ y ∈ e, canHide y = true) ∧
    frz 0 (c ++ e) 8 (.c (c.length + k)) = some (.lst [.str "told", ansD o]) ∧
    ((o = none ∧ ixS (.c (c.length + k)) (.d (.int 1)) (c ++ e) = .ok (.d .non) (c ++ e)) ∨ ∃ q, o = some q ∧ ixS (.c (c.length + k)) (.d (.int 1)) (c ++ e) = .ok (.c c.length) (c ++ e) ∧ e[0]? = some (.lst (q.2.map pr))) := by
  cases o with
  | none =>
    refine ⟨[.lst [.str "told", .non]], 0, ?_, fun y hy => by rw [List.mem_singleton.mp hy]; rfl, by simp [frz, ansD], .inl ⟨rfl, ?_⟩⟩
    · simp [freshen, ansD, noLsts, noLst]
    · have g : (c ++ [CC.lst [.str "told", .non]])[c.length + 0]? = some (.lst [.str "told", .non]) := by simp
      unfold ixS
      simp only [g]
      simp only [lift2, deref, g]
      rfl
  | some q =>
    refine ⟨[.lst (q.2.map pr), .lS [.d (.str "told"), .c c.length]], 1, ?_, fun y hy => by rcases List.mem_cons.mp hy with rfl | hy; rfl; rw [List.mem_singleton.mp hy]; rfl, ?_, .inr ⟨q, rfl, ?_, rfl⟩⟩
    · simp [freshen, ansD, noLsts, noLst, ts, flat_ts]
    · simp [frz, ansD, ts]
    · have g : (c ++ [CC.lst (q.2.map pr), .lS [.d (.str "told"), .c c.length]])[c.length + 1]? = some (.lS [.d (.str "told"), .c c.length]) := by simp
      unfold ixS
      simp only [g]
      rfl
end
end Dn

end
section
set_option maxHeartbeats 1000000
/-! K21_J: webs are right. -/
namespace Dn
open PySem
abbrev wr1 : MS := (sSet 3 (mMake 0 2 d_Web_init (mCons (mVar 0) (mCons (mVar 1) mNil))))
abbrev wr2 : MS := (sSet 4 (mComp (iSeq (mVar 2)) (gtTup (gtCons (gtName 8) (gtCons (gtName 9) gtNil))) (mTB (mBin (eqG eqs kEq 4) (mVar 8) (mVar 1))) (mVar 9) [8, 9]))
abbrev wr3b1 : MS := (sSet 6 (mFr nT (mBlt d_law_caught (mCons (mC (.int 1)) (mCons (mVar 3) (mCons (mC .non) mNil))))))
abbrev wr3b2 : MS := (sIf (mTB (mBin (eqYF eqs 4 true) (mVar 6) (mLst (mCons (mC (.str "told")) (mCons (mIf (mTB (mBin (eqY eqs 4 true) (mVar 4) (mLst mNil))) (mBin (lift2 ixD) (mVar 4) (mC (.int 0))) (mC .non)) mNil))))) (sRet (mC (.bl false))) sNil)
abbrev wr3b3 : MS := (sIf (mTB (mIsN true (mBin ixS (mVar 6) (mC (.int 1))))) (sExpr (mAppendS (mBin ixS (mVar 6) (mC (.int 1))) (mCons (mC .non) mNil))) sNil)
abbrev wr3b : MS := sSeq wr3b1 (sSeq wr3b2 wr3b3)
abbrev wr3 : MS := sFor (iRng (mCons (mC (.int 2)) mNil)) (gtName 5) wr3b
abbrev wr4 : MS := (sFrz [7] (seqs [(sSet 7 (mCell mNil)), (sFor (iSeq (mVar 2)) (gtTup (gtCons (gtName 8) (gtCons (gtName 9) gtNil))) (sIf (mTB (mBin (eqG eqs kEq 4) (mComp (iZip' (mCons (mVar 1) (mCons (mVar 8) mNil))) (gtTup (gtCons (gtName 10) (gtCons (gtName 11) gtNil))) (mTB (mBin (eqY eqs 4 true) (mSortSet (mBin (lift2 addD) (mVar 10) (mVar 11))) (mVar 11))) (mVar 10) [10, 11]) (mLst mNil))) (sExpr (mAppend (mVar 7) (mCons (mTup (mCons (mBlt (lenX (lenO lens)) (mCons (mVar 9) mNil)) (mCons (mVar 9) mNil))) mNil))) sNil))]))
abbrev wr5 : MS := (sExpr (mAppendS (mFr nT (mBlt d_enough_talks (mCons (mVar 3) mNil))) (mCons (mC .non) mNil)))
abbrev wr6 : MS := (sRet (mBin (eqG eqs kEq 4) (mBlt d_law_caught (mCons (mC (.int 2)) (mCons (mVar 3) (mCons (mC .non) mNil)))) (mLst (mCons (mC (.str "told")) (mCons (mBin (lift2 ixD) (mBlt (liftN minLD) (mCons (mVar 7) mNil)) (mC (.int 1))) mNil)))))
abbrev wm0 : MS := (sIf (mTB (mBin (eqG eqs kEq 4) (mComp (iZip' (mCons (mVar 1) (mCons (mVar 8) mNil))) (gtTup (gtCons (gtName 10) (gtCons (gtName 11) gtNil))) (mTB (mBin (eqY eqs 4 true) (mSortSet (mBin (lift2 addD) (mVar 10) (mVar 11))) (mVar 11))) (mVar 10) [10, 11]) (mLst mNil))) (sExpr (mAppend (mVar 7) (mCons (mTup (mCons (mBlt (lenX (lenO lens)) (mCons (mVar 9) mNil)) (mCons (mVar 9) mNil))) mNil))) sNil)
def qm (q : Nd) : D := .tup [.int q.2.length, ts q.2]
section
variable {δ : Sl} {c : Cs} {n : Nat} {L0 : St} {O : List Nd}
abbrev wv (n : Nat) (L0 : St) (O : List Nd) (s3 s4 s5 s6 s7 s8 s9 : Option S) : Sl := [some (.d (.int n)), some (.d (qs L0)), some (.d (.lst (O.map qn))), s3, s4, s5, s6, s7, s8, s9, none, none]
def justD (L0 : St) (O : List Nd) : D := .lst ((O.filter fun q => decide (q.1 = L0)).map fun q => ts q.2)
theorem iseq_nd {A : M} (h : A δ c = .ok (.d (.lst (O.map qn))) c) : iSeq A δ c = .ok (.xs (O.map fun q => S.d (.tup [qs q.1, ts q.2]))) c := seqI h (by
  show R.ok (Src.xs ((O.map qn).map S.d)) c = _
  rw [List.map_map]
  rfl)
theorem wr2_ok {s3 s4 s5 s6 s7 s8 s9 : Option S} (hO : O.length ≤ 900) : wr2 (wv n L0 O s3 s4 s5 s6 s7 s8 s9) c = .nx (wv n L0 O s3 (some (.d (justD L0 O))) s5 s6 s7 s8 s9) c :=
  set_ok (compF O (fun q => S.d (.tup [qs q.1, ts q.2])) (fun q => decide (q.1 = L0)) (fun q => ts q.2) (iseq_nd (vr rfl)) (small_size (by omega)) fun q _ acc => ⟨_, rfl, tb_ok (bin (vr rfl) (vr rfl) (eqG_qs _ _)), fun _ => vr rfl⟩)
/-- what is due -/
theorem due_ok {s3 s5 s6 s7 s8 s9 : Option S} : mLst (mCons (mC (.str "told")) (mCons (mIf (mTB (mBin (eqY eqs 4 true) (mVar 4) (mLst mNil))) (mBin (lift2 ixD) (mVar 4) (mC (.int 0))) (mC .non)) mNil)) (wv n L0 O s3 (some (.d (justD L0 O))) s5 s6 s7 s8 s9) c = .ok (.d (.lst [.str "told", ansD (O.find? fun q => decide (q.1 = L0))])) c := by
  have okj : (justD L0 O).ok 60 = true := by
    unfold justD
    simp only [D.ok]
    exact oks_map (f := fun q : Nd => ts q.2) (fun q => ts_ok 57 q.2) _
  refine lst2 rfl ?_
  have e : (O.find? fun q => decide (q.1 = L0)) = (O.filter fun q => decide (q.1 = L0)).head? := List.head?_filter.symm
  cases h : O.filter fun q => decide (q.1 = L0) with
  | nil =>
    rw [h] at e
    rw [e]
    refine mif_f (c' := c) ((tb_ok (bin (vr rfl) (y := .d (.lst [])) rfl (eqY_plain okj rfl))).trans ?_) rfl
    unfold justD
    rw [h]
    unfold eqD
    rfl
  | cons q r =>
    rw [h] at e
    rw [e]
    refine mif_t (c' := c) ((tb_ok (bin (vr rfl) (y := .d (.lst [])) rfl (eqY_plain okj rfl))).trans ?_) (bin (vr rfl) rfl (l2 ?_))
    · unfold justD
      rw [h]
      unfold eqD
      rfl
    · unfold justD
      rw [h]
      exact atI_nat (xs := (q :: r).map fun q => ts q.2) (n := 0) (by simp)
theorem self_ans (o : Option Nd) : eqR eqs 4 (ansD o) (ansD o) = some true := by
  cases o with
  | none => exact eqR_ok50 4 rfl
  | some q => exact eqR_ok50 4 (ts_ok 48 q.2)
theorem flatSl_wv {s4 s5 s6 s7 s8 s9 : Option S} : (flatSl (wv n L0 O (some (.d (wb n L0))) s4 s5 s6 s7 s8 s9))[3]? = some (some (.d (wb n L0))) := by
  show some (if noLst (wb n L0) = true then some (S.d (wb n L0)) else none) = _
  rw [if_pos (flat_wb _ _)]
theorem tbs_has (j : Nat) (h : j < nT) : hasTb j (tbs nT) = true := by
  have : ∀ j < nT, hasTb j (tbs nT) = true := by decide
  exact this j h
theorem wr3b_ok {s5 s6 s7 s8 s9 : Option S} (J : Junk nT c) (h : OwnW n L0) (hO : O = ord n) : ∃ y6 e, wr3b (wv n L0 O (some (.d (wb n L0))) (some (.d (justD L0 O))) s5 s6 s7 s8 s9) c = .nx (wv n L0 O (some (.d (wb n L0))) (some (.d (justD L0 O))) s5 y6 s7 s8 s9) (c ++ e) ∧ ∀ y ∈ e, canHide y = true := by
  obtain ⟨e, k, f1, f2, f3, f4⟩ := fresh_told (c := c) (O.find? fun q => decide (q.1 = L0))
  have J' : (tbsOk nT c && (c.drop nT).all canHide) = true := J
  have g1 : wr3b1 (wv n L0 O (some (.d (wb n L0))) (some (.d (justD L0 O))) s5 s6 s7 s8 s9) c = .nx (wv n L0 O (some (.d (wb n L0))) (some (.d (justD L0 O))) s5 (some (.c (c.length + k))) s7 s8 s9) (c ++ e) := by
    refine set_ok ?_
    unfold mFr
    rw [if_pos J', show mBlt d_law_caught (mCons (mC (.int 1)) (mCons (mVar 3) (mCons (mC .non) mNil))) (flatSl (wv n L0 O (some (.d (wb n L0))) (some (.d (justD L0 O))) s5 s6 s7 s8 s9)) (tbs nT) = .ok (.d (.lst [.str "told", ansD (O.find? fun q => decide (q.1 = L0))])) (tbs nT) from blt (a2 rfl (a2 (vr flatSl_wv) (a1 rfl))) (by rw [hO]; exact caught_1 h (tbs_has 0 (by decide)))]
    simp only [tbsOk_tbs, if_true]
    exact f1
  have g2 : wr3b2 (wv n L0 O (some (.d (wb n L0))) (some (.d (justD L0 O))) s5 (some (.c (c.length + k))) s7 s8 s9) (c ++ e) = .nx (wv n L0 O (some (.d (wb n L0))) (some (.d (justD L0 O))) s5 (some (.c (c.length + k))) s7 s8 s9) (c ++ e) := by
    refine if_no (tb_ok (bin (vr rfl) due_ok ?_))
    have f3' : frz 0 (c ++ e) 8 (.d (.lst [.str "told", ansD (O.find? fun q => decide (q.1 = L0))])) = some (.lst [.str "told", ansD (O.find? fun q => decide (q.1 = L0))]) := by unfold frz; rfl
    unfold eqYF
    rw [f3, f3']
    show keepB (eqY eqs 4 true (.d (.lst [.str "told", ansD (O.find? fun q => decide (q.1 = L0))])) (.d (.lst [.str "told", ansD (O.find? fun q => decide (q.1 = L0))])) []) (c ++ e) = _
    rw [eqY_two (by decide +kernel) (self_ans _)]
    rfl
  rcases f4 with ⟨hn, hx⟩ | ⟨q, hq, hx, he⟩
  · refine ⟨_, e, seq_go g1 (seq_go g2 (if_no ((tb_ok ?_)))), f2⟩
    unfold mIsN
    rw [bin (vr rfl) rfl hx]
    rfl
  · have hk : (c ++ e)[c.length]? = some (.lst (q.2.map pr)) := by
      rw [List.getElem?_append_right (Nat.le_refl _), Nat.sub_self]
      exact he
    have hql : (q.2.map pr).length < sizeLine := by
      have : q ∈ ord n := List.mem_of_find?_eq_some (by rw [hO] at hq; exact hq)
      obtain ⟨i, hi, nd⟩ := lvls_nd this
      have := nd.l
      have : Rn n ≤ 5 := by unfold Rn; split <;> (try split) <;> omega
      rw [List.length_map]
      exact Nat.lt_of_lt_of_le (show q.2.length < 1000 by omega) (by decide)
    refine ⟨some (.c (c.length + k)), ((c ++ e).set c.length (.lst (q.2.map pr ++ [.non]))).drop c.length, seq_go g1 (seq_go g2 ((if_t (c' := c ++ e) (tb_ok ?_)).trans ?_)), fun y hy => ?_⟩
    · unfold mIsN
      rw [bin (vr rfl) rfl hx]
      rfl
    · have el : c ++ ((c ++ e).set c.length (.lst (q.2.map pr ++ [.non]))).drop c.length = (c ++ e).set c.length (.lst (q.2.map pr ++ [.non])) := by
        rw [List.set_append_right _ _ (Nat.le_refl _), Nat.sub_self, List.drop_left]
      rw [el]
      exact expr_ok (appS_ok (bin (vr rfl) rfl hx) hk (a1 rfl) hql)
    · rw [List.set_append_right _ _ (Nat.le_refl _), Nat.sub_self, List.drop_left] at hy
      rcases List.mem_or_eq_of_mem_set hy with h | rfl
      · exact f2 y h
      · rfl
theorem wr3_ok {s5 s6 s7 s8 s9 : Option S} (J : Junk nT c) (h : OwnW n L0) (hO : O = ord n) : ∃ y5 y6 e, wr3 (wv n L0 O (some (.d (wb n L0))) (some (.d (justD L0 O))) s5 s6 s7 s8 s9) c = .nx (wv n L0 O (some (.d (wb n L0))) (some (.d (justD L0 O))) y5 y6 s7 s8 s9) (c ++ e) ∧ ∀ y ∈ e, canHide y = true := by
  obtain ⟨δ', c', e1, y5, y6, e, rfl, rfl, he⟩ := for_inv (δ := wv n L0 O (some (.d (wb n L0))) (some (.d (justD L0 O))) s5 s6 s7 s8 s9) (c := c) (I := iRng (mCons (mC (.int 2)) mNil)) (g := gtName 5) (B := wr3b) (List.range 2) (fun (i : Nat) => sI i)
    (fun done δ c' => ∃ y5 y6 e, δ = wv n L0 O (some (.d (wb n L0))) (some (.d (justD L0 O))) y5 y6 s7 s8 s9 ∧ c' = c ++ e ∧ ∀ y ∈ e, canHide y = true) (rngN_ok (a1 rfl) (by omega)) ⟨s5, s6, [], rfl, by simp, fun y hy => by cases hy⟩ (by
      rintro done i rest δ c' hy ⟨y5, y6, e, rfl, rfl, he⟩
      obtain ⟨z6, e', g, he'⟩ := wr3b_ok (c := c ++ e) (s5 := some (sI i)) (s6 := y6) (s7 := s7) (s8 := s8) (s9 := s9) (J.apps he) h hO
      exact ⟨_, _, _, rfl, g, _, z6, e ++ e', rfl, by rw [List.append_assoc], fun y hy => by rcases List.mem_append.mp hy with z | z; exact he y z; exact he' y z⟩)
  exact ⟨y5, y6, e, e1, he⟩
/-! ### those that lead at least there -/
def inAll (L0 H : St) : Bool := (L0.zip H).all fun p => decide (sortU (p.1 ++ p.2) = p.2)
theorem inAll_eq {H : St} (h : Sq n L0) (k : Sq n H) : inAll L0 H = wthn L0 H := by
  have hw := h.w
  have kw := k.w
  have hl := h.l
  have kl := k.l
  have key : inAll L0 H = true ↔ wthn L0 H = true := by
    rw [wthn_iff]
    unfold inAll
    rw [List.all_eq_true]
    constructor
    · rintro a i x ⟨l, hi, hx⟩
      have i1 := (List.getElem?_eq_some_iff.mp hi).1
      have i2 : i < H.length := by omega
      have := a (l, H[i]) (List.mem_iff_getElem?.mpr ⟨i, by rw [List.getElem?_zip_eq_some]; exact ⟨hi, List.getElem?_eq_getElem i2⟩⟩)
      have this : sortU (l ++ H[i]) = H[i] := of_decide_eq_true this
      have hx' : x ∈ sortU (l ++ H[i]) := mem_sortU.mpr (List.mem_append_left _ hx)
      rw [this] at hx'
      exact ⟨H[i], List.getElem?_eq_getElem i2, hx'⟩
    · rintro a ⟨l, m⟩ hp
      obtain ⟨i, hi⟩ := List.mem_iff_getElem?.mp hp
      rw [List.getElem?_zip_eq_some] at hi
      obtain ⟨i1, i2⟩ := hi
      have lm := kw.ok m (List.mem_of_getElem? i2)
      rw [decide_eq_true_eq]
      refine lt_unique (lt_sortU _) lm.so fun x => ?_
      rw [mem_sortU, List.mem_append]
      constructor
      · rintro (z | z)
        · obtain ⟨m', e, hx⟩ := a i x ⟨l, i1, z⟩
          rw [i2] at e; cases e
          exact hx
        · exact z
      · exact .inr
  cases h1 : inAll L0 H with
  | true => exact (key.mp h1).symm
  | false =>
    cases h2 : wthn L0 H with
    | true => rw [key.mpr h2] at h1; cases h1
    | false => rfl
theorem eqD_lotL (a b : List Int) : eqD (lotL a) (lotL b) = decide (a = b) := by
  unfold lotL eqD
  exact eqDs_int a b
theorem lotL_ok (f : Nat) (l : List Int) : (lotL l).ok (f + 1) = true := by
  unfold lotL
  simp only [D.ok]
  exact oks_int f l
theorem wm0_ok {q : Nd} {s4 s5 s6 : Option S} {k : Nat} {acc : List Nd} (h : Sq n L0) (hq : Sq n q.1) (hk : c[k]? = some (.lst (acc.map qm))) (ha : acc.length ≤ 900) : wm0 (wv n L0 O (some (.d (wb n L0))) s4 s5 s6 (some (.c k)) (some (.d (qs q.1))) (some (.d (ts q.2)))) c = .nx (wv n L0 O (some (.d (wb n L0))) s4 s5 s6 (some (.c k)) (some (.d (qs q.1))) (some (.d (ts q.2)))) (c.set k (.lst ((acc ++ (if wthn L0 q.1 = true then [q] else [])).map qm))) := by
  have hl := h.l
  have ql := hq.l
  have l3 := h.w.l3
  have hz : iZip' (mCons (mVar 1) (mCons (mVar 8) mNil)) (wv n L0 O (some (.d (wb n L0))) s4 s5 s6 (some (.c k)) (some (.d (qs q.1))) (some (.d (ts q.2)))) c = .ok (.xs ((L0.zip q.1).map fun p => S.d (.tup [lotL p.1, lotL p.2]))) c := by
    unfold iZip'
    rw [a2 (vr rfl) (a1 (vr rfl))]
    simp only [bind_ok, zip2, qs, zipL_lotL, List.map_map]
    rfl
  have cm : mComp (iZip' (mCons (mVar 1) (mCons (mVar 8) mNil))) (gtTup (gtCons (gtName 10) (gtCons (gtName 11) gtNil))) (mTB (mBin (eqY eqs 4 true) (mSortSet (mBin (lift2 addD) (mVar 10) (mVar 11))) (mVar 11))) (mVar 10) [10, 11] (wv n L0 O (some (.d (wb n L0))) s4 s5 s6 (some (.c k)) (some (.d (qs q.1))) (some (.d (ts q.2)))) c = .ok (.d (.lst (((L0.zip q.1).filter fun p => !decide (sortU (p.1 ++ p.2) = p.2)).map fun p => lotL p.1))) c := by
    refine compF (L0.zip q.1) (fun p => S.d (.tup [lotL p.1, lotL p.2])) (fun p => !decide (sortU (p.1 ++ p.2) = p.2)) (fun p => lotL p.1) hz (small_size (by rw [List.length_zip]; omega)) fun p hp acc2 => ⟨_, rfl, ?_, fun _ => vr rfl⟩
    obtain ⟨p1, p2⟩ := List.of_mem_zip (a := p.1) (b := p.2) hp
    have z1 := (h.w.ok _ p1).len (by have := h.hi; omega)
    have z2 := (hq.w.ok _ p2).len (by have := h.hi; omega)
    refine (tb_ok (bin (sortSet_ok (l := p.1 ++ p.2) ((addL (xs := p.1.map D.int) (ys := p.2.map D.int) (vr rfl) (vr rfl) (by rw [List.length_map, List.length_map]; omega)).trans (by unfold lotL; rw [List.map_append])) (by rw [List.length_append]; omega)) (vr rfl) (eqY_plain (lotL_ok 59 _) (lotL_ok 59 _)))).trans ?_
    rw [eqD_lotL]
    rfl
  have tst : mTB (mBin (eqG eqs kEq 4) (mComp (iZip' (mCons (mVar 1) (mCons (mVar 8) mNil))) (gtTup (gtCons (gtName 10) (gtCons (gtName 11) gtNil))) (mTB (mBin (eqY eqs 4 true) (mSortSet (mBin (lift2 addD) (mVar 10) (mVar 11))) (mVar 11))) (mVar 10) [10, 11]) (mLst mNil)) (wv n L0 O (some (.d (wb n L0))) s4 s5 s6 (some (.c k)) (some (.d (qs q.1))) (some (.d (ts q.2)))) c = .ok (wthn L0 q.1) c := by
    refine (tb_ok (bin cm (y := .d (.lst [])) rfl (eqG_plain ?_ rfl))).trans ?_
    · simp only [D.ok]
      exact oks_map (f := fun p : List Int × List Int => lotL p.1) (fun p => lotL_ok 58 p.1) _
    · rw [← inAll_eq h hq]
      congr 1
      unfold inAll
      cases e : (L0.zip q.1).filter fun p => !decide (sortU (p.1 ++ p.2) = p.2) with
      | nil =>
        have : ((L0.zip q.1).all fun p => decide (sortU (p.1 ++ p.2) = p.2)) = true := List.all_eq_true.mpr fun p hp => by
          have := List.filter_eq_nil_iff.mp e p hp
          simpa using this
        rw [this]
        unfold eqD
        rfl
      | cons p r =>
        have : ((L0.zip q.1).all fun p => decide (sortU (p.1 ++ p.2) = p.2)) = false := List.all_eq_false.mpr ⟨p, by
          have : p ∈ (L0.zip q.1).filter fun p => !decide (sortU (p.1 ++ p.2) = p.2) := by rw [e]; simp
          have := List.mem_filter.mp this
          exact ⟨this.1, by simpa using this.2⟩⟩
        rw [this]
        unfold eqD
        rfl
  cases hw : wthn L0 q.1 with
  | true =>
    rw [hw] at tst
    refine (if_t tst).trans (expr_ok (s := .d .non) ((app_mv (x := qm q) (vr rfl) hk (a1 (tup2 ((blt (a1 (vr rfl)) (lX1 (g := lenO lens) (d := .int ((q.2.map pr).length)) rfl)).trans (by rw [List.length_map])) (vr rfl))) hk ?_).trans (by simp)))
    rw [List.length_map]
    exact Nat.lt_of_le_of_lt ha (by decide)
  | false =>
    rw [hw] at tst
    have lk := List.getElem?_eq_some_iff.mp hk
    rw [if_neg (by decide), List.append_nil, show c.set k (.lst (acc.map qm)) = c by rw [← lk.2, List.set_getElem_self]]
    exact if_no tst
theorem wr4_ok {s4 s5 s6 s8 s9 : Option S} (h : Sq n L0) (hq : ∀ q ∈ O, Sq n q.1) (hO : O.length ≤ 900) (h4' : ∃ d, s4 = some (.d d)) : ∃ y5 y6 y8 y9, wr4 (wv n L0 O (some (.d (wb n L0))) s4 s5 s6 none s8 s9) c = .nx (wv n L0 O (some (.d (wb n L0))) s4 y5 y6 (some (.d (.lst ((O.filter fun q => wthn L0 q.1).map qm)))) y8 y9) c := by
  obtain ⟨d4, rfl⟩ := h4'
  have e0 : sSet 7 (mCell mNil) (wv n L0 O (some (.d (wb n L0))) (some (.d d4)) s5 s6 none s8 s9) c = .nx (wv n L0 O (some (.d (wb n L0))) (some (.d d4)) s5 s6 (some (.c c.length)) s8 s9) (c ++ [.lst []]) := set_ok rfl
  obtain ⟨δ', c', e1, y8, y9, rfl, hc⟩ := for_inv (δ := wv n L0 O (some (.d (wb n L0))) (some (.d d4)) s5 s6 (some (.c c.length)) s8 s9) (c := c ++ [.lst []]) (I := iSeq (mVar 2)) (g := gtTup (gtCons (gtName 8) (gtCons (gtName 9) gtNil))) (B := wm0) O (fun q => S.d (.tup [qs q.1, ts q.2]))
    (fun done δ c' => ∃ y8 y9, δ = wv n L0 O (some (.d (wb n L0))) (some (.d d4)) s5 s6 (some (.c c.length)) y8 y9 ∧ c' = c ++ [.lst ((done.filter fun q => wthn L0 q.1).map qm)]) (iseq_nd (vr rfl)) ⟨s8, s9, rfl, rfl⟩ (by
      rintro done q rest δ c' hy ⟨y8, y9, rfl, rfl⟩
      have hd : done.length + 1 ≤ O.length := by rw [hy]; simp
      have hf := List.length_filter_le (fun q : Nd => wthn L0 q.1) done
      refine ⟨_, _, _, rfl, wm0_ok (q := q) (acc := done.filter fun q => wthn L0 q.1) (k := c.length) h (hq q (by rw [hy]; simp)) (by simp) (by omega), _, _, rfl, ?_⟩
      rw [List.set_append_right _ _ (Nat.le_refl _), List.filter_append]
      simp only [Nat.sub_self, List.set_cons_zero]
      congr 3
      cases hw : wthn L0 q.1 <;> simp [hw])
  rw [hc] at e1
  have e2 := frz_nx (js := [7]) (seqs2 e0 e1)
  rw [List.take_left] at e2
  obtain ⟨cc, hcc⟩ : ∃ cc : Cs, cc = c ++ [.lst ((O.filter fun q => wthn L0 q.1).map qm)] := ⟨_, rfl⟩
  rw [← hcc] at e2
  obtain ⟨δ0, h0⟩ : ∃ δ0, δ0 = wv n L0 O (some (.d (wb n L0))) (some (.d d4)) s5 s6 none s8 s9 := ⟨_, rfl⟩
  have g7 : frz1 c.length cc [7] δ0 7 (some (.c c.length)) = some (.d (.lst ((O.filter fun q => wthn L0 q.1).map qm))) := frz_lst (by rw [hcc]; simp) rfl
  rw [← h0] at e2 ⊢
  refine ⟨frz1 c.length cc [7] δ0 5 s5, frz1 c.length cc [7] δ0 6 s6, frz1 c.length cc [7] δ0 8 y8, frz1 c.length cc [7] δ0 9 y9, e2.trans (congrArg (RS.nx · c) ?_)⟩
  show [some (S.d (.int n)), some (S.d (qs L0)), some (S.d (.lst (O.map qn))), some (.d (wb n L0)), some (.d d4), frz1 c.length cc [7] δ0 5 s5, frz1 c.length cc [7] δ0 6 s6, frz1 c.length cc [7] δ0 7 (some (.c c.length)), frz1 c.length cc [7] δ0 8 y8, frz1 c.length cc [7] δ0 9 y9, none, none] = _
  rw [g7]
end
end Dn

end
section
set_option maxHeartbeats 1000000
/-! K21_K: webs are right, whole. -/
namespace Dn
open PySem PyProof.Rows
open PySem.W
theorem toks_lt0 : ∀ (a b : List (Int × Int)), PyProof.Rows.lexLt PyProof.Rows.itemOrd (keyToksAll (pys (b.map pr)) ++ [.inl 0]) (keyToksAll (pys (a.map pr)) ++ [.inl 0]) = !leL a b
  | [], [] => by simp [pys, keyToksAll, leL, PyProof.Rows.lexLt, PyProof.Rows.itemLt]
  | [], q :: b => by simp [pys, keyToksAll, leL, PyProof.Rows.lexLt, PyProof.Rows.itemLt]
  | p :: a, [] => by simp [pys, keyToksAll, leL, PyProof.Rows.lexLt, PyProof.Rows.itemLt]
  | p :: a, q :: b => by
    have ih := toks_lt0 a b
    obtain ⟨p1, p2⟩ := p
    obtain ⟨q1, q2⟩ := q
    simp only [List.map_cons, pys, pr, D.py, keyToksAll, keyToks, List.cons_append, List.nil_append, List.append_assoc, PyProof.Rows.lexLt, PyProof.Rows.itemLt, ih, leL]
    by_cases h1 : p1 < q1
    · have : ¬ q1 < p1 := by omega
      have h2 : ¬ p1 = q1 := by omega
      simp [h1, this]
    · by_cases h2 : p1 = q1
      · subst h2
        by_cases h3 : p2 < q2
        · have : ¬ q2 < p2 := by omega
          simp [h3, this]
        · by_cases h4 : p2 = q2
          · subst h4
            simp
          · have : q2 < p2 := by omega
            simp [h3, h4, this]
      · have : q1 < p1 := by omega
        simp [h1, h2, this]
theorem lt_qm {q x : Nd} (h : ltN q x = true) : PySem.W.dataLt (qm x).py (qm q).py = false := by
  show PyProof.Rows.lexLt PyProof.Rows.itemOrd (keyToksAll (pys [.int x.2.length, ts x.2])) (keyToksAll (pys [.int q.2.length, ts q.2])) = false
  have ih := toks_lt0 q.2 x.2
  simp only [pys, D.py, ts, keyToksAll, keyToks, List.cons_append, List.nil_append, List.append_assoc, PyProof.Rows.lexLt, PyProof.Rows.itemLt, ih]
  unfold ltN at h
  rw [Bool.or_eq_true, decide_eq_true_eq, Bool.and_eq_true, decide_eq_true_eq] at h
  rcases h with h | ⟨h1, h2⟩
  · have e1 : ¬ (x.2.length : Int) < (q.2.length : Int) := by omega
    have e2 : ¬ (x.2.length : Int) = (q.2.length : Int) := by omega
    have e3 : (q.2.length : Int) < (x.2.length : Int) := by omega
    simp [e1, e2, e3]
  · simp [h1, h2]
theorem alike_qm (a b : Nd) : PySem.W.alike (qm a).py (qm b).py = true := by
  show PySem.W.alikeAll (pys [.int a.2.length, ts a.2]) (pys [.int b.2.length, ts b.2]) = true
  have := alike_ts a.2 b.2
  simp only [pys, D.py, ts, PySem.W.alikeAll, PySem.W.alike, this, Bool.and_self, Bool.true_and]
theorem qm_ok (f : Nat) (q : Nd) : (qm q).ok (f + 3) = true := by
  unfold qm
  simp only [D.ok, oks]
  rw [show f + 3 - 1 = f + 2 from rfl, ts_ok f]
  simp
theorem minOk_qm (M : List Nd) : minOk (M.map qm) = true := by
  unfold minOk
  rw [Bool.and_eq_true, Bool.and_eq_true]
  refine ⟨⟨oks_map (f := qm) (qm_ok 17) M, ?_⟩, ?_⟩
  · unfold allAlike
    refine List.all_eq_true.mpr fun x hx => List.all_eq_true.mpr fun y hy => ?_
    obtain ⟨a, _, rfl⟩ := List.mem_map.mp hx
    obtain ⟨b, _, rfl⟩ := List.mem_map.mp hy
    exact alike_qm a b
  · refine List.all_eq_true.mpr fun x hx => ?_
    obtain ⟨a, _, rfl⟩ := List.mem_map.mp hx
    rfl
theorem minL_qm {q : Nd} : ∀ r : List Nd, (∀ x ∈ r, ltN q x = true) → minL (qm q) (r.map qm) = qm q
  | [], _ => rfl
  | x :: r, h => by
    rw [List.map_cons, minL, lt_qm (h x List.mem_cons_self)]
    exact minL_qm r fun y hy => h y (List.mem_cons_of_mem _ hy)
theorem sort_pair : ∀ {O : List Nd}, sortB O = true → O.Pairwise fun a b => ltN a b = true
  | [], _ => List.Pairwise.nil
  | q :: l, h => by
    unfold sortB at h
    rw [Bool.and_eq_true, List.all_eq_true] at h
    exact List.pairwise_cons.mpr ⟨h.1, sort_pair h.2⟩
theorem min_filt {O : List Nd} {p : Nd → Bool} (h : sortB O = true) {q : Nd} (hq : O.find? p = some q) : minLD [.lst ((O.filter p).map qm)] = some (qm q) := by
  have e : (O.filter p).head? = some q := by rw [List.head?_filter]; exact hq
  have pw := (sort_pair h).sublist (List.filter_sublist (p := p))
  cases hf : O.filter p with
  | nil => rw [hf] at e; cases e
  | cons a r =>
    rw [hf] at e pw
    cases e
    have := List.pairwise_cons.mp pw
    show (if minOk ((q :: r).map qm) = true then some (minL (qm q) (r.map qm)) else none) = _
    rw [if_pos (minOk_qm _), minL_qm r this.1]
/-! ### enough can always be told -/
def fullL (n : Nat) : St := (List.range n).map fun _ => (List.range n).map fun (i : Nat) => (i : Int)
theorem full1 : ((ord 1).any fun q => decide (q.1 = fullL 1)) = true := by decide +kernel
theorem full2 : ((ord 2).any fun q => decide (q.1 = fullL 2)) = true := by decide +kernel
theorem full3 : ((ord 3).any fun q => decide (q.1 = fullL 3)) = true := by decide +kernel
section
variable {δ : Sl} {c : Cs} {n : Nat} {L0 : St} {O : List Nd}
theorem three_n (h0 : 0 < n) (h4 : n < 4) : n = 1 ∨ n = 2 ∨ n = 3 := by omega
theorem enough_some (h : Sq n L0) : ∃ q, (ord n).find? (fun q => wthn L0 q.1) = some q := by
  have h0 := h.lo
  have h4 := h.hi
  have a : ((ord n).any fun q => decide (q.1 = fullL n)) = true := by
    rcases three_n h0 h4 with rfl | rfl | rfl
    · exact full1
    · exact full2
    · exact full3
  obtain ⟨q, hq, e⟩ := List.any_eq_true.mp a
  have e : q.1 = fullL n := of_decide_eq_true e
  have w : wthn L0 q.1 = true := by
    rw [e, wthn_iff]
    rintro i x hx
    have hi := hx.lt
    have px := hx.pl h.w
    have hl := h.l
    refine ⟨(List.range n).map fun (i : Nat) => (i : Int), ?_, List.mem_map.mpr ⟨x.toNat, List.mem_range.mpr (by omega), by omega⟩⟩
    unfold fullL
    rw [List.getElem?_map, List.getElem?_range (by omega)]
    rfl
  cases f : (ord n).find? (fun q => wthn L0 q.1) with
  | none => exact absurd w (List.find?_eq_none.mp f q hq)
  | some q => exact ⟨q, rfl⟩
theorem ord_len (h0 : 0 < n) (h4 : n < 4) : (ord n).length ≤ 900 ∧ (∀ q ∈ ord n, Sq n q.1) ∧ sortB (ord n) = true := by
  have o := ord_n h0 h4
  unfold ordB at o
  rw [Bool.and_eq_true, Bool.and_eq_true] at o
  refine ⟨?_, fun q hq => ?_, o.1.1⟩
  · have l : ∀ m, m = 1 ∨ m = 2 ∨ m = 3 → (ord m).length ≤ 900 := by
      rintro m (rfl | rfl | rfl) <;> decide +kernel
    exact l n (three_n h0 h4)
  · obtain ⟨i, _, nd⟩ := lvls_nd hq
    exact nd.sq h0 h4
theorem wr5_ok {s5 s6 s7 s8 s9 : Option S} (J : Junk nT c) (h : OwnW n L0) : ∃ e, wr5 (wv n L0 O (some (.d (wb n L0))) (some (.d (justD L0 O))) s5 s6 s7 s8 s9) c = .nx (wv n L0 O (some (.d (wb n L0))) (some (.d (justD L0 O))) s5 s6 s7 s8 s9) (c ++ e) ∧ ∀ y ∈ e, canHide y = true := by
  obtain ⟨q, hq⟩ := enough_some h.sq
  have J' : (tbsOk nT c && (c.drop nT).all canHide) = true := J
  have hql : (q.2.map pr).length < sizeLine := by
    obtain ⟨i, hi, nd⟩ := lvls_nd (List.mem_of_find?_eq_some hq)
    have := nd.l
    have : Rn n ≤ 5 := by unfold Rn; split <;> (try split) <;> omega
    rw [List.length_map]
    exact Nat.lt_of_lt_of_le (show q.2.length < 1000 by omega) (by decide)
  have g1 : mFr nT (mBlt d_enough_talks (mCons (mVar 3) mNil)) (wv n L0 O (some (.d (wb n L0))) (some (.d (justD L0 O))) s5 s6 s7 s8 s9) c = .ok (.c c.length) (c ++ [.lst (q.2.map pr)]) := by
    unfold mFr
    rw [if_pos J', show mBlt d_enough_talks (mCons (mVar 3) mNil) (flatSl (wv n L0 O (some (.d (wb n L0))) (some (.d (justD L0 O))) s5 s6 s7 s8 s9)) (tbs nT) = .ok (.d (ts q.2)) (tbs nT) from blt (a1 (vr flatSl_wv)) ((enough_ok h (tbs_has 1 (by decide))).trans (by rw [hq]; rfl))]
    simp only [tbsOk_tbs, if_true]
    show freshen (.lst (q.2.map pr)) c = _
    simp [freshen, flat_ts]
  refine ⟨[.lst (q.2.map pr ++ [.non])], expr_ok (s := .d .non) ((appS_ok g1 (by simp) (a1 rfl) hql).trans ?_), fun y hy => by rw [List.mem_singleton.mp hy]; rfl⟩
  rw [List.set_append_right _ _ (Nat.le_refl _)]
  simp
theorem wr6_ok {s5 s6 s8 s9 : Option S} (J : Junk nT c) (h : OwnW n L0) (hO : O = ord n) : wr6 (wv n L0 O (some (.d (wb n L0))) (some (.d (justD L0 O))) s5 s6 (some (.d (.lst ((O.filter fun q => wthn L0 q.1).map qm)))) s8 s9) c = .rt (.d (.bl true)) c := by
  subst hO
  obtain ⟨q, hq⟩ := enough_some h.sq
  obtain ⟨_, _, so⟩ := ord_len h.sq.lo h.sq.hi
  have ht : hasTb 1 c = true := by
    obtain ⟨t, _⟩ := Bool.and_eq_true _ _ |>.mp J
    have := tbsOk_get t 1 (by decide)
    unfold hasTb
    rw [this]
    rfl
  refine ret_ok (bin (blt (a2 rfl (a2 (vr rfl) (a1 rfl))) (caught_2 h ht)) (lst2 rfl (bin (blt (a1 (vr rfl)) (lN1 (min_filt so hq))) rfl (l2 (d := ts q.2) (atI_nat (xs := [.int q.2.length, ts q.2]) (n := 1) (by simp))))) ?_)
  rw [hq]
  exact (eqY_two (neg := false) (by decide +kernel) (self_ans (some q)))
theorem webs_right (J : Junk nT c) (h : OwnW n L0) : ∃ e, d_law_webs_right [.d (.int n), .d (qs L0), .d (.lst ((ord n).map qn))] c = .ok (.d (.bl true)) c ∧ ∀ y ∈ (e : Cs), canHide y = true := by
  obtain ⟨ol, osq, so⟩ := ord_len h.sq.lo h.sq.hi
  have f1 : wr1 (wv n L0 (ord n) none none none none none none none) c = .nx (wv n L0 (ord n) (some (.d (wb n L0))) none none none none none none) c :=
    set_ok (make_web h.sq.w (a2 (vr rfl) (a1 (vr rfl))))
  have f2 := wr2_ok (n := n) (L0 := L0) (c := c) (s3 := some (.d (wb n L0))) (s4 := none) (s5 := none) (s6 := none) (s7 := none) (s8 := none) (s9 := none) ol
  obtain ⟨y5, y6, e, f3, he⟩ := wr3_ok (s5 := none) (s6 := none) (s7 := none) (s8 := none) (s9 := none) J h rfl
  obtain ⟨z5, z6, z8, z9, f4⟩ := wr4_ok (c := c ++ e) (O := ord n) (s4 := some (.d (justD L0 (ord n)))) (s5 := y5) (s6 := y6) (s8 := none) (s9 := none) h.sq osq ol ⟨_, rfl⟩
  obtain ⟨e', f5, he'⟩ := wr5_ok (c := c ++ e) (O := ord n) (s5 := z5) (s6 := z6) (s7 := some (.d (.lst (((ord n).filter fun q => wthn L0 q.1).map qm)))) (s8 := z8) (s9 := z9) (J.apps he) h
  have f6 := wr6_ok (c := c ++ e ++ e') (s5 := z5) (s6 := z6) (s8 := z8) (s9 := z9) ((J.apps he).apps he') h rfl
  refine ⟨[], fn_cut (e := e ++ e') rfl rfl ?_, fun y hy => by cases hy⟩
  rw [← List.append_assoc]
  exact seq_go f1 (seq_go f2 (seq_go f3 (seq_go f4 (seq_go f5 f6))))
end
end Dn

end
section
set_option maxHeartbeats 1000000
/-! K21_L: talks drawn, lots drawn. -/
namespace Dn
open PySem
section
variable {c cb : Cs} {δ : Sl} {n : Nat} {ls T U W L A : List (List Int)} {p : Int × Int}
theorem en_get2 : ∀ (m : Nat) (ls : List (List Int)) (i : Nat), (en m ls)[i]? = (ls[i]?).map fun l => (m + i, l)
  | m, [], i => by simp [en]
  | m, l :: ls, 0 => by simp [en]
  | m, l :: ls, i + 1 => by
    have := en_get2 (m + 1) ls i
    simp only [en, List.getElem?_cons_succ, this]
    congr 1
    funext l
    congr 1
    omega
theorem In_tkd (h : Sq n L) (k : TkOk n p) {i : Nat} {x : Int} : In (tkd L p) i x ↔ In L i x ∨ ((i : Int) = p.2 ∧ In L p.1.toNat x) := by
  have ka := k.a0; have kb := k.a1; have kc := k.b0; have kd := k.b1
  have hl := h.l
  have hp1 : p.1.toNat < L.length := by omega
  have gd : L[p.1.toNat]? = some (L.getD p.1.toNat []) := by
    rw [List.getD_eq_getElem?_getD, List.getElem?_eq_getElem hp1]; rfl
  constructor
  · rintro ⟨l, hl, hx⟩
    rw [tkd, List.getElem?_map, en_get2] at hl
    cases e : L[i]? with
    | none => rw [e] at hl; simp at hl
    | some m =>
      rw [e] at hl
      simp only [Option.map_some, Option.some.injEq, Nat.zero_add] at hl
      subst hl
      by_cases hi : (i : Int) = p.2
      · rw [if_pos hi] at hx
        obtain ⟨_, l2, hl2, hx2⟩ := mem_uni.mp hx
        simp only [List.mem_cons, List.not_mem_nil, or_false] at hl2
        rcases hl2 with hl2 | hl2
        · exact .inl ⟨_, e, hl2 ▸ hx2⟩
        · exact .inr ⟨hi, _, gd, hl2 ▸ hx2⟩
      · rw [if_neg hi] at hx
        exact .inl ⟨m, e, hx⟩
  · intro hh
    have hi : i < L.length := by
      rcases hh with a | ⟨a, b⟩
      · exact a.lt
      · omega
    have key : In (tkd L p) i x ↔ x ∈ (if (i : Int) = p.2 then uni [L[i], L.getD p.1.toNat []] else L[i]) := by
      unfold In
      rw [tkd, List.getElem?_map, en_get2, List.getElem?_eq_getElem hi]
      simp
    rw [key]
    have th : x = 0 ∨ x = 1 ∨ x = 2 := by
      rcases hh with a | ⟨a, b⟩
      · exact a.three h.w
      · exact b.three h.w
    rcases hh with ⟨l, a, b⟩ | ⟨a, l, b, hx⟩
    · rw [List.getElem?_eq_getElem hi] at a
      cases a
      split
      · exact mem_uni.mpr ⟨th, _, List.mem_cons_self, b⟩
      · exact b
    · rw [gd] at b
      cases b
      rw [if_pos a]
      exact mem_uni.mpr ⟨th, _, by simp, hx⟩
theorem aft_snoc (X : List (Int × Int)) (t : Int × Int) : aft n (X ++ [t]) = tkd (aft n X) t := by simp [aft]
theorem Sq.aftn (h1 : 0 < n) (h4 : n < 4) {X : List (Int × Int)} (h : ∀ p ∈ X, TkOk n p) : Sq n (Dn.aft n X) := Sq.aft h1 h4 h (Sq.own h1 h4)
theorem OwnW.of (h : Sq n L) (hi : ∀ i : Nat, i < n → In L i i) : OwnW n L := ⟨h, fun i l hl => by
  have hn : i < n := by rw [← h.l]; exact (List.getElem?_eq_some_iff.mp hl).1
  obtain ⟨m, hm, hx⟩ := hi i hn
  rw [hl] at hm
  cases hm
  exact hx⟩
theorem OwnW.in (h : OwnW n L) {i : Nat} (hi : i < n) : In L i i := by
  have hl : i < L.length := by rw [h.sq.l]; exact hi
  exact ⟨L[i], List.getElem?_eq_getElem hl, h.own i _ (List.getElem?_eq_getElem hl)⟩
theorem OwnW.tkd (h : OwnW n L) (t : TkOk n p) : OwnW n (Dn.tkd L p) := .of (h.sq.tkd t) fun i hi => (In_tkd h.sq t).mpr (.inl (h.in hi))
theorem OwnW.ownn (h1 : 0 < n) (h4 : n < 4) : OwnW n (Dn.own n) := .of (Sq.own h1 h4) fun i hi => In_own.mpr ⟨hi, rfl⟩
theorem OwnW.fold : ∀ {X : List (Int × Int)} {L : List (List Int)}, OwnW n L → (∀ p ∈ X, TkOk n p) → OwnW n (X.foldl Dn.tkd L)
  | [], _, h, _ => h
  | t :: X, L, h, ht => OwnW.fold (X := X) (L := Dn.tkd L t) (h.tkd (ht t List.mem_cons_self)) fun p hp => ht p (List.mem_cons_of_mem _ hp)
theorem OwnW.aft (h1 : 0 < n) (h4 : n < 4) {X : List (Int × Int)} (h : ∀ p ∈ X, TkOk n p) : OwnW n (Dn.aft n X) := OwnW.fold (OwnW.ownn h1 h4) h
end
section
variable {δ : Sl} {c : Cs} {n : Nat}
theorem cloopM {α : Type} {g : GT} {C : MT} {A : M} {δ : Sl} {q : α → S} {f : α → D} (M : α → Prop) (J : Nat → Cs → Prop) : ∀ (ys : List α) (acc : List D) (N : Nat) (c1 : Cs), J N c1 → c1.length = n →
    (∀ y ∈ ys, ∃ δ1, (∀ c', g (q y) c' δ = some δ1) ∧ (∀ c', A δ1 c' = .ok (.d (f y)) c') ∧ ∀ (N : Nat) (c1 : Cs) (acc : List D), J N c1 → c1.length = n → N < 100000 → ∃ b c2, C δ1 (c1 ++ [.lst acc]) = .ok b (c2 ++ [.lst acc]) ∧ (M y → b = true) ∧ J (N + 1) c2 ∧ c2.length = n) → acc.length + ys.length ≤ sizeLine → N + ys.length < 100000 →
    ∃ (c2 : Cs) (zs : List α), cloop g C (fun δ1 c1 => (A δ1 c1).bindN (push n)) δ (ys.map q) (c1 ++ [.lst acc]) = .ok () (c2 ++ [.lst (acc ++ zs.map f)]) ∧ J (N + ys.length) c2 ∧ c2.length = n ∧ zs.Sublist ys ∧ ∀ y ∈ ys, M y → y ∈ zs
  | [], acc, N, c1, hJ, hl, _, _, _ => ⟨c1, [], by simp [cloop], hJ, hl, List.Sublist.refl _, fun y hy => by cases hy⟩
  | y :: ys, acc, N, c1, hJ, hl, h, hs, hN => by
    obtain ⟨δ1, h1, h2, h3⟩ := h y List.mem_cons_self
    simp only [List.length_cons] at hs hN
    obtain ⟨b, c2, e, hm, hJ2, hl2⟩ := h3 N c1 acc hJ hl (by omega)
    simp only [List.map_cons]
    unfold cloop
    rw [h1]
    simp only
    rw [e]
    simp only [bindN_ok]
    cases b with
    | true =>
      rw [if_pos rfl, h2]
      have ep : push n (.d (f y)) (c2 ++ [.lst acc]) = .ok () (c2 ++ [.lst (acc ++ [f y])]) := by
        have e0 : (c2 ++ [CC.lst acc])[n]? = some (CC.lst acc) := by rw [← hl2]; simp
        unfold push
        simp only [e0]
        rw [if_pos (by omega), ← hl2]
        simp
      simp only [bindN_ok, ep]
      obtain ⟨c3, zs, e3, hJ3, hl3, hz, hzm⟩ := cloopM M J ys (acc ++ [f y]) (N + 1) c2 hJ2 hl2 (fun x hx => h x (List.mem_cons_of_mem _ hx)) (by simp; omega) (by omega)
      refine ⟨c3, y :: zs, by rw [e3]; simp, by rw [show N + (y :: ys).length = N + 1 + ys.length by simp; omega]; exact hJ3, hl3, hz.cons_cons _, fun x hx mx => by
        rcases List.mem_cons.mp hx with rfl | hx
        · exact List.mem_cons_self
        · exact List.mem_cons_of_mem _ (hzm x hx mx)⟩
    | false =>
      rw [if_neg (by simp)]
      obtain ⟨c3, zs, e3, hJ3, hl3, hz, hzm⟩ := cloopM M J ys acc (N + 1) c2 hJ2 hl2 (fun x hx => h x (List.mem_cons_of_mem _ hx)) (by omega) (by omega)
      refine ⟨c3, zs, e3, by rw [show N + (y :: ys).length = N + 1 + ys.length by simp; omega]; exact hJ3, hl3, hz.cons _, fun x hx mx => by
        rcases List.mem_cons.mp hx with rfl | hx
        · exact absurd (hm mx) (by decide)
        · exact hzm x hx mx⟩
theorem compM2 {α : Type} {I : MI} {g : GT} {C : MT} {A : M} {vs : List Nat} {c : Cs} (M : α → Prop) (J : Nat → Cs → Prop) (ys : List α) (q : α → S) (f : α → D) {N : Nat} (hI : I δ c = .ok (.xs (ys.map q)) c) (hJ : J N c) (hl : ys.length ≤ 1000) (hN : N ≤ 50000)
    (h : ∀ y ∈ ys, ∃ δ1, (∀ c', g (q y) c' (wipeD δ vs) = some δ1) ∧ (∀ c', A δ1 c' = .ok (.d (f y)) c') ∧ ∀ (N : Nat) (c1 : Cs) (acc : List D), J N c1 → c1.length = c.length → N < 100000 → ∃ b c2, C δ1 (c1 ++ [.lst acc]) = .ok b (c2 ++ [.lst acc]) ∧ (M y → b = true) ∧ J (N + 1) c2 ∧ c2.length = c.length) :
    ∃ (c2 : Cs) (zs : List α), mComp I g C A vs δ c = .ok (.d (.lst (zs.map f))) c2 ∧ J (N + ys.length) c2 ∧ c2.length = c.length ∧ zs.Sublist ys ∧ ∀ y ∈ ys, M y → y ∈ zs := by
  obtain ⟨c2, zs, e, hJ2, hl2, hz, hzm⟩ := cloopM M J ys [] N c hJ rfl h (by simpa using small_size hl) (by omega)
  refine ⟨c2, zs, ?_, hJ2, hl2, hz, hzm⟩
  unfold mComp
  rw [hI]
  simp only [bind_ok, cloopI]
  rw [e]
  simp only [bindN_ok, List.nil_append, finC]
  have e0 : (c2 ++ [CC.lst (zs.map f)])[c.length]? = some (CC.lst (zs.map f)) := by rw [← hl2]; simp
  simp only [e0]
  rw [← hl2]
  simp
end
section
variable {δ : Sl} {c cb : Cs}
theorem Junk.tb (h : Junk 2 c) {j : Nat} (hj : j < 2) : hasTb j c = true := by
  unfold Junk at h
  rw [Bool.and_eq_true] at h
  have := tbsOk_get h.1 j hj
  unfold hasTb
  rw [this]
  exact beq_self_eq_true j
theorem take0 {N k : Nat} {m : Int} (hk : k < cb.length) (hb : BxAt cb k N c) (hN : N ≤ 1000000) (hm : 1 ≤ m ∧ m ≤ 1000) : ∃ (v : Nat) (c2 : Cs), d_law_take [.c k, .d (.int m)] c = .ok (.d (.int v)) c2 ∧ (v : Int) < m ∧ BxAt cb k (N + 1) c2 := by
  obtain ⟨v, c2, e, h1, h2, b⟩ := take_at (e := []) (m := m) hk hb hN hm
  rw [List.append_nil, List.append_nil] at e
  exact ⟨v.toNat, c2, by rw [e, Int.toNat_of_nonneg h1], by omega, b⟩
theorem appE_ok {A : M} {B : MA} {acc : List D} {x : D} {c0 c2 : Cs} {k : Nat} (hA : A δ c0 = .ok (.c k) c0) (h0 : ∃ acc0, c0[k]? = some (.lst acc0)) (hB : B δ c0 = .ok [.d x] (c2 ++ [.lst acc])) (hk : k = c2.length) (hl : acc.length < sizeLine) : mAppend A B δ c0 = .ok (.d .non) (c2 ++ [.lst (acc ++ [x])]) := by
  subst hk
  obtain ⟨acc0, h0⟩ := h0
  have e0 : (c2 ++ [CC.lst acc])[c2.length]? = some (CC.lst acc) := by simp
  unfold mAppend
  rw [hA]
  simp only [bind_ok, h0]
  rw [hB]
  simp only [bind_ok, appendC, e0]
  rw [if_pos hl]
  simp
/-! ### lots with the own seats -/
abbrev olB : MS := (sExpr (mAppend (mVar 2) (mCons (mComp (iRng (mCons (mVar 1) mNil)) (gtName 4) (mtOr (mTB (mBin (eqG eqs kEq 4) (mVar 4) (mVar 3))) (mTB (mBin (eqG eqs kEq 4) (mBlt d_law_take (mCons (mVar 0) (mCons (mC (.int 2)) mNil))) (mC (.int 0))))) (mVar 4) [4]) mNil)))
abbrev olv (b n : Nat) (s2 s3 : Option S) : Sl := [some (.c b), some (.d (.int n)), s2, s3, none]
theorem own_lots_ok {b n N : Nat} (h0 : 0 < n) (h4 : n < 4) (hk : b < cb.length) (hb : BxAt cb b N c) (hN : N ≤ 10000) : ∃ ls c2, d_law_own_lots [.c b, .d (.int n)] c = .ok (.d (qs ls)) c2 ∧ OwnW n ls ∧ BxAt cb b (N + 9) c2 := by
  have hbl := hb.len
  obtain ⟨δ', c', e, ls, c1, s3, rfl, rfl, hlen, hok, hb1⟩ := for_inv (δ := olv b n (some (.c c.length)) none) (c := c ++ [.lst []]) (I := iRng (mCons (mVar 1) mNil)) (g := gtName 3) (B := olB) (List.range n) (fun (i : Nat) => sI i)
    (fun done δ c' => ∃ (ls : St) (c1 : Cs) (s3 : Option S), δ = olv b n (some (.c c.length)) s3 ∧ c' = c1 ++ [.lst (ls.map lotL)] ∧ ls.length = done.length ∧ (∀ (i : Nat) (l : List Int), ls[i]? = some l → LotOk n l ∧ (i : Int) ∈ l) ∧ BxAt cb b (N + 3 * done.length) c1) (rngN_ok (a1 (vr rfl)) (by omega)) ⟨[], c, none, rfl, rfl, rfl, fun i l h => by simp at h, hb⟩ (by
      rintro done i rest δ c2 hy ⟨ls, c1, s3, rfl, rfl, hlen, hok, hb1⟩
      have hi : i < n := List.mem_range.mp (by rw [hy]; simp)
      have ei : i = done.length := by
        have hdl : done.length < n := by
          have := congrArg List.length hy
          rw [List.length_range, List.length_append, List.length_cons] at this
          omega
        have := congrArg (fun l => l[done.length]?) hy
        simp [hdl] at this
        exact this.symm
      have h1l := hb1.len
      obtain ⟨c3, zs, e3, ⟨c4, rfl, hb4⟩, hl3, hz, hzm⟩ := compM2 (δ := olv b n (some (.c c.length)) (some (sI i))) (c := c1 ++ [.lst (ls.map lotL)]) (I := iRng (mCons (mVar 1) mNil)) (g := gtName 4) (C := mtOr (mTB (mBin (eqG eqs kEq 4) (mVar 4) (mVar 3))) (mTB (mBin (eqG eqs kEq 4) (mBlt d_law_take (mCons (mVar 0) (mCons (mC (.int 2)) mNil))) (mC (.int 0))))) (A := mVar 4) (vs := [4])
        (fun (j : Nat) => j = i) (fun M c3 => ∃ c4, c3 = c4 ++ [.lst (ls.map lotL)] ∧ BxAt cb b M c4) (List.range n) (fun (j : Nat) => sI j) (fun (j : Nat) => D.int (j : Int)) (N := N + 3 * done.length) (rngN_ok (a1 (vr rfl)) (by omega)) ⟨c1, rfl, hb1⟩ (by simp; omega) (by omega) (by
          intro j _
          refine ⟨_, fun _ => rfl, fun c' => vr rfl, ?_⟩
          rintro M c3 acc ⟨c4, rfl, hb4⟩ hl hM
          by_cases ej : j = i
          · subst ej
            refine ⟨true, c4 ++ [.lst (ls.map lotL)], tor_yes ((tb_ok (bin (vr rfl) (vr rfl) (eqG_int _ _))).trans (by simp)), fun _ => rfl, ⟨c4, rfl, hb4.mono (by omega)⟩, by simp [hb4.len, hb1.len]⟩
          · obtain ⟨w, c5, e5, w0, w2, hb5⟩ := take_at (e := [.lst (ls.map lotL), .lst acc]) (m := 2) hk hb4 (by omega) (by omega)
            have e6 : (((j : Nat) : Int) == ((i : Nat) : Int)) = false := beq_eq_false_iff_ne.mpr (by omega)
            refine ⟨w == 0, c5 ++ [.lst (ls.map lotL)], tor_no (c' := c4 ++ [.lst (ls.map lotL)] ++ [.lst acc]) ((tb_ok (bin (vr rfl) (vr rfl) (eqG_int _ _))).trans (by rw [e6])) (tb_ok (bin (blt (a2 (vr rfl) (a1 rfl)) (c' := c4 ++ [.lst (ls.map lotL)] ++ [.lst acc]) (r := .ok (.d (.int w)) (c5 ++ [.lst (ls.map lotL)] ++ [.lst acc])) ?_) rfl (eqG_int _ _))), fun z => absurd z ej, ⟨c5, rfl, hb5⟩, by simp [hb5.len, hb1.len]⟩
            rw [List.append_assoc, List.append_assoc]
            exact e5)
      have hb4l := hb4.len
      have lo : LotOk n (zs.map fun (j : Nat) => (j : Int)) := sub_lot hz
      have lin : (i : Int) ∈ zs.map fun (j : Nat) => (j : Int) := List.mem_map.mpr ⟨i, hzm i (List.mem_range.mpr hi) rfl, rfl⟩
      refine ⟨_, _, c4 ++ [.lst ((ls ++ [zs.map fun (j : Nat) => (j : Int)]).map lotL)], rfl, expr_ok (s := .d .non) ?_, ls ++ [zs.map fun (j : Nat) => (j : Int)], c4, some (sI i), rfl, rfl, by simp [hlen], fun k l hk2 => ?_, hb4.mono (by simp; omega)⟩
      · have := appE_ok (δ := olv b n (some (.c c.length)) (some (sI i))) (A := mVar 2) (c0 := c1 ++ [.lst (ls.map lotL)]) (c2 := c4) (k := c.length) (acc := ls.map lotL) (x := lotL (zs.map fun (j : Nat) => (j : Int))) (vr rfl) ⟨ls.map lotL, by rw [show c.length = c1.length by omega]; simp⟩ (a1 (e3.trans (by unfold lotL; rw [List.map_map]; rfl))) (by omega) (by rw [List.length_map]; exact Nat.lt_of_le_of_lt (show ls.length ≤ 10 by omega) (by decide))
        refine Eq.trans (show _ = _ from this) ?_
        rw [List.map_append]
        rfl
      · by_cases h : k < ls.length
        · rw [List.getElem?_append_left h] at hk2
          exact hok k l hk2
        · have hk3 := (List.getElem?_eq_some_iff.mp hk2).1
          rw [List.length_append, List.length_singleton] at hk3
          have ek : k = ls.length := by omega
          subst ek
          simp at hk2
          subst hk2
          refine ⟨lo, ?_⟩
          rw [hlen, ← ei]
          exact lin)
  rw [List.length_range] at hlen hb1
  have e0 : sSet 2 (mCell mNil) (olv b n none none) c = .nx (olv b n (some (.c c.length)) none) (c ++ [.lst []]) := set_ok rfl
  have e2 := frz_nx (js := [2]) (seqs2 e0 e)
  have hl1 := hb1.len
  have hbl := hb.len
  have sq : Sq n ls := ⟨⟨by omega, by omega, by omega, by omega, fun l hl => by
    obtain ⟨i, hi⟩ := List.getElem?_of_mem hl
    exact (hok i l hi).1⟩, hlen⟩
  rw [show c.length = c1.length by omega, List.take_left] at e2
  refine ⟨ls, c1, fn_rs rfl (by omega) (seq_go (show sFrz [2] _ (olv b n none none) c = _ from e2) (ret_ok (vr ?_))), ⟨sq, fun i l hl => (hok i l hl).2⟩, hb1.mono (by omega)⟩
  rw [frzSl_get]
  show Option.map (frz1 _ _ _ _ (0 + 2)) (some (some (.c c1.length))) = _
  rw [Option.map_some, frz_lst (xs := ls.map lotL) (by simp) rfl]
  rfl
end
end Dn

end
section
set_option maxHeartbeats 1000000
/-! K21_M: talks are right. -/
namespace Dn
open PySem
abbrev tr1 : MS := (sFrz [2] (seqs [(sPar 2 3 (mCons (mCell mNil) (mCons (mComp (iRng (mCons (mVar 1) mNil)) (gtName 6) mtYes (mLst (mCons (mVar 6) mNil)) [6]) mNil))), (sFor (iRng (mCons (mBin (lift2 mulD) (mBlt d_law_take (mCons (mVar 0) (mCons (mC (.int 10)) mNil))) (mBlt (liftN intBD) (mCons (mBin (lift2 gtD) (mVar 1) (mC (.int 1))) mNil))) mNil)) (gtName 4) (sSeq (sSet 5 (mBlt d_law_all_talks (mCons (mVar 1) mNil))) (sSeq (sExpr (mAppend (mVar 2) (mCons (mBin (lift2 ixD) (mVar 5) (mBlt d_law_take (mCons (mVar 0) (mCons (mBlt (lenX (lenO lens)) (mCons (mVar 5) mNil)) mNil)))) mNil))) (sSet 3 (mBlt d_law_talked (mCons (mVar 3) (mCons (mBin (lift2 ixD) (mVar 2) (mUn (lift1 negD) (mC (.int 1)))) mNil)))))))]))
abbrev tr2 : MS := (sIf (mTB (mBin (eqY eqs 4 true) (mBlt d_law_caught (mCons (mC (.int 0)) (mCons (mVar 1) (mCons (mVar 2) mNil)))) (mLst (mCons (mC (.str "told")) (mCons (mMake 0 2 d_Web_init (mCons (mVar 1) (mCons (mVar 3) mNil))) mNil))))) (sRet (mC .non)) sNil)
abbrev tr3 : MS := (sIf (mTB (mBin (eqY eqs 4 true) (mBlt d_law_caught (mCons (mC (.int 0)) (mCons (mVar 1) (mCons (mBlt (liftN tupleD) (mCons (mVar 2) mNil)) mNil)))) (mLst (mCons (mC (.str "told")) (mCons (mMake 0 2 d_Web_init (mCons (mVar 1) (mCons (mVar 3) mNil))) mNil))))) (sRet (mC .non)) sNil)
abbrev tr4 : MS := (sRet (mVar 3))
abbrev tr : MS := sSeq tr1 (sSeq tr2 (sSeq tr3 tr4))
abbrev trP : MS := (sPar 2 3 (mCons (mCell mNil) (mCons (mComp (iRng (mCons (mVar 1) mNil)) (gtName 6) mtYes (mLst (mCons (mVar 6) mNil)) [6]) mNil)))
abbrev trB : MS := (sSeq (sSet 5 (mBlt d_law_all_talks (mCons (mVar 1) mNil))) (sSeq (sExpr (mAppend (mVar 2) (mCons (mBin (lift2 ixD) (mVar 5) (mBlt d_law_take (mCons (mVar 0) (mCons (mBlt (lenX (lenO lens)) (mCons (mVar 5) mNil)) mNil)))) mNil))) (sSet 3 (mBlt d_law_talked (mCons (mVar 3) (mCons (mBin (lift2 ixD) (mVar 2) (mUn (lift1 negD) (mC (.int 1)))) mNil))))))
abbrev trI : MI := (iRng (mCons (mBin (lift2 mulD) (mBlt d_law_take (mCons (mVar 0) (mCons (mC (.int 10)) mNil))) (mBlt (liftN intBD) (mCons (mBin (lift2 gtD) (mVar 1) (mC (.int 1))) mNil))) mNil))
section
variable {δ : Sl} {c cb : Cs} {n : Nat} {L0 : St} {X : List (Int × Int)}
theorem self_wb {f : Nat} (n : Int) (L : St) : eqR eqs (f + 1) (wb n L) (wb n L) = some true := by
  have h : d_Web_eq [.d (wb n L), .d (wb n L)] [] = .ok (.d (.bl true)) [] := web_eq.trans (by simp)
  unfold wb at h ⊢
  unfold eqR
  rw [if_neg (by simp [D.ok])]
  simp only [objEq, if_true, eqs, look]
  rw [if_neg (by decide)]
  simp only [h, isB]
theorem caught_0 (h0 : 0 < n) (h4 : n < 4) {d : D} (hd : IsSeq d (X.map pr)) (hX : ∀ p ∈ X, TkOk n p) (hl : X.length ≤ 9) : d_law_caught [.d (.int 0), .d (.int n), .d d] c = .ok (.d (.lst [.str "told", wb n (aft n X)])) c :=
  fn_rt rfl (tryM_rt (seq_rt ((if_t (c' := c) ((tb_ok (bin (vr rfl) rfl (eqG_int _ _))).trans rfl)).trans (ret_ok (lst2 rfl (blt (a2 (vr rfl) (a1 (vr rfl))) (after_talks_ok h0 h4 hd hX hl)))))))
theorem atI_last {α : Type} {xs : List α} {x : α} : L2.atI (xs ++ [x]) (-1) = some x := by
  have hl : (xs ++ [x]).length = xs.length + 1 := by simp
  unfold L2.atI L2.ixN
  rw [hl, if_neg (by decide)]
  have : (0 : Int) ≤ ((xs.length + 1 : Nat) : Int) + -1 := by omega
  simp [this]
  rw [if_pos (by omega), show (-1 + ((xs.length : Int) + 1)).toNat = xs.length by omega]
  simp
abbrev tv (b n : Nat) (s2 s3 s4 s5 : Option S) : Sl := [some (.c b), some (.d (.int n)), s2, s3, s4, s5, none]
theorem talks_pos (h0 : 1 < n) (h4 : n < 4) : 1 ≤ (talksOf n).length := by
  have : n = 2 ∨ n = 3 := by omega
  rcases this with rfl | rfl <;> decide
theorem trB_ok {b N k : Nat} {s5 : Option S} {s4 : Option S} (h1 : 1 < n) (h4 : n < 4) (hk : b < cb.length) (hb : BxAt cb b N c) (hN : N ≤ 10000) (hkc : k = c.length) (hX : ∀ p ∈ X, TkOk n p) (hl : X.length ≤ 20) : ∃ t c2 y5, trB (tv b n (some (.c k)) (some (.d (qs (aft n X)))) s4 s5) (c ++ [.lst (X.map pr)]) = .nx (tv b n (some (.c k)) (some (.d (qs (aft n (X ++ [t]))))) s4 y5) (c2 ++ [.lst ((X ++ [t]).map pr)]) ∧ TkOk n t ∧ BxAt cb b (N + 1) c2 := by
  subst hkc
  have tl := talks_len h4
  have tp := talks_pos h1 h4
  obtain ⟨v, c2, e2, v0, v1, b2⟩ := take_at (e := [.lst (X.map pr)]) (m := ((talksOf n).length : Int)) hk hb (by omega) (by omega)
  obtain ⟨j, rfl⟩ : ∃ j : Nat, v = j := ⟨v.toNat, by omega⟩
  have hj : j < (talksOf n).length := by omega
  have ht := talks_ok (List.getElem_mem hj)
  have hlen : c2.length = c.length := by rw [b2.len, hb.len]
  have f1 : sSet 5 (mBlt d_law_all_talks (mCons (mVar 1) mNil)) (tv b n (some (.c c.length)) (some (.d (qs (aft n X)))) s4 s5) (c ++ [.lst (X.map pr)]) = .nx (tv b n (some (.c c.length)) (some (.d (qs (aft n X)))) s4 (some (.d (.lst ((talksOf n).map pr))))) (c ++ [.lst (X.map pr)]) :=
    set_ok (blt (a1 (vr rfl)) (law_all_ok h4))
  have f2 := appE_ok (δ := tv b n (some (.c c.length)) (some (.d (qs (aft n X)))) s4 (some (.d (.lst ((talksOf n).map pr))))) (A := mVar 2) (B := mCons (mBin (lift2 ixD) (mVar 5) (mBlt d_law_take (mCons (mVar 0) (mCons (mBlt (lenX (lenO lens)) (mCons (mVar 5) mNil)) mNil)))) mNil) (c0 := c ++ [.lst (X.map pr)]) (c2 := c2) (k := c.length) (acc := X.map pr) (x := pr (talksOf n)[j]) (vr rfl) ⟨X.map pr, by simp⟩
    (a1 (bin (vr rfl) (blt (a2 (vr rfl) (a1 ((blt (a1 (vr rfl)) (lX1 (g := lenO lens) (d := .int (((talksOf n).map pr).length)) rfl)).trans (by rw [List.length_map])))) e2) (l2 (by
      have := atI_nat (xs := (talksOf n).map pr) (n := j) (by simpa using hj)
      rw [List.getElem_map] at this
      exact this)))) hlen.symm (by rw [List.length_map]; exact Nat.lt_of_le_of_lt hl (by decide))
  have hg : (c2 ++ [CC.lst (X.map pr ++ [pr (talksOf n)[j]])])[c.length]? = some (.lst (X.map pr ++ [pr (talksOf n)[j]])) := by rw [← hlen]; simp
  have sq : Sq n (aft n X) := Sq.aftn (by omega) h4 hX
  have f3 : sSet 3 (mBlt d_law_talked (mCons (mVar 3) (mCons (mBin (lift2 ixD) (mVar 2) (mUn (lift1 negD) (mC (.int 1)))) mNil))) (tv b n (some (.c c.length)) (some (.d (qs (aft n X)))) s4 (some (.d (.lst ((talksOf n).map pr))))) (c2 ++ [.lst (X.map pr ++ [pr (talksOf n)[j]])]) = .nx (tv b n (some (.c c.length)) (some (.d (qs (aft n (X ++ [(talksOf n)[j]]))))) s4 (some (.d (.lst ((talksOf n).map pr))))) (c2 ++ [.lst (X.map pr ++ [pr (talksOf n)[j]])]) := by
    rw [aft_snoc]
    exact set_ok (blt (a2 (vr rfl) (a1 (ix_cell hg (vr rfl) (show mUn (lift1 negD) (mC (.int 1)) _ _ = .ok (.d (.int (-1))) _ from rfl) atI_last))) (law_talked_ok sq ht))
  have em : X.map pr ++ [pr (talksOf n)[j]] = (X ++ [(talksOf n)[j]]).map pr := by rw [List.map_append]; rfl
  rw [em] at f2 f3
  exact ⟨(talksOf n)[j], c2, some (.d (.lst ((talksOf n).map pr))), seq_go f1 (seq_go (expr_ok f2) f3), ht, b2⟩
theorem tr1_ok {b N : Nat} (h0 : 0 < n) (h4 : n < 4) (hk : b < cb.length) (hb : BxAt cb b N c) (hN : N ≤ 9000) : ∃ X c2 y4 y5, tr1 (tv b n none none none none) c = .nx (tv b n (some (.d (.lst (X.map pr)))) (some (.d (qs (aft n X)))) y4 y5) c2 ∧ (∀ p ∈ X, TkOk n p) ∧ X.length ≤ 9 ∧ BxAt cb b (N + 10) c2 := by
  have hbl := hb.len
  have e0 : trP (tv b n none none none none) c = .nx (tv b n (some (.c c.length)) (some (.d (qs (aft n [])))) none none) (c ++ [.lst []]) :=
    par_ok (a2 rfl (a1 (rng_own (by omega) (fun _ _ => trivial) (rngN_ok (a1 (vr rfl)) (by omega)) (by simp [wipeD]))))
  obtain ⟨v, c1, e1, v0, v1, b1⟩ := take_at (e := [.lst []]) (m := 10) hk hb (by omega) (by omega)
  obtain ⟨j, rfl⟩ : ∃ j : Nat, v = j := ⟨v.toNat, by omega⟩
  have hc1 := b1.len
  obtain ⟨m, hm, hm9, hm0⟩ : ∃ m : Nat, mBin (lift2 mulD) (mBlt d_law_take (mCons (mVar 0) (mCons (mC (.int 10)) mNil))) (mBlt (liftN intBD) (mCons (mBin (lift2 gtD) (mVar 1) (mC (.int 1))) mNil)) (tv b n (some (.c c.length)) (some (.d (qs (aft n [])))) none none) (c ++ [.lst []]) = .ok (.d (.int m)) (c1 ++ [.lst []]) ∧ m ≤ 9 ∧ (n = 1 → m = 0) := by
    have g : ∀ c' : Cs, mBlt (liftN intBD) (mCons (mBin (lift2 gtD) (mVar 1) (mC (.int 1))) mNil) (tv b n (some (.c c.length)) (some (.d (qs (aft n [])))) none none) c' = .ok (.d (.int (if n = 1 then 0 else 1))) c' := fun c' => by
      refine blt (a1 (bin (vr rfl) rfl (l2 (d := .bl (decide ((1 : Int) < n))) rfl))) (lN1 ?_)
      by_cases e : n = 1
      · subst e; rfl
      · show some (D.int (if decide ((1 : Int) < n) = true then 1 else 0)) = _
        rw [if_pos (decide_eq_true (by omega)), if_neg e]
    by_cases e : n = 1
    · refine ⟨0, bin (blt (a2 (vr rfl) (a1 rfl)) e1) (g _) (l2 ?_), by omega, fun _ => rfl⟩
      rw [if_pos e]
      have : j = 0 ∨ j = 1 ∨ j = 2 ∨ j = 3 ∨ j = 4 ∨ j = 5 ∨ j = 6 ∨ j = 7 ∨ j = 8 ∨ j = 9 := by omega
      rcases this with rfl | rfl | rfl | rfl | rfl | rfl | rfl | rfl | rfl | rfl <;> rfl
    · refine ⟨j, bin (blt (a2 (vr rfl) (a1 rfl)) e1) (g _) (l2 ?_), by omega, fun z => absurd z e⟩
      rw [if_neg e]
      have : j = 0 ∨ j = 1 ∨ j = 2 ∨ j = 3 ∨ j = 4 ∨ j = 5 ∨ j = 6 ∨ j = 7 ∨ j = 8 ∨ j = 9 := by omega
      rcases this with rfl | rfl | rfl | rfl | rfl | rfl | rfl | rfl | rfl | rfl <;> rfl
  obtain ⟨δ', c', e2, X, c3, s4, s5, rfl, rfl, hXl, hX, b3⟩ := for_inv (δ := tv b n (some (.c c.length)) (some (.d (qs (aft n [])))) none none) (c := c ++ [.lst []]) (I := trI) (g := gtName 4) (B := trB) (List.range m) (fun (i : Nat) => sI i)
    (fun done δ c' => ∃ X c3 s4 s5, δ = tv b n (some (.c c.length)) (some (.d (qs (aft n X)))) s4 s5 ∧ c' = c3 ++ [.lst (X.map pr)] ∧ X.length = done.length ∧ (∀ p ∈ X, TkOk n p) ∧ BxAt cb b (N + 1 + done.length) c3) (rngN_ok (a1 hm) (by omega)) ⟨[], c1, none, none, rfl, rfl, rfl, (fun p hp => by cases hp), b1⟩ (by
      rintro done i rest δ c' hy ⟨X, c3, s4, s5, rfl, rfl, hXl, hX, b3⟩
      have hd : done.length < m := by
        have := congrArg List.length hy
        rw [List.length_range, List.length_append, List.length_cons] at this
        omega
      have n1 : 1 < n := by
        by_cases e : n = 1
        · have := hm0 e; omega
        · omega
      have h3 := b3.len
      obtain ⟨t, c4, z5, f, ht, b4⟩ := trB_ok (X := X) (s4 := some (sI i)) (s5 := s5) (k := c.length) n1 h4 hk b3 (by omega) (by omega) hX (by omega)
      exact ⟨_, _, _, rfl, f, X ++ [t], c4, some (sI i), z5, rfl, rfl, by simp [hXl], fun p hp => by rcases List.mem_append.mp hp with z | z; exact hX p z; rw [List.mem_singleton.mp z]; exact ht, by simpa [Nat.add_assoc] using b4⟩)
  rw [List.length_range] at hXl b3
  have h3 := b3.len
  have e3 := frz_nx (js := [2]) (seqs2 e0 e2)
  rw [show c.length = c3.length by omega, List.take_left] at e3
  obtain ⟨cc, hcc⟩ : ∃ cc : Cs, cc = c3 ++ [.lst (X.map pr)] := ⟨_, rfl⟩
  rw [← hcc] at e3
  obtain ⟨δ0, h0'⟩ : ∃ δ0, δ0 = tv b n none none none none := ⟨_, rfl⟩
  have g0 : frz1 c3.length cc [2] δ0 0 (some (.c b)) = some (.c b) := frz_old (by omega)
  have g2 : frz1 c3.length cc [2] δ0 2 (some (.c c3.length)) = some (.d (.lst (X.map pr))) := frz_lst (by rw [hcc]; simp) rfl
  rw [← h0'] at e3
  refine ⟨X, c3, frz1 c3.length cc [2] δ0 4 s4, frz1 c3.length cc [2] δ0 5 s5, ?_, hX, by omega, b3.mono (by omega)⟩
  rw [← h0']
  refine e3.trans (congrArg (RS.nx · c3) ?_)
  show [frz1 c3.length cc [2] δ0 0 (some (.c b)), some (S.d (.int n)), frz1 c3.length cc [2] δ0 2 (some (.c c3.length)), some (.d (qs (aft n X))), frz1 c3.length cc [2] δ0 4 s4, frz1 c3.length cc [2] δ0 5 s5, none] = _
  rw [g0, g2]
theorem talks_right {b N : Nat} (h0 : 0 < n) (h4 : n < 4) (hk : b < cb.length) (hb : BxAt cb b N c) (hN : N ≤ 9000) : ∃ L c2, d_law_talks_right [.c b, .d (.int n)] c = .ok (.d (qs L)) c2 ∧ OwnW n L ∧ BxAt cb b (N + 10) c2 := by
  obtain ⟨X, c2, y4, y5, e1, hX, hl, b2⟩ := tr1_ok h0 h4 hk hb hN
  have ow := OwnW.aft h0 h4 hX
  have f2 : tr2 (tv b n (some (.d (.lst (X.map pr)))) (some (.d (qs (aft n X)))) y4 y5) c2 = .nx (tv b n (some (.d (.lst (X.map pr)))) (some (.d (qs (aft n X)))) y4 y5) c2 :=
    if_no (tb_ok (bin (blt (a2 rfl (a2 (vr rfl) (a1 (vr rfl)))) (caught_0 h0 h4 (.inl rfl) hX hl)) (lst2 rfl (make_web ow.sq.w (a2 (vr rfl) (a1 (vr rfl))))) (eqY_two (neg := true) (by decide +kernel) (self_wb _ _))))
  have f3 : tr3 (tv b n (some (.d (.lst (X.map pr)))) (some (.d (qs (aft n X)))) y4 y5) c2 = .nx (tv b n (some (.d (.lst (X.map pr)))) (some (.d (qs (aft n X)))) y4 y5) c2 :=
    if_no (tb_ok (bin (blt (a2 rfl (a2 (vr rfl) (a1 (blt (a1 (vr rfl)) (lN1 (g := tupleD) (d := .tup (X.map pr)) rfl))))) (caught_0 h0 h4 (.inr rfl) hX hl)) (lst2 rfl (make_web ow.sq.w (a2 (vr rfl) (a1 (vr rfl))))) (eqY_two (neg := true) (by decide +kernel) (self_wb _ _))))
  exact ⟨aft n X, c2, fn_rs rfl (by rw [b2.len, hb.len]) (seq_go e1 (seq_go f2 (seq_go f3 (ret_ok (vr rfl))))), ow, b2⟩
end
end Dn

end
section
set_option maxHeartbeats 1000000
/-! K21_N: what is refused. -/
namespace Dn
open PySem
section
variable {δ : Sl} {c : Cs}
def ratR (x : Rat) : D := .obj 1 [.int x.num, .int x.den]
theorem log_nat {i : Int} {k : Nat} (h : i.natAbs < 2 ^ k) (hk : 0 < k) : i.natAbs.log2 < k := by
  by_cases z : i.natAbs = 0
  · rw [z]; simpa using hk
  · exact (Nat.log2_lt z).mpr h
theorem fdiv_ok {i j : Int} (h0 : j ≠ 0) (hj : j.natAbs < 2 ^ 9000) : fdivD (.int i) (.int j) = some (.int (i.fdiv j)) := by
  have := log_nat hj (by decide)
  have e : divOk j = true := by simp only [divOk, decide_eq_true_eq]; exact ⟨h0, this⟩
  exact if_pos e
theorem lN2 {g : List D → Option D} {x y d : D} (h : g [x, y] = some d) : liftN g [.d x, .d y] c = .ok (.d d) c := by simp [liftN, derefs, deref, h]
theorem eqP_i {neg : Bool} (x y : Int) : eqP neg (.int x) (.int y) = some (.bl (if neg then !decide (x = y) else decide (x = y))) := by
  simp [eqP, D.ok, eqD]
  cases neg <;> by_cases h : x = y <;> simp [h]
theorem rat_parts {a b : Int} (hb : 0 < b) : (Rat.divInt a b).num = a.fdiv (Nat.gcd a.natAbs b.natAbs : Nat) ∧ ((Rat.divInt a b).den : Int) = b.fdiv (Nat.gcd a.natAbs b.natAbs : Nat) := by
  have e : b.gcd a = Nat.gcd a.natAbs b.natAbs := Nat.gcd_comm _ _
  have h0 : (0 : Int) ≤ ((Nat.gcd a.natAbs b.natAbs : Nat) : Int) := by omega
  rw [Int.fdiv_eq_ediv_of_nonneg _ h0, Int.fdiv_eq_ediv_of_nonneg _ h0, Rat.num_divInt, Rat.den_divInt, e]
  have hs : b.sign = 1 := Int.sign_eq_one_of_pos hb
  rw [hs, Int.one_mul, if_neg (by omega)]
  refine ⟨rfl, ?_⟩
  rw [Int.natCast_ediv, Int.natAbs_of_nonneg (by omega)]
theorem rat_make {a b : Int} {B : MA} {c' : Cs} (hb : 0 < b) (hs : b.natAbs < 2 ^ 9000) (hB : B δ c = .ok [.d (.int a), .d (.int b)] c') : mMake 1 2 d_Ratio_init B δ c = .ok (.d (ratR (Rat.divInt a b))) c' := by
  have gp : 0 < Nat.gcd a.natAbs b.natAbs := Nat.gcd_pos_of_pos_right _ (by omega)
  have gl : Nat.gcd a.natAbs b.natAbs ≤ b.natAbs := Nat.gcd_le_right _ (by omega)
  obtain ⟨g, hg⟩ : ∃ g : Int, g = ((Nat.gcd a.natAbs b.natAbs : Nat) : Int) := ⟨_, rfl⟩
  have g0 : g ≠ 0 := by omega
  have g2 : g.natAbs < 2 ^ 9000 := Nat.lt_of_le_of_lt (by omega) hs
  have key : d_Ratio_init [.c c'.length, .d (.int a), .d (.int b)] (c' ++ [.obj 1 []]) = .ok (.d .non) (c' ++ [.obj 1 [.int (a.fdiv g), .int (b.fdiv g)]]) := by
    refine fn_to (δ' := [some (.c c'.length), some (.d (.int a)), some (.d (.int b)), some (.d (.int g))]) rfl ?_ (by simp)
    exact seq_go (if_no ((tb_ok (bin (vr rfl) rfl (l2 (eqP_i b 0)))).trans (by simp; omega))) (seq_go (set_ok (blt (a2 (vr rfl) (a1 (vr rfl))) (lN2 (by rw [hg]; rfl)))) (seq_go (if_no ((tb_ok (bin (vr rfl) rfl (l2 (d := .bl (decide (b < 0))) rfl))).trans (by simp; omega))) (seq_go (fld_ok (bin (vr rfl) (vr rfl) (l2 (fdiv_ok g0 g2))) (vr rfl) rfl rfl) (fld_ok (bin (vr rfl) (vr rfl) (l2 (fdiv_ok g0 g2))) (vr rfl) rfl rfl))))
  obtain ⟨p1, p2⟩ := rat_parts (a := a) hb
  unfold mMake
  rw [hB]
  simp only [bind_ok]
  rw [key]
  simp [fin, ratR, p1, p2, hg]
end
section
variable {δ : Sl} {c : Cs}
def noX : S → Bool
  | .x _ _ => false
  | .f => false
  | _ => true
theorem raise_ok {A : M} {s : S} {k : Nat} {c' : Cs} (h : A δ c = .ok s c') (hs : noX s = true) : sRaise1 k A δ c = .ex k [s] δ c' := by
  unfold sRaise1
  rw [h]
  cases s with
  | d _ => rfl
  | c _ => rfl
  | x _ _ => cases hs
  | f => cases hs
end
section
variable {δ : Sl} {c : Cs}
theorem cons_ex1 {A : M} {B : MA} {k : Nat} {xs : List S} {c' : Cs} (h : A δ c = .ex k xs c') : mCons A B δ c = .ex k xs c' := by unfold mCons; rw [h]; rfl
theorem cons_ex2 {A : M} {B : MA} {k : Nat} {s : S} {xs : List S} {c1 c' : Cs} (h : A δ c = .ok s c1) (h2 : B δ c1 = .ex k xs c') : mCons A B δ c = .ex k xs c' := by unfold mCons; rw [h]; simp only [bind_ok]; rw [h2]; rfl
theorem lst_ex {A : MA} {k : Nat} {xs : List S} {c' : Cs} (h : A δ c = .ex k xs c') : mLst A δ c = .ex k xs c' := by unfold mLst; rw [h]; rfl
theorem cutD_take {α : Type} (xs : List α) (j : Nat) : cutD xs none (some (j : Int)) = xs.take j := by
  unfold cutD
  rw [HT.sIx_none, HT.sIx_nat]
  by_cases q : j ≤ xs.length
  · rw [Nat.min_eq_left q]; simp
  · rw [Nat.min_eq_right (by omega), List.take_of_length_le (by omega : xs.length ≤ j)]
    simp
theorem sl_to {A B : M} {xs : List D} {k : Nat} {c' : Cs} (hA : A δ c = .ok (.d (.lst xs)) c') (hB : B δ c' = .ok (.d (.int k)) c') : mSl A moNone (moSome B) δ c = .ok (.d (.lst (xs.take k))) c' := by
  unfold mSl
  rw [hA]
  simp only [bind_ok, moNone, moSome]
  rw [hB]
  simp only [bind_ok, asI, slS, deref, slD, cutD_take]
end
section
variable {δ : Sl} {c : Cs} {n : Nat} {L : St}
theorem not_ok {A : M} {b : Bool} {c' : Cs} (h : A δ c = .ok (.d (.bl b)) c') : mNot A δ c = .ok (.d (.bl (!b))) c' := by unfold mNot; rw [h]; rfl
theorem way_is {w v : Int} {x1 x2 x3 : Option S} : mTB (mBin (eqG eqs kEq 4) (mVar 0) (mC (.int v))) [some (.d (.int w)), x1, x2, x3] c = .ok (w == v) c := tb_ok (bin (vr rfl) rfl (eqG_int _ _))
theorem place_no {d : D} {m : Int} {b b2 : Bool} (h1 : k_int.ask d = some b) (h2 : k_bool.ask d = some b2) (h3 : (b && !b2) = false) : d_is_place [.d d, .d (.int m)] c = .ok (.d (.bl false)) c := by
  have : d_is_integer [.d d] c = .ok (.d (.bl false)) c := by
    refine fn_rt rfl (ret_ok ?_)
    cases b with
    | false => exact and_no (isi (vr rfl) h1)
    | true =>
      refine (and_yes (isi (vr rfl) h1) (not_ok (isi (vr rfl) h2))).trans ?_
      cases b2 with
      | true => rfl
      | false => cases h3
  exact fn_rt rfl (ret_ok (and_no (blt (a1 (vr rfl)) this)))
theorem it_no1 {x : D} {m : Int} (h : k_tuple.ask x = some false) : d_is_talk [.d x, .d (.int m)] c = .ok (.d (.bl false)) c :=
  fn_rt rfl (seq_rt ((if_t (c' := c) (tor_yes ((tnot_ok (tb_ok (isi (vr rfl) h))).trans rfl))).trans (ret_ok rfl)))
theorem it_no2 {xs : List D} {m : Int} (h : (xs.length : Int) ≠ 2) : d_is_talk [.d (.tup xs), .d (.int m)] c = .ok (.d (.bl false)) c :=
  fn_rt rfl (seq_rt ((if_t (c' := c) (tor_no (c' := c) ((tnot_ok (tb_ok (isi (vr rfl) rfl))).trans rfl) ((tb_ok (bin (blt (a1 (vr rfl)) (lX1 (g := lenO lens) (d := .int xs.length) rfl)) rfl (l2 (eqP_int _ _)))).trans (by simp [h])))).trans (ret_ok rfl)))
theorem it_two {u v : D} {m : Int} {r : R S} (h : mAnd (mBlt d_is_place (mCons (mBin (lift2 ixD) (mVar 0) (mC (.int 0))) (mCons (mVar 1) mNil))) (mAnd (mBlt d_is_place (mCons (mBin (lift2 ixD) (mVar 0) (mC (.int 1))) (mCons (mVar 1) mNil))) (mBin (lift2 (eqP true)) (mBin (lift2 ixD) (mVar 0) (mC (.int 0))) (mBin (lift2 ixD) (mVar 0) (mC (.int 1))))) [some (.d (.tup [u, v])), some (.d (.int m))] c = .ok (.d (.bl false)) c) : d_is_talk [.d (.tup [u, v]), .d (.int m)] c = .ok (.d (.bl false)) c :=
  fn_rt rfl (seq_go (if_no (tor_no (c' := c) ((tnot_ok (tb_ok (isi (vr rfl) rfl))).trans rfl) ((tb_ok (bin (blt (a1 (vr rfl)) (lX1 (g := lenO lens) (d := .int 2) rfl)) rfl (l2 (eqP_int _ _)))).trans (by simp)))) (ret_ok h))
theorem it_no3 {u v : D} {m : Int} (h : d_is_place [.d u, .d (.int m)] c = .ok (.d (.bl false)) c) : d_is_talk [.d (.tup [u, v]), .d (.int m)] c = .ok (.d (.bl false)) c :=
  it_two (r := .bad) (and_no (blt (a2 (bin (vr rfl) rfl (l2 (d := u) rfl)) (a1 (vr rfl))) h))
theorem it_no4 {u v : D} {m : Int} (h : d_is_place [.d u, .d (.int m)] c = .ok (.d (.bl true)) c) (k : d_is_place [.d v, .d (.int m)] c = .ok (.d (.bl false)) c) : d_is_talk [.d (.tup [u, v]), .d (.int m)] c = .ok (.d (.bl false)) c :=
  it_two (r := .bad) (and_yes (blt (a2 (bin (vr rfl) rfl (l2 (d := u) rfl)) (a1 (vr rfl))) h) (and_no (blt (a2 (bin (vr rfl) rfl (l2 (d := v) rfl)) (a1 (vr rfl))) k)))
theorem it_no5 {a m : Int} (h0 : 0 ≤ a) (h1 : a < m) : d_is_talk [.d (.tup [.int a, .int a]), .d (.int m)] c = .ok (.d (.bl false)) c := by
  have p : d_is_place [.d (.int a), .d (.int m)] c = .ok (.d (.bl true)) c := (is_place_int _ _ _).trans (by simp [h0, h1])
  refine it_two (r := .bad) (and_yes (blt (a2 (bin (vr rfl) rfl (l2 (d := .int a) rfl)) (a1 (vr rfl))) p) (and_yes (blt (a2 (bin (vr rfl) rfl (l2 (d := .int a) rfl)) (a1 (vr rfl))) p) ((bin (bin (vr rfl) rfl (l2 (d := .int a) rfl)) (bin (vr rfl) rfl (l2 (d := .int a) rfl)) (l2 (eqP_int _ _))).trans (by simp))))
/-- values that are no talks -/
def TkNo (n : Int) (d : D) : Prop := ∀ c, d_are_talks [.d d, .d (.int n)] c = .ok (.d (.bl false)) c
theorem tk_no0 {d : D} {m : Int} (h : k_list_tuple.ask d = some false) : TkNo m d := fun c =>
  fn_rt rfl (seq_rt ((if_t (c' := c) (tor_yes ((tnot_ok (tb_ok (isi (vr rfl) h))).trans rfl))).trans (ret_ok rfl)))
theorem tk_no9 {d : D} {xs : List D} {m : Int} (hd : IsSeq d xs) (h : 9 < xs.length) : TkNo m d := fun c =>
  fn_rt rfl (seq_rt ((if_t (c' := c) (tor_no (c' := c) ((tnot_ok (tb_ok (isi (vr rfl) (lt_seq hd)))).trans rfl) ((tb_ok (bin (blt (a1 (vr rfl)) (lX1 (lenO_seq hd))) rfl (l2 (d := .bl (decide ((9 : Int) < xs.length))) rfl))).trans (by rw [decide_eq_true (by omega)])))).trans (ret_ok rfl)))
theorem tk_no {d : D} {qs : List (D × Bool)} {m : Int} (hd : IsSeq d (qs.map (·.1))) (hl : qs.length ≤ 9) (h : ∀ q ∈ qs, ∀ c, d_is_talk [.d q.1, .d (.int m)] c = .ok (.d (.bl q.2)) c) (ha : (qs.all fun q => q.2) = false) : TkNo m d := fun c => by
  refine fn_rt rfl (seq_go (if_no (tor_no (c' := c) ((tnot_ok (tb_ok (isi (vr rfl) (lt_seq hd)))).trans rfl) ((tb_ok (bin (blt (a1 (vr rfl)) (lX1 (lenO_seq hd))) rfl (l2 (d := .bl (decide ((9 : Int) < (qs.map (·.1)).length))) rfl))).trans (by rw [decide_eq_false (by rw [List.length_map]; omega)])))) (ret_ok ?_))
  refine (all_bl (f := fun q : D × Bool => q.2) (compMo qs (fun q => q.1) (fun q => .bl q.2) (seqI (vr rfl) ((items_seq hd).trans (by rw [List.map_map]; rfl))) (small_size (by omega)) fun q hq => ⟨[some (.d d), some (.d (.int m)), some (.d q.1)], fun _ => rfl, fun c' => blt (a2 (vr rfl) (a1 (vr rfl))) (h q hq c')⟩)).trans ?_
  rw [ha]
theorem tk_no1 {x : D} {m : Int} (h : ∀ c, d_is_talk [.d x, .d (.int m)] c = .ok (.d (.bl false)) c) : TkNo m (.lst [x]) :=
  tk_no (qs := [(x, false)]) (.inl rfl) (by simp) (fun q hq c => by rw [List.mem_singleton.mp hq]; exact h c) rfl
theorem after_no {d : D} (h0 : 0 < n) (h4 : n < 4) (h : TkNo n d) : d_after_talks [.d (.int n), .d d] c = .ex 59 [.d d] c :=
  fn_ex rfl rfl (seq_go (if_no ((tnot_ok (tb_ok (blt (a1 (vr rfl)) (is_many_int _ _)))).trans (by simp; omega))) (seq_ex ((if_t (c' := c) ((tnot_ok (tb_ok (blt (a2 (vr rfl) (a1 (vr rfl))) (h c)))).trans rfl)).trans (raise_ok (vr rfl) rfl))))
theorem caught_talks {d : D} (h0 : 0 < n) (h4 : n < 4) (h : TkNo n d) : d_law_caught [.d (.int 0), .d (.int n), .d d] c = .ok (.d (.lst [.str "talks", d])) c :=
  fn_rt rfl ((tryM_ex (seq_ex ((if_t (c' := c) (way_is.trans rfl)).trans (ret_ex (lst_ex (cons_ex2 rfl (cons_ex1 (blt (a2 (vr rfl) (a1 (vr rfl))) (after_no h0 h4 h)))))))) rfl).trans rfl)
def ManyNo (d : D) : Prop := ∀ c, d_is_many [.d d] c = .ok (.d (.bl false)) c
theorem caught_seat {d : D} {x : S} (h : ManyNo d) (hx : ∃ y, x = .d y) : d_law_caught [.d (.int 0), .d d, x] c = .ok (.d (.lst [.str "seat", d])) c := by
  obtain ⟨y, rfl⟩ := hx
  have e : d_after_talks [.d d, .d y] c = .ex 27 [.d d] c := fn_ex rfl rfl (seq_ex ((if_t (c' := c) ((tnot_ok (tb_ok (blt (a1 (vr rfl)) (h c)))).trans rfl)).trans (raise_ok (vr rfl) rfl)))
  exact fn_rt rfl ((tryM_ex (seq_ex ((if_t (c' := c) (way_is.trans rfl)).trans (ret_ex (lst_ex (cons_ex2 rfl (cons_ex1 (blt (a2 (vr rfl) (a1 (vr rfl))) e))))))) rfl).trans rfl)
theorem many_no {d : D} (h : ∀ c, d_is_place [.d d, .d (.int 4)] c = .ok (.d (.bl false)) c) : ManyNo d := fun c => fn_rt rfl (ret_ok (and_no (blt (a2 (vr rfl) (a1 (bin rfl rfl (l2 (d := .int 4) rfl)))) (h c))))
/-- values that are no such webs -/
def OwnNo (d : D) : Prop := ∀ c, d_need_own [.d d] c = .ex 37 [.d d] c
theorem caught_web {d x : D} (h : OwnNo d) (w : Int) (hw : w = 1 ∨ w = 2) : d_law_caught [.d (.int w), .d d, .d x] c = .ok (.d (.lst [.str "web", d])) c := by
  have e1 : d_fewest_talks [.d d] c = .ex 37 [.d d] c := fn_ex rfl rfl (seq_ex (expr_ex (blt (a1 (vr rfl)) (h c))))
  have e2 : d_enough_talks [.d d] c = .ex 37 [.d d] c := fn_ex rfl rfl (seq_ex (expr_ex (blt (a1 (vr rfl)) (h c))))
  rcases hw with rfl | rfl
  · exact fn_rt rfl ((tryM_ex (seq_go (if_no (way_is.trans rfl)) (ret_ex (lst_ex (cons_ex2 rfl (cons_ex1 (mif_t (c' := c) (way_is.trans rfl) (blt (a1 (vr rfl)) e1))))))) rfl).trans rfl)
  · exact fn_rt rfl ((tryM_ex (seq_go (if_no (way_is.trans rfl)) (ret_ex (lst_ex (cons_ex2 rfl (cons_ex1 (mif_f (c' := c) (way_is.trans rfl) (blt (a1 (vr rfl)) e2))))))) rfl).trans rfl)
theorem own_no {d : D} (h : ∀ c, d_is_square [.d d] c = .ok (.d (.bl false)) c) : OwnNo d := fun c =>
  fn_ex rfl rfl ((if_t (c' := c) (tor_yes ((tnot_ok (tb_ok (blt (a1 (vr rfl)) (h c)))).trans rfl))).trans (raise_ok (vr rfl) rfl))
theorem own_not {v : Nat} (h : Sq n L) (hv : ∃ l, L[v]? = some l ∧ (v : Int) ∉ l) : OwnNo (wb n L) := fun c => by
  have hl := h.l
  have h4 := h.hi
  refine fn_ex rfl rfl ((if_t (c' := c) (tor_no (c' := c) ((tnot_ok (tb_ok (blt (a1 (vr rfl)) (square_ok h)))).trans rfl) ((tnot_ok (tb_ok (b := false) ?_)).trans rfl))).trans (raise_ok (vr rfl) rfl))
  refine (all_bl (f := fun q : Nat × List Int => decide ((q.1 : Int) ∈ q.2)) (compMo (en 0 L) (fun q => D.tup [.int q.1, lotT q.2]) (fun q => .bl (decide ((q.1 : Int) ∈ q.2))) ?_ (small_size (by rw [en_len]; omega)) fun q hq => ⟨[some (.d (wb n L)), some (.d (.int q.1)), some (.d (lotT q.2))], fun _ => rfl, fun c' => bin (vr rfl) (vr rfl) (l2 (in_lot _ _))⟩)).trans ?_
  · refine (congrArg (fun r => R.bind r enum1) (a1 (attr (vr rfl) rfl rfl))).trans ?_
    simp only [bind_ok, enum1, enum_en, List.map_map]
    rfl
  · obtain ⟨l, e, hm⟩ := hv
    have hv := (List.getElem?_eq_some_iff.mp e)
    have : ((en 0 L).all fun q : Nat × List Int => decide ((q.1 : Int) ∈ q.2)) = false := List.all_eq_false.mpr ⟨(v, l), List.mem_iff_getElem.mpr ⟨v, by rw [en_len]; exact hv.1, by rw [en_get L 0 v (by rw [en_len]; exact hv.1) hv.1, hv.2, Nat.zero_add]⟩, by simp [hm]⟩
    rw [this]
end
end Dn

end
section
set_option maxHeartbeats 1000000
/-! K21_O: refused things are right. -/
namespace Dn
open PySem
abbrev rf1 : MS := (sSet 3 (mBin (lift2 mulD) (mLst (mCons (mTup (mCons (mC (.int 0)) (mCons (mC (.int 1)) mNil))) mNil)) (mBlt (liftN intBD) (mCons (mBin (lift2 gtD) (mVar 1) (mC (.int 1))) mNil))))
abbrev rf2 : MS := (sSet 4 (mLst (mCons (mC .non) (mCons (mC (.int 5)) (mCons (mC (.str "01")) (mCons (mDct1 "a" 1) (mCons (mLst (mCons (mC .non) mNil)) (mCons (mLst (mCons (mTup (mCons (mC (.int 0)) (mCons (mC (.int 0)) mNil))) mNil)) (mCons (mLst (mCons (mLst (mCons (mC (.int 0)) (mCons (mC (.int 1)) mNil))) mNil)) (mCons (mLst (mCons (mTup (mCons (mC (.int 0)) mNil)) mNil)) (mCons (mLst (mCons (mTup (mCons (mC (.int 0)) (mCons (mC (.int 1)) (mCons (mC (.int 0)) mNil)))) mNil)) (mCons (mLst (mCons (mTup (mCons (mC (.int 0)) (mCons (mVar 1) mNil))) mNil)) (mCons (mLst (mCons (mTup (mCons (mUn (lift1 negD) (mC (.int 1))) (mCons (mC (.int 0)) mNil))) mNil)) (mCons (mLst (mCons (mC (.str "01")) mNil)) mNil))))))))))))))
abbrev rf3 : MS := (sSet 4 (mBin (lift2 addD) (mVar 4) (mLst (mCons (mLst (mCons (mTup (mCons (mC (.int 0)) (mCons (mC (.bl true)) mNil))) mNil)) (mCons (mLst (mCons (mTup (mCons (mC (.int 0)) (mCons (mC (.str "1")) mNil))) mNil)) (mCons (mLst (mCons (mTup (mCons (mC (.int 0)) (mCons (mC .non) mNil))) mNil)) (mCons (mLst (mCons (mTup (mCons (mC (.int 0)) (mCons (mMake 1 2 d_Ratio_init (mDfl (mCons (mC (.int 1)) mNil) 1)) mNil))) mNil)) (mCons (mBin (lift2 addD) (mVar 3) (mLst (mCons (mTup (mCons (mVar 1) (mCons (mC (.int 0)) mNil))) mNil))) (mCons (mTup (mCons (mC (.int 0)) (mCons (mC (.int 1)) mNil))) mNil)))))))))
abbrev rf4 : MS := (sSet 4 (mBin (lift2 addD) (mVar 4) (mLst (mCons (mBin (lift2 mulD) (mLst (mCons (mTup (mCons (mC (.int 0)) (mCons (mC (.int 1)) mNil))) mNil)) (mC (.int 10))) (mCons (mBin (lift2 addD) (mBin (lift2 mulD) (mLst (mCons (mTup (mCons (mC (.int 0)) (mCons (mC (.int 1)) mNil))) mNil)) (mC (.int 3))) (mLst (mCons (mC (.int 3)) mNil))) mNil)))))
abbrev rf5b : MS := (sIf (mTB (mBin (eqY eqs 4 true) (mBlt d_law_caught (mCons (mC (.int 0)) (mCons (mVar 5) (mCons (mBin (lift2 ixD) (mLst (mCons (mLst mNil) (mCons (mBin (lift2 ixD) (mVar 4) (mBlt d_law_take (mCons (mVar 0) (mCons (mBlt (lenX (lenO lens)) (mCons (mVar 4) mNil)) mNil)))) mNil))) (mBlt d_law_take (mCons (mVar 0) (mCons (mC (.int 2)) mNil)))) mNil)))) (mLst (mCons (mC (.str "seat")) (mCons (mVar 5) mNil))))) (sRet (mC (.bl false))) sNil)
abbrev rf5 : MS := sFor (iSeq (mLst (mCons (mC .non) (mCons (mC (.int 0)) (mCons (mC (.int 4)) (mCons (mC (.bl true)) (mCons (mC (.str "2")) (mCons (mLst (mCons (mC (.int 2)) mNil)) (mCons (mMake 1 2 d_Ratio_init (mDfl (mCons (mC (.int 2)) mNil) 1)) mNil))))))))) (gtName 5) rf5b
abbrev rf6 : MS := (sIf (mTB (mBin (eqY eqs 4 true) (mComp (iSeq (mVar 4)) (gtName 5) (mTB (mBin (eqY eqs 4 true) (mBlt d_law_caught (mCons (mC (.int 0)) (mCons (mVar 1) (mCons (mVar 5) mNil)))) (mLst (mCons (mC (.str "talks")) (mCons (mVar 5) mNil))))) (mVar 5) [5]) (mLst mNil))) (sRet (mC (.bl false))) sNil)
abbrev rf7 : MS := (sFrz [6] (seqs [(sSet 6 (mCompK (iSeq (mVar 2)) (gtName 8) mtYes (mBlt (liftN listD) (mCons (mVar 8) mNil)) [8])), (sSetIx (mVar 6) (mBlt d_law_take (mCons (mVar 0) (mCons (mVar 1) mNil))) (mLst mNil))]))
abbrev rf8 : MS := (sSet 7 (mLst (mCons (mC .non) (mCons (mVar 2) (mCons (mC (.int 5)) (mCons (mC (.str "web")) (mCons (mC (.bl true)) (mCons (mDct1 "a" 1) (mCons (mMake 0 2 d_Web_init (mCons (mVar 1) (mCons (mVar 6) mNil))) (mCons (mMake 0 2 d_Web_init (mCons (mVar 1) (mCons (mSl (mBin (lift2 addD) (mVar 2) (mVar 2)) moNone (moSome (mBin (lift2 addD) (mC (.int 1)) (mBin (lift2 modD) (mVar 1) (mC (.int 3)))))) mNil))) mNil))))))))))
abbrev rf9b : MS := (sIf (mtOr (mTB (mBin (eqY eqs 4 true) (mBlt d_law_caught (mCons (mC (.int 1)) (mCons (mVar 5) (mCons (mC .non) mNil)))) (mLst (mCons (mC (.str "web")) (mCons (mVar 5) mNil))))) (mTB (mBin (eqY eqs 4 true) (mBlt d_law_caught (mCons (mC (.int 2)) (mCons (mVar 5) (mCons (mC .non) mNil)))) (mLst (mCons (mC (.str "web")) (mCons (mVar 5) mNil)))))) (sRet (mC (.bl false))) sNil)
abbrev rf9 : MS := sFor (iSeq (mIf (mTB (mBin (lift2 gtD) (mVar 1) (mC (.int 1)))) (mVar 7) (mSl (mVar 7) moNone (moSome (mC (.int 6)))))) (gtName 5) rf9b
def p01 : D := .tup [.int 0, .int 1]
def goodL (n : Nat) : List D := if n = 1 then [] else [p01]
def worse (n : Nat) : List D := [.non, .int 5, .str "01", .dct [.inr "a"] [.int 1], .lst [.non], .lst [.tup [.int 0, .int 0]], .lst [.lst [.int 0, .int 1]], .lst [.tup [.int 0]], .lst [.tup [.int 0, .int 1, .int 0]], .lst [.tup [.int 0, .int n]], .lst [.tup [.int (-1), .int 0]], .lst [.str "01"],
  .lst [.tup [.int 0, .bl true]], .lst [.tup [.int 0, .str "1"]], .lst [.tup [.int 0, .non]], .lst [.tup [.int 0, ratR 1]], .lst (goodL n ++ [.tup [.int n, .int 0]]), p01, .lst (List.replicate 10 p01), .lst (List.replicate 3 p01 ++ [.int 3])]
def seatB : List D := [.non, .int 0, .int 4, .bl true, .str "2", .lst [.int 2], ratR 2]
section
variable {δ : Sl} {c cb : Cs} {n : Nat} {L : St}
theorem rat1 : mMake 1 2 d_Ratio_init (mDfl (mCons (mC (.int 1)) mNil) 1) δ c = .ok (.d (ratR 1)) c := rat_make (a := 1) (b := 1) (by decide) (by decide) rfl
theorem rat2 : mMake 1 2 d_Ratio_init (mDfl (mCons (mC (.int 2)) mNil) 1) δ c = .ok (.d (ratR 2)) c := rat_make (a := 2) (b := 1) (by decide) (by decide) rfl
theorem self_worse : ∀ n, n = 1 ∨ n = 2 ∨ n = 3 → ((worse n).all fun d => eqR eqs 4 d d == some true) = true := by
  rintro n (rfl | rfl | rfl) <;> decide +kernel
theorem self_seat : (seatB.all fun d => eqR eqs 4 d d == some true) = true := by decide +kernel
theorem pl0 (h0 : 0 < n) : d_is_place [.d (.int 0), .d (.int n)] c = .ok (.d (.bl true)) c := (is_place_int _ _ _).trans (by simp; omega)
theorem plN : d_is_place [.d (.int n), .d (.int n)] c = .ok (.d (.bl false)) c := (is_place_int _ _ _).trans (by simp)
theorem is01 (h0 : 0 < n) (h4 : n < 4) : ∃ b, ∀ c, d_is_talk [.d p01, .d (.int n)] c = .ok (.d (.bl b)) c := by
  by_cases h : n = 1
  · subst h
    exact ⟨false, fun c => it_no4 (pl0 (by decide)) ((is_place_int _ _ _).trans (by simp))⟩
  · exact ⟨true, fun c => is_talk_ok (n := n) (p := (0, 1)) ⟨by decide, by omega, by decide, by omega, by decide⟩⟩
theorem worse_no (h0 : 0 < n) (h4 : n < 4) : ∀ d ∈ worse n, TkNo n d := by
  obtain ⟨b, h01⟩ := is01 h0 h4
  intro d hd
  simp only [worse, List.mem_cons, List.not_mem_nil, or_false] at hd
  rcases hd with rfl | rfl | rfl | rfl | rfl | rfl | rfl | rfl | rfl | rfl | rfl | rfl | rfl | rfl | rfl | rfl | rfl | rfl | rfl | rfl
  · exact tk_no0 rfl
  · exact tk_no0 rfl
  · exact tk_no0 rfl
  · exact tk_no0 rfl
  · exact tk_no1 fun c => it_no1 rfl
  · exact tk_no1 fun c => it_no5 (by decide) (by omega)
  · exact tk_no1 fun c => it_no1 rfl
  · exact tk_no1 fun c => it_no2 (by decide)
  · exact tk_no1 fun c => it_no2 (by decide)
  · exact tk_no1 fun c => it_no4 (pl0 h0) plN
  · exact tk_no1 fun c => it_no3 ((is_place_int _ _ _).trans (by simp))
  · exact tk_no1 fun c => it_no1 rfl
  · exact tk_no1 fun c => it_no4 (pl0 h0) (place_no (b := true) (b2 := true) rfl rfl rfl)
  · exact tk_no1 fun c => it_no4 (pl0 h0) (place_no (b := false) (b2 := false) rfl rfl rfl)
  · exact tk_no1 fun c => it_no4 (pl0 h0) (place_no (b := false) (b2 := false) rfl rfl rfl)
  · exact tk_no1 fun c => it_no4 (pl0 h0) (place_no (b := false) (b2 := false) rfl rfl rfl)
  · by_cases e : n = 1
    · rw [goodL, if_pos e]
      exact tk_no1 fun c => it_no3 plN
    · rw [goodL, if_neg e]
      exact tk_no (qs := [(p01, b), (.tup [.int n, .int 0], false)]) (.inl rfl) (by simp) (fun q hq c => by
        simp only [List.mem_cons, List.not_mem_nil, or_false] at hq
        rcases hq with rfl | rfl
        · exact h01 c
        · exact it_no3 plN) (by simp)
  · exact tk_no (qs := [(.int 0, false), (.int 1, false)]) (.inr rfl) (by simp) (fun q hq c => by
      simp only [List.mem_cons, List.not_mem_nil, or_false] at hq
      rcases hq with rfl | rfl <;> exact it_no1 rfl) rfl
  · exact tk_no9 (.inl rfl) (by simp)
  · exact tk_no (qs := [(p01, b), (p01, b), (p01, b), (.int 3, false)]) (.inl rfl) (by simp) (fun q hq c => by
      simp only [List.mem_cons, List.not_mem_nil, or_false] at hq
      rcases hq with rfl | rfl | rfl | rfl
      · exact h01 c
      · exact h01 c
      · exact h01 c
      · exact it_no1 rfl) (by simp)
theorem seat_no : ∀ d ∈ seatB, ManyNo d := by
  intro d hd
  simp only [seatB, List.mem_cons, List.not_mem_nil, or_false] at hd
  rcases hd with rfl | rfl | rfl | rfl | rfl | rfl | rfl
  · exact many_no fun c => place_no (b := false) (b2 := false) rfl rfl rfl
  · exact fun c => (is_many_int _ _).trans (by simp)
  · exact fun c => (is_many_int _ _).trans (by simp)
  · exact many_no fun c => place_no (b := true) (b2 := true) rfl rfl rfl
  · exact many_no fun c => place_no (b := false) (b2 := false) rfl rfl rfl
  · exact many_no fun c => place_no (b := false) (b2 := false) rfl rfl rfl
  · exact many_no fun c => place_no (b := false) (b2 := false) rfl rfl rfl
abbrev rs (b n : Nat) (L : St) (s3 s4 s5 s6 s7 : Option S) : Sl := [some (.c b), some (.d (.int n)), some (.d (qs L)), s3, s4, s5, s6, s7, none]
theorem repO1 {x : D} {k : Nat} (h : k ≤ 1000) : [x].length * (k : Int).toNat ≤ sizeLine := by
  have := small_size (n := k) (by omega)
  simpa using this
theorem repO2 {x : D} {k : Nat} : repL (k : Int) [x] = List.replicate k x := by
  have : ∀ k : Nat, (List.replicate k [x]).flatten = List.replicate k x := fun k => by
    induction k with
    | zero => rfl
    | succ k ih => rw [List.replicate_succ, List.replicate_succ, List.flatten_cons, ih]; rfl
  simp [repL, this]
theorem mulD_rep {x : D} {k : Nat} (h : k ≤ 1000) : mulD (.lst [x]) (.int k) = some (.lst (List.replicate k x)) := by
  unfold mulD
  simp only
  rw [if_pos ⟨by omega, by omega, repO1 h⟩, repO2]
theorem rf1_ok {b : Nat} {s4 s5 s6 s7 : Option S} (h0 : 0 < n) : rf1 (rs b n L none s4 s5 s6 s7) c = .nx (rs b n L (some (.d (.lst (goodL n)))) s4 s5 s6 s7) c := by
  by_cases e : n = 1
  · subst e
    exact set_ok (bin (x := .d (.lst [p01])) rfl (blt (a1 (bin (vr rfl) rfl (l2 (d := .bl false) rfl))) (lN1 rfl)) (l2 (mulD_rep (k := 0) (by decide))))
  · have : decide ((1 : Int) < n) = true := decide_eq_true (by omega)
    refine set_ok (bin (x := .d (.lst [p01])) rfl (blt (a1 (bin (vr rfl) rfl (l2 (d := .bl true) (by show some (D.bl (decide ((1 : Int) < n))) = _; rw [this])))) (lN1 rfl)) (l2 ((mulD_rep (k := 1) (by decide)).trans ?_)))
    rw [goodL, if_neg e]
    rfl
theorem lst_i' {B : MA} {ss : List S} {c' : Cs} {r : R S} (h : B δ c = .ok ss c') (e : mkLst ss c' = r) : mLst B δ c = r := by unfold mLst; rw [h]; exact e
theorem one_i {A : M} {q : D} (hA : A δ c = .ok (.d q) c) : mLst (mCons A mNil) δ c = .ok (.d (.lst [q])) c := lst_i' (a1 hA) rfl
theorem rf234_ok {b : Nat} {s5 s6 s7 : Option S} (h0 : 0 < n) : ∃ w2 w3, rf2 (rs b n L (some (.d (.lst (goodL n)))) none s5 s6 s7) c = .nx w2 c ∧ rf3 w2 c = .nx w3 c ∧ rf4 w3 c = .nx (rs b n L (some (.d (.lst (goodL n)))) (some (.d (.lst (worse n)))) s5 s6 s7) c := by
  have gl : (goodL n).length ≤ 1 := by unfold goodL; split <;> simp
  refine ⟨rs b n L (some (.d (.lst (goodL n)))) (some (.d (.lst ((worse n).take 12)))) s5 s6 s7, rs b n L (some (.d (.lst (goodL n)))) (some (.d (.lst ((worse n).take 18)))) s5 s6 s7, ?_, ?_, ?_⟩
  · exact set_ok (lst_i' (a2 rfl (a2 rfl (a2 rfl (a2 (s := .d (.dct [.inr "a"] [.int 1])) rfl (a2 (s := .d (.lst [.non])) rfl (a2 (s := .d (.lst [.tup [.int 0, .int 0]])) rfl (a2 (s := .d (.lst [.lst [.int 0, .int 1]])) rfl (a2 (s := .d (.lst [.tup [.int 0]])) rfl (a2 (s := .d (.lst [.tup [.int 0, .int 1, .int 0]])) rfl (a2 (one_i (tup2 rfl (vr rfl))) (a2 (s := .d (.lst [.tup [.int (-1), .int 0]])) rfl (a1 (s := .d (.lst [.str "01"])) rfl)))))))))))) rfl)
  · exact set_ok (addL (xs := (worse n).take 12) (ys := [.lst [.tup [.int 0, .bl true]], .lst [.tup [.int 0, .str "1"]], .lst [.tup [.int 0, .non]], .lst [.tup [.int 0, ratR 1]], .lst (goodL n ++ [.tup [.int n, .int 0]]), p01]) (vr rfl) (lst_i' (a2 (s := .d (.lst [.tup [.int 0, .bl true]])) rfl (a2 (s := .d (.lst [.tup [.int 0, .str "1"]])) rfl (a2 (s := .d (.lst [.tup [.int 0, .non]])) rfl (a2 (one_i (tup2 rfl rat1)) (a2 (addL (vr rfl) (one_i (tup2 (vr rfl) rfl)) (by simp; omega)) (a1 (s := .d p01) rfl)))))) rfl) (by simp [worse]))
  · exact set_ok (addL (xs := (worse n).take 18) (ys := [.lst (List.replicate 10 p01), .lst (List.replicate 3 p01 ++ [.int 3])]) (vr rfl) (lst_i' (a2 (bin (x := .d (.lst [p01])) rfl rfl (l2 (mulD_rep (k := 10) (by decide)))) (a1 (addL (xs := List.replicate 3 p01) (ys := [.int 3]) (bin (x := .d (.lst [p01])) rfl rfl (l2 (mulD_rep (k := 3) (by decide)))) (one_i rfl) (by decide)))) rfl) (by simp [worse]))
theorem rf5b_ok {b N : Nat} {d : D} {s6 s7 : Option S} (hd : ManyNo d) (sd : eqR eqs 4 d d = some true) (hk : b < cb.length) (hb : BxAt cb b N c) (hN : N ≤ 20000) : ∃ c2, rf5b (rs b n L (some (.d (.lst (goodL n)))) (some (.d (.lst (worse n)))) (some (.d d)) s6 s7) c = .nx (rs b n L (some (.d (.lst (goodL n)))) (some (.d (.lst (worse n)))) (some (.d d)) s6 s7) c2 ∧ BxAt cb b (N + 2) c2 := by
  obtain ⟨v, c1, e1, v20, b1⟩ := take0 (m := 20) hk hb (by omega) (by omega)
  obtain ⟨w, c2, e2, w2, b2⟩ := take0 (m := 2) hk b1 (by omega) (by omega)
  have hv : v < (worse n).length := by show v < 20; omega
  have ix : ∃ y, ixD (.lst [.lst [], (worse n)[v]]) (.int w) = some y := by
    have : w = 0 ∨ w = 1 := by omega
    rcases this with rfl | rfl
    · exact ⟨_, atI_nat (xs := [D.lst [], (worse n)[v]]) (n := 0) (by simp)⟩
    · exact ⟨_, atI_nat (xs := [D.lst [], (worse n)[v]]) (n := 1) (by simp)⟩
  obtain ⟨y, ix⟩ := ix
  refine ⟨c2, if_f (c' := c2) (tb_ok (bin (blt (a2 rfl (a2 (vr rfl) (a1 (bin (lst2 (x := .lst []) rfl (bin (vr rfl) (blt (a2 (vr rfl) (a1 (blt (a1 (vr rfl)) (lX1 (g := lenO lens) (d := .int 20) rfl)))) e1) (l2 (atI_nat hv)))) (blt (a2 (vr rfl) (a1 rfl)) e2) (l2 ix))))) (caught_seat hd ⟨y, rfl⟩)) (lst2 rfl (vr rfl)) (eqY_two (neg := true) (by decide +kernel) sd))), b2⟩
theorem rf5_ok {b N : Nat} {s5 s6 s7 : Option S} (hk : b < cb.length) (hb : BxAt cb b N c) (hN : N ≤ 10000) : ∃ c2 y5, rf5 (rs b n L (some (.d (.lst (goodL n)))) (some (.d (.lst (worse n)))) s5 s6 s7) c = .nx (rs b n L (some (.d (.lst (goodL n)))) (some (.d (.lst (worse n)))) y5 s6 s7) c2 ∧ BxAt cb b (N + 14) c2 := by
  obtain ⟨δ', c', e, y5, rfl, b2⟩ := for_inv (δ := rs b n L (some (.d (.lst (goodL n)))) (some (.d (.lst (worse n)))) s5 s6 s7) (c := c) (I := iSeq (mLst (mCons (mC .non) (mCons (mC (.int 0)) (mCons (mC (.int 4)) (mCons (mC (.bl true)) (mCons (mC (.str "2")) (mCons (mLst (mCons (mC (.int 2)) mNil)) (mCons (mMake 1 2 d_Ratio_init (mDfl (mCons (mC (.int 2)) mNil) 1)) mNil))))))))) (g := gtName 5) (B := rf5b) seatB S.d
    (fun done δ c' => ∃ y5, δ = rs b n L (some (.d (.lst (goodL n)))) (some (.d (.lst (worse n)))) y5 s6 s7 ∧ BxAt cb b (N + 2 * done.length) c')
    (seqI (lst_i' (a2 rfl (a2 rfl (a2 rfl (a2 rfl (a2 rfl (a2 (s := .d (.lst [.int 2])) rfl (a1 rat2))))))) rfl) rfl) ⟨s5, rfl, hb⟩ (by
      rintro done d rest δ c' hy ⟨y5, rfl, b1⟩
      have hd : d ∈ seatB := by rw [hy]; simp
      have hl : done.length ≤ 7 := by
        have := congrArg List.length hy
        rw [List.length_append] at this
        have h7 : seatB.length = 7 := rfl
        omega
      have sd := List.all_eq_true.mp self_seat d hd
      obtain ⟨c2, f, b2⟩ := rf5b_ok (n := n) (L := L) (s6 := s6) (s7 := s7) (seat_no d hd) (by simpa using sd) hk b1 (by omega)
      exact ⟨_, _, c2, rfl, f, _, rfl, b2.mono (by simp; omega)⟩)
  exact ⟨c', y5, e, b2.mono (by show N + 2 * 7 ≤ N + 14; omega)⟩
theorem rf6_ok {b : Nat} {s5 s6 s7 : Option S} (h0 : 0 < n) (h4 : n < 4) : rf6 (rs b n L (some (.d (.lst (goodL n)))) (some (.d (.lst (worse n)))) s5 s6 s7) c = .nx (rs b n L (some (.d (.lst (goodL n)))) (some (.d (.lst (worse n)))) s5 s6 s7) c := by
  have wl : (worse n).length = 20 := rfl
  refine if_no (tb_ok (bin (x := .d (.lst [])) ((compF (worse n) S.d (fun _ => false) id (seqI (vr rfl) rfl) (small_size (by omega)) fun d hd acc => ⟨_, rfl, ?_, fun z => by cases z⟩).trans (by simp)) (y := .d (.lst [])) rfl ((eqY_plain rfl rfl).trans rfl)))
  have sd := List.all_eq_true.mp (self_worse n (three_n h0 h4)) d hd
  exact tb_ok (bin (blt (a2 rfl (a2 (vr rfl) (a1 (vr rfl)))) (caught_talks h0 h4 (worse_no h0 h4 d hd))) (lst2 rfl (vr rfl)) (eqY_two (neg := true) (by decide +kernel) (by simpa using sd)))
end
end Dn

end
section
set_option maxHeartbeats 1000000
/-! K21_P: refused things are right, whole. -/
namespace Dn
open PySem
section
variable {δ : Sl} {c : Cs} {n : Nat}
theorem set_cellT {xs ys : List D} {A I V : M} {i : Int} {j k : Nat} {x : D} {c' : Cs} (hV : V δ c = .ok (.d x) c) (hA : A δ c = .ok (.c k) c) (hI : I δ c = .ok (.d (.int i)) c') (hn : c'[k]? = some (.lst xs)) (e : L2.ixN xs.length i = some j) (e2 : xs.set j x = ys) : sSetIx A I V δ c = .nx δ (c'.set k (.lst ys)) := by
  unfold sSetIx
  rw [hV]
  simp only [andS_ok]
  rw [hA]
  simp only [andS_ok]
  rw [hI]
  simp only [andS_ok, setC, hn, e, e2]
end
section
variable {δ : Sl} {c cb : Cs} {n : Nat} {L : St}
theorem rf7_ok {b N : Nat} {s3 s4 s7 : D} {s5 : Option S} (h0 : 0 < n) (h4 : n < 4) (h : Sq n L) (hk : b < cb.length) (hb : BxAt cb b N c) (hN : N ≤ 10000) : ∃ v c2 y5, v < n ∧ rf7 (rs b n L (some (.d s3)) (some (.d s4)) s5 none none) c = .nx (rs b n L (some (.d s3)) (some (.d s4)) y5 (some (.d (qs (L.set v [])))) none) c2 ∧ BxAt cb b (N + 1) c2 := by
  have hl := h.l
  obtain ⟨w, c2, e2, w0, w1, b2⟩ := take_at (e := [.lst (L.map lotL)]) (m := (n : Int)) hk hb (by omega) (by omega)
  obtain ⟨v, rfl⟩ : ∃ v : Nat, w = v := ⟨w.toNat, by omega⟩
  have hlen : c2.length = c.length := by rw [b2.len, hb.len]
  have hbl := hb.len
  have f1 : sSet 6 (mCompK (iSeq (mVar 2)) (gtName 8) mtYes (mBlt (liftN listD) (mCons (mVar 8) mNil)) [8]) (rs b n L (some (.d s3)) (some (.d s4)) s5 none none) c = .nx (rs b n L (some (.d s3)) (some (.d s4)) s5 (some (.c c.length)) none) (c ++ [.lst (L.map lotL)]) :=
    set_ok (compK L (fun l => S.d (lotL l)) lotL (seqI (vr rfl) (itm (.inl rfl))) (small_size (by omega)) fun l hl2 acc => ⟨_, rfl, blt (a1 (vr rfl)) (lN1 rfl)⟩)
  have f2 : sSetIx (mVar 6) (mBlt d_law_take (mCons (mVar 0) (mCons (mVar 1) mNil))) (mLst mNil) (rs b n L (some (.d s3)) (some (.d s4)) s5 (some (.c c.length)) none) (c ++ [.lst (L.map lotL)]) = .nx (rs b n L (some (.d s3)) (some (.d s4)) s5 (some (.c c.length)) none) (c2 ++ [.lst ((L.set v []).map lotL)]) := by
    refine (set_cellT (k := c.length) (xs := L.map lotL) (x := lotL []) (j := v) (ys := (L.set v []).map lotL) rfl (vr rfl) (blt (a2 (vr rfl) (a1 (vr rfl))) e2) (by rw [← hlen]; simp) ?_ (by rw [List.map_set])).trans ?_
    · simp only [L2.ixN, List.length_map]
      rw [if_pos (by omega), if_pos (by omega), Int.toNat_natCast]
    · rw [← hlen, List.set_append_right _ _ (Nat.le_refl _)]
      simp
  have e3 := frz_nx (js := [6]) (seqs2 f1 f2)
  rw [show c.length = c2.length by omega, List.take_left] at e3
  obtain ⟨cc, hcc⟩ : ∃ cc : Cs, cc = c2 ++ [.lst ((L.set v []).map lotL)] := ⟨_, rfl⟩
  rw [← hcc] at e3
  obtain ⟨δ0, h0'⟩ : ∃ δ0, δ0 = rs b n L (some (.d s3)) (some (.d s4)) s5 none none := ⟨_, rfl⟩
  have g0 : frz1 c2.length cc [6] δ0 0 (some (.c b)) = some (.c b) := frz_old (by omega)
  have g6 : frz1 c2.length cc [6] δ0 6 (some (.c c2.length)) = some (.d (qs (L.set v []))) := frz_lst (by rw [hcc]; simp) rfl
  rw [← h0'] at e3
  refine ⟨v, c2, frz1 c2.length cc [6] δ0 5 s5, by omega, ?_, b2⟩
  rw [← h0']
  refine e3.trans (congrArg (RS.nx · c2) ?_)
  show [frz1 c2.length cc [6] δ0 0 (some (.c b)), some (S.d (.int n)), some (S.d (qs L)), some (.d s3), some (.d s4), frz1 c2.length cc [6] δ0 5 s5, frz1 c2.length cc [6] δ0 6 (some (.c c2.length)), none, none] = _
  rw [g0, g6]
def kOf (n : Nat) : Nat := if n = 1 then 2 else if n = 2 then 3 else 1
def oddL (n : Nat) (L : St) (v : Nat) : List D := [.non, qs L, .int 5, .str "web", .bl true, .dct [.inr "a"] [.int 1], wb n (L.set v []), wb n ((L ++ L).take (kOf n))]
theorem kOf_is (h0 : 0 < n) (h4 : n < 4) : (kOf n = 1 + n % 3) ∧ 1 ≤ kOf n ∧ kOf n ≤ 3 ∧ kOf n ≤ 2 * n ∧ (1 < n → kOf n ≠ n) := by
  rcases three_n h0 h4 with rfl | rfl | rfl <;> decide
theorem set_wok (h : Sq n L) (v : Nat) : Sq n (L.set v []) := by
  have w := h.w
  refine ⟨⟨w.lo, w.hi, by rw [List.length_set]; exact w.l1, by rw [List.length_set]; exact w.l3, fun l hl => ?_⟩, by rw [List.length_set]; exact h.l⟩
  rcases List.mem_or_eq_of_mem_set hl with z | rfl
  · exact w.ok l z
  · exact ⟨(fun x hx => by cases hx), List.Pairwise.nil⟩
theorem two_len (h : Sq n L) (h0 : 0 < n) (h4 : n < 4) : ((L ++ L).take (kOf n)).length = kOf n := by
  have := h.l
  have := kOf_is h0 h4
  rw [List.length_take, List.length_append]
  omega
theorem two_wok (h : Sq n L) (h0 : 0 < n) (h4 : n < 4) : WOk n ((L ++ L).take (kOf n)) := by
  have w := h.w
  have k := kOf_is h0 h4
  have l := two_len h h0 h4
  refine ⟨w.lo, w.hi, by omega, by omega, fun l hl => ?_⟩
  rcases List.mem_append.mp (List.mem_of_mem_take hl) with z | z <;> exact w.ok l z
theorem rf8_ok {b v : Nat} {s3 s4 : D} {s5 : Option S} (h0 : 0 < n) (h4 : n < 4) (h : Sq n L) : rf8 (rs b n L (some (.d s3)) (some (.d s4)) s5 (some (.d (qs (L.set v [])))) none) c = .nx (rs b n L (some (.d s3)) (some (.d s4)) s5 (some (.d (qs (L.set v [])))) (some (.d (.lst (oddL n L v))))) c := by
  have k := kOf_is h0 h4
  have hl := h.l
  have lm : (L.map lotL).length = n := by rw [List.length_map]; exact hl
  have kx : mBin (lift2 addD) (mC (.int 1)) (mBin (lift2 modD) (mVar 1) (mC (.int 3))) (rs b n L (some (.d s3)) (some (.d s4)) s5 (some (.d (qs (L.set v [])))) none) c = .ok (.d (.int (kOf n))) c := by
    have : ∀ m : Nat, m = 1 ∨ m = 2 ∨ m = 3 → modD (.int (m : Int)) (.int 3) = some (.int ((m % 3 : Nat) : Int)) := by
      rintro m (rfl | rfl | rfl) <;> rfl
    refine bin rfl (bin (vr rfl) rfl (l2 (this n (three_n h0 h4)))) (l2 ?_)
    rw [k.1]
    show some (D.int (1 + ((n % 3 : Nat) : Int))) = _
    congr 2
  have sx : mSl (mBin (lift2 addD) (mVar 2) (mVar 2)) moNone (moSome (mBin (lift2 addD) (mC (.int 1)) (mBin (lift2 modD) (mVar 1) (mC (.int 3))))) (rs b n L (some (.d s3)) (some (.d s4)) s5 (some (.d (qs (L.set v [])))) none) c = .ok (.d (.lst (((L ++ L).take (kOf n)).map lotL))) c := by
    rw [List.map_take, List.map_append]
    exact sl_to (addL (xs := L.map lotL) (ys := L.map lotL) (vr rfl) (vr rfl) (by omega)) kx
  have wB := make_web (δ := rs b n L (some (.d s3)) (some (.d s4)) s5 (some (.d (qs (L.set v [])))) none) (two_wok h h0 h4) (a2 (A := mVar 1) (vr rfl) (a1 sx))
  have wA := make_web (δ := rs b n L (some (.d s3)) (some (.d s4)) s5 (some (.d (qs (L.set v [])))) none) (c := c) (set_wok h v).w (a2 (A := mVar 1) (vr rfl) (a1 (A := mVar 6) (vr rfl)))
  exact set_ok (lst_i' (a2 rfl (a2 (vr rfl) (a2 rfl (a2 rfl (a2 rfl (a2 (s := .d (.dct [.inr "a"] [.int 1])) rfl (a2 wA (a1 wB)))))))) rfl)
theorem odd_no {v : Nat} (h0 : 0 < n) (h4 : n < 4) (h : Sq n L) (hv : v < n) (hn : 1 < n) : ∀ d ∈ oddL n L v, OwnNo d := by
  have k := kOf_is h0 h4
  have hl := h.l
  have tl := two_len h h0 h4
  intro d hd
  simp only [oddL, List.mem_cons, List.not_mem_nil, or_false] at hd
  rcases hd with rfl | rfl | rfl | rfl | rfl | rfl | rfl | rfl
  · exact own_no fun c => square_other rfl
  · exact own_no fun c => square_other rfl
  · exact own_no fun c => square_other rfl
  · exact own_no fun c => square_other rfl
  · exact own_no fun c => square_other rfl
  · exact own_no fun c => square_other rfl
  · exact own_not (v := v) (set_wok h v) ⟨[], by rw [List.getElem?_set_self (by omega)], by simp⟩
  · exact own_no fun c => square_no (by omega) (by rw [tl]; have := k.2.2.2.2 hn; omega)
theorem odd_no6 {v : Nat} : ∀ d ∈ (oddL n L v).take 6, OwnNo d := by
  intro d hd
  simp only [oddL, List.take, List.mem_cons, List.not_mem_nil, or_false] at hd
  rcases hd with rfl | rfl | rfl | rfl | rfl | rfl <;> exact own_no fun c => square_other rfl
theorem odd_self {v : Nat} : ∀ d ∈ oddL n L v, eqR eqs 4 d d = some true := by
  intro d hd
  simp only [oddL, List.mem_cons, List.not_mem_nil, or_false] at hd
  rcases hd with rfl | rfl | rfl | rfl | rfl | rfl | rfl | rfl
  · exact eqR_ok50 4 rfl
  · exact eqR_ok50 4 (qs_ok 48 _)
  · exact eqR_ok50 4 rfl
  · exact eqR_ok50 4 (by decide +kernel)
  · exact eqR_ok50 4 rfl
  · exact eqR_dct (by decide) (eqR_ok50 3 rfl)
  · exact self_wb _ _
  · exact self_wb _ _
theorem rf9b_ok {b : Nat} {d : D} {s3 s4 s6 s7 : Option S} (hd : OwnNo d) (sd : eqR eqs 4 d d = some true) : rf9b (rs b n L s3 s4 (some (.d d)) s6 s7) c = .nx (rs b n L s3 s4 (some (.d d)) s6 s7) c :=
  if_no (tor_no (c' := c) (tb_ok (bin (blt (a2 rfl (a2 (vr rfl) (a1 rfl))) (caught_web hd 1 (.inl rfl))) (lst2 rfl (vr rfl)) (eqY_two (neg := true) (by decide +kernel) sd))) (tb_ok (bin (blt (a2 rfl (a2 (vr rfl) (a1 rfl))) (caught_web hd 2 (.inr rfl))) (lst2 rfl (vr rfl)) (eqY_two (neg := true) (by decide +kernel) sd))))
theorem rf9_ok {b v : Nat} {s3 s4 s5 s6 : Option S} (h0 : 0 < n) (h4 : n < 4) (h : Sq n L) (hv : v < n) : ∃ y5, rf9 (rs b n L s3 s4 s5 s6 (some (.d (.lst (oddL n L v))))) c = .nx (rs b n L s3 s4 y5 s6 (some (.d (.lst (oddL n L v))))) c := by
  have go : ∀ (ys : List D) (I : MI), (∀ d ∈ ys, OwnNo d ∧ eqR eqs 4 d d = some true) → I (rs b n L s3 s4 s5 s6 (some (.d (.lst (oddL n L v))))) c = .ok (.xs (ys.map S.d)) c → ∃ y5, sFor I (gtName 5) rf9b (rs b n L s3 s4 s5 s6 (some (.d (.lst (oddL n L v))))) c = .nx (rs b n L s3 s4 y5 s6 (some (.d (.lst (oddL n L v))))) c := fun ys I hy hI => by
    obtain ⟨δ', c', e, y5, rfl, hc⟩ := for_inv (g := gtName 5) (B := rf9b) ys S.d (fun _ δ c' => ∃ y5, δ = rs b n L s3 s4 y5 s6 (some (.d (.lst (oddL n L v)))) ∧ c' = c) hI ⟨s5, rfl, rfl⟩ (by
      rintro done d rest δ c' hy2 ⟨y5, rfl, rfl⟩
      obtain ⟨h1, h2⟩ := hy d (by rw [hy2]; simp)
      exact ⟨_, _, _, rfl, rf9b_ok h1 h2, _, rfl, rfl⟩)
    rw [hc] at e
    exact ⟨y5, e⟩
  by_cases hn : 1 < n
  · refine go (oddL n L v) _ (fun d hd => ⟨odd_no h0 h4 h hv hn d hd, odd_self d hd⟩) (seqI (mif_t (c' := c) ((tb_ok (bin (vr rfl) rfl (l2 (d := .bl (decide ((1 : Int) < n))) rfl))).trans (by rw [decide_eq_true (by omega)])) (vr rfl)) rfl)
  · refine go ((oddL n L v).take 6) _ (fun d hd => ⟨odd_no6 d hd, odd_self d (List.mem_of_mem_take hd)⟩) (seqI (mif_f (c' := c) ((tb_ok (bin (vr rfl) rfl (l2 (d := .bl (decide ((1 : Int) < n))) rfl))).trans (by rw [decide_eq_false (by omega)])) (sl_to (xs := oddL n L v) (k := 6) (vr rfl) rfl)) rfl)
theorem refused_right {b N : Nat} (h0 : 0 < n) (h4 : n < 4) (h : Sq n L) (hk : b < cb.length) (hb : BxAt cb b N c) (hN : N ≤ 9000) : ∃ c2, d_law_refused_right [.c b, .d (.int n), .d (qs L)] c = .ok (.d (.bl true)) c2 ∧ BxAt cb b (N + 20) c2 := by
  have f1 := rf1_ok (c := c) (L := L) (b := b) (s4 := none) (s5 := none) (s6 := none) (s7 := none) h0
  obtain ⟨w2, w3, f2, f3, f4⟩ := rf234_ok (c := c) (L := L) (b := b) (s5 := none) (s6 := none) (s7 := none) h0
  obtain ⟨c2, y5, f5, b2⟩ := rf5_ok (n := n) (L := L) (s5 := none) (s6 := none) (s7 := none) hk hb (by omega)
  have f6 := rf6_ok (c := c2) (L := L) (b := b) (s5 := y5) (s6 := none) (s7 := none) h0 h4
  obtain ⟨v, c3, z5, hv, f7, b3⟩ := rf7_ok (s3 := .lst (goodL n)) (s4 := .lst (worse n)) (s7 := .non) (s5 := y5) h0 h4 h hk b2 (by omega)
  have f8 := rf8_ok (c := c3) (b := b) (v := v) (s3 := .lst (goodL n)) (s4 := .lst (worse n)) (s5 := z5) h0 h4 h
  obtain ⟨w5, f9⟩ := rf9_ok (c := c3) (b := b) (v := v) (s3 := some (.d (.lst (goodL n)))) (s4 := some (.d (.lst (worse n)))) (s5 := z5) (s6 := some (.d (qs (L.set v [])))) h0 h4 h hv
  exact ⟨c3, fn_rs rfl (by rw [b3.len, hb.len]) (seq_go f1 (seq_go f2 (seq_go f3 (seq_go f4 (seq_go f5 (seq_go f6 (seq_go f7 (seq_go f8 (seq_go f9 (ret_ok rfl)))))))))), b3.mono (by omega)⟩
end
end Dn

end
section
set_option maxHeartbeats 1000000
/-! K21_Q: the law. -/
namespace Dn
open PySem
abbrev lw1b1 : MS := (sSet 2 (mBlt d_law_box (mCons (mVar 0) (mCons (mVar 1) mNil))))
abbrev lw1b2 : MS := (sSet 3 (mBin (lift2 ixD) (mLst (mCons (mC (.int 3)) (mCons (mC (.int 3)) (mCons (mC (.int 3)) (mCons (mC (.int 2)) (mCons (mC (.int 1)) mNil)))))) (mBlt d_law_take (mCons (mVar 2) (mCons (mC (.int 5)) mNil)))))
abbrev lw1b3 : MS := (sSet 4 (mBlt d_law_firsts (mCons (mVar 3) mNil)))
abbrev lw1b4b1 : MS := (sSet 6 (mBlt d_law_talks_right (mCons (mVar 2) (mCons (mVar 3) mNil))))
abbrev lw1b4b2 : MS := (sIf (mtOr (mTB (mIsN false (mVar 6))) (mtNot (mTB (mBlt d_law_webs_right (mCons (mVar 3) (mCons (mVar 6) (mCons (mVar 4) mNil))))))) (sRet (mC (.bl false))) sNil)
abbrev lw1b4b3 : MS := (sSet 7 (mBlt d_law_own_lots (mCons (mVar 2) (mCons (mVar 3) mNil))))
abbrev lw1b4b4 : MS := (sIf (mtAnd (mTB (mBin (eqG eqs kEq 4) (mVar 3) (mC (.int 3)))) (mTB (mBin (eqG eqs kEq 4) (mBlt d_law_take (mCons (mVar 2) (mCons (mC (.int 4)) mNil))) (mC (.int 0))))) (sSet 7 (mBin (lift2 ixD) (mLst (mCons (mLst (mCons (mLst (mCons (mC (.int 0)) (mCons (mC (.int 1)) mNil))) (mCons (mLst (mCons (mC (.int 1)) (mCons (mC (.int 2)) mNil))) (mCons (mLst (mCons (mC (.int 0)) (mCons (mC (.int 2)) mNil))) mNil)))) (mCons (mLst (mCons (mLst (mCons (mC (.int 0)) (mCons (mC (.int 2)) mNil))) (mCons (mLst (mCons (mC (.int 0)) (mCons (mC (.int 1)) mNil))) (mCons (mLst (mCons (mC (.int 1)) (mCons (mC (.int 2)) mNil))) mNil)))) mNil))) (mBlt d_law_take (mCons (mVar 2) (mCons (mC (.int 2)) mNil))))) sNil)
abbrev lw1b4b5 : MS := (sIf (mtOr (mtNot (mTB (mBlt d_law_webs_right (mCons (mVar 3) (mCons (mVar 7) (mCons (mVar 4) mNil)))))) (mtNot (mTB (mBlt d_law_refused_right (mCons (mVar 2) (mCons (mVar 3) (mCons (mVar 7) mNil))))))) (sRet (mC (.bl false))) sNil)
abbrev lw1b4b : MS := sSeq lw1b4b1 (sSeq lw1b4b2 (sSeq lw1b4b3 (sSeq lw1b4b4 lw1b4b5)))
abbrev lw1b4 : MS := sFor (iRng (mCons (mC (.int 3)) mNil)) (gtName 5) lw1b4b
abbrev lw1b : MS := sSeq lw1b1 (sSeq lw1b2 (sSeq lw1b3 lw1b4))
section
variable {c : Cs} {n : Nat}
theorem BxAt.junk {N : Nat} {c1 : Cs} (h : BxAt c n N c1) (hj : Junk nT c) (hn : nT ≤ n) : Junk nT c1 := by
  obtain ⟨xs, rfl, _⟩ := h
  exact hj.set hn rfl
end
section
variable {δ : Sl} {c cb : Cs} {n : Nat} {L : St} {sc : List Int}
abbrev lx (sc : List Int) (k b n : Nat) (s4 s5 s6 s7 : Option S) : Sl := [some (.d (.scr sc)), some (.d (.int k)), some (.c b), some (.d (.int n)), s4, s5, s6, s7]
def oddA : St := [[0, 1], [1, 2], [0, 2]]
def oddB : St := [[0, 2], [0, 1], [1, 2]]
theorem own_of (h : ∀ l ∈ L, (∀ x ∈ l, 0 ≤ x ∧ x < 3) ∧ l.Pairwise (· < ·)) (hl : L.length = 3) (ho : ∀ i < 3, (i : Int) ∈ L.getD i []) : OwnW 3 L :=
  ⟨⟨⟨by decide, by decide, by omega, by omega, fun l hl => ⟨(h l hl).1, (h l hl).2⟩⟩, hl⟩, fun i l hi => by
    have hlt := (List.getElem?_eq_some_iff.mp hi).1
    have := ho i (by omega)
    rwa [List.getD_eq_getElem?_getD, hi] at this⟩
theorem odA_own : OwnW 3 oddA := own_of (by decide) rfl (by decide)
theorem odB_own : OwnW 3 oddB := own_of (by decide) rfl (by decide)
theorem lap_ok {b k N : Nat} {sc : List Int} {s5 s6 s7 : Option S} (J : Junk nT cb) (hT : nT ≤ b) (h0 : 0 < n) (h4 : n < 4) (hk : b < cb.length) (hb : BxAt cb b N c) (hN : N ≤ 5000) : ∃ y6 y7 c2, lw1b4b (lx sc k b n (some (.d (.lst ((ord n).map qn)))) s5 s6 s7) c = .nx (lx sc k b n (some (.d (.lst ((ord n).map qn)))) s5 y6 y7) c2 ∧ BxAt cb b (N + 60) c2 := by
  obtain ⟨L1, c1, e1, o1, b1⟩ := talks_right h0 h4 hk hb (by omega)
  have J1 := b1.junk J hT
  obtain ⟨_, w1, _⟩ := webs_right J1 o1
  obtain ⟨L2, c2, e2, o2, b2⟩ := own_lots_ok h0 h4 hk b1 (by omega)
  have f1 : lw1b4b1 (lx sc k b n (some (.d (.lst ((ord n).map qn)))) s5 s6 s7) c = .nx (lx sc k b n (some (.d (.lst ((ord n).map qn)))) s5 (some (.d (qs L1))) s7) c1 := set_ok (blt (a2 (vr rfl) (a1 (vr rfl))) e1)
  have f2 : lw1b4b2 (lx sc k b n (some (.d (.lst ((ord n).map qn)))) s5 (some (.d (qs L1))) s7) c1 = .nx (lx sc k b n (some (.d (.lst ((ord n).map qn)))) s5 (some (.d (qs L1))) s7) c1 :=
    if_no (tor_no (c' := c1) (isn_no rfl rfl) ((tnot_ok (tb_ok (blt (a2 (vr rfl) (a2 (vr rfl) (a1 (vr rfl)))) w1))).trans rfl))
  have f3 : lw1b4b3 (lx sc k b n (some (.d (.lst ((ord n).map qn)))) s5 (some (.d (qs L1))) s7) c1 = .nx (lx sc k b n (some (.d (.lst ((ord n).map qn)))) s5 (some (.d (qs L1))) (some (.d (qs L2)))) c2 := set_ok (blt (a2 (vr rfl) (a1 (vr rfl))) e2)
  obtain ⟨L3, c3, f4, o3, b3⟩ : ∃ L3 c3, lw1b4b4 (lx sc k b n (some (.d (.lst ((ord n).map qn)))) s5 (some (.d (qs L1))) (some (.d (qs L2)))) c2 = .nx (lx sc k b n (some (.d (.lst ((ord n).map qn)))) s5 (some (.d (qs L1))) (some (.d (qs L3)))) c3 ∧ OwnW n L3 ∧ BxAt cb b (N + 30) c3 := by
    have g1 : mTB (mBin (eqG eqs kEq 4) (mVar 3) (mC (.int 3))) (lx sc k b n (some (.d (.lst ((ord n).map qn)))) s5 (some (.d (qs L1))) (some (.d (qs L2)))) c2 = .ok ((n : Int) == 3) c2 := tb_ok (bin (vr rfl) rfl (eqG_int _ _))
    by_cases e : n = 3
    · subst e
      obtain ⟨v, c3, e3, v4, b3⟩ := take0 (m := 4) hk b2 (by omega) (by omega)
      have g2 : mTB (mBin (eqG eqs kEq 4) (mBlt d_law_take (mCons (mVar 2) (mCons (mC (.int 4)) mNil))) (mC (.int 0))) (lx sc k b 3 (some (.d (.lst ((ord 3).map qn)))) s5 (some (.d (qs L1))) (some (.d (qs L2)))) c2 = .ok ((v : Int) == 0) c3 := tb_ok (bin (blt (a2 (vr rfl) (a1 rfl)) e3) rfl (eqG_int _ _))
      by_cases hv : v = 0
      · subst hv
        obtain ⟨w, c4, e4, w2, b4⟩ := take0 (m := 2) hk b3 (by omega) (by omega)
        have ix : ∃ L3, OwnW 3 L3 ∧ ixD (.lst [qs oddA, qs oddB]) (.int w) = some (qs L3) := by
          have : w = 0 ∨ w = 1 := by omega
          rcases this with rfl | rfl
          · exact ⟨oddA, odA_own, atI_nat (xs := [qs oddA, qs oddB]) (n := 0) (by simp)⟩
          · exact ⟨oddB, odB_own, atI_nat (xs := [qs oddA, qs oddB]) (n := 1) (by simp)⟩
        obtain ⟨L3, o3, ix⟩ := ix
        exact ⟨L3, c4, (if_t (tand_yes g1 g2)).trans (set_ok (bin (x := .d (.lst [qs oddA, qs oddB])) rfl (blt (a2 (vr rfl) (a1 rfl)) e4) (l2 ix))), o3, b4.mono (by omega)⟩
      · have : ((v : Int) == 0) = false := beq_eq_false_iff_ne.mpr (by omega)
        rw [this] at g2
        exact ⟨L2, c3, if_f (tand_yes g1 g2), o2, b3.mono (by omega)⟩
    · have : ((n : Int) == 3) = false := beq_eq_false_iff_ne.mpr (by omega)
      rw [this] at g1
      exact ⟨L2, c2, if_no (tand_no g1), o2, b2.mono (by omega)⟩
  have J3 := b3.junk J hT
  obtain ⟨_, w3, _⟩ := webs_right J3 o3
  obtain ⟨c4, r4, b4⟩ := refused_right h0 h4 o3.sq hk b3 (by omega)
  have f5 : lw1b4b5 (lx sc k b n (some (.d (.lst ((ord n).map qn)))) s5 (some (.d (qs L1))) (some (.d (qs L3)))) c3 = .nx (lx sc k b n (some (.d (.lst ((ord n).map qn)))) s5 (some (.d (qs L1))) (some (.d (qs L3)))) c4 :=
    if_f (c' := c4) (tor_no (c' := c3) ((tnot_ok (tb_ok (blt (a2 (vr rfl) (a2 (vr rfl) (a1 (vr rfl)))) w3))).trans rfl) ((tnot_ok (tb_ok (blt (a2 (vr rfl) (a2 (vr rfl) (a1 (vr rfl)))) r4))).trans rfl))
  exact ⟨_, _, c4, seq_go f1 (seq_go f2 (seq_go f3 (seq_go f4 f5))), b4.mono (by omega)⟩
theorem firsts_n (h0 : 0 < n) (h4 : n < 4) : d_law_firsts [.d (.int n)] c = .ok (.d (.lst ((ord n).map qn))) c := by
  rcases three_n h0 h4 with rfl | rfl | rfl
  · rw [← fir1.1]
    have k : ∀ r < 1, lvR 1 r ≠ [] ∧ (lvR 1 r).length ≤ 700 := by decide +kernel
    exact firsts_ok (n := 1) (R := 1) ⟨by decide, by decide, by decide, fun r hr => (k r hr).1, fun _ => fir1.2, fun r hr => (k r hr).2⟩
  · rw [← fir2.1]
    have k : ∀ r < 3, lvR 2 r ≠ [] ∧ (lvR 2 r).length ≤ 700 := by decide +kernel
    exact firsts_ok (n := 2) (R := 3) ⟨by decide, by decide, by decide, fun r hr => (k r hr).1, fun _ => fir2.2, fun r hr => (k r hr).2⟩
  · rw [← fir3]
    have k : ∀ r < 6, lvR 3 r ≠ [] := by decide +kernel
    exact firsts_ok (n := 3) (R := 6) ⟨by decide, by decide, by decide, k, fun h => by omega, fun r hr => lv3_len r (by omega)⟩
theorem turn_ok {k : Nat} (hj : k ≤ 3) (J : Junk nT c) {x2 x3 x4 x5 x6 x7 : Option S} : ∃ y2 y3 y4 y5 y6 y7 c', lw1b [some (.d (.scr sc)), some (.d (.int k)), x2, x3, x4, x5, x6, x7] c = .nx [some (.d (.scr sc)), some (.d (.int k)), y2, y3, y4, y5, y6, y7] c' ∧ Junk nT c' := by
  obtain ⟨xs, e0, b0⟩ := box_ok (c := c) (ns := sc) (k := k) hj
  obtain ⟨cb, hcb⟩ : ∃ cb, cb = c ++ [CC.lst xs] := ⟨_, rfl⟩
  have hk : c.length < cb.length := by rw [hcb]; simp
  have hb0 : BxAt cb c.length 0 cb := ⟨xs, by rw [hcb]; simp, b0⟩
  have Jb : Junk nT cb := by rw [hcb]; exact J.app rfl
  have hT : nT ≤ c.length := J.len
  rw [← hcb] at e0
  obtain ⟨v, c1, e1, v5, b1⟩ := take0 (m := 5) hk hb0 (by omega) (by omega)
  obtain ⟨n, hn, h0, h4⟩ : ∃ n : Nat, ixD (.lst [.int 3, .int 3, .int 3, .int 2, .int 1]) (.int v) = some (.int n) ∧ 0 < n ∧ n < 4 := by
    have : v = 0 ∨ v = 1 ∨ v = 2 ∨ v = 3 ∨ v = 4 := by omega
    rcases this with rfl | rfl | rfl | rfl | rfl
    · exact ⟨3, rfl, by decide, by decide⟩
    · exact ⟨3, rfl, by decide, by decide⟩
    · exact ⟨3, rfl, by decide, by decide⟩
    · exact ⟨2, rfl, by decide, by decide⟩
    · exact ⟨1, rfl, by decide, by decide⟩
  have f1 : lw1b1 [some (.d (.scr sc)), some (.d (.int k)), x2, x3, x4, x5, x6, x7] c = .nx [some (.d (.scr sc)), some (.d (.int k)), some (.c c.length), x3, x4, x5, x6, x7] cb := set_ok (blt (a2 (vr rfl) (a1 (vr rfl))) e0)
  have f2 : lw1b2 [some (.d (.scr sc)), some (.d (.int k)), some (.c c.length), x3, x4, x5, x6, x7] cb = .nx (lx sc k c.length n x4 x5 x6 x7) c1 := set_ok (bin (x := .d (.lst [.int 3, .int 3, .int 3, .int 2, .int 1])) rfl (blt (a2 (vr rfl) (a1 rfl)) e1) (l2 hn))
  have f3 : lw1b3 (lx sc k c.length n x4 x5 x6 x7) c1 = .nx (lx sc k c.length n (some (.d (.lst ((ord n).map qn)))) x5 x6 x7) c1 := set_ok (blt (a1 (vr rfl)) (firsts_n h0 h4))
  obtain ⟨δ', c', e, y5, y6, y7, rfl, b⟩ := for_inv (δ := lx sc k c.length n (some (.d (.lst ((ord n).map qn)))) x5 x6 x7) (c := c1) (I := iRng (mCons (mC (.int 3)) mNil)) (g := gtName 5) (B := lw1b4b) (List.range 3) (fun (i : Nat) => sI i)
    (fun done δ c' => ∃ y5 y6 y7, δ = lx sc k c.length n (some (.d (.lst ((ord n).map qn)))) y5 y6 y7 ∧ BxAt cb c.length (1 + 60 * done.length) c') (rngN_ok (a1 rfl) (by omega)) ⟨x5, x6, x7, rfl, b1.mono (by simp)⟩ (by
      rintro done i rest δ c2 hy ⟨y5, y6, y7, rfl, b2⟩
      have hd : done.length < 3 := by
        have := congrArg List.length hy
        rw [List.length_range, List.length_append, List.length_cons] at this
        omega
      obtain ⟨z6, z7, c3, f, b3⟩ := lap_ok (k := k) (sc := sc) (s5 := some (sI i)) (s6 := y6) (s7 := y7) Jb hT h0 h4 hk b2 (by omega)
      exact ⟨_, _, c3, rfl, f, _, z6, z7, rfl, b3.mono (by simp; omega)⟩)
  exact ⟨_, _, _, _, _, _, c', seq_go f1 (seq_go f2 (seq_go f3 e)), b.junk Jb hT⟩
theorem law_true' : LawTrueT nT d_law := by
  intro ns hl _
  have hI : iRng (mCons (mBlt (liftN max2D) (mCons (mC (.int 1)) (mCons (mBlt (liftN min2D) (mCons (mC (.int 2)) (mCons (mBlt (lenX (lenO lens)) (mCons (mVar 0) mNil)) mNil))) mNil))) mNil) [some (.d (.scr ns)), none, none, none, none, none, none, none] (tbs nT) = .ok (.xs ((List.range (max 1 (min 2 ns.length))).map fun (i : Nat) => sI i)) (tbs nT) := by
    have emin : liftN min2D [.d (.int 2), .d (.int (ns.length : Int))] (tbs nT) = .ok (.d (.int ((min 2 ns.length : Nat) : Int))) (tbs nT) := by
      have : (if (ns.length : Int) < 2 then (ns.length : Int) else 2) = ((min 2 ns.length : Nat) : Int) := by
        by_cases hq : (ns.length : Int) < 2
        · rw [if_pos hq]; omega
        · rw [if_neg hq]; omega
      simp only [liftN, derefs, deref, min2D, this]
    have emax : liftN max2D [.d (.int 1), .d (.int ((min 2 ns.length : Nat) : Int))] (tbs nT) = .ok (.d (.int ((max 1 (min 2 ns.length) : Nat) : Int))) (tbs nT) := by
      have : (if ((min 2 ns.length : Nat) : Int) > 1 then ((min 2 ns.length : Nat) : Int) else 1) = ((max 1 (min 2 ns.length) : Nat) : Int) := by
        by_cases hq : ((min 2 ns.length : Nat) : Int) > 1
        · rw [if_pos hq]; omega
        · rw [if_neg hq]; omega
      simp only [liftN, derefs, deref, max2D, this]
    exact rngN_ok (a1 (blt (a2 rfl (a1 (blt (a2 rfl (a1 (blt (a1 (vr rfl)) (lX1 (g := lenO lens) (d := .int ns.length) rfl)))) emin))) emax)) (by omega)
  obtain ⟨δ', c', e, y1, y2, y3, y4, y5, y6, y7, rfl, J⟩ := for_inv (δ := [some (.d (.scr ns)), none, none, none, none, none, none, none]) (c := tbs nT) (g := gtName 1) (B := lw1b) (List.range (max 1 (min 2 ns.length))) (fun (i : Nat) => sI i)
    (fun _ δ c' => ∃ y1 y2 y3 y4 y5 y6 y7, δ = [some (.d (.scr ns)), y1, y2, y3, y4, y5, y6, y7] ∧ Junk nT c') hI ⟨none, none, none, none, none, none, none, rfl, Junk.tbs nT⟩ (by
      rintro d i r δ c2 hy ⟨y1, y2, y3, y4, y5, y6, y7, rfl, J⟩
      have hi : i < max 1 (min 2 ns.length) := List.mem_range.mp (by rw [hy]; simp)
      obtain ⟨z2, z3, z4, z5, z6, z7, c3, e, J3⟩ := turn_ok (c := c2) (sc := ns) (k := i) (by omega) J (x2 := y2) (x3 := y3) (x4 := y4) (x5 := y5) (x6 := y6) (x7 := y7)
      exact ⟨_, _, c3, rfl, e, some (.d (.int i)), z2, z3, z4, z5, z6, z7, rfl, J3⟩)
  have body : b_law [some (.d (.scr ns)), none, none, none, none, none, none, none] (tbs nT) = .rt (.d (.bl true)) c' := seq_go e (ret_ok rfl)
  refine (fnG_eq rfl).trans ?_
  show exitR false 2 (b_law [some (.d (.scr ns)), none, none, none, none, none, none, none] (tbs nT)) = _
  rw [body]
  simp [exitR, J.take]
end
end Dn

end
theorem Dn.law_true : Dn.LawTrueT Dn.nT Dn.d_law := Dn.law_true'
set_option maxHeartbeats 4000000
/-! the walks of law_k21_talks, printed by gen.py -/
namespace Dn
open PySem PySem.Spec PyProof.Rows L2
def top (i : Nat) : Stmt := PySem.Challenge.pw_tellsmore_k21_talks.main.body.getD i (.Pass ⟨0, 0, 0, 0⟩)
abbrev s_is_number : Stmt := top 12
abbrev s_parts_of : Stmt := top 10
abbrev s_Ratio_eq : Stmt := inClass (top 11) 10
abbrev s_Web_eq : Stmt := inClass (top 22) 1
abbrev s_Web_len : Stmt := inClass (top 22) 2
abbrev s_law_box : Stmt := top 36
abbrev s_law_all_talks : Stmt := top 40
abbrev s_law_talked : Stmt := top 39
abbrev s_law_firsts : Stmt := top 42
abbrev s_law_take : Stmt := top 37
abbrev s_law_own_lots : Stmt := top 38
abbrev s_is_integer : Stmt := top 15
abbrev s_is_place : Stmt := top 16
abbrev s_is_talk : Stmt := top 25
abbrev s_are_talks : Stmt := top 26
abbrev s_is_many : Stmt := top 18
abbrev s_union_of : Stmt := top 21
abbrev s_talked : Stmt := top 27
abbrev s_is_lot : Stmt := top 19
abbrev s_are_lots : Stmt := top 20
abbrev s_Web_init : Stmt := inClass (top 22) 0
abbrev s_after_talks : Stmt := top 28
abbrev s_is_square : Stmt := top 29
abbrev s_need_own : Stmt := top 30
abbrev s_all_talks : Stmt := top 31
abbrev s_shortest_talks : Stmt := top 32
abbrev s_Web_links : Stmt := inClass (top 22) 6
abbrev s_enough_talks : Stmt := top 34
abbrev s_Web_lots : Stmt := inClass (top 22) 5
abbrev s_fewest_talks : Stmt := top 33
abbrev s_law_caught : Stmt := top 41
abbrev s_Ratio_init : Stmt := inClass (top 11) 0
abbrev s_law_refused_right : Stmt := top 45
abbrev s_law_talks_right : Stmt := top 44
abbrev s_law_webs_right : Stmt := top 43
abbrev s_law : Stmt := top 46
abbrev s_InvalidWeb_init : Stmt := inClass (top 5) 0
abbrev s_InvalidLot_init : Stmt := inClass (top 7) 0
abbrev s_InvalidTalks_init : Stmt := inClass (top 8) 0
abbrev s_InvalidSeat_init : Stmt := inClass (top 6) 0
abbrev s_Ratio_bottom : Stmt := inClass (top 11) 2
abbrev s_Ratio_top : Stmt := inClass (top 11) 1
structure Txt (K : PySem.W.Frag) (mg : Str → Option Value) (T : Tb) : Prop where
  hT : K = T.K
  hx : T.x = none
  g_TellError : mg "TellError" = some (.ref (T.cl 12))
  g_ByZero : mg "ByZero" = some (.ref (T.cl 13))
  g_InvalidWeb : mg "InvalidWeb" = some (.ref (T.cl 37))
  g_InvalidSeat : mg "InvalidSeat" = some (.ref (T.cl 27))
  g_InvalidLot : mg "InvalidLot" = some (.ref (T.cl 26))
  g_InvalidTalks : mg "InvalidTalks" = some (.ref (T.cl 59))
  g_Ratio : mg "Ratio" = some (.ref (T.cl 1))
  g_Web : mg "Web" = some (.ref (T.cl 0))
  g_MOST_SEATS : ∃ t, mg "MOST_SEATS" = some (.int 3 t)
  g_MOST_TALKS : ∃ t, mg "MOST_TALKS" = some (.int 9 t)
  n_abs : mg "abs" = none
  n_all : mg "all" = none
  n_any : mg "any" = none
  n_bool : mg "bool" = none
  n_enumerate : mg "enumerate" = none
  n_int : mg "int" = none
  n_isinstance : mg "isinstance" = none
  n_len : mg "len" = none
  n_list : mg "list" = none
  n_max : mg "max" = none
  n_min : mg "min" = none
  n_range : mg "range" = none
  n_set : mg "set" = none
  n_sorted : mg "sorted" = none
  n_sum : mg "sum" = none
  n_tuple : mg "tuple" = none
  n_zip : mg "zip" = none
  y_Ratio : Cls K (T.cl 1)
  l_Ratio : (T.fl 1).length = 2
  y_Web : Cls K (T.cl 0)
  l_Web : (T.fl 0).length = 2
  f__bottom : FldsAt K T "_bottom" f__bottom
  f__top : FldsAt K T "_top" f__top
  f_heard_lots : FldsAt K T "heard_lots" f_heard_lots
  f_seats : FldsAt K T "seats" f_seats
  k_Ratio : KindsOk K T (fun t => PySem.W.kitOne K t (.ref (T.cl 1))) k_Ratio
  k_Web : KindsOk K T (fun t => PySem.W.kitOne K t (.ref (T.cl 0))) k_Web
  k_bool : KindsOk K T (fun t => PySem.W.kitOne K t (.type "bool")) k_bool
  k_int : KindsOk K T (fun t => PySem.W.kitOne K t (.type "int")) k_int
  k_int_Ratio : KindsOk K T (fun t => PySem.W.kitAny K t [(.type "int"), (.ref (T.cl 1))]) k_int_Ratio
  k_list_tuple : KindsOk K T (fun t => PySem.W.kitAny K t [(.type "list"), (.type "tuple")]) k_list_tuple
  k_tuple : KindsOk K T (fun t => PySem.W.kitOne K t (.type "tuple")) k_tuple
  nf_Ratio : KindsOk K T (fun t => some (PySem.W.notFirst K (T.cl 1) t)) kEq
  nf_Web : KindsOk K T (fun t => some (PySem.W.notFirst K (T.cl 0) t)) kEq
  e_ByZero : ∀ X : Cx, X.K = K → X.mg = mg → ExcAt X T "ByZero" 13 [.type "ValueError", .type "Exception", .type "BaseException", .type "object"] "ValueError.__new__"
  c_InvalidSeat : Catches K T (.ref (T.cl 27)) true [27]
  n_InvalidSeat : Catches K T (.ref (T.cl 27)) false [59, 37, 13, 26]
  c_InvalidTalks : Catches K T (.ref (T.cl 59)) true [59]
  n_InvalidTalks : Catches K T (.ref (T.cl 59)) false [27, 37, 13, 26]
  c_InvalidWeb : Catches K T (.ref (T.cl 37)) true [37]
  n_InvalidWeb : Catches K T (.ref (T.cl 37)) false [27, 59, 13, 26]
  le : Lends K (T.cl 12)
  xi_InvalidWeb : ∃ f fd, Fun K "__init__" "InvalidWeb.__init__" s_InvalidWeb_init f fd ∧ PySem.W.findIn K (.ref (T.cl 37)) "__init__" = some (some (.ref f)) ∧ PySem.W.typeIn K (.ref f) = some (.type "function") ∧ Binds K fd ["self", "given"] []
  xo_InvalidWeb : OexC K (T.cl 37)
  xn_InvalidWeb : PySem.W.findIn K (.ref (T.cl 37)) "given" = some none
  xl_InvalidWeb : T.fl 37 = (["given"] : List Str)
  xi_InvalidSeat : ∃ f fd, Fun K "__init__" "InvalidSeat.__init__" s_InvalidSeat_init f fd ∧ PySem.W.findIn K (.ref (T.cl 27)) "__init__" = some (some (.ref f)) ∧ PySem.W.typeIn K (.ref f) = some (.type "function") ∧ Binds K fd ["self", "given"] []
  xo_InvalidSeat : OexC K (T.cl 27)
  xn_InvalidSeat : PySem.W.findIn K (.ref (T.cl 27)) "given" = some none
  xl_InvalidSeat : T.fl 27 = (["given"] : List Str)
  xi_InvalidLot : ∃ f fd, Fun K "__init__" "InvalidLot.__init__" s_InvalidLot_init f fd ∧ PySem.W.findIn K (.ref (T.cl 26)) "__init__" = some (some (.ref f)) ∧ PySem.W.typeIn K (.ref f) = some (.type "function") ∧ Binds K fd ["self", "given"] []
  xo_InvalidLot : OexC K (T.cl 26)
  xn_InvalidLot : PySem.W.findIn K (.ref (T.cl 26)) "given" = some none
  xl_InvalidLot : T.fl 26 = (["given"] : List Str)
  xi_InvalidTalks : ∃ f fd, Fun K "__init__" "InvalidTalks.__init__" s_InvalidTalks_init f fd ∧ PySem.W.findIn K (.ref (T.cl 59)) "__init__" = some (some (.ref f)) ∧ PySem.W.typeIn K (.ref f) = some (.type "function") ∧ Binds K fd ["self", "given"] []
  xo_InvalidTalks : OexC K (T.cl 59)
  xn_InvalidTalks : PySem.W.findIn K (.ref (T.cl 59)) "given" = some none
  xl_InvalidTalks : T.fl 59 = (["given"] : List Str)
  xf_given : XFldsAt K T "given" xf_given
  gcd : mg "gcd" = some (.builtin "math.gcd")
  p_Ratio_bottom : ∀ X : Cx, X.K = K → X.mg = mg → PropAt X T "bottom" "_bottom" 1 1
  p_Ratio_top : ∀ X : Cx, X.K = K → X.mg = mg → PropAt X T "top" "_top" 1 0
  d_is_number : DefAt K mg "is_number" s_is_number ["value"]
  d_parts_of : DefAt K mg "parts_of" s_parts_of ["number"]
  d_Ratio_eq : MDefAt K (T.cl 1) "__eq__" "Ratio.__eq__" s_Ratio_eq ["self", "other"]
  m_Ratio_eq : ("__eq__" : Str) ∉ T.fl 1
  d_Web_eq : MDefAt K (T.cl 0) "__eq__" "Web.__eq__" s_Web_eq ["self", "other"]
  m_Web_eq : ("__eq__" : Str) ∉ T.fl 0
  d_Web_len : MDefAt K (T.cl 0) "__len__" "Web.__len__" s_Web_len ["self"]
  m_Web_len : ("__len__" : Str) ∉ T.fl 0
  d_law_box : DefAt K mg "_law_box" s_law_box ["_law_script", "_law_k"]
  d_law_all_talks : DefAt K mg "_law_all_talks" s_law_all_talks ["_law_seats1"]
  d_law_talked : DefAt K mg "_law_talked" s_law_talked ["_law_lots1", "_law_talk"]
  d_law_firsts : DefAt K mg "_law_firsts" s_law_firsts ["_law_seats1"]
  d_law_take : DefAt K mg "_law_take" s_law_take ["_law_box_here", "_law_many"]
  d_law_own_lots : DefAt K mg "_law_own_lots" s_law_own_lots ["_law_box_here", "_law_seats1"]
  d_is_integer : DefAt K mg "is_integer" s_is_integer ["value"]
  d_is_place : DefAt K mg "is_place" s_is_place ["value", "many"]
  d_is_talk : DefAt K mg "is_talk" s_is_talk ["value", "seats"]
  d_are_talks : DefAt K mg "are_talks" s_are_talks ["value", "seats"]
  d_is_many : DefAt K mg "is_many" s_is_many ["value"]
  d_union_of : DefAt K mg "union_of" s_union_of ["lots"]
  d_talked : DefAt K mg "talked" s_talked ["lots", "talk"]
  d_is_lot : DefAt K mg "is_lot" s_is_lot ["value", "seats"]
  d_are_lots : DefAt K mg "are_lots" s_are_lots ["value", "seats"]
  d_Web_init : IDefAt K (T.cl 0) "Web.__init__" s_Web_init ["self", "seats", "lots"]
  d_after_talks : DefAt K mg "after_talks" s_after_talks ["seats", "talks"]
  d_is_square : DefAt K mg "is_square" s_is_square ["value"]
  d_need_own : DefAt K mg "need_own" s_need_own ["web"]
  d_all_talks : DefAt K mg "all_talks" s_all_talks ["seats"]
  d_shortest_talks : DefAt K mg "shortest_talks" s_shortest_talks ["seats", "is_goal"]
  d_Web_links : MDefAt K (T.cl 0) "links" "Web.links" s_Web_links ["self"]
  m_Web_links : ("links" : Str) ∉ T.fl 0
  d_enough_talks : DefAtC K mg "enough_talks" s_enough_talks ["web"] (T.tb 1001)
  d_Web_lots : MDefAt K (T.cl 0) "lots" "Web.lots" s_Web_lots ["self"]
  m_Web_lots : ("lots" : Str) ∉ T.fl 0
  d_fewest_talks : DefAtC K mg "fewest_talks" s_fewest_talks ["web"] (T.tb 1000)
  d_law_caught : DefAt K mg "_law_caught" s_law_caught ["_law_way", "_law_one", "_law_other"]
  d_Ratio_init : IDefDAt K (T.cl 1) "Ratio.__init__" s_Ratio_init ["self", "top", "bottom"] 1
  d_law_refused_right : DefAt K mg "_law_refused_right" s_law_refused_right ["_law_box_here", "_law_seats1", "_law_lots1"]
  d_law_talks_right : DefAt K mg "_law_talks_right" s_law_talks_right ["_law_box_here", "_law_seats1"]
  d_law_webs_right : DefAt K mg "_law_webs_right" s_law_webs_right ["_law_seats1", "_law_lots1", "_law_firsts_here"]
def lamN : List (Option Str) := [some ("fewest_talks" ++ ".<locals>." ++ "<lambda>" : Str), some ("enough_talks" ++ ".<locals>." ++ "<lambda>" : Str)]
structure TxtB (K : PySem.W.Frag) (mg : Str → Option Value) (base : Heap) (T : Tb) : Prop extends Txt K mg T where
  tb : ∀ j, j < nT → TabA base mg T j
  lam : ∀ j, j < nT → T.lam j = lamN.getD j none
structure TxtL (K : PySem.W.Frag) (mg : Str → Option Value) (base : Heap) (T : Tb) : Prop extends TxtB K mg base T where
  wl : ∀ o, TxtB K mg base (T.wm o)
theorem TxtL.wm {K : PySem.W.Frag} {mg : Str → Option Value} {base : Heap} {T : Tb} (h : TxtL K mg base T) (o : Option Lm) : TxtL K mg base (T.wm o) := ⟨h.wl o, fun o2 => h.wl o2⟩
section
variable {P : Program} {w : World} {K : PySem.W.Frag} {mg : Str → Option Value} {base : Heap} {T : Tb}
theorem sc_x_InvalidWeb : FnScope ["self", "given"] ["self", "given"] (defScope s_InvalidWeb_init) := ⟨rfl, rfl, rfl, by decide +kernel, rfl, by decide +kernel, by decide +kernel⟩
theorem xa_InvalidWeb (TX : TxtL K mg base T) : XAt P w K mg base T "InvalidWeb" 37 "given" := by
  obtain ⟨f, fd, F, iC, tI, hb⟩ := TX.xi_InvalidWeb
  exact ⟨f, fd, _, xi_ok (k := 0) F sc_x_InvalidWeb (fun f cdv A outer s H E => pss_xi rfl TX.g_TellError TX.le rfl (Or.inl rfl) rfl (Or.inl rfl)), TX.xo_InvalidWeb, iC, tI, hb, TX.g_InvalidWeb, TX.xn_InvalidWeb, TX.xl_InvalidWeb⟩
theorem sc_x_InvalidSeat : FnScope ["self", "given"] ["self", "given"] (defScope s_InvalidSeat_init) := ⟨rfl, rfl, rfl, by decide +kernel, rfl, by decide +kernel, by decide +kernel⟩
theorem xa_InvalidSeat (TX : TxtL K mg base T) : XAt P w K mg base T "InvalidSeat" 27 "given" := by
  obtain ⟨f, fd, F, iC, tI, hb⟩ := TX.xi_InvalidSeat
  exact ⟨f, fd, _, xi_ok (k := 0) F sc_x_InvalidSeat (fun f cdv A outer s H E => pss_xi rfl TX.g_TellError TX.le rfl (Or.inl rfl) rfl (Or.inl rfl)), TX.xo_InvalidSeat, iC, tI, hb, TX.g_InvalidSeat, TX.xn_InvalidSeat, TX.xl_InvalidSeat⟩
theorem sc_x_InvalidLot : FnScope ["self", "given"] ["self", "given"] (defScope s_InvalidLot_init) := ⟨rfl, rfl, rfl, by decide +kernel, rfl, by decide +kernel, by decide +kernel⟩
theorem xa_InvalidLot (TX : TxtL K mg base T) : XAt P w K mg base T "InvalidLot" 26 "given" := by
  obtain ⟨f, fd, F, iC, tI, hb⟩ := TX.xi_InvalidLot
  exact ⟨f, fd, _, xi_ok (k := 0) F sc_x_InvalidLot (fun f cdv A outer s H E => pss_xi rfl TX.g_TellError TX.le rfl (Or.inl rfl) rfl (Or.inl rfl)), TX.xo_InvalidLot, iC, tI, hb, TX.g_InvalidLot, TX.xn_InvalidLot, TX.xl_InvalidLot⟩
theorem sc_x_InvalidTalks : FnScope ["self", "given"] ["self", "given"] (defScope s_InvalidTalks_init) := ⟨rfl, rfl, rfl, by decide +kernel, rfl, by decide +kernel, by decide +kernel⟩
theorem xa_InvalidTalks (TX : TxtL K mg base T) : XAt P w K mg base T "InvalidTalks" 59 "given" := by
  obtain ⟨f, fd, F, iC, tI, hb⟩ := TX.xi_InvalidTalks
  exact ⟨f, fd, _, xi_ok (k := 0) F sc_x_InvalidTalks (fun f cdv A outer s H E => pss_xi rfl TX.g_TellError TX.le rfl (Or.inl rfl) rfl (Or.inl rfl)), TX.xo_InvalidTalks, iC, tI, hb, TX.g_InvalidTalks, TX.xn_InvalidTalks, TX.xl_InvalidTalks⟩
theorem sc_is_number : FnScope ["value"] ["value"] (defScope s_is_number) := ⟨rfl, rfl, rfl, by decide +kernel, rfl, by decide +kernel, by decide +kernel⟩
theorem ok_is_number (TX : TxtL K mg base T) : FnAt P w K mg base T "is_number" 1 d_is_number :=
  fn_at (kp := false) (k := 0) (N := ["value"]) (body := b_is_number) TX.d_is_number sc_is_number (fun f cdv A outer s H E hr tk => have sc := sc_is_number; (ss_cons (ds_if (dt_val (dn_isi TX.hT (pe_ty rfl TX.n_bool boot_ty_bool) (.ty "bool") TX.k_bool rfl TX.n_isinstance (vv 0))) (ss_one (ds_ret dn_bl)) ss_nil) (ss_one (ds_ret (dn_isi2 TX.hT (pe_ty rfl TX.n_int boot_ty_int) (pe_glob rfl TX.g_Ratio (show RelV (.ref _) (.ref _) from rfl)) (.ty "int") (.own _) TX.k_int_Ratio rfl TX.n_isinstance (vv 0))))))
theorem sc_parts_of : FnScope ["number"] ["number"] (defScope s_parts_of) := ⟨rfl, rfl, rfl, by decide +kernel, rfl, by decide +kernel, by decide +kernel⟩
theorem ok_parts_of (TX : TxtL K mg base T) : FnAt P w K mg base T "parts_of" 3 d_parts_of :=
  fn_at (kp := false) (k := 2) (N := ["number"]) (body := b_parts_of) TX.d_parts_of sc_parts_of (fun f cdv A outer s H E hr tk => have sc := sc_parts_of; (ss_cons (ds_if (dt_val (dn_isi TX.hT (pe_glob rfl TX.g_Ratio (show RelV (.ref _) (.ref _) from rfl)) (.own _) TX.k_Ratio rfl TX.n_isinstance (vv 0))) (ss_one (ds_ret (dn_tup (da_cons (dn_prop (TX.p_Ratio_top _ rfl rfl) (hr.mono (by decide)) (vv 0)) (da_cons (dn_prop (TX.p_Ratio_bottom _ rfl rfl) (hr.mono (by decide)) (vv 0)) da_nil))))) ss_nil) (ss_one (ds_ret (dn_tup (da_cons (vv 0) (da_cons dn_int da_nil)))))))
theorem sc_Ratio_eq : FnScope ["self", "other", "top", "bottom"] ["self", "other"] (defScope s_Ratio_eq) := ⟨rfl, rfl, rfl, by decide +kernel, rfl, by decide +kernel, by decide +kernel⟩
theorem mt_Ratio_eq (TX : TxtL K mg base T) : MethAt P w K mg base T "__eq__" 1 4 d_Ratio_eq :=
  meth_at (kp := false) (k := 3) (N := ["self", "other", "top", "bottom"]) (body := b_Ratio_eq) TX.d_Ratio_eq TX.y_Ratio TX.m_Ratio_eq sc_Ratio_eq (fun f cdv A outer s H E hr tk => have sc := sc_Ratio_eq; (ss_cons (ds_if (dt_not (dt_val (dn_call (ok_is_number TX) (hr.mono (by decide)) tk rfl (da_cons (vv 1) da_nil)))) (ss_one (ds_ret dn_bl)) ss_nil) (ss_cons (ds_asg (dn_call (ok_parts_of TX) (hr.mono (by decide)) tk rfl (da_cons (vv 1) da_nil)) (dg_tup rfl TX.hT (dgs_cons (dg_name (i := 2) sc.nd rfl (Or.inl rfl)) (dgs_cons (dg_name (i := 3) sc.nd rfl (Or.inl rfl)) dgs_nil)) (gtCons_len (gtCons_len gtNil_len)))) (ss_one (ds_ret (dn_and (dn_eq TX.hT hr (dn_attr TX.hT (vv 0) TX.f__top rfl) (vv 2)) (dn_one (dn_eq TX.hT hr (dn_attr TX.hT (vv 0) TX.f__bottom rfl) (vv 3)))))))))
theorem sc_Web_eq : FnScope ["self", "other"] ["self", "other"] (defScope s_Web_eq) := ⟨rfl, rfl, rfl, by decide +kernel, rfl, by decide +kernel, by decide +kernel⟩
theorem mt_Web_eq (TX : TxtL K mg base T) : MethAt P w K mg base T "__eq__" 0 1 d_Web_eq :=
  meth_at (kp := false) (k := 0) (N := ["self", "other"]) (body := b_Web_eq) TX.d_Web_eq TX.y_Web TX.m_Web_eq sc_Web_eq (fun f cdv A outer s H E hr tk => have sc := sc_Web_eq; (ss_one (ds_ret (dn_and (dn_isi TX.hT (pe_glob rfl TX.g_Web (show RelV (.ref _) (.ref _) from rfl)) (.own _) TX.k_Web rfl TX.n_isinstance (vv 1)) (dn_and (dn_eq TX.hT hr (dn_attr TX.hT (vv 0) TX.f_seats rfl) (dn_attr TX.hT (vv 1) TX.f_seats rfl)) (dn_one (dn_eq TX.hT hr (dn_attr TX.hT (vv 0) TX.f_heard_lots rfl) (dn_attr TX.hT (vv 1) TX.f_heard_lots rfl))))))))
theorem sc_Web_len : FnScope ["self"] ["self"] (defScope s_Web_len) := ⟨rfl, rfl, rfl, by decide +kernel, rfl, by decide +kernel, by decide +kernel⟩
theorem mt_Web_len (TX : TxtL K mg base T) : MethAt P w K mg base T "__len__" 0 1 d_Web_len :=
  meth_at (kp := false) (k := 0) (N := ["self"]) (body := b_Web_len) TX.d_Web_len TX.y_Web TX.m_Web_len sc_Web_len (fun f cdv A outer s H E hr tk => have sc := sc_Web_len; (ss_one (ds_ret (dn_lenX TX.hT rfl TX.n_len (da_cons (dn_attr TX.hT (vv 0) TX.f_heard_lots rfl) da_nil)))))
theorem eqs_nf (TX : TxtL K mg base T) : NotFirst K T kEq eqs := (.cons TX.nf_Ratio (.cons TX.nf_Web .nil))
theorem eqs_ok (TX : TxtL K mg base T) : MethsAt P w K mg base T "__eq__" 4 eqs := (.cons (mt_Ratio_eq TX) (by decide) (.cons (mt_Web_eq TX) (by decide) .nil))
theorem lens_ok (TX : TxtL K mg base T) : LensAt P w K mg base T 1 lens := (.cons (mt_Web_len TX) (by decide) TX.l_Web .nil)
theorem sc_law_box : FnScope ["_law_script", "_law_k", "_law_spare"] ["_law_script", "_law_k"] (defScope s_law_box) := ⟨rfl, rfl, rfl, by decide +kernel, rfl, by decide +kernel, by decide +kernel⟩
theorem ok_law_box (TX : TxtL K mg base T) : FnAt P w K mg base T "_law_box" 3 d_law_box :=
  fn_at (kp := true) (k := 2) (N := ["_law_script", "_law_k", "_law_spare"]) (body := b_law_box) TX.d_law_box sc_law_box (fun f cdv A outer s H E hr tk => have sc := sc_law_box; (ss_cons (ds_set (i := 2) sc.nd rfl (Or.inl rfl) (dn_mod (dn_intc rfl TX.n_int (da_cons (dn_add TX.hT (dn_sum TX.hT rfl rfl TX.n_sum (da_cons (vv 0) da_nil)) (dn_lenXO TX.hT (hr.mono (by decide)) (lens_ok TX) rfl TX.n_len (da_cons (vv 0) da_nil))) da_nil)) dn_int)) (ss_one (ds_ret (dn_cell (da_cons (dn_if (dt_lt (vv 1) (dn_lenXO TX.hT (hr.mono (by decide)) (lens_ok TX) rfl TX.n_len (da_cons (vv 0) da_nil))) (dn_abs rfl TX.n_abs (da_cons (dn_intc rfl TX.n_int (da_cons (dn_ix TX.hT (vv 0) (vv 1)) da_nil)) da_nil)) dn_int) (da_cons dn_int (da_cons (dn_add TX.hT (dn_add TX.hT (dn_mul dn_int (vv 1)) dn_int) (vv 2)) da_nil))))))))
theorem sc_law_all_talks : FnScope ["_law_seats1", "_law_found", "_law_speaker", "_law_other"] ["_law_seats1"] (defScope s_law_all_talks) := ⟨rfl, rfl, rfl, by decide +kernel, rfl, by decide +kernel, by decide +kernel⟩
theorem ok_law_all_talks (TX : TxtL K mg base T) : FnAt P w K mg base T "_law_all_talks" 10 d_law_all_talks :=
  fn_at (kp := false) (k := 9) (N := ["_law_seats1", "_law_found", "_law_speaker", "_law_other"]) (body := b_law_all_talks) TX.d_law_all_talks sc_law_all_talks (fun f cdv A outer s H E hr tk => have sc := sc_law_all_talks; (ss_cons (ds_set (i := 1) sc.nd rfl (Or.inl rfl) (dn_lst da_nil)) (ss_cons (ds_for PassesOwn.leaving rfl (di_range rfl TX.n_range (da_cons (vv 0) da_nil)) (dg_name (i := 2) sc.nd rfl (Or.inr rfl)) (ss_one (ds_set (i := 1) sc.nd rfl (Or.inl rfl) (dn_add TX.hT (vv 1) (dn_comp (own := [("_law_other", 3)]) rfl sc.nd (di_range rfl TX.n_range (da_cons (vv 0) da_nil)) (blkOk_by rfl) (fun _ _ _ _ _ => (dv_name (i := 3) sc.nd rfl (by first | exact Or.inl rfl | exact Or.inr rfl) (by decide))) (fun _ _ _ _ _ => (dts_one (dt_neY (eqs_ok TX) TX.hT (hr.mono (by decide)) (vv 3) (vv 2)))) (fun _ _ _ _ _ => (dn_tup (da_cons (vv 2) (da_cons (vv 3) da_nil))))))))) (ss_one (ds_ret (vv 1))))))
theorem sc_law_talked : FnScope ["_law_lots1", "_law_talk", "_law_found", "_law_lot"] ["_law_lots1", "_law_talk"] (defScope s_law_talked) := ⟨rfl, rfl, rfl, by decide +kernel, rfl, by decide +kernel, by decide +kernel⟩
theorem ok_law_talked (TX : TxtL K mg base T) : FnAt P w K mg base T "_law_talked" 1 d_law_talked :=
  fn_at (kp := false) (k := 0) (N := ["_law_lots1", "_law_talk", "_law_found", "_law_lot"]) (body := b_law_talked) TX.d_law_talked sc_law_talked (fun f cdv A outer s H E hr tk => have sc := sc_law_talked; (ss_frz2 (js := [2]) (ds_setCompK (own := [("_law_lot", 3)]) (i := 2) rfl sc.nd rfl rfl rfl (di_seq TX.hT (vv 0)) (blkOk_by rfl) (fun _ _ _ _ _ => (dv_name (i := 3) sc.nd rfl (by first | exact Or.inl rfl | exact Or.inr rfl) (by decide))) (fun _ _ _ _ _ => dts_nil) (fun _ _ _ _ _ => (dn_list TX.hT rfl TX.n_list (da_cons (vv 3) da_nil)))) (ds_setAt (vv 2) (dn_ix TX.hT (vv 1) dn_int) (dn_sortSet TX.hT rfl rfl TX.n_sorted rfl TX.n_set (dn_add TX.hT (dn_ix TX.hT (vv 0) (dn_ix TX.hT (vv 1) dn_int)) (dn_ix TX.hT (vv 0) (dn_ix TX.hT (vv 1) dn_int))))) (ss_one (ds_ret (vv 2)))))
theorem sc_law_firsts : FnScope ["_law_seats1", "_law_found", "_law_level", "_law_lots1", "_law_held", "_law_longer", "_law_talk", "_law_seat", "_law_pair"] ["_law_seats1"] (defScope s_law_firsts) := ⟨rfl, rfl, rfl, by decide +kernel, rfl, by decide +kernel, by decide +kernel⟩
theorem ok_law_firsts (TX : TxtL K mg base T) : FnAt P w K mg base T "_law_firsts" 11 d_law_firsts :=
  fn_at (kp := false) (k := 10) (N := ["_law_seats1", "_law_found", "_law_level", "_law_lots1", "_law_held", "_law_longer", "_law_talk", "_law_seat", "_law_pair"]) (body := b_law_firsts) TX.d_law_firsts sc_law_firsts (fun f cdv A outer s H E hr tk => have sc := sc_law_firsts; (ss_cons (ds_par (i := 1) (j := 2) rfl sc.nd rfl rfl (by decide) rfl rfl (da_cons (dn_cell da_nil) (da_cons (dn_lst (da_cons (dn_tup (da_cons (dn_comp (own := [("_law_seat", 7)]) rfl sc.nd (di_range rfl TX.n_range (da_cons (vv 0) da_nil)) (blkOk_by rfl) (fun _ _ _ _ _ => (dv_name (i := 7) sc.nd rfl (by first | exact Or.inl rfl | exact Or.inr rfl) (by decide))) (fun _ _ _ _ _ => dts_nil) (fun _ _ _ _ _ => (dn_lst (da_cons (vv 7) da_nil)))) (da_cons (dn_lst da_nil) da_nil))) da_nil)) da_nil)) rfl) (ss_cons (ds_while 1000 PassesOwn.leaving (dt_neY (eqs_ok TX) TX.hT (hr.mono (by decide)) (vv 2) (dn_lst da_nil)) (ss_cons (ds_for PassesOwn.leaving rfl (di_seq TX.hT (vv 2)) (dg_tup rfl TX.hT (dgs_cons (dg_name (i := 3) sc.nd rfl (Or.inr rfl)) (dgs_cons (dg_name (i := 4) sc.nd rfl (Or.inl rfl)) dgs_nil)) (gtCons_len (gtCons_len gtNil_len))) (ss_one (ds_if (dt_eqG (eqs_ok TX) (eqs_nf TX) TX.hT (hr.mono (by decide)) (dn_comp (own := [("_law_pair", 8)]) rfl sc.nd (di_seq TX.hT (vv 1)) (blkOk_by rfl) (fun _ _ _ _ _ => (dv_name (i := 8) sc.nd rfl (by first | exact Or.inl rfl | exact Or.inr rfl) (by decide))) (fun _ _ _ _ _ => (dts_one (dt_eqG (eqs_ok TX) (eqs_nf TX) TX.hT (hr.mono (by decide)) (dn_ix TX.hT (vv 8) dn_int) (vv 3)))) (fun _ _ _ _ _ => (vv 8))) (dn_lst da_nil)) (ss_one (ds_expr (dn_app (vv 1) (da_cons (dn_tup (da_cons (vv 3) (da_cons (vv 4) da_nil))) da_nil)))) ss_nil))) (ss_frz2 (js := [5]) (ds_set (i := 5) sc.nd rfl (Or.inl rfl) (dn_cell da_nil)) (ds_for PassesOwn.leaving rfl (di_seq TX.hT (vv 2)) (dg_tup rfl TX.hT (dgs_cons (dg_name (i := 3) sc.nd rfl (Or.inr rfl)) (dgs_cons (dg_name (i := 4) sc.nd rfl (Or.inl rfl)) dgs_nil)) (gtCons_len (gtCons_len gtNil_len))) (ss_one (ds_for PassesOwn.leaving rfl (di_seq TX.hT (dn_call (ok_law_all_talks TX) (hr.mono (by decide)) tk rfl (da_cons (vv 0) da_nil))) (dg_name (i := 6) sc.nd rfl (Or.inl rfl)) (ss_one (ds_if (PW.pt (dw_and (dt_lt (dn_ix TX.hT (vv 6) dn_int) (vv 0)) (dw_and1 (dt_neY (eqs_ok TX) TX.hT (hr.mono (by decide)) (dn_call (ok_law_talked TX) (hr.mono (by decide)) tk rfl (da_cons (vv 3) (da_cons (vv 6) da_nil))) (vv 3))))) (ss_one (ds_expr (dn_app (vv 5) (da_cons (dn_tup (da_cons (dn_call (ok_law_talked TX) (hr.mono (by decide)) tk rfl (da_cons (vv 3) (da_cons (vv 6) da_nil))) (da_cons (dn_add TX.hT (vv 4) (dn_lst (da_cons (vv 6) da_nil))) da_nil))) da_nil)))) ss_nil))))) (ss_one (ds_set (i := 2) sc.nd rfl (Or.inl rfl) (dn_if (dt_lt (dn_lenXO TX.hT (hr.mono (by decide)) (lens_ok TX) rfl TX.n_len (da_cons (dn_ix TX.hT (dn_ix TX.hT (vv 2) dn_int) dn_int) da_nil)) dn_int) (vv 5) (dn_lst da_nil))))))) (ss_one (ds_ret (vv 1))))))
theorem sc_law_take : FnScope ["_law_box_here", "_law_many", "_law_digit", "_law_blend"] ["_law_box_here", "_law_many"] (defScope s_law_take) := ⟨rfl, rfl, rfl, by decide +kernel, rfl, by decide +kernel, by decide +kernel⟩
theorem ok_law_take (TX : TxtL K mg base T) : FnAt P w K mg base T "_law_take" 1 d_law_take :=
  fn_at (kp := false) (k := 0) (N := ["_law_box_here", "_law_many", "_law_digit", "_law_blend"]) (body := b_law_take) TX.d_law_take sc_law_take (fun f cdv A outer s H E hr tk => have sc := sc_law_take; (ss_cons (ds_if (dt_ge (dn_ix TX.hT (vv 0) dn_int) (dn_pow dn_int dn_int)) (ss_cons (ds_set (i := 2) sc.nd rfl (Or.inl rfl) (dn_mod (dn_intc rfl TX.n_int (da_cons (dn_ix TX.hT (vv 0) dn_int) da_nil)) (vv 1))) (ss_cons (ds_setAt (vv 0) dn_int (dn_fdiv (dn_ix TX.hT (vv 0) dn_int) (vv 1))) (ss_one (ds_ret (vv 2))))) ss_nil) (ss_cons (ds_setAt (vv 0) dn_int (dn_add TX.hT (dn_ix TX.hT (vv 0) dn_int) dn_int)) (ss_cons (ds_set (i := 3) sc.nd rfl (Or.inl rfl) (dn_mod (dn_pow (dn_intc rfl TX.n_int (da_cons (dn_add TX.hT (dn_add TX.hT (dn_mul (dn_add TX.hT (dn_ix TX.hT (vv 0) dn_int) dn_int) dn_int) (dn_mul (dn_ix TX.hT (vv 0) dn_int) dn_int)) (dn_ix TX.hT (vv 0) dn_int)) da_nil)) dn_int) dn_int)) (ss_cons (ds_set (i := 3) sc.nd rfl (Or.inl rfl) (dn_mod (dn_pow (dn_intc rfl TX.n_int (da_cons (dn_add TX.hT (vv 3) (dn_mul (dn_ix TX.hT (vv 0) dn_int) dn_int)) da_nil)) dn_int) dn_int)) (ss_one (ds_ret (dn_mod (dn_intc rfl TX.n_int (da_cons (dn_fdiv (vv 3) dn_int) da_nil)) (vv 1)))))))))
theorem sc_law_own_lots : FnScope ["_law_box_here", "_law_seats1", "_law_found", "_law_seat", "_law_other"] ["_law_box_here", "_law_seats1"] (defScope s_law_own_lots) := ⟨rfl, rfl, rfl, by decide +kernel, rfl, by decide +kernel, by decide +kernel⟩
theorem ok_law_own_lots (TX : TxtL K mg base T) : FnAt P w K mg base T "_law_own_lots" 10 d_law_own_lots :=
  fn_at (kp := false) (k := 9) (N := ["_law_box_here", "_law_seats1", "_law_found", "_law_seat", "_law_other"]) (body := b_law_own_lots) TX.d_law_own_lots sc_law_own_lots (fun f cdv A outer s H E hr tk => have sc := sc_law_own_lots; (ss_frz2 (js := [2]) (ds_set (i := 2) sc.nd rfl (Or.inl rfl) (dn_cell da_nil)) (ds_for PassesOwn.leaving rfl (di_range rfl TX.n_range (da_cons (vv 1) da_nil)) (dg_name (i := 3) sc.nd rfl (Or.inr rfl)) (ss_one (ds_expr (dn_app (vv 2) (da_cons (dn_comp (own := [("_law_other", 4)]) rfl sc.nd (di_range rfl TX.n_range (da_cons (vv 1) da_nil)) (blkOk_by rfl) (fun _ _ _ _ _ => (dv_name (i := 4) sc.nd rfl (by first | exact Or.inl rfl | exact Or.inr rfl) (by decide))) (fun _ _ _ _ _ => (dts_one (PW.pt (dw_or (dt_eqG (eqs_ok TX) (eqs_nf TX) TX.hT (hr.mono (by decide)) (vv 4) (vv 3)) (dw_or1 (dt_eqG (eqs_ok TX) (eqs_nf TX) TX.hT (hr.mono (by decide)) (dn_call (ok_law_take TX) (hr.mono (by decide)) takes0 rfl (da_cons (vv 0) (da_cons dn_int da_nil))) dn_int)))))) (fun _ _ _ _ _ => (vv 4))) da_nil))))) (ss_one (ds_ret (vv 2)))))
theorem sc_is_integer : FnScope ["value"] ["value"] (defScope s_is_integer) := ⟨rfl, rfl, rfl, by decide +kernel, rfl, by decide +kernel, by decide +kernel⟩
theorem ok_is_integer (TX : TxtL K mg base T) : FnAt P w K mg base T "is_integer" 1 d_is_integer :=
  fn_at (kp := false) (k := 0) (N := ["value"]) (body := b_is_integer) TX.d_is_integer sc_is_integer (fun f cdv A outer s H E hr tk => have sc := sc_is_integer; (ss_one (ds_ret (dn_and (dn_isi TX.hT (pe_ty rfl TX.n_int boot_ty_int) (.ty "int") TX.k_int rfl TX.n_isinstance (vv 0)) (dn_one (dn_not (dn_isi TX.hT (pe_ty rfl TX.n_bool boot_ty_bool) (.ty "bool") TX.k_bool rfl TX.n_isinstance (vv 0))))))))
theorem sc_is_place : FnScope ["value", "many"] ["value", "many"] (defScope s_is_place) := ⟨rfl, rfl, rfl, by decide +kernel, rfl, by decide +kernel, by decide +kernel⟩
theorem ok_is_place (TX : TxtL K mg base T) : FnAt P w K mg base T "is_place" 2 d_is_place :=
  fn_at (kp := false) (k := 1) (N := ["value", "many"]) (body := b_is_place) TX.d_is_place sc_is_place (fun f cdv A outer s H E hr tk => have sc := sc_is_place; (ss_one (ds_ret (dn_and (dn_call (ok_is_integer TX) (hr.mono (by decide)) tk rfl (da_cons (vv 0) da_nil)) (dn_one (dn_le_lt dn_int (vv 0) (vv 1)))))))
theorem sc_is_talk : FnScope ["value", "seats"] ["value", "seats"] (defScope s_is_talk) := ⟨rfl, rfl, rfl, by decide +kernel, rfl, by decide +kernel, by decide +kernel⟩
theorem ok_is_talk (TX : TxtL K mg base T) : FnAt P w K mg base T "is_talk" 3 d_is_talk :=
  fn_at (kp := false) (k := 2) (N := ["value", "seats"]) (body := b_is_talk) TX.d_is_talk sc_is_talk (fun f cdv A outer s H E hr tk => have sc := sc_is_talk; (ss_cons (ds_if (PW.pt (dw_or (dt_not (dt_val (dn_isi TX.hT (pe_ty rfl TX.n_tuple boot_ty_tuple) (.ty "tuple") TX.k_tuple rfl TX.n_isinstance (vv 0)))) (dw_or1 (dt_ne TX.hT hr (dn_lenXO TX.hT (hr.mono (by decide)) (lens_ok TX) rfl TX.n_len (da_cons (vv 0) da_nil)) dn_int)))) (ss_one (ds_ret dn_bl)) ss_nil) (ss_one (ds_ret (dn_and (dn_call (ok_is_place TX) (hr.mono (by decide)) tk rfl (da_cons (dn_ix TX.hT (vv 0) dn_int) (da_cons (vv 1) da_nil))) (dn_and (dn_call (ok_is_place TX) (hr.mono (by decide)) tk rfl (da_cons (dn_ix TX.hT (vv 0) dn_int) (da_cons (vv 1) da_nil))) (dn_one (dn_ne TX.hT hr (dn_ix TX.hT (vv 0) dn_int) (dn_ix TX.hT (vv 0) dn_int)))))))))
theorem sc_are_talks : FnScope ["value", "seats", "talk"] ["value", "seats"] (defScope s_are_talks) := ⟨rfl, rfl, rfl, by decide +kernel, rfl, by decide +kernel, by decide +kernel⟩
theorem ok_are_talks (TX : TxtL K mg base T) : FnAt P w K mg base T "are_talks" 4 d_are_talks :=
  fn_at (kp := false) (k := 3) (N := ["value", "seats", "talk"]) (body := b_are_talks) TX.d_are_talks sc_are_talks (fun f cdv A outer s H E hr tk => have sc := sc_are_talks; (ss_cons (ds_if (PW.pt (dw_or (dt_not (dt_val (dn_isi2 TX.hT (pe_ty rfl TX.n_list boot_ty_list) (pe_ty rfl TX.n_tuple boot_ty_tuple) (.ty "list") (.ty "tuple") TX.k_list_tuple rfl TX.n_isinstance (vv 0)))) (dw_or1 (dt_gt (dn_lenXO TX.hT (hr.mono (by decide)) (lens_ok TX) rfl TX.n_len (da_cons (vv 0) da_nil)) (dn_gint rfl TX.g_MOST_TALKS))))) (ss_one (ds_ret dn_bl)) ss_nil) (ss_one (ds_ret (dn_all TX.hT rfl rfl TX.n_all (da_cons (dn_comp (own := [("talk", 2)]) rfl sc.nd (di_seq TX.hT (vv 0)) (blkOk_by rfl) (fun _ _ _ _ _ => (dv_name (i := 2) sc.nd rfl (by first | exact Or.inl rfl | exact Or.inr rfl) (by decide))) (fun _ _ _ _ _ => dts_nil) (fun _ _ _ _ _ => (dn_call (ok_is_talk TX) (hr.mono (by decide)) takes0 rfl (da_cons (vv 2) (da_cons (vv 1) da_nil))))) da_nil))))))
theorem sc_is_many : FnScope ["value"] ["value"] (defScope s_is_many) := ⟨rfl, rfl, rfl, by decide +kernel, rfl, by decide +kernel, by decide +kernel⟩
theorem ok_is_many (TX : TxtL K mg base T) : FnAt P w K mg base T "is_many" 3 d_is_many :=
  fn_at (kp := false) (k := 2) (N := ["value"]) (body := b_is_many) TX.d_is_many sc_is_many (fun f cdv A outer s H E hr tk => have sc := sc_is_many; (ss_one (ds_ret (dn_and (dn_call (ok_is_place TX) (hr.mono (by decide)) tk rfl (da_cons (vv 0) (da_cons (dn_add TX.hT (dn_gint rfl TX.g_MOST_SEATS) dn_int) da_nil))) (dn_one (dn_gt (vv 0) dn_int))))))
theorem sc_union_of : FnScope ["lots", "seat", "lot"] ["lots"] (defScope s_union_of) := ⟨rfl, rfl, rfl, by decide +kernel, rfl, by decide +kernel, by decide +kernel⟩
theorem ok_union_of (TX : TxtL K mg base T) : FnAt P w K mg base T "union_of" 2 d_union_of :=
  fn_at (kp := false) (k := 1) (N := ["lots", "seat", "lot"]) (body := b_union_of) TX.d_union_of sc_union_of (fun f cdv A outer s H E hr tk => have sc := sc_union_of; (ss_one (ds_ret (dn_comp (own := [("seat", 1)]) rfl sc.nd (di_range rfl TX.n_range (da_cons (dn_gint rfl TX.g_MOST_SEATS) da_nil)) (blkOk_by rfl) (fun _ _ _ _ _ => (dv_name (i := 1) sc.nd rfl (by first | exact Or.inl rfl | exact Or.inr rfl) (by decide))) (fun _ _ _ _ _ => (dts_one (dt_val (dn_any TX.hT rfl rfl TX.n_any (da_cons (dn_comp (own := [("lot", 2)]) rfl sc.nd (di_seq TX.hT (vv 0)) (blkOk_by rfl) (fun _ _ _ _ _ => (dv_name (i := 2) sc.nd rfl (by first | exact Or.inl rfl | exact Or.inr rfl) (by decide))) (fun _ _ _ _ _ => dts_nil) (fun _ _ _ _ _ => (dn_in (k := 0) TX.hT (hr.mono (by decide)) (vv 1) (vv 2)))) da_nil))))) (fun _ _ _ _ _ => (vv 1))))))
theorem sc_talked : FnScope ["lots", "talk", "speaker", "listener", "seat", "lot"] ["lots", "talk"] (defScope s_talked) := ⟨rfl, rfl, rfl, by decide +kernel, rfl, by decide +kernel, by decide +kernel⟩
theorem ok_talked (TX : TxtL K mg base T) : FnAt P w K mg base T "talked" 3 d_talked :=
  fn_at (kp := false) (k := 2) (N := ["lots", "talk", "speaker", "listener", "seat", "lot"]) (body := b_talked) TX.d_talked sc_talked (fun f cdv A outer s H E hr tk => have sc := sc_talked; (ss_cons (ds_asg (vv 1) (dg_tup rfl TX.hT (dgs_cons (dg_name (i := 2) sc.nd rfl (Or.inr rfl)) (dgs_cons (dg_name (i := 3) sc.nd rfl (Or.inr rfl)) dgs_nil)) (gtCons_len (gtCons_len gtNil_len)))) (ss_one (ds_ret (dn_comp (own := [("seat", 4), ("lot", 5)]) rfl sc.nd (di_enum TX.hT rfl TX.n_enumerate (da_cons (vv 0) da_nil)) (blkOk_by rfl) (fun _ _ _ _ _ => (dv_tup rfl TX.hT (dvs_cons (dv_name (i := 4) sc.nd rfl (by first | exact Or.inl rfl | exact Or.inr rfl) (by decide)) (dvs_cons (dv_name (i := 5) sc.nd rfl (by first | exact Or.inl rfl | exact Or.inr rfl) (by decide)) dvs_nil)) (gtCons_len (gtCons_len gtNil_len)))) (fun _ _ _ _ _ => dts_nil) (fun _ _ _ _ _ => (dn_if (dt_eq TX.hT hr (vv 4) (vv 3)) (dn_call (ok_union_of TX) (hr.mono (by decide)) takes0 rfl (da_cons (dn_lst (da_cons (vv 5) (da_cons (dn_ix TX.hT (vv 0) (vv 2)) da_nil))) da_nil)) (vv 5))))))))
theorem sc_is_lot : FnScope ["value", "seats", "seat", "at"] ["value", "seats"] (defScope s_is_lot) := ⟨rfl, rfl, rfl, by decide +kernel, rfl, by decide +kernel, by decide +kernel⟩
theorem ok_is_lot (TX : TxtL K mg base T) : FnAt P w K mg base T "is_lot" 3 d_is_lot :=
  fn_at (kp := false) (k := 2) (N := ["value", "seats", "seat", "at"]) (body := b_is_lot) TX.d_is_lot sc_is_lot (fun f cdv A outer s H E hr tk => have sc := sc_is_lot; (ss_cons (ds_if (PW.pt (dw_or (dt_not (dt_val (dn_isi2 TX.hT (pe_ty rfl TX.n_list boot_ty_list) (pe_ty rfl TX.n_tuple boot_ty_tuple) (.ty "list") (.ty "tuple") TX.k_list_tuple rfl TX.n_isinstance (vv 0)))) (dw_or1 (dt_not (dt_val (dn_all TX.hT rfl rfl TX.n_all (da_cons (dn_comp (own := [("seat", 2)]) rfl sc.nd (di_seq TX.hT (vv 0)) (blkOk_by rfl) (fun _ _ _ _ _ => (dv_name (i := 2) sc.nd rfl (by first | exact Or.inl rfl | exact Or.inr rfl) (by decide))) (fun _ _ _ _ _ => dts_nil) (fun _ _ _ _ _ => (dn_call (ok_is_place TX) (hr.mono (by decide)) takes0 rfl (da_cons (vv 2) (da_cons (vv 1) da_nil))))) da_nil))))))) (ss_one (ds_ret dn_bl)) ss_nil) (ss_one (ds_ret (dn_all TX.hT rfl rfl TX.n_all (da_cons (dn_comp (own := [("at", 3)]) rfl sc.nd (di_range rfl TX.n_range (da_cons (dn_sub (dn_lenXO TX.hT (hr.mono (by decide)) (lens_ok TX) rfl TX.n_len (da_cons (vv 0) da_nil)) dn_int) da_nil)) (blkOk_by rfl) (fun _ _ _ _ _ => (dv_name (i := 3) sc.nd rfl (by first | exact Or.inl rfl | exact Or.inr rfl) (by decide))) (fun _ _ _ _ _ => dts_nil) (fun _ _ _ _ _ => (dn_lt (dn_ix TX.hT (vv 0) (vv 3)) (dn_ix TX.hT (vv 0) (dn_add TX.hT (vv 3) dn_int))))) da_nil))))))
theorem sc_are_lots : FnScope ["value", "seats", "lot"] ["value", "seats"] (defScope s_are_lots) := ⟨rfl, rfl, rfl, by decide +kernel, rfl, by decide +kernel, by decide +kernel⟩
theorem ok_are_lots (TX : TxtL K mg base T) : FnAt P w K mg base T "are_lots" 4 d_are_lots :=
  fn_at (kp := false) (k := 3) (N := ["value", "seats", "lot"]) (body := b_are_lots) TX.d_are_lots sc_are_lots (fun f cdv A outer s H E hr tk => have sc := sc_are_lots; (ss_cons (ds_if (PW.pt (dw_or (dt_not (dt_val (dn_isi2 TX.hT (pe_ty rfl TX.n_list boot_ty_list) (pe_ty rfl TX.n_tuple boot_ty_tuple) (.ty "list") (.ty "tuple") TX.k_list_tuple rfl TX.n_isinstance (vv 0)))) (dw_or1 (dt_not (dt_le_le dn_int (dn_lenXO TX.hT (hr.mono (by decide)) (lens_ok TX) rfl TX.n_len (da_cons (vv 0) da_nil)) (dn_gint rfl TX.g_MOST_SEATS)))))) (ss_one (ds_ret dn_bl)) ss_nil) (ss_one (ds_ret (dn_all TX.hT rfl rfl TX.n_all (da_cons (dn_comp (own := [("lot", 2)]) rfl sc.nd (di_seq TX.hT (vv 0)) (blkOk_by rfl) (fun _ _ _ _ _ => (dv_name (i := 2) sc.nd rfl (by first | exact Or.inl rfl | exact Or.inr rfl) (by decide))) (fun _ _ _ _ _ => dts_nil) (fun _ _ _ _ _ => (dn_call (ok_is_lot TX) (hr.mono (by decide)) takes0 rfl (da_cons (vv 2) (da_cons (vv 1) da_nil))))) da_nil))))))
theorem sc_Web_init : FnScope ["self", "seats", "lots", "lot"] ["self", "seats", "lots"] (defScope s_Web_init) := ⟨rfl, rfl, rfl, by decide +kernel, rfl, by decide +kernel, by decide +kernel⟩
theorem mk_Web (TX : TxtL K mg base T) : MakeAt P w K mg base T "Web" 0 2 5 d_Web_init :=
  make_at (kp := false) (k := 4) (N := ["self", "seats", "lots", "lot"]) (body := b_Web_init) TX.d_Web_init TX.g_Web TX.l_Web sc_Web_init (fun f cdv A outer s H E hr tk => have sc := sc_Web_init; (ss_cons (ds_if (dt_not (dt_val (dn_call (ok_is_many TX) (hr.mono (by decide)) tk rfl (da_cons (vv 1) da_nil)))) (ss_one (ds_raise1 (xa_InvalidSeat TX) (hr.mono (by decide)) rfl tk rfl (vv 1))) ss_nil) (ss_cons (ds_if (dt_not (dt_val (dn_call (ok_are_lots TX) (hr.mono (by decide)) tk rfl (da_cons (vv 2) (da_cons (vv 1) da_nil))))) (ss_one (ds_raise1 (xa_InvalidLot TX) (hr.mono (by decide)) rfl tk rfl (vv 2))) ss_nil) (ss_cons (ds_fld (vv 0) (vv 1) TX.f_seats) (ss_one (ds_fld (vv 0) (dn_tuple TX.hT rfl TX.n_tuple (da_cons (dn_comp (own := [("lot", 3)]) rfl sc.nd (di_seq TX.hT (vv 2)) (blkOk_by rfl) (fun _ _ _ _ _ => (dv_name (i := 3) sc.nd rfl (by first | exact Or.inl rfl | exact Or.inr rfl) (by decide))) (fun _ _ _ _ _ => dts_nil) (fun _ _ _ _ _ => (dn_tuple TX.hT rfl TX.n_tuple (da_cons (vv 3) da_nil)))) da_nil)) TX.f_heard_lots))))))
theorem sc_after_talks : FnScope ["seats", "talks", "lots", "talk", "seat"] ["seats", "talks"] (defScope s_after_talks) := ⟨rfl, rfl, rfl, by decide +kernel, rfl, by decide +kernel, by decide +kernel⟩
theorem ok_after_talks (TX : TxtL K mg base T) : FnAt P w K mg base T "after_talks" 7 d_after_talks :=
  fn_at (kp := false) (k := 6) (N := ["seats", "talks", "lots", "talk", "seat"]) (body := b_after_talks) TX.d_after_talks sc_after_talks (fun f cdv A outer s H E hr tk => have sc := sc_after_talks; (ss_cons (ds_if (dt_not (dt_val (dn_call (ok_is_many TX) (hr.mono (by decide)) tk rfl (da_cons (vv 0) da_nil)))) (ss_one (ds_raise1 (xa_InvalidSeat TX) (hr.mono (by decide)) rfl tk rfl (vv 0))) ss_nil) (ss_cons (ds_if (dt_not (dt_val (dn_call (ok_are_talks TX) (hr.mono (by decide)) tk rfl (da_cons (vv 1) (da_cons (vv 0) da_nil))))) (ss_one (ds_raise1 (xa_InvalidTalks TX) (hr.mono (by decide)) rfl tk rfl (vv 1))) ss_nil) (ss_cons (ds_setComp (own := [("seat", 4)]) (i := 2) rfl sc.nd rfl rfl rfl (di_range rfl TX.n_range (da_cons (vv 0) da_nil)) (blkOk_by rfl) (fun _ _ _ _ _ => (dv_name (i := 4) sc.nd rfl (by first | exact Or.inl rfl | exact Or.inr rfl) (by decide))) (fun _ _ _ _ _ => dts_nil) (fun _ _ _ _ _ => (dn_lst (da_cons (vv 4) da_nil)))) (ss_cons (ds_for PassesOwn.leaving rfl (di_seq TX.hT (vv 1)) (dg_name (i := 3) sc.nd rfl (Or.inl rfl)) (ss_one (ds_set (i := 2) sc.nd rfl (Or.inl rfl) (dn_call (ok_talked TX) (hr.mono (by decide)) tk rfl (da_cons (vv 2) (da_cons (vv 3) da_nil)))))) (ss_one (ds_ret (dn_make (mk_Web TX) (hr.mono (by decide)) tk rfl (da_cons (vv 0) (da_cons (vv 2) da_nil))))))))))
theorem sc_is_square : FnScope ["value"] ["value"] (defScope s_is_square) := ⟨rfl, rfl, rfl, by decide +kernel, rfl, by decide +kernel, by decide +kernel⟩
theorem ok_is_square (TX : TxtL K mg base T) : FnAt P w K mg base T "is_square" 3 d_is_square :=
  fn_at (kp := false) (k := 2) (N := ["value"]) (body := b_is_square) TX.d_is_square sc_is_square (fun f cdv A outer s H E hr tk => have sc := sc_is_square; (ss_one (ds_ret (dn_and (dn_isi TX.hT (pe_glob rfl TX.g_Web (show RelV (.ref _) (.ref _) from rfl)) (.own _) TX.k_Web rfl TX.n_isinstance (vv 0)) (dn_one (dn_eq TX.hT hr (dn_attr TX.hT (vv 0) TX.f_seats rfl) (dn_lenXO TX.hT (hr.mono (by decide)) (lens_ok TX) rfl TX.n_len (da_cons (vv 0) da_nil))))))))
theorem sc_need_own : FnScope ["web", "seat", "lot"] ["web"] (defScope s_need_own) := ⟨rfl, rfl, rfl, by decide +kernel, rfl, by decide +kernel, by decide +kernel⟩
theorem ok_need_own (TX : TxtL K mg base T) : FnAt P w K mg base T "need_own" 4 d_need_own :=
  fn_at (kp := false) (k := 3) (N := ["web", "seat", "lot"]) (body := b_need_own) TX.d_need_own sc_need_own (fun f cdv A outer s H E hr tk => have sc := sc_need_own; (ss_one (ds_if (PW.pt (dw_or (dt_not (dt_val (dn_call (ok_is_square TX) (hr.mono (by decide)) tk rfl (da_cons (vv 0) da_nil)))) (dw_or1 (dt_not (dt_val (dn_all TX.hT rfl rfl TX.n_all (da_cons (dn_comp (own := [("seat", 1), ("lot", 2)]) rfl sc.nd (di_enum TX.hT rfl TX.n_enumerate (da_cons (dn_attr TX.hT (vv 0) TX.f_heard_lots rfl) da_nil)) (blkOk_by rfl) (fun _ _ _ _ _ => (dv_tup rfl TX.hT (dvs_cons (dv_name (i := 1) sc.nd rfl (by first | exact Or.inl rfl | exact Or.inr rfl) (by decide)) (dvs_cons (dv_name (i := 2) sc.nd rfl (by first | exact Or.inl rfl | exact Or.inr rfl) (by decide)) dvs_nil)) (gtCons_len (gtCons_len gtNil_len)))) (fun _ _ _ _ _ => dts_nil) (fun _ _ _ _ _ => (dn_in (k := 0) TX.hT (hr.mono (by decide)) (vv 1) (vv 2)))) da_nil))))))) (ss_one (ds_raise1 (xa_InvalidWeb TX) (hr.mono (by decide)) rfl tk rfl (vv 0))) ss_nil)))
theorem sc_all_talks : FnScope ["seats", "speaker", "listener"] ["seats"] (defScope s_all_talks) := ⟨rfl, rfl, rfl, by decide +kernel, rfl, by decide +kernel, by decide +kernel⟩
theorem ok_all_talks (TX : TxtL K mg base T) : FnAt P w K mg base T "all_talks" 1 d_all_talks :=
  fn_at (kp := false) (k := 0) (N := ["seats", "speaker", "listener"]) (body := b_all_talks) TX.d_all_talks sc_all_talks (fun f cdv A outer s H E hr tk => have sc := sc_all_talks; (ss_one (ds_ret (dn_comp2 (own := [("speaker", 1), ("listener", 2)]) (vs1 := [2]) rfl sc.nd (di_range rfl TX.n_range (da_cons (vv 0) da_nil)) (blkOk_by rfl) (by decide) (fun _ _ _ _ _ => (dv_name (i := 1) sc.nd rfl (by first | exact Or.inl rfl | exact Or.inr rfl) (by decide))) (fun _ _ _ _ _ => dts_nil) (fun _ _ _ _ _ => (di_range rfl TX.n_range (da_cons (vv 0) da_nil))) (fun _ _ _ _ _ => (dv_name (i := 2) sc.nd rfl (by first | exact Or.inl rfl | exact Or.inr rfl) (by decide))) (fun _ _ _ _ _ => (dts_one (dt_ne TX.hT hr (vv 1) (vv 2)))) (fun _ _ _ _ _ => (dn_tup (da_cons (vv 1) (da_cons (vv 2) da_nil))))))))
theorem sc_shortest_talks : FnScope ["seats", "is_goal", "begin", "level", "seen", "lots", "talks", "further", "talk", "behind", "seat"] ["seats", "is_goal"] (defScope s_shortest_talks) := ⟨rfl, rfl, rfl, by decide +kernel, rfl, by decide +kernel, by decide +kernel⟩
theorem lb_shortest_talks (TX : TxtL K mg base T) : LamBody P w K mg base T "shortest_talks" s_shortest_talks ["seats", "is_goal", "begin", "level", "seen", "lots", "talks", "further", "talk", "behind", "seat"] 3 "is_goal" 1 b_shortest_talks :=
  fun o gl f cdv A outer s H E hr tk hact => have TX := TX.wm o; have sc := sc_shortest_talks; (ss_cons (ds_setComp (own := [("seat", 10)]) (i := 2) rfl sc.nd rfl rfl rfl (di_range rfl TX.n_range (da_cons (vv 0) da_nil)) (blkOk_by rfl) (fun _ _ _ _ _ => (dv_name (i := 10) sc.nd rfl (by first | exact Or.inl rfl | exact Or.inr rfl) (by decide))) (fun _ _ _ _ _ => dts_nil) (fun _ _ _ _ _ => (dn_lst (da_cons (vv 10) da_nil)))) (ss_cons (ds_par (i := 3) (j := 4) rfl sc.nd rfl rfl (by decide) rfl rfl (da_cons (dn_lst (da_cons (dn_tup (da_cons (vv 2) (da_cons (dn_lst da_nil) da_nil))) da_nil)) (da_cons (dn_cell (da_cons (vv 2) da_nil)) da_nil)) rfl) (ss_cons (ds_while 1000 PassesOwn.leaving (dt_ne TX.hT hr (vv 3) (dn_lst da_nil)) (ss_cons (ds_for PassesOwn.leaving rfl (di_seq TX.hT (vv 3)) (dg_tup rfl TX.hT (dgs_cons (dg_name (i := 5) sc.nd rfl (Or.inl rfl)) (dgs_cons (dg_name (i := 6) sc.nd rfl (Or.inl rfl)) dgs_nil)) (gtCons_len (gtCons_len gtNil_len))) (ss_one (ds_if (dt_val (dn_callV (hact _ _ _ tk) (da_cons (vv 5) da_nil))) (ss_one (ds_ret (vv 6))) ss_nil))) (ss_cons (ds_set (i := 7) sc.nd rfl (Or.inl rfl) (dn_cell da_nil)) (ss_cons (ds_for PassesOwn.leaving rfl (di_seq TX.hT (vv 3)) (dg_tup rfl TX.hT (dgs_cons (dg_name (i := 5) sc.nd rfl (Or.inl rfl)) (dgs_cons (dg_name (i := 6) sc.nd rfl (Or.inl rfl)) dgs_nil)) (gtCons_len (gtCons_len gtNil_len))) (ss_one (ds_for PassesOwn.leaving rfl (di_seq TX.hT (dn_call (ok_all_talks TX) (hr.mono (by decide)) tk rfl (da_cons (vv 0) da_nil))) (dg_name (i := 8) sc.nd rfl (Or.inl rfl)) (ss_cons (ds_set (i := 9) sc.nd rfl (Or.inl rfl) (dn_call (ok_talked TX) (hr.mono (by decide)) tk rfl (da_cons (vv 5) (da_cons (vv 8) da_nil)))) (ss_one (ds_if (dt_notIn (k := 0) TX.hT (hr.mono (by decide)) (vv 9) (vv 4)) (ss_cons (ds_expr (dn_app (vv 4) (da_cons (vv 9) da_nil))) (ss_one (ds_expr (dn_app (vv 7) (da_cons (dn_tup (da_cons (vv 9) (da_cons (dn_lst (da_star TX.hT (vv 6) (da_cons (vv 8) da_nil))) da_nil))) da_nil))))) ss_nil)))))) (ss_one (ds_set (i := 3) sc.nd rfl (Or.inl rfl) (vv 7))))))) (ss_one (ds_ret dn_non)))))
theorem sc_Web_links : FnScope ["self", "hearer", "lot", "seat"] ["self"] (defScope s_Web_links) := ⟨rfl, rfl, rfl, by decide +kernel, rfl, by decide +kernel, by decide +kernel⟩
theorem mt_Web_links (TX : TxtL K mg base T) : MethAt P w K mg base T "links" 0 1 d_Web_links :=
  meth_at (kp := false) (k := 0) (N := ["self", "hearer", "lot", "seat"]) (body := b_Web_links) TX.d_Web_links TX.y_Web TX.m_Web_links sc_Web_links (fun f cdv A outer s H E hr tk => have sc := sc_Web_links; (ss_one (ds_ret (dn_sorted TX.hT hr rfl TX.n_sorted (da_cons (dn_comp2 (own := [("hearer", 1), ("lot", 2), ("seat", 3)]) (vs1 := [3]) rfl sc.nd (di_enum TX.hT rfl TX.n_enumerate (da_cons (dn_attr TX.hT (vv 0) TX.f_heard_lots rfl) da_nil)) (blkOk_by rfl) (by decide) (fun _ _ _ _ _ => (dv_tup rfl TX.hT (dvs_cons (dv_name (i := 1) sc.nd rfl (by first | exact Or.inl rfl | exact Or.inr rfl) (by decide)) (dvs_cons (dv_name (i := 2) sc.nd rfl (by first | exact Or.inl rfl | exact Or.inr rfl) (by decide)) dvs_nil)) (gtCons_len (gtCons_len gtNil_len)))) (fun _ _ _ _ _ => dts_nil) (fun _ _ _ _ _ => (di_seq TX.hT (vv 2))) (fun _ _ _ _ _ => (dv_name (i := 3) sc.nd rfl (by first | exact Or.inl rfl | exact Or.inr rfl) (by decide))) (fun _ _ _ _ _ => dts_nil) (fun _ _ _ _ _ => (dn_tup (da_cons (vv 3) (da_cons (vv 1) da_nil))))) da_nil)))))
theorem t_links_ok (TX : TxtL K mg base T) : MethsAt P w K mg base T "links" 1 t_links := (.cons (mt_Web_links TX) (by decide) .nil)
theorem sc_enough_talks : FnScope ["web", "links"] ["web"] (defScope s_enough_talks) := ⟨rfl, rfl, rfl, by decide +kernel, rfl, by decide +kernel, by decide +kernel⟩
theorem ok_enough_talks (TX : TxtL K mg base T) : FnAt P w K mg base T "enough_talks" 5 d_enough_talks :=
  fn_atCL (j := 1) (ext := exitR false) (exG false) (k := 4) (N := ["web", "links"]) (body := b_enough_talks) TX.d_enough_talks (TX.tb 1 (by decide)) (TX.lam 1 (by decide)) sc_enough_talks (fun f cdv A outer s H E htb hr tk => have sc := sc_enough_talks; (ss_cons (ds_expr (dn_call (ok_need_own TX) (hr.mono (by decide)) tk rfl (da_cons (vv 0) da_nil))) (ss_cons (ds_set (i := 1) sc.nd rfl (Or.inr rfl) (dn_meth0 (vv 0) (t_links_ok TX) (hr.mono (by decide)) tk)) (ss_one (ds_ret (dn_lam1 (kp := false) (js := [1]) (N := ["lots", "links", "seat", "hearer"]) (ps := ["lots"]) (fr := ["links"]) (j := 1) (kl := 1) (kc := 3) TX.d_shortest_talks sc_shortest_talks ((lb_shortest_talks TX).mono (by decide)) (hr.mono (by decide)) rfl tk (by decide) ⟨htb, .inr ⟨"lots", rfl, nscopeC_by (by decide +kernel)⟩, NdefX.ndef_free (sc := defScope s_enough_talks) (fr := ["links"]) (by decide +kernel), NdefX.ndef_fr (fr := ["links"]) (sc := defScope s_enough_talks) (by decide +kernel), rfl, rfl, (fun _ _ _ _ _ us h => match us, h with | [_], _ => rfl), (fun A outer s H E f c1 cl q hr => have sc : NdN ["lots", "links", "seat", "hearer"] := ⟨by decide +kernel⟩; (dn_all TX.hT rfl rfl TX.n_all (da_cons (dn_comp (own := [("seat", 2), ("hearer", 3)]) rfl sc.nd (di_seq TX.hT (vv 1)) (blkOk_by rfl) (fun _ _ _ _ _ => (dv_tup rfl TX.hT (dvs_cons (dv_name (i := 2) sc.nd rfl (by first | exact Or.inl rfl | exact Or.inr rfl) (by decide)) (dvs_cons (dv_name (i := 3) sc.nd rfl (by first | exact Or.inl rfl | exact Or.inr rfl) (by decide)) dvs_nil)) (gtCons_len (gtCons_len gtNil_len)))) (fun _ _ _ _ _ => dts_nil) (fun _ _ _ _ _ => (dn_in (k := 0) TX.hT (hr.mono (by decide)) (vv 2) (dn_ix TX.hT (vv 0) (vv 3))))) da_nil)))⟩ (dn_attr TX.hT (vv 0) TX.f_seats rfl) rfl rfl (by exact .inl rfl)))))))
theorem sc_Web_lots : FnScope ["self", "lot"] ["self"] (defScope s_Web_lots) := ⟨rfl, rfl, rfl, by decide +kernel, rfl, by decide +kernel, by decide +kernel⟩
theorem mt_Web_lots (TX : TxtL K mg base T) : MethAt P w K mg base T "lots" 0 1 d_Web_lots :=
  meth_at (kp := false) (k := 0) (N := ["self", "lot"]) (body := b_Web_lots) TX.d_Web_lots TX.y_Web TX.m_Web_lots sc_Web_lots (fun f cdv A outer s H E hr tk => have sc := sc_Web_lots; (ss_one (ds_ret (dn_comp (own := [("lot", 1)]) rfl sc.nd (di_seq TX.hT (dn_attr TX.hT (vv 0) TX.f_heard_lots rfl)) (blkOk_by rfl) (fun _ _ _ _ _ => (dv_name (i := 1) sc.nd rfl (by first | exact Or.inl rfl | exact Or.inr rfl) (by decide))) (fun _ _ _ _ _ => dts_nil) (fun _ _ _ _ _ => (dn_list TX.hT rfl TX.n_list (da_cons (vv 1) da_nil)))))))
theorem t_lots_ok (TX : TxtL K mg base T) : MethsAt P w K mg base T "lots" 1 t_lots := (.cons (mt_Web_lots TX) (by decide) .nil)
theorem sc_fewest_talks : FnScope ["web", "goal"] ["web"] (defScope s_fewest_talks) := ⟨rfl, rfl, rfl, by decide +kernel, rfl, by decide +kernel, by decide +kernel⟩
theorem ok_fewest_talks (TX : TxtL K mg base T) : FnAt P w K mg base T "fewest_talks" 5 d_fewest_talks :=
  fn_atCL (j := 0) (ext := exitR false) (exG false) (k := 4) (N := ["web", "goal"]) (body := b_fewest_talks) TX.d_fewest_talks (TX.tb 0 (by decide)) (TX.lam 0 (by decide)) sc_fewest_talks (fun f cdv A outer s H E htb hr tk => have sc := sc_fewest_talks; (ss_cons (ds_expr (dn_call (ok_need_own TX) (hr.mono (by decide)) tk rfl (da_cons (vv 0) da_nil))) (ss_cons (ds_set (i := 1) sc.nd rfl (Or.inr rfl) (dn_meth0 (vv 0) (t_lots_ok TX) (hr.mono (by decide)) tk)) (ss_one (ds_ret (dn_lam1 (kp := false) (js := [1]) (N := ["lots", "goal"]) (ps := ["lots"]) (fr := ["goal"]) (j := 0) (kl := 0) (kc := 3) TX.d_shortest_talks sc_shortest_talks ((lb_shortest_talks TX).mono (by decide)) (hr.mono (by decide)) rfl tk (by decide) ⟨htb, .inl (NdefX.nscope_by (by decide +kernel)), NdefX.ndef_free (sc := defScope s_fewest_talks) (fr := ["goal"]) (by decide +kernel), NdefX.ndef_fr (fr := ["goal"]) (sc := defScope s_fewest_talks) (by decide +kernel), rfl, rfl, (fun _ _ _ _ _ us h => match us, h with | [_], _ => rfl), (fun A outer s H E f c1 cl q hr => have sc : NdN ["lots", "goal"] := ⟨by decide +kernel⟩; (dn_eq TX.hT hr (vv 0) (vv 1)))⟩ (dn_attr TX.hT (vv 0) TX.f_seats rfl) rfl rfl (by exact .inl rfl)))))))
theorem sc_law_caught : FnScope ["_law_way", "_law_one", "_law_other", "e"] ["_law_way", "_law_one", "_law_other"] (defScope s_law_caught) := ⟨rfl, rfl, rfl, by decide +kernel, rfl, by decide +kernel, by decide +kernel⟩
theorem ok_law_caught (TX : TxtL K mg base T) : FnAt P w K mg base T "_law_caught" 10 d_law_caught :=
  fn_at (kp := false) (k := 9) (N := ["_law_way", "_law_one", "_law_other", "e"]) (body := b_law_caught) TX.d_law_caught sc_law_caught (fun f cdv A outer s H E hr tk => have sc := sc_law_caught; (ss_one (ds_tryM TX.hx rfl rfl tk (fun W' pn xe tk' hp' => (ss_cons (ds_if (dt_eqG (eqs_ok TX) (eqs_nf TX) TX.hT (hr.mono (by decide)) (vv 0) dn_int) (ss_one (ds_ret (dn_lst (da_cons dn_str (da_cons (dn_call (ok_after_talks TX) (hr.mono (by decide)) tk' rfl (da_cons (vv 1) (da_cons (vv 2) da_nil))) da_nil))))) ss_nil) (ss_one (ds_ret (dn_lst (da_cons dn_str (da_cons (dn_if (dt_eqG (eqs_ok TX) (eqs_nf TX) TX.hT (hr.mono (by decide)) (vv 0) dn_int) (dn_call (ok_fewest_talks TX) (hr.mono (by decide)) tk' rfl (da_cons (vv 1) da_nil)) (dn_call (ok_enough_talks TX) (hr.mono (by decide)) tk' rfl (da_cons (vv 1) da_nil))) da_nil))))))) (.cons ⟨rfl, by decide, .inl TX.g_InvalidSeat⟩ ⟨sc.nd, rfl, rfl⟩ TX.c_InvalidSeat TX.n_InvalidSeat (fun a oe cls d pn hz hf => su_some fun k hk => (ss_one (ds_ret (dn_lst (da_cons dn_str (da_cons (dn_xf hk hz hf TX.xf_given rfl (Or.inl rfl)) da_nil)))))) (.cons ⟨rfl, by decide, .inl TX.g_InvalidTalks⟩ ⟨sc.nd, rfl, rfl⟩ TX.c_InvalidTalks TX.n_InvalidTalks (fun a oe cls d pn hz hf => su_some fun k hk => (ss_one (ds_ret (dn_lst (da_cons dn_str (da_cons (dn_xf hk hz hf TX.xf_given rfl (Or.inl rfl)) da_nil)))))) (.cons ⟨rfl, by decide, .inl TX.g_InvalidWeb⟩ ⟨sc.nd, rfl, rfl⟩ TX.c_InvalidWeb TX.n_InvalidWeb (fun a oe cls d pn hz hf => su_some fun k hk => (ss_one (ds_ret (dn_lst (da_cons dn_str (da_cons (dn_xf hk hz hf TX.xf_given rfl (Or.inl rfl)) da_nil)))))) .nil))))))
theorem sc_Ratio_init : FnScope ["self", "top", "bottom", "shared"] ["self", "top", "bottom"] (defScope s_Ratio_init) := ⟨rfl, rfl, rfl, by decide +kernel, rfl, by decide +kernel, by decide +kernel⟩
theorem mk_Ratio (TX : TxtL K mg base T) : MakeDAt P w K mg base T "Ratio" 1 2 1 d_Ratio_init 1 :=
  make_atD (kp := false) (k := 0) (N := ["self", "top", "bottom", "shared"]) (body := b_Ratio_init) TX.d_Ratio_init TX.g_Ratio TX.l_Ratio sc_Ratio_init (fun f cdv A outer s H E hr tk => have sc := sc_Ratio_init; (ss_cons (ds_if (dt_eq TX.hT hr (vv 2) dn_int) (ss_one (ds_raise0 PySem.F.excBase_ValueError (TX.e_ByZero _ rfl rfl) rfl tk rfl)) ss_nil) (ss_cons (ds_set (i := 3) sc.nd rfl (Or.inl rfl) (dn_gcd rfl TX.gcd (da_cons (vv 1) (da_cons (vv 2) da_nil)))) (ss_cons (ds_if (dt_lt (vv 2) dn_int) (ss_one (ds_set (i := 3) sc.nd rfl (Or.inl rfl) (dn_neg (vv 3)))) ss_nil) (ss_cons (ds_fld (vv 0) (dn_fdiv (vv 1) (vv 3)) TX.f__top) (ss_one (ds_fld (vv 0) (dn_fdiv (vv 2) (vv 3)) TX.f__bottom)))))))
theorem sc_law_refused_right : FnScope ["_law_box_here", "_law_seats1", "_law_lots1", "_law_good", "_law_worse", "_law_bad", "_law_alone", "_law_odd", "_law_lot"] ["_law_box_here", "_law_seats1", "_law_lots1"] (defScope s_law_refused_right) := ⟨rfl, rfl, rfl, by decide +kernel, rfl, by decide +kernel, by decide +kernel⟩
theorem ok_law_refused_right (TX : TxtL K mg base T) : FnAt P w K mg base T "_law_refused_right" 11 d_law_refused_right :=
  fn_at (kp := false) (k := 10) (N := ["_law_box_here", "_law_seats1", "_law_lots1", "_law_good", "_law_worse", "_law_bad", "_law_alone", "_law_odd", "_law_lot"]) (body := b_law_refused_right) TX.d_law_refused_right sc_law_refused_right (fun f cdv A outer s H E hr tk => have sc := sc_law_refused_right; (ss_cons (ds_set (i := 3) sc.nd rfl (Or.inl rfl) (dn_mul (dn_lst (da_cons (dn_tup (da_cons dn_int (da_cons dn_int da_nil))) da_nil)) (dn_intBc rfl TX.n_int (da_cons (dn_gt (vv 1) dn_int) da_nil)))) (ss_cons (ds_set (i := 4) sc.nd rfl (Or.inl rfl) (dn_lst (da_cons dn_non (da_cons dn_int (da_cons dn_str (da_cons dn_dct1 (da_cons (dn_lst (da_cons dn_non da_nil)) (da_cons (dn_lst (da_cons (dn_tup (da_cons dn_int (da_cons dn_int da_nil))) da_nil)) (da_cons (dn_lst (da_cons (dn_lst (da_cons dn_int (da_cons dn_int da_nil))) da_nil)) (da_cons (dn_lst (da_cons (dn_tup (da_cons dn_int da_nil)) da_nil)) (da_cons (dn_lst (da_cons (dn_tup (da_cons dn_int (da_cons dn_int (da_cons dn_int da_nil)))) da_nil)) (da_cons (dn_lst (da_cons (dn_tup (da_cons dn_int (da_cons (vv 1) da_nil))) da_nil)) (da_cons (dn_lst (da_cons (dn_tup (da_cons (dn_neg dn_int) (da_cons dn_int da_nil))) da_nil)) (da_cons (dn_lst (da_cons dn_str da_nil)) da_nil)))))))))))))) (ss_cons (ds_set (i := 4) sc.nd rfl (Or.inl rfl) (dn_add TX.hT (vv 4) (dn_lst (da_cons (dn_lst (da_cons (dn_tup (da_cons dn_int (da_cons dn_bl da_nil))) da_nil)) (da_cons (dn_lst (da_cons (dn_tup (da_cons dn_int (da_cons dn_str da_nil))) da_nil)) (da_cons (dn_lst (da_cons (dn_tup (da_cons dn_int (da_cons dn_non da_nil))) da_nil)) (da_cons (dn_lst (da_cons (dn_tup (da_cons dn_int (da_cons (dn_makeD (mk_Ratio TX) (hr.mono (by decide)) tk rfl (da_cons dn_int da_nil)) da_nil))) da_nil)) (da_cons (dn_add TX.hT (vv 3) (dn_lst (da_cons (dn_tup (da_cons (vv 1) (da_cons dn_int da_nil))) da_nil))) (da_cons (dn_tup (da_cons dn_int (da_cons dn_int da_nil))) da_nil))))))))) (ss_cons (ds_set (i := 4) sc.nd rfl (Or.inl rfl) (dn_add TX.hT (vv 4) (dn_lst (da_cons (dn_mul (dn_lst (da_cons (dn_tup (da_cons dn_int (da_cons dn_int da_nil))) da_nil)) dn_int) (da_cons (dn_add TX.hT (dn_mul (dn_lst (da_cons (dn_tup (da_cons dn_int (da_cons dn_int da_nil))) da_nil)) dn_int) (dn_lst (da_cons dn_int da_nil))) da_nil))))) (ss_cons (ds_for PassesOwn.leaving rfl (di_seq TX.hT (dn_lst (da_cons dn_non (da_cons dn_int (da_cons dn_int (da_cons dn_bl (da_cons dn_str (da_cons (dn_lst (da_cons dn_int da_nil)) (da_cons (dn_makeD (mk_Ratio TX) (hr.mono (by decide)) tk rfl (da_cons dn_int da_nil)) da_nil))))))))) (dg_name (i := 5) sc.nd rfl (Or.inl rfl)) (ss_one (ds_if (dt_neY (eqs_ok TX) TX.hT (hr.mono (by decide)) (dn_call (ok_law_caught TX) (hr.mono (by decide)) tk rfl (da_cons dn_int (da_cons (vv 5) (da_cons (dn_ix TX.hT (dn_lst (da_cons (dn_lst da_nil) (da_cons (dn_ix TX.hT (vv 4) (dn_call (ok_law_take TX) (hr.mono (by decide)) tk rfl (da_cons (vv 0) (da_cons (dn_lenXO TX.hT (hr.mono (by decide)) (lens_ok TX) rfl TX.n_len (da_cons (vv 4) da_nil)) da_nil)))) da_nil))) (dn_call (ok_law_take TX) (hr.mono (by decide)) tk rfl (da_cons (vv 0) (da_cons dn_int da_nil)))) da_nil)))) (dn_lst (da_cons dn_str (da_cons (vv 5) da_nil)))) (ss_one (ds_ret dn_bl)) ss_nil))) (ss_cons (ds_if (dt_neY (eqs_ok TX) TX.hT (hr.mono (by decide)) (dn_comp (own := [("_law_bad", 5)]) rfl sc.nd (di_seq TX.hT (vv 4)) (blkOk_by rfl) (fun _ _ _ _ _ => (dv_name (i := 5) sc.nd rfl (by first | exact Or.inl rfl | exact Or.inr rfl) (by decide))) (fun _ _ _ _ _ => (dts_one (dt_neY (eqs_ok TX) TX.hT (hr.mono (by decide)) (dn_call (ok_law_caught TX) (hr.mono (by decide)) takes0 rfl (da_cons dn_int (da_cons (vv 1) (da_cons (vv 5) da_nil)))) (dn_lst (da_cons dn_str (da_cons (vv 5) da_nil)))))) (fun _ _ _ _ _ => (vv 5))) (dn_lst da_nil)) (ss_one (ds_ret dn_bl)) ss_nil) (ss_frz2 (js := [6]) (ds_setCompK (own := [("_law_lot", 8)]) (i := 6) rfl sc.nd rfl rfl rfl (di_seq TX.hT (vv 2)) (blkOk_by rfl) (fun _ _ _ _ _ => (dv_name (i := 8) sc.nd rfl (by first | exact Or.inl rfl | exact Or.inr rfl) (by decide))) (fun _ _ _ _ _ => dts_nil) (fun _ _ _ _ _ => (dn_list TX.hT rfl TX.n_list (da_cons (vv 8) da_nil)))) (ds_setAt (vv 6) (dn_call (ok_law_take TX) (hr.mono (by decide)) tk rfl (da_cons (vv 0) (da_cons (vv 1) da_nil))) (dn_lst da_nil)) (ss_cons (ds_set (i := 7) sc.nd rfl (Or.inl rfl) (dn_lst (da_cons dn_non (da_cons (vv 2) (da_cons dn_int (da_cons dn_str (da_cons dn_bl (da_cons dn_dct1 (da_cons (dn_make (mk_Web TX) (hr.mono (by decide)) tk rfl (da_cons (vv 1) (da_cons (vv 6) da_nil))) (da_cons (dn_make (mk_Web TX) (hr.mono (by decide)) tk rfl (da_cons (vv 1) (da_cons (dn_slice TX.hT (dn_add TX.hT (vv 2) (vv 2)) do_none (do_some (dn_add TX.hT dn_int (dn_mod (vv 1) dn_int)))) da_nil))) da_nil)))))))))) (ss_cons (ds_for PassesOwn.leaving rfl (di_seq TX.hT (dn_if (dt_gt (vv 1) dn_int) (vv 7) (dn_slice TX.hT (vv 7) do_none (do_some dn_int)))) (dg_name (i := 5) sc.nd rfl (Or.inl rfl)) (ss_one (ds_if (PW.pt (dw_or (dt_neY (eqs_ok TX) TX.hT (hr.mono (by decide)) (dn_call (ok_law_caught TX) (hr.mono (by decide)) tk rfl (da_cons dn_int (da_cons (vv 5) (da_cons dn_non da_nil)))) (dn_lst (da_cons dn_str (da_cons (vv 5) da_nil)))) (dw_or1 (dt_neY (eqs_ok TX) TX.hT (hr.mono (by decide)) (dn_call (ok_law_caught TX) (hr.mono (by decide)) tk rfl (da_cons dn_int (da_cons (vv 5) (da_cons dn_non da_nil)))) (dn_lst (da_cons dn_str (da_cons (vv 5) da_nil))))))) (ss_one (ds_ret dn_bl)) ss_nil))) (ss_one (ds_ret dn_bl))))))))))))
theorem sc_law_talks_right : FnScope ["_law_box_here", "_law_seats1", "_law_talks", "_law_lots1", "_law_turn", "_law_every", "_law_seat"] ["_law_box_here", "_law_seats1"] (defScope s_law_talks_right) := ⟨rfl, rfl, rfl, by decide +kernel, rfl, by decide +kernel, by decide +kernel⟩
theorem ok_law_talks_right (TX : TxtL K mg base T) : FnAt P w K mg base T "_law_talks_right" 11 d_law_talks_right :=
  fn_at (kp := false) (k := 10) (N := ["_law_box_here", "_law_seats1", "_law_talks", "_law_lots1", "_law_turn", "_law_every", "_law_seat"]) (body := b_law_talks_right) TX.d_law_talks_right sc_law_talks_right (fun f cdv A outer s H E hr tk => have sc := sc_law_talks_right; (ss_frz2 (js := [2]) (ds_par (i := 2) (j := 3) rfl sc.nd rfl rfl (by decide) rfl rfl (da_cons (dn_cell da_nil) (da_cons (dn_comp (own := [("_law_seat", 6)]) rfl sc.nd (di_range rfl TX.n_range (da_cons (vv 1) da_nil)) (blkOk_by rfl) (fun _ _ _ _ _ => (dv_name (i := 6) sc.nd rfl (by first | exact Or.inl rfl | exact Or.inr rfl) (by decide))) (fun _ _ _ _ _ => dts_nil) (fun _ _ _ _ _ => (dn_lst (da_cons (vv 6) da_nil)))) da_nil)) rfl) (ds_for PassesOwn.leaving rfl (di_range rfl TX.n_range (da_cons (dn_mul (dn_call (ok_law_take TX) (hr.mono (by decide)) tk rfl (da_cons (vv 0) (da_cons dn_int da_nil))) (dn_intBc rfl TX.n_int (da_cons (dn_gt (vv 1) dn_int) da_nil))) da_nil)) (dg_name (i := 4) sc.nd rfl (Or.inl rfl)) (ss_cons (ds_set (i := 5) sc.nd rfl (Or.inl rfl) (dn_call (ok_law_all_talks TX) (hr.mono (by decide)) tk rfl (da_cons (vv 1) da_nil))) (ss_cons (ds_expr (dn_app (vv 2) (da_cons (dn_ix TX.hT (vv 5) (dn_call (ok_law_take TX) (hr.mono (by decide)) tk rfl (da_cons (vv 0) (da_cons (dn_lenXO TX.hT (hr.mono (by decide)) (lens_ok TX) rfl TX.n_len (da_cons (vv 5) da_nil)) da_nil)))) da_nil))) (ss_one (ds_set (i := 3) sc.nd rfl (Or.inl rfl) (dn_call (ok_law_talked TX) (hr.mono (by decide)) tk rfl (da_cons (vv 3) (da_cons (dn_ix TX.hT (vv 2) (dn_neg dn_int)) da_nil)))))))) (ss_cons (ds_if (dt_neY (eqs_ok TX) TX.hT (hr.mono (by decide)) (dn_call (ok_law_caught TX) (hr.mono (by decide)) tk rfl (da_cons dn_int (da_cons (vv 1) (da_cons (vv 2) da_nil)))) (dn_lst (da_cons dn_str (da_cons (dn_make (mk_Web TX) (hr.mono (by decide)) tk rfl (da_cons (vv 1) (da_cons (vv 3) da_nil))) da_nil)))) (ss_one (ds_ret dn_non)) ss_nil) (ss_cons (ds_if (dt_neY (eqs_ok TX) TX.hT (hr.mono (by decide)) (dn_call (ok_law_caught TX) (hr.mono (by decide)) tk rfl (da_cons dn_int (da_cons (vv 1) (da_cons (dn_tuple TX.hT rfl TX.n_tuple (da_cons (vv 2) da_nil)) da_nil)))) (dn_lst (da_cons dn_str (da_cons (dn_make (mk_Web TX) (hr.mono (by decide)) tk rfl (da_cons (vv 1) (da_cons (vv 3) da_nil))) da_nil)))) (ss_one (ds_ret dn_non)) ss_nil) (ss_one (ds_ret (vv 3)))))))
theorem sc_law_webs_right : FnScope ["_law_seats1", "_law_lots1", "_law_firsts_here", "_law_web", "_law_just", "_law_turn", "_law_told", "_law_more", "_law_heard", "_law_held", "_law_lot", "_law_other"] ["_law_seats1", "_law_lots1", "_law_firsts_here"] (defScope s_law_webs_right) := ⟨rfl, rfl, rfl, by decide +kernel, rfl, by decide +kernel, by decide +kernel⟩
theorem ok_law_webs_right (TX : TxtL K mg base T) : FnAt P w K mg base T "_law_webs_right" 11 d_law_webs_right :=
  fn_at (kp := false) (k := 10) (N := ["_law_seats1", "_law_lots1", "_law_firsts_here", "_law_web", "_law_just", "_law_turn", "_law_told", "_law_more", "_law_heard", "_law_held", "_law_lot", "_law_other"]) (body := b_law_webs_right) TX.d_law_webs_right sc_law_webs_right (fun f cdv A outer s H E hr tk => have sc := sc_law_webs_right; (ss_cons (ds_set (i := 3) sc.nd rfl (Or.inl rfl) (dn_make (mk_Web TX) (hr.mono (by decide)) tk rfl (da_cons (vv 0) (da_cons (vv 1) da_nil)))) (ss_cons (ds_setComp (own := [("_law_heard", 8), ("_law_held", 9)]) (i := 4) rfl sc.nd rfl rfl rfl (di_seq TX.hT (vv 2)) (blkOk_by rfl) (fun _ _ _ _ _ => (dv_tup rfl TX.hT (dvs_cons (dv_name (i := 8) sc.nd rfl (by first | exact Or.inl rfl | exact Or.inr rfl) (by decide)) (dvs_cons (dv_name (i := 9) sc.nd rfl (by first | exact Or.inl rfl | exact Or.inr rfl) (by decide)) dvs_nil)) (gtCons_len (gtCons_len gtNil_len)))) (fun _ _ _ _ _ => (dts_one (dt_eqG (eqs_ok TX) (eqs_nf TX) TX.hT (hr.mono (by decide)) (vv 8) (vv 1)))) (fun _ _ _ _ _ => (vv 9))) (ss_cons (ds_for PassesOwn.leaving rfl (di_range rfl TX.n_range (da_cons dn_int da_nil)) (dg_name (i := 5) sc.nd rfl (Or.inl rfl)) (ss_cons (ds_set (i := 6) sc.nd rfl (Or.inl rfl) (dn_fresh (dn_call (ok_law_caught TX) (hr.mono (by decide)) takes0 rfl (da_cons dn_int (da_cons (vv 3) (da_cons dn_non da_nil)))))) (ss_cons (ds_if (dt_neYF (eqs_ok TX) TX.hT (hr.mono (by decide)) (vv 6) (dn_lst (da_cons dn_str (da_cons (dn_if (dt_neY (eqs_ok TX) TX.hT (hr.mono (by decide)) (vv 4) (dn_lst da_nil)) (dn_ix TX.hT (vv 4) dn_int) dn_non) da_nil)))) (ss_one (ds_ret dn_bl)) ss_nil) (ss_one (ds_if (dt_notN (dn_ixS TX.hT (vv 6) dn_int)) (ss_one (ds_expr (dn_appS (dn_ixS TX.hT (vv 6) dn_int) (da_cons dn_non da_nil)))) ss_nil))))) (ss_frz2 (js := [7]) (ds_set (i := 7) sc.nd rfl (Or.inl rfl) (dn_cell da_nil)) (ds_for PassesOwn.leaving rfl (di_seq TX.hT (vv 2)) (dg_tup rfl TX.hT (dgs_cons (dg_name (i := 8) sc.nd rfl (Or.inl rfl)) (dgs_cons (dg_name (i := 9) sc.nd rfl (Or.inl rfl)) dgs_nil)) (gtCons_len (gtCons_len gtNil_len))) (ss_one (ds_if (dt_eqG (eqs_ok TX) (eqs_nf TX) TX.hT (hr.mono (by decide)) (dn_comp (own := [("_law_lot", 10), ("_law_other", 11)]) rfl sc.nd (di_zip TX.hT rfl TX.n_zip (da_cons (vv 1) (da_cons (vv 8) da_nil))) (blkOk_by rfl) (fun _ _ _ _ _ => (dv_tup rfl TX.hT (dvs_cons (dv_name (i := 10) sc.nd rfl (by first | exact Or.inl rfl | exact Or.inr rfl) (by decide)) (dvs_cons (dv_name (i := 11) sc.nd rfl (by first | exact Or.inl rfl | exact Or.inr rfl) (by decide)) dvs_nil)) (gtCons_len (gtCons_len gtNil_len)))) (fun _ _ _ _ _ => (dts_one (dt_neY (eqs_ok TX) TX.hT (hr.mono (by decide)) (dn_sortSet TX.hT rfl rfl TX.n_sorted rfl TX.n_set (dn_add TX.hT (vv 10) (vv 11))) (vv 11)))) (fun _ _ _ _ _ => (vv 10))) (dn_lst da_nil)) (ss_one (ds_expr (dn_app (vv 7) (da_cons (dn_tup (da_cons (dn_lenXO TX.hT (hr.mono (by decide)) (lens_ok TX) rfl TX.n_len (da_cons (vv 9) da_nil)) (da_cons (vv 9) da_nil))) da_nil)))) ss_nil))) (ss_cons (ds_expr (dn_appS (dn_fresh (dn_call (ok_enough_talks TX) (hr.mono (by decide)) takes0 rfl (da_cons (vv 3) da_nil))) (da_cons dn_non da_nil))) (ss_one (ds_ret (dn_eqG (eqs_ok TX) (eqs_nf TX) TX.hT (hr.mono (by decide)) (dn_call (ok_law_caught TX) (hr.mono (by decide)) tk rfl (da_cons dn_int (da_cons (vv 3) (da_cons dn_non da_nil)))) (dn_lst (da_cons dn_str (da_cons (dn_ix TX.hT (dn_minL TX.hT rfl hr rfl TX.n_min (da_cons (vv 7) da_nil)) dn_int) da_nil))))))))))))
theorem sc_law : FnScope ["_law_script", "_law_k", "_law_box_here", "_law_seats1", "_law_firsts_here", "_law_turn", "_law_come", "_law_lots1"] ["_law_script"] (defScope s_law) := ⟨rfl, rfl, rfl, by decide +kernel, rfl, by decide +kernel, by decide +kernel⟩
theorem ok_law (TX : TxtL K mg base T) {f : Addr} {fd : FuncData} (F : Fun K "law" "law" s_law f fd) : FnOk P w K mg base (L2.CX P w) 12 f fd ["_law_script"] (spD T d_law) :=
  fn_okT (kp := false) (k := 11) (N := ["_law_script", "_law_k", "_law_box_here", "_law_seats1", "_law_firsts_here", "_law_turn", "_law_come", "_law_lots1"]) (body := b_law) F sc_law (fun f cdv A outer s H E hr tk => have sc := sc_law; (ss_cons (ds_for PassesOwn.leaving rfl (di_range rfl TX.n_range (da_cons (dn_max2 rfl rfl TX.n_max (da_cons dn_int (da_cons (dn_min2 rfl rfl TX.n_min (da_cons dn_int (da_cons (dn_lenXO TX.hT (hr.mono (by decide)) (lens_ok TX) rfl TX.n_len (da_cons (vv 0) da_nil)) da_nil))) da_nil))) da_nil)) (dg_name (i := 1) sc.nd rfl (Or.inl rfl)) (ss_cons (ds_set (i := 2) sc.nd rfl (Or.inl rfl) (dn_call (ok_law_box TX) (hr.mono (by decide)) tk rfl (da_cons (vv 0) (da_cons (vv 1) da_nil)))) (ss_cons (ds_set (i := 3) sc.nd rfl (Or.inl rfl) (dn_ix TX.hT (dn_lst (da_cons dn_int (da_cons dn_int (da_cons dn_int (da_cons dn_int (da_cons dn_int da_nil)))))) (dn_call (ok_law_take TX) (hr.mono (by decide)) tk rfl (da_cons (vv 2) (da_cons dn_int da_nil))))) (ss_cons (ds_set (i := 4) sc.nd rfl (Or.inl rfl) (dn_call (ok_law_firsts TX) (hr.mono (by decide)) tk rfl (da_cons (vv 3) da_nil))) (ss_one (ds_for PassesOwn.leaving rfl (di_range rfl TX.n_range (da_cons dn_int da_nil)) (dg_name (i := 5) sc.nd rfl (Or.inl rfl)) (ss_cons (ds_set (i := 6) sc.nd rfl (Or.inl rfl) (dn_call (ok_law_talks_right TX) (hr.mono (by decide)) tk rfl (da_cons (vv 2) (da_cons (vv 3) da_nil)))) (ss_cons (ds_if (PW.pt (dw_or (dt_isN (vv 6)) (dw_or1 (dt_not (dt_val (dn_call (ok_law_webs_right TX) (hr.mono (by decide)) tk rfl (da_cons (vv 3) (da_cons (vv 6) (da_cons (vv 4) da_nil))))))))) (ss_one (ds_ret dn_bl)) ss_nil) (ss_cons (ds_set (i := 7) sc.nd rfl (Or.inl rfl) (dn_call (ok_law_own_lots TX) (hr.mono (by decide)) tk rfl (da_cons (vv 2) (da_cons (vv 3) da_nil)))) (ss_cons (ds_if (PW.pt (dw_and (dt_eqG (eqs_ok TX) (eqs_nf TX) TX.hT (hr.mono (by decide)) (vv 3) dn_int) (dw_and1 (dt_eqG (eqs_ok TX) (eqs_nf TX) TX.hT (hr.mono (by decide)) (dn_call (ok_law_take TX) (hr.mono (by decide)) tk rfl (da_cons (vv 2) (da_cons dn_int da_nil))) dn_int)))) (ss_one (ds_set (i := 7) sc.nd rfl (Or.inl rfl) (dn_ix TX.hT (dn_lst (da_cons (dn_lst (da_cons (dn_lst (da_cons dn_int (da_cons dn_int da_nil))) (da_cons (dn_lst (da_cons dn_int (da_cons dn_int da_nil))) (da_cons (dn_lst (da_cons dn_int (da_cons dn_int da_nil))) da_nil)))) (da_cons (dn_lst (da_cons (dn_lst (da_cons dn_int (da_cons dn_int da_nil))) (da_cons (dn_lst (da_cons dn_int (da_cons dn_int da_nil))) (da_cons (dn_lst (da_cons dn_int (da_cons dn_int da_nil))) da_nil)))) da_nil))) (dn_call (ok_law_take TX) (hr.mono (by decide)) tk rfl (da_cons (vv 2) (da_cons dn_int da_nil)))))) ss_nil) (ss_one (ds_if (PW.pt (dw_or (dt_not (dt_val (dn_call (ok_law_webs_right TX) (hr.mono (by decide)) tk rfl (da_cons (vv 3) (da_cons (vv 7) (da_cons (vv 4) da_nil)))))) (dw_or1 (dt_not (dt_val (dn_call (ok_law_refused_right TX) (hr.mono (by decide)) tk rfl (da_cons (vv 2) (da_cons (vv 3) (da_cons (vv 7) da_nil))))))))) (ss_one (ds_ret dn_bl)) ss_nil)))))))))))) (ss_one (ds_ret dn_bl))))
end
theorem all_mk {l : PySem.W.OpenLaw} {w : World} {K : PySem.W.Frag} {h : Heap} {mg : Str → Option Value} {fa : Addr} {C12 C13 C37 C27 C26 C59 C1 C0 : Addr} {f_is_number f_parts_of f_Ratio_eq f_Web_eq f_Web_len f_law_box f_law_all_talks f_law_talked f_law_firsts f_law_take f_law_own_lots f_is_integer f_is_place f_is_talk f_are_talks f_is_many f_union_of f_talked f_is_lot f_are_lots f_Web_init f_after_talks f_is_square f_need_own f_all_talks f_shortest_talks f_Web_links f_enough_talks f_Web_lots f_fewest_talks f_law_caught f_Ratio_init f_law_refused_right f_law_talks_right f_law_webs_right f_law : Addr} {QQ : Program} (X_ : K.In h) (G : h.Ns mainGlobals mg) (hfa : mg "law" = some (.ref fa)) (TS : TabsOf QQ mg h)
    {od_is_number an_is_number od_parts_of an_parts_of od_Ratio_eq an_Ratio_eq od_Web_eq an_Web_eq od_Web_len an_Web_len od_law_box an_law_box od_law_all_talks an_law_all_talks od_law_talked an_law_talked od_law_firsts an_law_firsts od_law_take an_law_take od_law_own_lots an_law_own_lots od_is_integer an_is_integer od_is_place an_is_place od_is_talk an_is_talk od_are_talks an_are_talks od_is_many an_is_many od_union_of an_union_of od_talked an_talked od_is_lot an_is_lot od_are_lots an_are_lots od_Web_init an_Web_init od_after_talks an_after_talks od_is_square an_is_square od_need_own an_need_own od_all_talks an_all_talks od_shortest_talks an_shortest_talks od_Web_links an_Web_links od_enough_talks an_enough_talks od_Web_lots an_Web_lots od_fewest_talks an_fewest_talks od_law_caught an_law_caught od_Ratio_init an_Ratio_init od_law_refused_right an_law_refused_right od_law_talks_right an_law_talks_right od_law_webs_right an_law_webs_right od_law an_law : Option Addr} {sl_is_number sl_parts_of sl_Ratio_eq sl_Web_eq sl_Web_len sl_law_box sl_law_all_talks sl_law_talked sl_law_firsts sl_law_take sl_law_own_lots sl_is_integer sl_is_place sl_is_talk sl_are_talks sl_is_many sl_union_of sl_talked sl_is_lot sl_are_lots sl_Web_init sl_after_talks sl_is_square sl_need_own sl_all_talks sl_shortest_talks sl_Web_links sl_enough_talks sl_Web_lots sl_fewest_talks sl_law_caught sl_Ratio_init sl_law_refused_right sl_law_talks_right sl_law_webs_right sl_law : Array (Option Value)} {oc_is_number kV_is_number dc_is_number pm_is_number cd_is_number ct_is_number oc_parts_of kV_parts_of dc_parts_of pm_parts_of cd_parts_of ct_parts_of oc_Ratio_eq kV_Ratio_eq dc_Ratio_eq pm_Ratio_eq cd_Ratio_eq ct_Ratio_eq oc_Web_eq kV_Web_eq dc_Web_eq pm_Web_eq cd_Web_eq ct_Web_eq oc_Web_len kV_Web_len dc_Web_len pm_Web_len cd_Web_len ct_Web_len oc_law_box kV_law_box dc_law_box pm_law_box cd_law_box ct_law_box oc_law_all_talks kV_law_all_talks dc_law_all_talks pm_law_all_talks cd_law_all_talks ct_law_all_talks oc_law_talked kV_law_talked dc_law_talked pm_law_talked cd_law_talked ct_law_talked oc_law_firsts kV_law_firsts dc_law_firsts pm_law_firsts cd_law_firsts ct_law_firsts oc_law_take kV_law_take dc_law_take pm_law_take cd_law_take ct_law_take oc_law_own_lots kV_law_own_lots dc_law_own_lots pm_law_own_lots cd_law_own_lots ct_law_own_lots oc_is_integer kV_is_integer dc_is_integer pm_is_integer cd_is_integer ct_is_integer oc_is_place kV_is_place dc_is_place pm_is_place cd_is_place ct_is_place oc_is_talk kV_is_talk dc_is_talk pm_is_talk cd_is_talk ct_is_talk oc_are_talks kV_are_talks dc_are_talks pm_are_talks cd_are_talks ct_are_talks oc_is_many kV_is_many dc_is_many pm_is_many cd_is_many ct_is_many oc_union_of kV_union_of dc_union_of pm_union_of cd_union_of ct_union_of oc_talked kV_talked dc_talked pm_talked cd_talked ct_talked oc_is_lot kV_is_lot dc_is_lot pm_is_lot cd_is_lot ct_is_lot oc_are_lots kV_are_lots dc_are_lots pm_are_lots cd_are_lots ct_are_lots oc_Web_init kV_Web_init dc_Web_init pm_Web_init cd_Web_init ct_Web_init oc_after_talks kV_after_talks dc_after_talks pm_after_talks cd_after_talks ct_after_talks oc_is_square kV_is_square dc_is_square pm_is_square cd_is_square ct_is_square oc_need_own kV_need_own dc_need_own pm_need_own cd_need_own ct_need_own oc_all_talks kV_all_talks dc_all_talks pm_all_talks cd_all_talks ct_all_talks oc_shortest_talks kV_shortest_talks dc_shortest_talks pm_shortest_talks cd_shortest_talks ct_shortest_talks oc_Web_links kV_Web_links dc_Web_links pm_Web_links cd_Web_links ct_Web_links oc_enough_talks kV_enough_talks dc_enough_talks pm_enough_talks cd_enough_talks ct_enough_talks oc_Web_lots kV_Web_lots dc_Web_lots pm_Web_lots cd_Web_lots ct_Web_lots oc_fewest_talks kV_fewest_talks dc_fewest_talks pm_fewest_talks cd_fewest_talks ct_fewest_talks oc_law_caught kV_law_caught dc_law_caught pm_law_caught cd_law_caught ct_law_caught oc_Ratio_init kV_Ratio_init dc_Ratio_init pm_Ratio_init cd_Ratio_init ct_Ratio_init oc_law_refused_right kV_law_refused_right dc_law_refused_right pm_law_refused_right cd_law_refused_right ct_law_refused_right oc_law_talks_right kV_law_talks_right dc_law_talks_right pm_law_talks_right cd_law_talks_right ct_law_talks_right oc_law_webs_right kV_law_webs_right dc_law_webs_right pm_law_webs_right cd_law_webs_right ct_law_webs_right oc_law kV_law dc_law pm_law cd_law ct_law : Value} {t_MOST_SEATS t_MOST_TALKS : Tok}
    {fn_x37 N_x37 : Addr}
    {nm_x37 q_x37 : Str}
    {bs_x37 bm_x37 sub_x37 : List Value}
    {sn_x37 : List Str}
    {ab_x37 : Bool}
    {col_x37 : Option Bool}
    {dd_x37 : Option Addr}
    {k0_x37 k1_x37 k2_x37 k3_x37 k5_x37 : Option Value}
    {od_x37 an_x37 : Option Addr}
    {sl_x37 : Array (Option Value)}
    {oc_x37 kV_x37 dc_x37 pm_x37 cd_x37 ct_x37 : Value}
    {fn_x27 N_x27 : Addr}
    {nm_x27 q_x27 : Str}
    {bs_x27 bm_x27 sub_x27 : List Value}
    {sn_x27 : List Str}
    {ab_x27 : Bool}
    {col_x27 : Option Bool}
    {dd_x27 : Option Addr}
    {k0_x27 k1_x27 k2_x27 k3_x27 k5_x27 : Option Value}
    {od_x27 an_x27 : Option Addr}
    {sl_x27 : Array (Option Value)}
    {oc_x27 kV_x27 dc_x27 pm_x27 cd_x27 ct_x27 : Value}
    {fn_x26 N_x26 : Addr}
    {nm_x26 q_x26 : Str}
    {bs_x26 bm_x26 sub_x26 : List Value}
    {sn_x26 : List Str}
    {ab_x26 : Bool}
    {col_x26 : Option Bool}
    {dd_x26 : Option Addr}
    {k0_x26 k1_x26 k2_x26 k3_x26 k5_x26 : Option Value}
    {od_x26 an_x26 : Option Addr}
    {sl_x26 : Array (Option Value)}
    {oc_x26 kV_x26 dc_x26 pm_x26 cd_x26 ct_x26 : Value}
    {fn_x59 N_x59 : Addr}
    {nm_x59 q_x59 : Str}
    {bs_x59 bm_x59 sub_x59 : List Value}
    {sn_x59 : List Str}
    {ab_x59 : Bool}
    {col_x59 : Option Bool}
    {dd_x59 : Option Addr}
    {k0_x59 k1_x59 k2_x59 k3_x59 k5_x59 : Option Value}
    {od_x59 an_x59 : Option Addr}
    {sl_x59 : Array (Option Value)}
    {oc_x59 kV_x59 dc_x59 pm_x59 cd_x59 ct_x59 : Value}
    {pp_p1_bottom ga_p1_bottom : Addr}
    {rs_p1_bottom : List Value}
    {od_p1_bottom an_p1_bottom : Option Addr}
    {sl_p1_bottom : Array (Option Value)}
    {oc_p1_bottom kV_p1_bottom dc_p1_bottom pm_p1_bottom cd_p1_bottom ct_p1_bottom : Value}
    {pp_p1_top ga_p1_top : Addr}
    {rs_p1_top : List Value}
    {od_p1_top an_p1_top : Option Addr}
    {sl_p1_top : Array (Option Value)}
    {oc_p1_top kV_p1_top dc_p1_top pm_p1_top cd_p1_top ct_p1_top : Value}
    {tc_enough_talks tp_enough_talks : Addr}
    {tv_enough_talks : List Value}
    {tc_fewest_talks tp_fewest_talks : Addr}
    {tv_fewest_talks : List Value}
    {TT_Ratio_init : Addr}
    {ot_Ratio_init : Obj}
    {tt_Ratio_init : Tok}
    {nn_Ratio_init : Nat}
    (a12 : PySem.W.nsIn K mainGlobals "TellError" = some (some (.ref C12)))
    (a13 : PySem.W.nsIn K mainGlobals "ByZero" = some (some (.ref C13)))
    (a37 : PySem.W.nsIn K mainGlobals "InvalidWeb" = some (some (.ref C37)))
    (a27 : PySem.W.nsIn K mainGlobals "InvalidSeat" = some (some (.ref C27)))
    (a26 : PySem.W.nsIn K mainGlobals "InvalidLot" = some (some (.ref C26)))
    (a59 : PySem.W.nsIn K mainGlobals "InvalidTalks" = some (some (.ref C59)))
    (a1 : PySem.W.nsIn K mainGlobals "Ratio" = some (some (.ref C1)))
    (a0 : PySem.W.nsIn K mainGlobals "Web" = some (some (.ref C0)))
    (gi_MOST_SEATS : PySem.W.nsIn K mainGlobals "MOST_SEATS" = some (some (.int 3 t_MOST_SEATS)))
    (gi_MOST_TALKS : PySem.W.nsIn K mainGlobals "MOST_TALKS" = some (some (.int 9 t_MOST_TALKS)))
    (n_abs : PySem.W.nsIn K mainGlobals "abs" = some none)
    (n_all : PySem.W.nsIn K mainGlobals "all" = some none)
    (n_any : PySem.W.nsIn K mainGlobals "any" = some none)
    (n_bool : PySem.W.nsIn K mainGlobals "bool" = some none)
    (n_enumerate : PySem.W.nsIn K mainGlobals "enumerate" = some none)
    (n_int : PySem.W.nsIn K mainGlobals "int" = some none)
    (n_isinstance : PySem.W.nsIn K mainGlobals "isinstance" = some none)
    (n_len : PySem.W.nsIn K mainGlobals "len" = some none)
    (n_list : PySem.W.nsIn K mainGlobals "list" = some none)
    (n_max : PySem.W.nsIn K mainGlobals "max" = some none)
    (n_min : PySem.W.nsIn K mainGlobals "min" = some none)
    (n_range : PySem.W.nsIn K mainGlobals "range" = some none)
    (n_set : PySem.W.nsIn K mainGlobals "set" = some none)
    (n_sorted : PySem.W.nsIn K mainGlobals "sorted" = some none)
    (n_sum : PySem.W.nsIn K mainGlobals "sum" = some none)
    (n_tuple : PySem.W.nsIn K mainGlobals "tuple" = some none)
    (n_zip : PySem.W.nsIn K mainGlobals "zip" = some none)
    (pg1 : PySem.W.plainGet K C1 Str.empty = true)
    (hd1 : PySem.W.hasDictIn K C1 = true)
    (po1 : PySem.W.plainOver K C1 = true)
    (sa1 : PySem.W.findIn K (.ref C1) "__setattr__" = some (some (.builtin "object.__setattr__")))
    (pg0 : PySem.W.plainGet K C0 Str.empty = true)
    (hd0 : PySem.W.hasDictIn K C0 = true)
    (po0 : PySem.W.plainOver K C0 = true)
    (sa0 : PySem.W.findIn K (.ref C0) "__setattr__" = some (some (.builtin "object.__setattr__")))
    (no1__bottom : PySem.W.findIn K (.ref C1) "_bottom" = some none)
    (no1__top : PySem.W.findIn K (.ref C1) "_top" = some none)
    (no0_heard_lots : PySem.W.findIn K (.ref C0) "heard_lots" = some none)
    (no0_seats : PySem.W.findIn K (.ref C0) "seats" = some none)
    (ha0 : PySem.W.findIn K (.ref C0) "__class__" = some (some (.builtin "object.__class__")))
    (hn0 : PySem.W.specialIn K (.builtin "object.__class__") "__get__" = some (some (.builtin "getset_descriptor.__get__")))
    (ht0 : PySem.W.takesIn K (.builtin "object.__class__") = some true)
    (hm0 : PySem.W.mroIn K C0 (.type "object") = some true)
    (xi1 : PySem.W.isClsIn K C1 = true)
    (xt1 : PySem.W.typeIn K (.ref C1) = some (.type "type"))
    (sc_0_1 : PySem.W.subIn K (.ref C0) (.ref C1) = some false)
    (sn_0_1 : (Value.ref C0 == Value.ref C1) = false)
    (ha1 : PySem.W.findIn K (.ref C1) "__class__" = some (some (.builtin "object.__class__")))
    (hn1 : PySem.W.specialIn K (.builtin "object.__class__") "__get__" = some (some (.builtin "getset_descriptor.__get__")))
    (ht1 : PySem.W.takesIn K (.builtin "object.__class__") = some true)
    (hm1 : PySem.W.mroIn K C1 (.type "object") = some true)
    (st_NoneType_1 : PySem.W.subIn K (.type "NoneType") (.ref C1) = some false)
    (st_bool_1 : PySem.W.subIn K (.type "bool") (.ref C1) = some false)
    (st_int_1 : PySem.W.subIn K (.type "int") (.ref C1) = some false)
    (st_str_1 : PySem.W.subIn K (.type "str") (.ref C1) = some false)
    (st_list_1 : PySem.W.subIn K (.type "list") (.ref C1) = some false)
    (st_tuple_1 : PySem.W.subIn K (.type "tuple") (.ref C1) = some false)
    (st_dict_1 : PySem.W.subIn K (.type "dict") (.ref C1) = some false)
    (xi0 : PySem.W.isClsIn K C0 = true)
    (xt0 : PySem.W.typeIn K (.ref C0) = some (.type "type"))
    (sc_1_0 : PySem.W.subIn K (.ref C1) (.ref C0) = some false)
    (sn_1_0 : (Value.ref C1 == Value.ref C0) = false)
    (st_NoneType_0 : PySem.W.subIn K (.type "NoneType") (.ref C0) = some false)
    (st_bool_0 : PySem.W.subIn K (.type "bool") (.ref C0) = some false)
    (st_int_0 : PySem.W.subIn K (.type "int") (.ref C0) = some false)
    (st_str_0 : PySem.W.subIn K (.type "str") (.ref C0) = some false)
    (st_list_0 : PySem.W.subIn K (.type "list") (.ref C0) = some false)
    (st_tuple_0 : PySem.W.subIn K (.type "tuple") (.ref C0) = some false)
    (st_dict_0 : PySem.W.subIn K (.type "dict") (.ref C0) = some false)
    (so_0_bool : PySem.W.subIn K (.ref C0) (.type "bool") = some false)
    (so_1_bool : PySem.W.subIn K (.ref C1) (.type "bool") = some false)
    (so_0_int : PySem.W.subIn K (.ref C0) (.type "int") = some false)
    (so_1_int : PySem.W.subIn K (.ref C1) (.type "int") = some false)
    (so_0_list : PySem.W.subIn K (.ref C0) (.type "list") = some false)
    (so_0_tuple : PySem.W.subIn K (.ref C0) (.type "tuple") = some false)
    (so_1_list : PySem.W.subIn K (.ref C1) (.type "list") = some false)
    (so_1_tuple : PySem.W.subIn K (.ref C1) (.type "tuple") = some false)
    (nf1_Web : PySem.W.notFirst K C1 (.ref C0) = true)
    (nf1_Ratio : PySem.W.notFirst K C1 (.ref C1) = true)
    (nf1_NoneType : PySem.W.notFirst K C1 (.type "NoneType") = true)
    (nf1_bool : PySem.W.notFirst K C1 (.type "bool") = true)
    (nf1_int : PySem.W.notFirst K C1 (.type "int") = true)
    (nf1_str : PySem.W.notFirst K C1 (.type "str") = true)
    (nf1_list : PySem.W.notFirst K C1 (.type "list") = true)
    (nf1_tuple : PySem.W.notFirst K C1 (.type "tuple") = true)
    (nf1_dict : PySem.W.notFirst K C1 (.type "dict") = true)
    (nf0_Web : PySem.W.notFirst K C0 (.ref C0) = true)
    (nf0_Ratio : PySem.W.notFirst K C0 (.ref C1) = true)
    (nf0_NoneType : PySem.W.notFirst K C0 (.type "NoneType") = true)
    (nf0_bool : PySem.W.notFirst K C0 (.type "bool") = true)
    (nf0_int : PySem.W.notFirst K C0 (.type "int") = true)
    (nf0_str : PySem.W.notFirst K C0 (.type "str") = true)
    (nf0_list : PySem.W.notFirst K C0 (.type "list") = true)
    (nf0_tuple : PySem.W.notFirst K C0 (.type "tuple") = true)
    (nf0_dict : PySem.W.notFirst K C0 (.type "dict") = true)
    (ei13 : PySem.W.excIn K C13 [.type "ValueError", .type "Exception", .type "BaseException", .type "object"] "ValueError.__new__" = true)
    (ek13 : PySem.W.keepIn K (.ref C13) = true)
    (er13 : PySem.W.subIn K (.ref C13) (.type "BaseException") = some true)
    (et13 : PySem.W.typeIn K (.ref C13) = some (.type "type"))
    (xb27 : PySem.W.subIn K (.ref C27) (.type "BaseException") = some true)
    (xh27 : PySem.W.hasDictIn K C27 = true)
    (xt27 : PySem.W.typeIn K (.ref C27) = some (.type "type"))
    (xi27 : PySem.W.isClsIn K C27 = true)
    (xs27 : PySem.W.subIn K (.ref C27) (.ref C27) = some true)
    (cx26_27 : PySem.W.subIn K (.ref C26) (.ref C27) = some false)
    (cx13_27 : PySem.W.subIn K (.ref C13) (.ref C27) = some false)
    (cx37_27 : PySem.W.subIn K (.ref C37) (.ref C27) = some false)
    (cx59_27 : PySem.W.subIn K (.ref C59) (.ref C27) = some false)
    (xb59 : PySem.W.subIn K (.ref C59) (.type "BaseException") = some true)
    (xh59 : PySem.W.hasDictIn K C59 = true)
    (xt59 : PySem.W.typeIn K (.ref C59) = some (.type "type"))
    (xi59 : PySem.W.isClsIn K C59 = true)
    (xs59 : PySem.W.subIn K (.ref C59) (.ref C59) = some true)
    (cx26_59 : PySem.W.subIn K (.ref C26) (.ref C59) = some false)
    (cx13_59 : PySem.W.subIn K (.ref C13) (.ref C59) = some false)
    (cx37_59 : PySem.W.subIn K (.ref C37) (.ref C59) = some false)
    (cx27_59 : PySem.W.subIn K (.ref C27) (.ref C59) = some false)
    (xb37 : PySem.W.subIn K (.ref C37) (.type "BaseException") = some true)
    (xh37 : PySem.W.hasDictIn K C37 = true)
    (xt37 : PySem.W.typeIn K (.ref C37) = some (.type "type"))
    (xi37 : PySem.W.isClsIn K C37 = true)
    (xs37 : PySem.W.subIn K (.ref C37) (.ref C37) = some true)
    (cx26_37 : PySem.W.subIn K (.ref C26) (.ref C37) = some false)
    (cx13_37 : PySem.W.subIn K (.ref C13) (.ref C37) = some false)
    (cx59_37 : PySem.W.subIn K (.ref C59) (.ref C37) = some false)
    (cx27_37 : PySem.W.subIn K (.ref C27) (.ref C37) = some false)
    (le1 : PySem.W.specialIn K (.ref C12) "__getattribute__" = some (some (.builtin "type.__getattribute__")))
    (le2 : PySem.W.readsIn K C12 (.type "type") = true)
    (le3 : PySem.W.findCls K (.ref C12) (.type "type") "__init__" = some (.val (.builtin "ValueError.__init__")))
    (iC_x37 : PySem.W.findIn K (.ref C37) "__init__" = some (some (.ref fn_x37)))
    (tI_x37 : PySem.W.typeIn K (.ref fn_x37) = some (.type "function"))
    (l_x37 : K.lookup fn_x37 = some ⟨oc_x37, od_x37, .func (PySem.W.fnOf "__init__" "InvalidWeb.__init__" (defArgs s_InvalidWeb_init) (defBody s_InvalidWeb_init) (defScope s_InvalidWeb_init) .none kV_x37 dc_x37 pm_x37 an_x37 cd_x37 ct_x37), sl_x37⟩)
    (c_x37 : PySem.W.codeIn K cd_x37 "InvalidWeb.__init__" = true)
    (k_x37 : PySem.W.keepIn K (.ref fn_x37) = true)
    (lo_x37 : K.lookup C37 = some (excClassObj nm_x37 q_x37 C37 N_x37 bs_x37 bm_x37 true sn_x37 sub_x37 ab_x37 col_x37 dd_x37 k0_x37 k1_x37 k2_x37 k3_x37 k5_x37 "ValueError.__new__"))
    (rv_x37 : PySem.HandSPX.refsVE bm_x37 = true)
    (sa37 : PySem.W.findIn K (.ref C37) "__setattr__" = some (some (.builtin "object.__setattr__")))
    (ek37 : PySem.W.keepIn K (.ref C37) = true)
    (xn37_given : PySem.W.findIn K (.ref C37) "given" = some none)
    (iC_x27 : PySem.W.findIn K (.ref C27) "__init__" = some (some (.ref fn_x27)))
    (tI_x27 : PySem.W.typeIn K (.ref fn_x27) = some (.type "function"))
    (l_x27 : K.lookup fn_x27 = some ⟨oc_x27, od_x27, .func (PySem.W.fnOf "__init__" "InvalidSeat.__init__" (defArgs s_InvalidSeat_init) (defBody s_InvalidSeat_init) (defScope s_InvalidSeat_init) .none kV_x27 dc_x27 pm_x27 an_x27 cd_x27 ct_x27), sl_x27⟩)
    (c_x27 : PySem.W.codeIn K cd_x27 "InvalidSeat.__init__" = true)
    (k_x27 : PySem.W.keepIn K (.ref fn_x27) = true)
    (lo_x27 : K.lookup C27 = some (excClassObj nm_x27 q_x27 C27 N_x27 bs_x27 bm_x27 true sn_x27 sub_x27 ab_x27 col_x27 dd_x27 k0_x27 k1_x27 k2_x27 k3_x27 k5_x27 "ValueError.__new__"))
    (rv_x27 : PySem.HandSPX.refsVE bm_x27 = true)
    (sa27 : PySem.W.findIn K (.ref C27) "__setattr__" = some (some (.builtin "object.__setattr__")))
    (ek27 : PySem.W.keepIn K (.ref C27) = true)
    (xn27_given : PySem.W.findIn K (.ref C27) "given" = some none)
    (iC_x26 : PySem.W.findIn K (.ref C26) "__init__" = some (some (.ref fn_x26)))
    (tI_x26 : PySem.W.typeIn K (.ref fn_x26) = some (.type "function"))
    (l_x26 : K.lookup fn_x26 = some ⟨oc_x26, od_x26, .func (PySem.W.fnOf "__init__" "InvalidLot.__init__" (defArgs s_InvalidLot_init) (defBody s_InvalidLot_init) (defScope s_InvalidLot_init) .none kV_x26 dc_x26 pm_x26 an_x26 cd_x26 ct_x26), sl_x26⟩)
    (c_x26 : PySem.W.codeIn K cd_x26 "InvalidLot.__init__" = true)
    (k_x26 : PySem.W.keepIn K (.ref fn_x26) = true)
    (lo_x26 : K.lookup C26 = some (excClassObj nm_x26 q_x26 C26 N_x26 bs_x26 bm_x26 true sn_x26 sub_x26 ab_x26 col_x26 dd_x26 k0_x26 k1_x26 k2_x26 k3_x26 k5_x26 "ValueError.__new__"))
    (rv_x26 : PySem.HandSPX.refsVE bm_x26 = true)
    (sa26 : PySem.W.findIn K (.ref C26) "__setattr__" = some (some (.builtin "object.__setattr__")))
    (xb26 : PySem.W.subIn K (.ref C26) (.type "BaseException") = some true)
    (xt26 : PySem.W.typeIn K (.ref C26) = some (.type "type"))
    (ek26 : PySem.W.keepIn K (.ref C26) = true)
    (xn26_given : PySem.W.findIn K (.ref C26) "given" = some none)
    (iC_x59 : PySem.W.findIn K (.ref C59) "__init__" = some (some (.ref fn_x59)))
    (tI_x59 : PySem.W.typeIn K (.ref fn_x59) = some (.type "function"))
    (l_x59 : K.lookup fn_x59 = some ⟨oc_x59, od_x59, .func (PySem.W.fnOf "__init__" "InvalidTalks.__init__" (defArgs s_InvalidTalks_init) (defBody s_InvalidTalks_init) (defScope s_InvalidTalks_init) .none kV_x59 dc_x59 pm_x59 an_x59 cd_x59 ct_x59), sl_x59⟩)
    (c_x59 : PySem.W.codeIn K cd_x59 "InvalidTalks.__init__" = true)
    (k_x59 : PySem.W.keepIn K (.ref fn_x59) = true)
    (lo_x59 : K.lookup C59 = some (excClassObj nm_x59 q_x59 C59 N_x59 bs_x59 bm_x59 true sn_x59 sub_x59 ab_x59 col_x59 dd_x59 k0_x59 k1_x59 k2_x59 k3_x59 k5_x59 "ValueError.__new__"))
    (rv_x59 : PySem.HandSPX.refsVE bm_x59 = true)
    (sa59 : PySem.W.findIn K (.ref C59) "__setattr__" = some (some (.builtin "object.__setattr__")))
    (ek59 : PySem.W.keepIn K (.ref C59) = true)
    (xn59_given : PySem.W.findIn K (.ref C59) "given" = some none)
    (ga59 : PySem.W.findIn K (.ref C59) "__getattribute__" = some (some (.builtin "BaseException.__getattribute__")))
    (gg59 : PySem.W.findIn K (.ref C59) "__getattr__" = some none)
    (ga26 : PySem.W.findIn K (.ref C26) "__getattribute__" = some (some (.builtin "BaseException.__getattribute__")))
    (gg26 : PySem.W.findIn K (.ref C26) "__getattr__" = some none)
    (xh26 : PySem.W.hasDictIn K C26 = true)
    (ga27 : PySem.W.findIn K (.ref C27) "__getattribute__" = some (some (.builtin "BaseException.__getattribute__")))
    (gg27 : PySem.W.findIn K (.ref C27) "__getattr__" = some none)
    (ga37 : PySem.W.findIn K (.ref C37) "__getattribute__" = some (some (.builtin "BaseException.__getattribute__")))
    (gg37 : PySem.W.findIn K (.ref C37) "__getattr__" = some none)
    (gcd : PySem.W.nsIn K mainGlobals "gcd" = some (some (.builtin "math.gcd")))
    (p1_p1_bottom : PySem.W.findIn K (.ref C1) "bottom" = some (some (.ref pp_p1_bottom)))
    (p2_p1_bottom : PySem.W.specialIn K (.ref pp_p1_bottom) "__get__" = some (some (.builtin "property.__get__")))
    (p3_p1_bottom : PySem.W.takesIn K (.ref pp_p1_bottom) = some true)
    (p4_p1_bottom : PySem.W.recIn K pp_p1_bottom "property" = some (.ref ga_p1_bottom :: rs_p1_bottom))
    (l_p1_bottom : K.lookup ga_p1_bottom = some ⟨oc_p1_bottom, od_p1_bottom, .func (PySem.W.fnOf "bottom" "Ratio.bottom" (defArgs s_Ratio_bottom) (defBody s_Ratio_bottom) (defScope s_Ratio_bottom) .none kV_p1_bottom dc_p1_bottom pm_p1_bottom an_p1_bottom cd_p1_bottom ct_p1_bottom), sl_p1_bottom⟩)
    (c_p1_bottom : PySem.W.codeIn K cd_p1_bottom "Ratio.bottom" = true)
    (k_p1_bottom : PySem.W.keepIn K (.ref ga_p1_bottom) = true)
    (p1_p1_top : PySem.W.findIn K (.ref C1) "top" = some (some (.ref pp_p1_top)))
    (p2_p1_top : PySem.W.specialIn K (.ref pp_p1_top) "__get__" = some (some (.builtin "property.__get__")))
    (p3_p1_top : PySem.W.takesIn K (.ref pp_p1_top) = some true)
    (p4_p1_top : PySem.W.recIn K pp_p1_top "property" = some (.ref ga_p1_top :: rs_p1_top))
    (l_p1_top : K.lookup ga_p1_top = some ⟨oc_p1_top, od_p1_top, .func (PySem.W.fnOf "top" "Ratio.top" (defArgs s_Ratio_top) (defBody s_Ratio_top) (defScope s_Ratio_top) .none kV_p1_top dc_p1_top pm_p1_top an_p1_top cd_p1_top ct_p1_top), sl_p1_top⟩)
    (c_p1_top : PySem.W.codeIn K cd_p1_top "Ratio.top" = true)
    (k_p1_top : PySem.W.keepIn K (.ref ga_p1_top) = true)
    (a_is_number : PySem.W.nsIn K mainGlobals "is_number" = some (some (.ref f_is_number)))
    (l_is_number : K.lookup f_is_number = some ⟨oc_is_number, od_is_number, .func (PySem.W.fnOf "is_number" "is_number" (defArgs s_is_number) (defBody s_is_number) (defScope s_is_number) .none kV_is_number dc_is_number pm_is_number an_is_number cd_is_number ct_is_number), sl_is_number⟩)
    (c_is_number : PySem.W.codeIn K cd_is_number "is_number" = true)
    (k_is_number : PySem.W.keepIn K (.ref f_is_number) = true)
    (a_parts_of : PySem.W.nsIn K mainGlobals "parts_of" = some (some (.ref f_parts_of)))
    (l_parts_of : K.lookup f_parts_of = some ⟨oc_parts_of, od_parts_of, .func (PySem.W.fnOf "parts_of" "parts_of" (defArgs s_parts_of) (defBody s_parts_of) (defScope s_parts_of) .none kV_parts_of dc_parts_of pm_parts_of an_parts_of cd_parts_of ct_parts_of), sl_parts_of⟩)
    (c_parts_of : PySem.W.codeIn K cd_parts_of "parts_of" = true)
    (k_parts_of : PySem.W.keepIn K (.ref f_parts_of) = true)
    (a_Ratio_eq : PySem.W.findIn K (.ref C1) "__eq__" = some (some (.ref f_Ratio_eq)))
    (i_Ratio_eq : PySem.W.isFn K (.ref f_Ratio_eq) = true)
    (l_Ratio_eq : K.lookup f_Ratio_eq = some ⟨oc_Ratio_eq, od_Ratio_eq, .func (PySem.W.fnOf "__eq__" "Ratio.__eq__" (defArgs s_Ratio_eq) (defBody s_Ratio_eq) (defScope s_Ratio_eq) .none kV_Ratio_eq dc_Ratio_eq pm_Ratio_eq an_Ratio_eq cd_Ratio_eq ct_Ratio_eq), sl_Ratio_eq⟩)
    (c_Ratio_eq : PySem.W.codeIn K cd_Ratio_eq "Ratio.__eq__" = true)
    (k_Ratio_eq : PySem.W.keepIn K (.ref f_Ratio_eq) = true)
    (a_Web_eq : PySem.W.findIn K (.ref C0) "__eq__" = some (some (.ref f_Web_eq)))
    (i_Web_eq : PySem.W.isFn K (.ref f_Web_eq) = true)
    (l_Web_eq : K.lookup f_Web_eq = some ⟨oc_Web_eq, od_Web_eq, .func (PySem.W.fnOf "__eq__" "Web.__eq__" (defArgs s_Web_eq) (defBody s_Web_eq) (defScope s_Web_eq) .none kV_Web_eq dc_Web_eq pm_Web_eq an_Web_eq cd_Web_eq ct_Web_eq), sl_Web_eq⟩)
    (c_Web_eq : PySem.W.codeIn K cd_Web_eq "Web.__eq__" = true)
    (k_Web_eq : PySem.W.keepIn K (.ref f_Web_eq) = true)
    (a_Web_len : PySem.W.findIn K (.ref C0) "__len__" = some (some (.ref f_Web_len)))
    (i_Web_len : PySem.W.isFn K (.ref f_Web_len) = true)
    (l_Web_len : K.lookup f_Web_len = some ⟨oc_Web_len, od_Web_len, .func (PySem.W.fnOf "__len__" "Web.__len__" (defArgs s_Web_len) (defBody s_Web_len) (defScope s_Web_len) .none kV_Web_len dc_Web_len pm_Web_len an_Web_len cd_Web_len ct_Web_len), sl_Web_len⟩)
    (c_Web_len : PySem.W.codeIn K cd_Web_len "Web.__len__" = true)
    (k_Web_len : PySem.W.keepIn K (.ref f_Web_len) = true)
    (a_law_box : PySem.W.nsIn K mainGlobals "_law_box" = some (some (.ref f_law_box)))
    (l_law_box : K.lookup f_law_box = some ⟨oc_law_box, od_law_box, .func (PySem.W.fnOf "_law_box" "_law_box" (defArgs s_law_box) (defBody s_law_box) (defScope s_law_box) .none kV_law_box dc_law_box pm_law_box an_law_box cd_law_box ct_law_box), sl_law_box⟩)
    (c_law_box : PySem.W.codeIn K cd_law_box "_law_box" = true)
    (k_law_box : PySem.W.keepIn K (.ref f_law_box) = true)
    (a_law_all_talks : PySem.W.nsIn K mainGlobals "_law_all_talks" = some (some (.ref f_law_all_talks)))
    (l_law_all_talks : K.lookup f_law_all_talks = some ⟨oc_law_all_talks, od_law_all_talks, .func (PySem.W.fnOf "_law_all_talks" "_law_all_talks" (defArgs s_law_all_talks) (defBody s_law_all_talks) (defScope s_law_all_talks) .none kV_law_all_talks dc_law_all_talks pm_law_all_talks an_law_all_talks cd_law_all_talks ct_law_all_talks), sl_law_all_talks⟩)
    (c_law_all_talks : PySem.W.codeIn K cd_law_all_talks "_law_all_talks" = true)
    (k_law_all_talks : PySem.W.keepIn K (.ref f_law_all_talks) = true)
    (a_law_talked : PySem.W.nsIn K mainGlobals "_law_talked" = some (some (.ref f_law_talked)))
    (l_law_talked : K.lookup f_law_talked = some ⟨oc_law_talked, od_law_talked, .func (PySem.W.fnOf "_law_talked" "_law_talked" (defArgs s_law_talked) (defBody s_law_talked) (defScope s_law_talked) .none kV_law_talked dc_law_talked pm_law_talked an_law_talked cd_law_talked ct_law_talked), sl_law_talked⟩)
    (c_law_talked : PySem.W.codeIn K cd_law_talked "_law_talked" = true)
    (k_law_talked : PySem.W.keepIn K (.ref f_law_talked) = true)
    (a_law_firsts : PySem.W.nsIn K mainGlobals "_law_firsts" = some (some (.ref f_law_firsts)))
    (l_law_firsts : K.lookup f_law_firsts = some ⟨oc_law_firsts, od_law_firsts, .func (PySem.W.fnOf "_law_firsts" "_law_firsts" (defArgs s_law_firsts) (defBody s_law_firsts) (defScope s_law_firsts) .none kV_law_firsts dc_law_firsts pm_law_firsts an_law_firsts cd_law_firsts ct_law_firsts), sl_law_firsts⟩)
    (c_law_firsts : PySem.W.codeIn K cd_law_firsts "_law_firsts" = true)
    (k_law_firsts : PySem.W.keepIn K (.ref f_law_firsts) = true)
    (a_law_take : PySem.W.nsIn K mainGlobals "_law_take" = some (some (.ref f_law_take)))
    (l_law_take : K.lookup f_law_take = some ⟨oc_law_take, od_law_take, .func (PySem.W.fnOf "_law_take" "_law_take" (defArgs s_law_take) (defBody s_law_take) (defScope s_law_take) .none kV_law_take dc_law_take pm_law_take an_law_take cd_law_take ct_law_take), sl_law_take⟩)
    (c_law_take : PySem.W.codeIn K cd_law_take "_law_take" = true)
    (k_law_take : PySem.W.keepIn K (.ref f_law_take) = true)
    (a_law_own_lots : PySem.W.nsIn K mainGlobals "_law_own_lots" = some (some (.ref f_law_own_lots)))
    (l_law_own_lots : K.lookup f_law_own_lots = some ⟨oc_law_own_lots, od_law_own_lots, .func (PySem.W.fnOf "_law_own_lots" "_law_own_lots" (defArgs s_law_own_lots) (defBody s_law_own_lots) (defScope s_law_own_lots) .none kV_law_own_lots dc_law_own_lots pm_law_own_lots an_law_own_lots cd_law_own_lots ct_law_own_lots), sl_law_own_lots⟩)
    (c_law_own_lots : PySem.W.codeIn K cd_law_own_lots "_law_own_lots" = true)
    (k_law_own_lots : PySem.W.keepIn K (.ref f_law_own_lots) = true)
    (a_is_integer : PySem.W.nsIn K mainGlobals "is_integer" = some (some (.ref f_is_integer)))
    (l_is_integer : K.lookup f_is_integer = some ⟨oc_is_integer, od_is_integer, .func (PySem.W.fnOf "is_integer" "is_integer" (defArgs s_is_integer) (defBody s_is_integer) (defScope s_is_integer) .none kV_is_integer dc_is_integer pm_is_integer an_is_integer cd_is_integer ct_is_integer), sl_is_integer⟩)
    (c_is_integer : PySem.W.codeIn K cd_is_integer "is_integer" = true)
    (k_is_integer : PySem.W.keepIn K (.ref f_is_integer) = true)
    (a_is_place : PySem.W.nsIn K mainGlobals "is_place" = some (some (.ref f_is_place)))
    (l_is_place : K.lookup f_is_place = some ⟨oc_is_place, od_is_place, .func (PySem.W.fnOf "is_place" "is_place" (defArgs s_is_place) (defBody s_is_place) (defScope s_is_place) .none kV_is_place dc_is_place pm_is_place an_is_place cd_is_place ct_is_place), sl_is_place⟩)
    (c_is_place : PySem.W.codeIn K cd_is_place "is_place" = true)
    (k_is_place : PySem.W.keepIn K (.ref f_is_place) = true)
    (a_is_talk : PySem.W.nsIn K mainGlobals "is_talk" = some (some (.ref f_is_talk)))
    (l_is_talk : K.lookup f_is_talk = some ⟨oc_is_talk, od_is_talk, .func (PySem.W.fnOf "is_talk" "is_talk" (defArgs s_is_talk) (defBody s_is_talk) (defScope s_is_talk) .none kV_is_talk dc_is_talk pm_is_talk an_is_talk cd_is_talk ct_is_talk), sl_is_talk⟩)
    (c_is_talk : PySem.W.codeIn K cd_is_talk "is_talk" = true)
    (k_is_talk : PySem.W.keepIn K (.ref f_is_talk) = true)
    (a_are_talks : PySem.W.nsIn K mainGlobals "are_talks" = some (some (.ref f_are_talks)))
    (l_are_talks : K.lookup f_are_talks = some ⟨oc_are_talks, od_are_talks, .func (PySem.W.fnOf "are_talks" "are_talks" (defArgs s_are_talks) (defBody s_are_talks) (defScope s_are_talks) .none kV_are_talks dc_are_talks pm_are_talks an_are_talks cd_are_talks ct_are_talks), sl_are_talks⟩)
    (c_are_talks : PySem.W.codeIn K cd_are_talks "are_talks" = true)
    (k_are_talks : PySem.W.keepIn K (.ref f_are_talks) = true)
    (a_is_many : PySem.W.nsIn K mainGlobals "is_many" = some (some (.ref f_is_many)))
    (l_is_many : K.lookup f_is_many = some ⟨oc_is_many, od_is_many, .func (PySem.W.fnOf "is_many" "is_many" (defArgs s_is_many) (defBody s_is_many) (defScope s_is_many) .none kV_is_many dc_is_many pm_is_many an_is_many cd_is_many ct_is_many), sl_is_many⟩)
    (c_is_many : PySem.W.codeIn K cd_is_many "is_many" = true)
    (k_is_many : PySem.W.keepIn K (.ref f_is_many) = true)
    (a_union_of : PySem.W.nsIn K mainGlobals "union_of" = some (some (.ref f_union_of)))
    (l_union_of : K.lookup f_union_of = some ⟨oc_union_of, od_union_of, .func (PySem.W.fnOf "union_of" "union_of" (defArgs s_union_of) (defBody s_union_of) (defScope s_union_of) .none kV_union_of dc_union_of pm_union_of an_union_of cd_union_of ct_union_of), sl_union_of⟩)
    (c_union_of : PySem.W.codeIn K cd_union_of "union_of" = true)
    (k_union_of : PySem.W.keepIn K (.ref f_union_of) = true)
    (a_talked : PySem.W.nsIn K mainGlobals "talked" = some (some (.ref f_talked)))
    (l_talked : K.lookup f_talked = some ⟨oc_talked, od_talked, .func (PySem.W.fnOf "talked" "talked" (defArgs s_talked) (defBody s_talked) (defScope s_talked) .none kV_talked dc_talked pm_talked an_talked cd_talked ct_talked), sl_talked⟩)
    (c_talked : PySem.W.codeIn K cd_talked "talked" = true)
    (k_talked : PySem.W.keepIn K (.ref f_talked) = true)
    (a_is_lot : PySem.W.nsIn K mainGlobals "is_lot" = some (some (.ref f_is_lot)))
    (l_is_lot : K.lookup f_is_lot = some ⟨oc_is_lot, od_is_lot, .func (PySem.W.fnOf "is_lot" "is_lot" (defArgs s_is_lot) (defBody s_is_lot) (defScope s_is_lot) .none kV_is_lot dc_is_lot pm_is_lot an_is_lot cd_is_lot ct_is_lot), sl_is_lot⟩)
    (c_is_lot : PySem.W.codeIn K cd_is_lot "is_lot" = true)
    (k_is_lot : PySem.W.keepIn K (.ref f_is_lot) = true)
    (a_are_lots : PySem.W.nsIn K mainGlobals "are_lots" = some (some (.ref f_are_lots)))
    (l_are_lots : K.lookup f_are_lots = some ⟨oc_are_lots, od_are_lots, .func (PySem.W.fnOf "are_lots" "are_lots" (defArgs s_are_lots) (defBody s_are_lots) (defScope s_are_lots) .none kV_are_lots dc_are_lots pm_are_lots an_are_lots cd_are_lots ct_are_lots), sl_are_lots⟩)
    (c_are_lots : PySem.W.codeIn K cd_are_lots "are_lots" = true)
    (k_are_lots : PySem.W.keepIn K (.ref f_are_lots) = true)
    (a_Web_init : PySem.W.findIn K (.ref C0) "__init__" = some (some (.ref f_Web_init)))
    (i_Web_init : PySem.W.isFn K (.ref f_Web_init) = true)
    (l_Web_init : K.lookup f_Web_init = some ⟨oc_Web_init, od_Web_init, .func (PySem.W.fnOf "__init__" "Web.__init__" (defArgs s_Web_init) (defBody s_Web_init) (defScope s_Web_init) .none kV_Web_init dc_Web_init pm_Web_init an_Web_init cd_Web_init ct_Web_init), sl_Web_init⟩)
    (c_Web_init : PySem.W.codeIn K cd_Web_init "Web.__init__" = true)
    (k_Web_init : PySem.W.keepIn K (.ref f_Web_init) = true)
    (mk0 : PySem.W.makesIn K C0 = true)
    (kc0 : PySem.W.keepIn K (.ref C0) = true)
    (a_after_talks : PySem.W.nsIn K mainGlobals "after_talks" = some (some (.ref f_after_talks)))
    (l_after_talks : K.lookup f_after_talks = some ⟨oc_after_talks, od_after_talks, .func (PySem.W.fnOf "after_talks" "after_talks" (defArgs s_after_talks) (defBody s_after_talks) (defScope s_after_talks) .none kV_after_talks dc_after_talks pm_after_talks an_after_talks cd_after_talks ct_after_talks), sl_after_talks⟩)
    (c_after_talks : PySem.W.codeIn K cd_after_talks "after_talks" = true)
    (k_after_talks : PySem.W.keepIn K (.ref f_after_talks) = true)
    (a_is_square : PySem.W.nsIn K mainGlobals "is_square" = some (some (.ref f_is_square)))
    (l_is_square : K.lookup f_is_square = some ⟨oc_is_square, od_is_square, .func (PySem.W.fnOf "is_square" "is_square" (defArgs s_is_square) (defBody s_is_square) (defScope s_is_square) .none kV_is_square dc_is_square pm_is_square an_is_square cd_is_square ct_is_square), sl_is_square⟩)
    (c_is_square : PySem.W.codeIn K cd_is_square "is_square" = true)
    (k_is_square : PySem.W.keepIn K (.ref f_is_square) = true)
    (a_need_own : PySem.W.nsIn K mainGlobals "need_own" = some (some (.ref f_need_own)))
    (l_need_own : K.lookup f_need_own = some ⟨oc_need_own, od_need_own, .func (PySem.W.fnOf "need_own" "need_own" (defArgs s_need_own) (defBody s_need_own) (defScope s_need_own) .none kV_need_own dc_need_own pm_need_own an_need_own cd_need_own ct_need_own), sl_need_own⟩)
    (c_need_own : PySem.W.codeIn K cd_need_own "need_own" = true)
    (k_need_own : PySem.W.keepIn K (.ref f_need_own) = true)
    (a_all_talks : PySem.W.nsIn K mainGlobals "all_talks" = some (some (.ref f_all_talks)))
    (l_all_talks : K.lookup f_all_talks = some ⟨oc_all_talks, od_all_talks, .func (PySem.W.fnOf "all_talks" "all_talks" (defArgs s_all_talks) (defBody s_all_talks) (defScope s_all_talks) .none kV_all_talks dc_all_talks pm_all_talks an_all_talks cd_all_talks ct_all_talks), sl_all_talks⟩)
    (c_all_talks : PySem.W.codeIn K cd_all_talks "all_talks" = true)
    (k_all_talks : PySem.W.keepIn K (.ref f_all_talks) = true)
    (a_shortest_talks : PySem.W.nsIn K mainGlobals "shortest_talks" = some (some (.ref f_shortest_talks)))
    (l_shortest_talks : K.lookup f_shortest_talks = some ⟨oc_shortest_talks, od_shortest_talks, .func (PySem.W.fnOf "shortest_talks" "shortest_talks" (defArgs s_shortest_talks) (defBody s_shortest_talks) (defScope s_shortest_talks) .none kV_shortest_talks dc_shortest_talks pm_shortest_talks an_shortest_talks cd_shortest_talks ct_shortest_talks), sl_shortest_talks⟩)
    (c_shortest_talks : PySem.W.codeIn K cd_shortest_talks "shortest_talks" = true)
    (k_shortest_talks : PySem.W.keepIn K (.ref f_shortest_talks) = true)
    (a_Web_links : PySem.W.findIn K (.ref C0) "links" = some (some (.ref f_Web_links)))
    (i_Web_links : PySem.W.isFn K (.ref f_Web_links) = true)
    (l_Web_links : K.lookup f_Web_links = some ⟨oc_Web_links, od_Web_links, .func (PySem.W.fnOf "links" "Web.links" (defArgs s_Web_links) (defBody s_Web_links) (defScope s_Web_links) .none kV_Web_links dc_Web_links pm_Web_links an_Web_links cd_Web_links ct_Web_links), sl_Web_links⟩)
    (c_Web_links : PySem.W.codeIn K cd_Web_links "Web.links" = true)
    (k_Web_links : PySem.W.keepIn K (.ref f_Web_links) = true)
    (a_enough_talks : PySem.W.nsIn K mainGlobals "enough_talks" = some (some (.ref f_enough_talks)))
    (l_enough_talks : K.lookup f_enough_talks = some ⟨oc_enough_talks, od_enough_talks, .func (PySem.W.fnOf "enough_talks" "enough_talks" (defArgs s_enough_talks) (defBody s_enough_talks) (defScope s_enough_talks) .none kV_enough_talks dc_enough_talks pm_enough_talks an_enough_talks cd_enough_talks ct_enough_talks), sl_enough_talks⟩)
    (c_enough_talks : PySem.W.codeIn K cd_enough_talks "enough_talks" = true)
    (k_enough_talks : PySem.W.keepIn K (.ref f_enough_talks) = true)
    (tc_enough_talks_ : cd_enough_talks = .ref tc_enough_talks)
    (tr_enough_talks_ : PySem.W.recIn K tc_enough_talks "code" = some tv_enough_talks)
    (tv_enough_talks_ : tv_enough_talks[11]? = some (.ref tp_enough_talks))
    (tn_enough_talks_ : PySem.W.typeIn K (.ref tp_enough_talks) = none)
    (tx_enough_talks_ : ((recsOf QQ).any fun e => e.name == "enough_talks") = true)
    (a_Web_lots : PySem.W.findIn K (.ref C0) "lots" = some (some (.ref f_Web_lots)))
    (i_Web_lots : PySem.W.isFn K (.ref f_Web_lots) = true)
    (l_Web_lots : K.lookup f_Web_lots = some ⟨oc_Web_lots, od_Web_lots, .func (PySem.W.fnOf "lots" "Web.lots" (defArgs s_Web_lots) (defBody s_Web_lots) (defScope s_Web_lots) .none kV_Web_lots dc_Web_lots pm_Web_lots an_Web_lots cd_Web_lots ct_Web_lots), sl_Web_lots⟩)
    (c_Web_lots : PySem.W.codeIn K cd_Web_lots "Web.lots" = true)
    (k_Web_lots : PySem.W.keepIn K (.ref f_Web_lots) = true)
    (a_fewest_talks : PySem.W.nsIn K mainGlobals "fewest_talks" = some (some (.ref f_fewest_talks)))
    (l_fewest_talks : K.lookup f_fewest_talks = some ⟨oc_fewest_talks, od_fewest_talks, .func (PySem.W.fnOf "fewest_talks" "fewest_talks" (defArgs s_fewest_talks) (defBody s_fewest_talks) (defScope s_fewest_talks) .none kV_fewest_talks dc_fewest_talks pm_fewest_talks an_fewest_talks cd_fewest_talks ct_fewest_talks), sl_fewest_talks⟩)
    (c_fewest_talks : PySem.W.codeIn K cd_fewest_talks "fewest_talks" = true)
    (k_fewest_talks : PySem.W.keepIn K (.ref f_fewest_talks) = true)
    (tc_fewest_talks_ : cd_fewest_talks = .ref tc_fewest_talks)
    (tr_fewest_talks_ : PySem.W.recIn K tc_fewest_talks "code" = some tv_fewest_talks)
    (tv_fewest_talks_ : tv_fewest_talks[11]? = some (.ref tp_fewest_talks))
    (tn_fewest_talks_ : PySem.W.typeIn K (.ref tp_fewest_talks) = none)
    (tx_fewest_talks_ : ((recsOf QQ).any fun e => e.name == "fewest_talks") = true)
    (a_law_caught : PySem.W.nsIn K mainGlobals "_law_caught" = some (some (.ref f_law_caught)))
    (l_law_caught : K.lookup f_law_caught = some ⟨oc_law_caught, od_law_caught, .func (PySem.W.fnOf "_law_caught" "_law_caught" (defArgs s_law_caught) (defBody s_law_caught) (defScope s_law_caught) .none kV_law_caught dc_law_caught pm_law_caught an_law_caught cd_law_caught ct_law_caught), sl_law_caught⟩)
    (c_law_caught : PySem.W.codeIn K cd_law_caught "_law_caught" = true)
    (k_law_caught : PySem.W.keepIn K (.ref f_law_caught) = true)
    (a_Ratio_init : PySem.W.findIn K (.ref C1) "__init__" = some (some (.ref f_Ratio_init)))
    (i_Ratio_init : PySem.W.isFn K (.ref f_Ratio_init) = true)
    (l_Ratio_init : K.lookup f_Ratio_init = some ⟨oc_Ratio_init, od_Ratio_init, .func (PySem.W.fnOf "__init__" "Ratio.__init__" (defArgs s_Ratio_init) (defBody s_Ratio_init) (defScope s_Ratio_init) (.ref TT_Ratio_init) kV_Ratio_init dc_Ratio_init pm_Ratio_init an_Ratio_init cd_Ratio_init ct_Ratio_init), sl_Ratio_init⟩)
    (c_Ratio_init : PySem.W.codeIn K cd_Ratio_init "Ratio.__init__" = true)
    (k_Ratio_init : PySem.W.keepIn K (.ref f_Ratio_init) = true)
    (lt_Ratio_init : K.lookup TT_Ratio_init = some ot_Ratio_init)
    (ho_Ratio_init : ot_Ratio_init.data = .seq #[.int 1 tt_Ratio_init] nn_Ratio_init)
    (mk1 : PySem.W.makesIn K C1 = true)
    (kc1 : PySem.W.keepIn K (.ref C1) = true)
    (a_law_refused_right : PySem.W.nsIn K mainGlobals "_law_refused_right" = some (some (.ref f_law_refused_right)))
    (l_law_refused_right : K.lookup f_law_refused_right = some ⟨oc_law_refused_right, od_law_refused_right, .func (PySem.W.fnOf "_law_refused_right" "_law_refused_right" (defArgs s_law_refused_right) (defBody s_law_refused_right) (defScope s_law_refused_right) .none kV_law_refused_right dc_law_refused_right pm_law_refused_right an_law_refused_right cd_law_refused_right ct_law_refused_right), sl_law_refused_right⟩)
    (c_law_refused_right : PySem.W.codeIn K cd_law_refused_right "_law_refused_right" = true)
    (k_law_refused_right : PySem.W.keepIn K (.ref f_law_refused_right) = true)
    (a_law_talks_right : PySem.W.nsIn K mainGlobals "_law_talks_right" = some (some (.ref f_law_talks_right)))
    (l_law_talks_right : K.lookup f_law_talks_right = some ⟨oc_law_talks_right, od_law_talks_right, .func (PySem.W.fnOf "_law_talks_right" "_law_talks_right" (defArgs s_law_talks_right) (defBody s_law_talks_right) (defScope s_law_talks_right) .none kV_law_talks_right dc_law_talks_right pm_law_talks_right an_law_talks_right cd_law_talks_right ct_law_talks_right), sl_law_talks_right⟩)
    (c_law_talks_right : PySem.W.codeIn K cd_law_talks_right "_law_talks_right" = true)
    (k_law_talks_right : PySem.W.keepIn K (.ref f_law_talks_right) = true)
    (a_law_webs_right : PySem.W.nsIn K mainGlobals "_law_webs_right" = some (some (.ref f_law_webs_right)))
    (l_law_webs_right : K.lookup f_law_webs_right = some ⟨oc_law_webs_right, od_law_webs_right, .func (PySem.W.fnOf "_law_webs_right" "_law_webs_right" (defArgs s_law_webs_right) (defBody s_law_webs_right) (defScope s_law_webs_right) .none kV_law_webs_right dc_law_webs_right pm_law_webs_right an_law_webs_right cd_law_webs_right ct_law_webs_right), sl_law_webs_right⟩)
    (c_law_webs_right : PySem.W.codeIn K cd_law_webs_right "_law_webs_right" = true)
    (k_law_webs_right : PySem.W.keepIn K (.ref f_law_webs_right) = true)
    (a_law : PySem.W.nsIn K mainGlobals "law" = some (some (.ref f_law)))
    (l_law : K.lookup f_law = some ⟨oc_law, od_law, .func (PySem.W.fnOf "law" "law" (defArgs s_law) (defBody s_law) (defScope s_law) .none kV_law dc_law pm_law an_law cd_law ct_law), sl_law⟩)
    (c_law : PySem.W.codeIn K cd_law "law" = true)
    (k_law : PySem.W.keepIn K (.ref f_law) = true)
    (nd_tp : ([tp_fewest_talks, tp_enough_talks] : List Addr).Nodup)
    : ∃ (fd : FuncData) (n : Nat) (T : Tb), T.K = K ∧ (∀ j, j < n → TabIs K h (T.tb (1000 + j)) (T.tb j)) ∧ ((List.range n).map T.tb).Nodup ∧ (∀ (s : Shared) (v : Value), BindsTo s fd ⟨[v], []⟩ [("_law_script", v)]) ∧ ∀ base : Heap, K.In base → base.Ns mainGlobals mg → (∀ j, j < n → TabA base mg T j) → FnOk l.prog w K mg base (L2.CX l.prog w) 12 fa fd ["_law_script"] (spLawT T n) := by
  have e := hfa.symm.trans (PySem.W.mg_of X_ G a_law)
  cases e
  have TX : ∀ o, Txt K mg ((tbOfT K [C0, C1, 0, 0, 0, 0, 0, 0, 0, 0, 0, 0, C12, C13, 0, 0, 0, 0, 0, 0, 0, 0, 0, 0, 0, 0, C26, C27, 0, 0, 0, 0, 0, 0, 0, 0, 0, C37, 0, 0, 0, 0, 0, 0, 0, 0, 0, 0, 0, 0, 0, 0, 0, 0, 0, 0, 0, 0, 0, C59] [(["seats", "heard_lots"] : List Str), (["_top", "_bottom"] : List Str), ([] : List Str), ([] : List Str), ([] : List Str), ([] : List Str), ([] : List Str), ([] : List Str), ([] : List Str), ([] : List Str), ([] : List Str), ([] : List Str), ([] : List Str), ([] : List Str), ([] : List Str), ([] : List Str), ([] : List Str), ([] : List Str), ([] : List Str), ([] : List Str), ([] : List Str), ([] : List Str), ([] : List Str), ([] : List Str), ([] : List Str), ([] : List Str), (["given"] : List Str), (["given"] : List Str), ([] : List Str), ([] : List Str), ([] : List Str), ([] : List Str), ([] : List Str), ([] : List Str), ([] : List Str), ([] : List Str), ([] : List Str), (["given"] : List Str), ([] : List Str), ([] : List Str), ([] : List Str), ([] : List Str), ([] : List Str), ([] : List Str), ([] : List Str), ([] : List Str), ([] : List Str), ([] : List Str), ([] : List Str), ([] : List Str), ([] : List Str), ([] : List Str), ([] : List Str), ([] : List Str), ([] : List Str), ([] : List Str), ([] : List Str), ([] : List Str), ([] : List Str), (["given"] : List Str)] [tp_fewest_talks, tp_enough_talks] [tc_fewest_talks, tc_enough_talks] lamN).wm o) := fun o => {
    hT := rfl
    hx := rfl
    g_TellError := PySem.W.mg_of X_ G a12
    g_ByZero := PySem.W.mg_of X_ G a13
    g_InvalidWeb := PySem.W.mg_of X_ G a37
    g_InvalidSeat := PySem.W.mg_of X_ G a27
    g_InvalidLot := PySem.W.mg_of X_ G a26
    g_InvalidTalks := PySem.W.mg_of X_ G a59
    g_Ratio := PySem.W.mg_of X_ G a1
    g_Web := PySem.W.mg_of X_ G a0
    g_MOST_SEATS := ⟨_, PySem.W.mg_of X_ G gi_MOST_SEATS⟩
    g_MOST_TALKS := ⟨_, PySem.W.mg_of X_ G gi_MOST_TALKS⟩
    n_abs := PySem.W.mg_none_of X_ G n_abs
    n_all := PySem.W.mg_none_of X_ G n_all
    n_any := PySem.W.mg_none_of X_ G n_any
    n_bool := PySem.W.mg_none_of X_ G n_bool
    n_enumerate := PySem.W.mg_none_of X_ G n_enumerate
    n_int := PySem.W.mg_none_of X_ G n_int
    n_isinstance := PySem.W.mg_none_of X_ G n_isinstance
    n_len := PySem.W.mg_none_of X_ G n_len
    n_list := PySem.W.mg_none_of X_ G n_list
    n_max := PySem.W.mg_none_of X_ G n_max
    n_min := PySem.W.mg_none_of X_ G n_min
    n_range := PySem.W.mg_none_of X_ G n_range
    n_set := PySem.W.mg_none_of X_ G n_set
    n_sorted := PySem.W.mg_none_of X_ G n_sorted
    n_sum := PySem.W.mg_none_of X_ G n_sum
    n_tuple := PySem.W.mg_none_of X_ G n_tuple
    n_zip := PySem.W.mg_none_of X_ G n_zip
    y_Ratio := ⟨pg1, hd1, po1, sa1⟩
    l_Ratio := rfl
    y_Web := ⟨pg0, hd0, po0, sa0⟩
    l_Web := rfl
    f__bottom := (.cons ⟨⟨pg1, hd1, po1, sa1⟩, no1__bottom, rfl, (show (["_top", "_bottom"] : List Str).Nodup from by decide +kernel), by show 2 < 900; decide⟩ .nil)
    f__top := (.cons ⟨⟨pg1, hd1, po1, sa1⟩, no1__top, rfl, (show (["_top", "_bottom"] : List Str).Nodup from by decide +kernel), by show 2 < 900; decide⟩ .nil)
    f_heard_lots := (.cons ⟨⟨pg0, hd0, po0, sa0⟩, no0_heard_lots, rfl, (show (["seats", "heard_lots"] : List Str).Nodup from by decide +kernel), by show 2 < 900; decide⟩ .nil)
    f_seats := (.cons ⟨⟨pg0, hd0, po0, sa0⟩, no0_seats, rfl, (show (["seats", "heard_lots"] : List Str).Nodup from by decide +kernel), by show 2 < 900; decide⟩ .nil)
    k_Ratio := kAll_ok (kit_own rfl xi1 xt1 st_NoneType_1) (kit_own rfl xi1 xt1 st_bool_1) (kit_own rfl xi1 xt1 st_int_1) (kit_own rfl xi1 xt1 st_str_1) (kit_own rfl xi1 xt1 st_list_1) (kit_own rfl xi1 xt1 st_tuple_1) (kit_own rfl xi1 xt1 st_dict_1) (more_obj ⟨⟨⟨pg1, hd1, po1, sa1⟩, ha1, hn1, ht1, hm1⟩, kit_self⟩ (more_obj ⟨⟨⟨pg0, hd0, po0, sa0⟩, ha0, hn0, ht0, hm0⟩, (kit_own sn_0_1 xi1 xt1 sc_0_1)⟩ no_obj))
    k_Web := kAll_ok (kit_own rfl xi0 xt0 st_NoneType_0) (kit_own rfl xi0 xt0 st_bool_0) (kit_own rfl xi0 xt0 st_int_0) (kit_own rfl xi0 xt0 st_str_0) (kit_own rfl xi0 xt0 st_list_0) (kit_own rfl xi0 xt0 st_tuple_0) (kit_own rfl xi0 xt0 st_dict_0) (more_obj ⟨⟨⟨pg1, hd1, po1, sa1⟩, ha1, hn1, ht1, hm1⟩, (kit_own sn_1_0 xi0 xt0 sc_1_0)⟩ (more_obj ⟨⟨⟨pg0, hd0, po0, sa0⟩, ha0, hn0, ht0, hm0⟩, kit_self⟩ no_obj))
    k_bool := kAll_ok rfl rfl rfl rfl rfl rfl rfl (more_obj ⟨⟨⟨pg1, hd1, po1, sa1⟩, ha1, hn1, ht1, hm1⟩, (kit_typ (by decide +kernel) so_1_bool)⟩ (more_obj ⟨⟨⟨pg0, hd0, po0, sa0⟩, ha0, hn0, ht0, hm0⟩, (kit_typ (by decide +kernel) so_0_bool)⟩ no_obj))
    k_int := kAll_ok rfl rfl rfl rfl rfl rfl rfl (more_obj ⟨⟨⟨pg1, hd1, po1, sa1⟩, ha1, hn1, ht1, hm1⟩, (kit_typ (by decide +kernel) so_1_int)⟩ (more_obj ⟨⟨⟨pg0, hd0, po0, sa0⟩, ha0, hn0, ht0, hm0⟩, (kit_typ (by decide +kernel) so_0_int)⟩ no_obj))
    k_int_Ratio := kAll_ok (kitAny2 (x := false) (y := false) rfl (kit_own rfl xi1 xt1 st_NoneType_1)) (kitAny2 (x := true) (y := false) rfl (kit_own rfl xi1 xt1 st_bool_1)) (kitAny2 (x := true) (y := false) rfl (kit_own rfl xi1 xt1 st_int_1)) (kitAny2 (x := false) (y := false) rfl (kit_own rfl xi1 xt1 st_str_1)) (kitAny2 (x := false) (y := false) rfl (kit_own rfl xi1 xt1 st_list_1)) (kitAny2 (x := false) (y := false) rfl (kit_own rfl xi1 xt1 st_tuple_1)) (kitAny2 (x := false) (y := false) rfl (kit_own rfl xi1 xt1 st_dict_1)) (more_obj ⟨⟨⟨pg1, hd1, po1, sa1⟩, ha1, hn1, ht1, hm1⟩, (kitAny2 (x := false) (y := true) (kit_typ (by decide +kernel) so_1_int) kit_self)⟩ (more_obj ⟨⟨⟨pg0, hd0, po0, sa0⟩, ha0, hn0, ht0, hm0⟩, (kitAny2 (x := false) (y := false) (kit_typ (by decide +kernel) so_0_int) (kit_own sn_0_1 xi1 xt1 sc_0_1))⟩ no_obj))
    k_list_tuple := kAll_ok (kitAny2 (x := false) (y := false) rfl rfl) (kitAny2 (x := false) (y := false) rfl rfl) (kitAny2 (x := false) (y := false) rfl rfl) (kitAny2 (x := false) (y := false) rfl rfl) (kitAny2 (x := true) (y := false) rfl rfl) (kitAny2 (x := false) (y := true) rfl rfl) (kitAny2 (x := false) (y := false) rfl rfl) (more_obj ⟨⟨⟨pg1, hd1, po1, sa1⟩, ha1, hn1, ht1, hm1⟩, (kitAny2 (x := false) (y := false) (kit_typ (by decide +kernel) so_1_list) (kit_typ (by decide +kernel) so_1_tuple))⟩ (more_obj ⟨⟨⟨pg0, hd0, po0, sa0⟩, ha0, hn0, ht0, hm0⟩, (kitAny2 (x := false) (y := false) (kit_typ (by decide +kernel) so_0_list) (kit_typ (by decide +kernel) so_0_tuple))⟩ no_obj))
    k_tuple := kAll_ok rfl rfl rfl rfl rfl rfl rfl (more_obj ⟨⟨⟨pg1, hd1, po1, sa1⟩, ha1, hn1, ht1, hm1⟩, (kit_typ (by decide +kernel) so_1_tuple)⟩ (more_obj ⟨⟨⟨pg0, hd0, po0, sa0⟩, ha0, hn0, ht0, hm0⟩, (kit_typ (by decide +kernel) so_0_tuple)⟩ no_obj))
    nf_Ratio := kAll_ok (congrArg some nf1_NoneType) (congrArg some nf1_bool) (congrArg some nf1_int) (congrArg some nf1_str) (congrArg some nf1_list) (congrArg some nf1_tuple) (congrArg some nf1_dict) (more_obj ⟨⟨⟨pg1, hd1, po1, sa1⟩, ha1, hn1, ht1, hm1⟩, (congrArg some nf1_Ratio)⟩ (more_obj ⟨⟨⟨pg0, hd0, po0, sa0⟩, ha0, hn0, ht0, hm0⟩, (congrArg some nf1_Web)⟩ no_obj))
    nf_Web := kAll_ok (congrArg some nf0_NoneType) (congrArg some nf0_bool) (congrArg some nf0_int) (congrArg some nf0_str) (congrArg some nf0_list) (congrArg some nf0_tuple) (congrArg some nf0_dict) (more_obj ⟨⟨⟨pg1, hd1, po1, sa1⟩, ha1, hn1, ht1, hm1⟩, (congrArg some nf0_Ratio)⟩ (more_obj ⟨⟨⟨pg0, hd0, po0, sa0⟩, ha0, hn0, ht0, hm0⟩, (congrArg some nf0_Web)⟩ no_obj))
    e_ByZero := fun X hK hm => ⟨by rw [hK]; exact ei13, by rw [hm]; exact PySem.W.mg_of X_ G a13, by rw [hK]; exact ek13, raises_own (by rw [hK]; exact er13) (by rw [hK]; exact et13)⟩
    c_InvalidSeat := ⟨exm_self xb27 xi27 xt27 xs27, trivial⟩
    n_InvalidSeat := ⟨PySem.W.exm_ref xb27 xh27 xt27 cx59_27, ⟨PySem.W.exm_ref xb27 xh27 xt27 cx37_27, ⟨PySem.W.exm_ref xb27 xh27 xt27 cx13_27, ⟨PySem.W.exm_ref xb27 xh27 xt27 cx26_27, trivial⟩⟩⟩⟩
    c_InvalidTalks := ⟨exm_self xb59 xi59 xt59 xs59, trivial⟩
    n_InvalidTalks := ⟨PySem.W.exm_ref xb59 xh59 xt59 cx27_59, ⟨PySem.W.exm_ref xb59 xh59 xt59 cx37_59, ⟨PySem.W.exm_ref xb59 xh59 xt59 cx13_59, ⟨PySem.W.exm_ref xb59 xh59 xt59 cx26_59, trivial⟩⟩⟩⟩
    c_InvalidWeb := ⟨exm_self xb37 xi37 xt37 xs37, trivial⟩
    n_InvalidWeb := ⟨PySem.W.exm_ref xb37 xh37 xt37 cx27_37, ⟨PySem.W.exm_ref xb37 xh37 xt37 cx59_37, ⟨PySem.W.exm_ref xb37 xh37 xt37 cx13_37, ⟨PySem.W.exm_ref xb37 xh37 xt37 cx26_37, trivial⟩⟩⟩⟩
    le := ⟨le1, le2, le3⟩
    xi_InvalidWeb := ⟨_, _, fun_mk (st := s_InvalidWeb_init) l_x37 c_x37 k_x37, iC_x37, tI_x37, (Fun.binds (fun_mk (st := s_InvalidWeb_init) l_x37 c_x37 k_x37) (ps := ["self", "given"]) fun _ _ _ _ _ _ us hl => match us, hl with | [_, _], _ => rfl)⟩
    xo_InvalidWeb := ⟨⟨_, _, _, _, _, _, _, _, _, _, _, _, _, _, _, lo_x37, rv_x37⟩, sa37, xb37, xt37, ek37⟩
    xn_InvalidWeb := xn37_given
    xl_InvalidWeb := rfl
    xi_InvalidSeat := ⟨_, _, fun_mk (st := s_InvalidSeat_init) l_x27 c_x27 k_x27, iC_x27, tI_x27, (Fun.binds (fun_mk (st := s_InvalidSeat_init) l_x27 c_x27 k_x27) (ps := ["self", "given"]) fun _ _ _ _ _ _ us hl => match us, hl with | [_, _], _ => rfl)⟩
    xo_InvalidSeat := ⟨⟨_, _, _, _, _, _, _, _, _, _, _, _, _, _, _, lo_x27, rv_x27⟩, sa27, xb27, xt27, ek27⟩
    xn_InvalidSeat := xn27_given
    xl_InvalidSeat := rfl
    xi_InvalidLot := ⟨_, _, fun_mk (st := s_InvalidLot_init) l_x26 c_x26 k_x26, iC_x26, tI_x26, (Fun.binds (fun_mk (st := s_InvalidLot_init) l_x26 c_x26 k_x26) (ps := ["self", "given"]) fun _ _ _ _ _ _ us hl => match us, hl with | [_, _], _ => rfl)⟩
    xo_InvalidLot := ⟨⟨_, _, _, _, _, _, _, _, _, _, _, _, _, _, _, lo_x26, rv_x26⟩, sa26, xb26, xt26, ek26⟩
    xn_InvalidLot := xn26_given
    xl_InvalidLot := rfl
    xi_InvalidTalks := ⟨_, _, fun_mk (st := s_InvalidTalks_init) l_x59 c_x59 k_x59, iC_x59, tI_x59, (Fun.binds (fun_mk (st := s_InvalidTalks_init) l_x59 c_x59 k_x59) (ps := ["self", "given"]) fun _ _ _ _ _ _ us hl => match us, hl with | [_, _], _ => rfl)⟩
    xo_InvalidTalks := ⟨⟨_, _, _, _, _, _, _, _, _, _, _, _, _, _, _, lo_x59, rv_x59⟩, sa59, xb59, xt59, ek59⟩
    xn_InvalidTalks := xn59_given
    xl_InvalidTalks := rfl
    xf_given := (.cons ⟨⟨ga37, gg37, xb37, xh37⟩, xn37_given, rfl, (show (["given"] : List Str).Nodup from by decide +kernel)⟩ (.cons ⟨⟨ga27, gg27, xb27, xh27⟩, xn27_given, rfl, (show (["given"] : List Str).Nodup from by decide +kernel)⟩ (.cons ⟨⟨ga26, gg26, xb26, xh26⟩, xn26_given, rfl, (show (["given"] : List Str).Nodup from by decide +kernel)⟩ (.cons ⟨⟨ga59, gg59, xb59, xh59⟩, xn59_given, rfl, (show (["given"] : List Str).Nodup from by decide +kernel)⟩ .nil))))
    gcd := PySem.W.mg_of X_ G gcd
    p_Ratio_bottom := fun X hK hm => by subst hK; subst hm; exact ⟨⟨pg1, hd1, po1, sa1⟩, no1__bottom, rfl, (show (["_top", "_bottom"] : List Str).Nodup from by decide +kernel), _, _, _, ⟨p1_p1_bottom, p2_p1_bottom, p3_p1_bottom, _, p4_p1_bottom⟩, fn_getter (N := ["self"]) l_p1_bottom c_p1_bottom ⟨rfl, rfl, rfl, by decide +kernel, rfl, by decide +kernel, by decide +kernel⟩ rfl rfl ⟨pg1, hd1, po1, sa1⟩ no1__bottom, (Fun.binds (fun_mk (st := s_Ratio_bottom) l_p1_bottom c_p1_bottom k_p1_bottom) (ps := ["self"]) fun _ _ _ _ _ _ us hl => match us, hl with | [_], _ => rfl)⟩
    p_Ratio_top := fun X hK hm => by subst hK; subst hm; exact ⟨⟨pg1, hd1, po1, sa1⟩, no1__top, rfl, (show (["_top", "_bottom"] : List Str).Nodup from by decide +kernel), _, _, _, ⟨p1_p1_top, p2_p1_top, p3_p1_top, _, p4_p1_top⟩, fn_getter (N := ["self"]) l_p1_top c_p1_top ⟨rfl, rfl, rfl, by decide +kernel, rfl, by decide +kernel, by decide +kernel⟩ rfl rfl ⟨pg1, hd1, po1, sa1⟩ no1__top, (Fun.binds (fun_mk (st := s_Ratio_top) l_p1_top c_p1_top k_p1_top) (ps := ["self"]) fun _ _ _ _ _ _ us hl => match us, hl with | [_], _ => rfl)⟩
    d_is_number := ⟨_, _, fun_mk (st := s_is_number) l_is_number c_is_number k_is_number, PySem.W.mg_of X_ G a_is_number, k_is_number, (Fun.binds (fun_mk (st := s_is_number) l_is_number c_is_number k_is_number) (ps := ["value"]) fun _ _ _ _ _ _ us hl => match us, hl with | [_], _ => rfl)⟩
    d_parts_of := ⟨_, _, fun_mk (st := s_parts_of) l_parts_of c_parts_of k_parts_of, PySem.W.mg_of X_ G a_parts_of, k_parts_of, (Fun.binds (fun_mk (st := s_parts_of) l_parts_of c_parts_of k_parts_of) (ps := ["number"]) fun _ _ _ _ _ _ us hl => match us, hl with | [_], _ => rfl)⟩
    d_Ratio_eq := ⟨_, _, fun_mk (st := s_Ratio_eq) l_Ratio_eq c_Ratio_eq k_Ratio_eq, ⟨a_Ratio_eq, i_Ratio_eq, k_Ratio_eq⟩, (Fun.binds (fun_mk (st := s_Ratio_eq) l_Ratio_eq c_Ratio_eq k_Ratio_eq) (ps := ["self", "other"]) fun _ _ _ _ _ _ us hl => match us, hl with | [_, _], _ => rfl)⟩
    m_Ratio_eq := (show ("__eq__" : Str) ∉ (["_top", "_bottom"] : List Str) from by decide +kernel)
    d_Web_eq := ⟨_, _, fun_mk (st := s_Web_eq) l_Web_eq c_Web_eq k_Web_eq, ⟨a_Web_eq, i_Web_eq, k_Web_eq⟩, (Fun.binds (fun_mk (st := s_Web_eq) l_Web_eq c_Web_eq k_Web_eq) (ps := ["self", "other"]) fun _ _ _ _ _ _ us hl => match us, hl with | [_, _], _ => rfl)⟩
    m_Web_eq := (show ("__eq__" : Str) ∉ (["seats", "heard_lots"] : List Str) from by decide +kernel)
    d_Web_len := ⟨_, _, fun_mk (st := s_Web_len) l_Web_len c_Web_len k_Web_len, ⟨a_Web_len, i_Web_len, k_Web_len⟩, (Fun.binds (fun_mk (st := s_Web_len) l_Web_len c_Web_len k_Web_len) (ps := ["self"]) fun _ _ _ _ _ _ us hl => match us, hl with | [_], _ => rfl)⟩
    m_Web_len := (show ("__len__" : Str) ∉ (["seats", "heard_lots"] : List Str) from by decide +kernel)
    d_law_box := ⟨_, _, fun_mk (st := s_law_box) l_law_box c_law_box k_law_box, PySem.W.mg_of X_ G a_law_box, k_law_box, (Fun.binds (fun_mk (st := s_law_box) l_law_box c_law_box k_law_box) (ps := ["_law_script", "_law_k"]) fun _ _ _ _ _ _ us hl => match us, hl with | [_, _], _ => rfl)⟩
    d_law_all_talks := ⟨_, _, fun_mk (st := s_law_all_talks) l_law_all_talks c_law_all_talks k_law_all_talks, PySem.W.mg_of X_ G a_law_all_talks, k_law_all_talks, (Fun.binds (fun_mk (st := s_law_all_talks) l_law_all_talks c_law_all_talks k_law_all_talks) (ps := ["_law_seats1"]) fun _ _ _ _ _ _ us hl => match us, hl with | [_], _ => rfl)⟩
    d_law_talked := ⟨_, _, fun_mk (st := s_law_talked) l_law_talked c_law_talked k_law_talked, PySem.W.mg_of X_ G a_law_talked, k_law_talked, (Fun.binds (fun_mk (st := s_law_talked) l_law_talked c_law_talked k_law_talked) (ps := ["_law_lots1", "_law_talk"]) fun _ _ _ _ _ _ us hl => match us, hl with | [_, _], _ => rfl)⟩
    d_law_firsts := ⟨_, _, fun_mk (st := s_law_firsts) l_law_firsts c_law_firsts k_law_firsts, PySem.W.mg_of X_ G a_law_firsts, k_law_firsts, (Fun.binds (fun_mk (st := s_law_firsts) l_law_firsts c_law_firsts k_law_firsts) (ps := ["_law_seats1"]) fun _ _ _ _ _ _ us hl => match us, hl with | [_], _ => rfl)⟩
    d_law_take := ⟨_, _, fun_mk (st := s_law_take) l_law_take c_law_take k_law_take, PySem.W.mg_of X_ G a_law_take, k_law_take, (Fun.binds (fun_mk (st := s_law_take) l_law_take c_law_take k_law_take) (ps := ["_law_box_here", "_law_many"]) fun _ _ _ _ _ _ us hl => match us, hl with | [_, _], _ => rfl)⟩
    d_law_own_lots := ⟨_, _, fun_mk (st := s_law_own_lots) l_law_own_lots c_law_own_lots k_law_own_lots, PySem.W.mg_of X_ G a_law_own_lots, k_law_own_lots, (Fun.binds (fun_mk (st := s_law_own_lots) l_law_own_lots c_law_own_lots k_law_own_lots) (ps := ["_law_box_here", "_law_seats1"]) fun _ _ _ _ _ _ us hl => match us, hl with | [_, _], _ => rfl)⟩
    d_is_integer := ⟨_, _, fun_mk (st := s_is_integer) l_is_integer c_is_integer k_is_integer, PySem.W.mg_of X_ G a_is_integer, k_is_integer, (Fun.binds (fun_mk (st := s_is_integer) l_is_integer c_is_integer k_is_integer) (ps := ["value"]) fun _ _ _ _ _ _ us hl => match us, hl with | [_], _ => rfl)⟩
    d_is_place := ⟨_, _, fun_mk (st := s_is_place) l_is_place c_is_place k_is_place, PySem.W.mg_of X_ G a_is_place, k_is_place, (Fun.binds (fun_mk (st := s_is_place) l_is_place c_is_place k_is_place) (ps := ["value", "many"]) fun _ _ _ _ _ _ us hl => match us, hl with | [_, _], _ => rfl)⟩
    d_is_talk := ⟨_, _, fun_mk (st := s_is_talk) l_is_talk c_is_talk k_is_talk, PySem.W.mg_of X_ G a_is_talk, k_is_talk, (Fun.binds (fun_mk (st := s_is_talk) l_is_talk c_is_talk k_is_talk) (ps := ["value", "seats"]) fun _ _ _ _ _ _ us hl => match us, hl with | [_, _], _ => rfl)⟩
    d_are_talks := ⟨_, _, fun_mk (st := s_are_talks) l_are_talks c_are_talks k_are_talks, PySem.W.mg_of X_ G a_are_talks, k_are_talks, (Fun.binds (fun_mk (st := s_are_talks) l_are_talks c_are_talks k_are_talks) (ps := ["value", "seats"]) fun _ _ _ _ _ _ us hl => match us, hl with | [_, _], _ => rfl)⟩
    d_is_many := ⟨_, _, fun_mk (st := s_is_many) l_is_many c_is_many k_is_many, PySem.W.mg_of X_ G a_is_many, k_is_many, (Fun.binds (fun_mk (st := s_is_many) l_is_many c_is_many k_is_many) (ps := ["value"]) fun _ _ _ _ _ _ us hl => match us, hl with | [_], _ => rfl)⟩
    d_union_of := ⟨_, _, fun_mk (st := s_union_of) l_union_of c_union_of k_union_of, PySem.W.mg_of X_ G a_union_of, k_union_of, (Fun.binds (fun_mk (st := s_union_of) l_union_of c_union_of k_union_of) (ps := ["lots"]) fun _ _ _ _ _ _ us hl => match us, hl with | [_], _ => rfl)⟩
    d_talked := ⟨_, _, fun_mk (st := s_talked) l_talked c_talked k_talked, PySem.W.mg_of X_ G a_talked, k_talked, (Fun.binds (fun_mk (st := s_talked) l_talked c_talked k_talked) (ps := ["lots", "talk"]) fun _ _ _ _ _ _ us hl => match us, hl with | [_, _], _ => rfl)⟩
    d_is_lot := ⟨_, _, fun_mk (st := s_is_lot) l_is_lot c_is_lot k_is_lot, PySem.W.mg_of X_ G a_is_lot, k_is_lot, (Fun.binds (fun_mk (st := s_is_lot) l_is_lot c_is_lot k_is_lot) (ps := ["value", "seats"]) fun _ _ _ _ _ _ us hl => match us, hl with | [_, _], _ => rfl)⟩
    d_are_lots := ⟨_, _, fun_mk (st := s_are_lots) l_are_lots c_are_lots k_are_lots, PySem.W.mg_of X_ G a_are_lots, k_are_lots, (Fun.binds (fun_mk (st := s_are_lots) l_are_lots c_are_lots k_are_lots) (ps := ["value", "seats"]) fun _ _ _ _ _ _ us hl => match us, hl with | [_, _], _ => rfl)⟩
    d_Web_init := ⟨_, _, fun_mk (st := s_Web_init) l_Web_init c_Web_init k_Web_init, ⟨mk0, a_Web_init, i_Web_init, kc0⟩, (Fun.binds (fun_mk (st := s_Web_init) l_Web_init c_Web_init k_Web_init) (ps := ["self", "seats", "lots"]) fun _ _ _ _ _ _ us hl => match us, hl with | [_, _, _], _ => rfl)⟩
    d_after_talks := ⟨_, _, fun_mk (st := s_after_talks) l_after_talks c_after_talks k_after_talks, PySem.W.mg_of X_ G a_after_talks, k_after_talks, (Fun.binds (fun_mk (st := s_after_talks) l_after_talks c_after_talks k_after_talks) (ps := ["seats", "talks"]) fun _ _ _ _ _ _ us hl => match us, hl with | [_, _], _ => rfl)⟩
    d_is_square := ⟨_, _, fun_mk (st := s_is_square) l_is_square c_is_square k_is_square, PySem.W.mg_of X_ G a_is_square, k_is_square, (Fun.binds (fun_mk (st := s_is_square) l_is_square c_is_square k_is_square) (ps := ["value"]) fun _ _ _ _ _ _ us hl => match us, hl with | [_], _ => rfl)⟩
    d_need_own := ⟨_, _, fun_mk (st := s_need_own) l_need_own c_need_own k_need_own, PySem.W.mg_of X_ G a_need_own, k_need_own, (Fun.binds (fun_mk (st := s_need_own) l_need_own c_need_own k_need_own) (ps := ["web"]) fun _ _ _ _ _ _ us hl => match us, hl with | [_], _ => rfl)⟩
    d_all_talks := ⟨_, _, fun_mk (st := s_all_talks) l_all_talks c_all_talks k_all_talks, PySem.W.mg_of X_ G a_all_talks, k_all_talks, (Fun.binds (fun_mk (st := s_all_talks) l_all_talks c_all_talks k_all_talks) (ps := ["seats"]) fun _ _ _ _ _ _ us hl => match us, hl with | [_], _ => rfl)⟩
    d_shortest_talks := ⟨_, _, fun_mk (st := s_shortest_talks) l_shortest_talks c_shortest_talks k_shortest_talks, PySem.W.mg_of X_ G a_shortest_talks, k_shortest_talks, (Fun.binds (fun_mk (st := s_shortest_talks) l_shortest_talks c_shortest_talks k_shortest_talks) (ps := ["seats", "is_goal"]) fun _ _ _ _ _ _ us hl => match us, hl with | [_, _], _ => rfl)⟩
    d_Web_links := ⟨_, _, fun_mk (st := s_Web_links) l_Web_links c_Web_links k_Web_links, ⟨a_Web_links, i_Web_links, k_Web_links⟩, (Fun.binds (fun_mk (st := s_Web_links) l_Web_links c_Web_links k_Web_links) (ps := ["self"]) fun _ _ _ _ _ _ us hl => match us, hl with | [_], _ => rfl)⟩
    m_Web_links := (show ("links" : Str) ∉ (["seats", "heard_lots"] : List Str) from by decide +kernel)
    d_enough_talks := ⟨_, _, fun_mk (st := s_enough_talks) l_enough_talks c_enough_talks k_enough_talks, PySem.W.mg_of X_ G a_enough_talks, k_enough_talks, (Fun.binds (fun_mk (st := s_enough_talks) l_enough_talks c_enough_talks k_enough_talks) (ps := ["web"]) fun _ _ _ _ _ _ us hl => match us, hl with | [_], _ => rfl), tc_enough_talks_⟩
    d_Web_lots := ⟨_, _, fun_mk (st := s_Web_lots) l_Web_lots c_Web_lots k_Web_lots, ⟨a_Web_lots, i_Web_lots, k_Web_lots⟩, (Fun.binds (fun_mk (st := s_Web_lots) l_Web_lots c_Web_lots k_Web_lots) (ps := ["self"]) fun _ _ _ _ _ _ us hl => match us, hl with | [_], _ => rfl)⟩
    m_Web_lots := (show ("lots" : Str) ∉ (["seats", "heard_lots"] : List Str) from by decide +kernel)
    d_fewest_talks := ⟨_, _, fun_mk (st := s_fewest_talks) l_fewest_talks c_fewest_talks k_fewest_talks, PySem.W.mg_of X_ G a_fewest_talks, k_fewest_talks, (Fun.binds (fun_mk (st := s_fewest_talks) l_fewest_talks c_fewest_talks k_fewest_talks) (ps := ["web"]) fun _ _ _ _ _ _ us hl => match us, hl with | [_], _ => rfl), tc_fewest_talks_⟩
    d_law_caught := ⟨_, _, fun_mk (st := s_law_caught) l_law_caught c_law_caught k_law_caught, PySem.W.mg_of X_ G a_law_caught, k_law_caught, (Fun.binds (fun_mk (st := s_law_caught) l_law_caught c_law_caught k_law_caught) (ps := ["_law_way", "_law_one", "_law_other"]) fun _ _ _ _ _ _ us hl => match us, hl with | [_, _, _], _ => rfl)⟩
    d_Ratio_init := idefD_mk (st := s_Ratio_init) l_Ratio_init c_Ratio_init k_Ratio_init lt_Ratio_init ho_Ratio_init ⟨mk1, a_Ratio_init, i_Ratio_init, kc1⟩ (fun _ _ _ _ _ _ _ us its hu hi => match us, its, hu, hi with | [_, _, _], [_], _, _ => ⟨_, rfl, rfl⟩) (fun _ _ _ _ _ _ _ us its hu hi => match us, its, hu, hi with | [_, _], [_], _, _ => ⟨_, rfl, rfl⟩) (by decide)
    d_law_refused_right := ⟨_, _, fun_mk (st := s_law_refused_right) l_law_refused_right c_law_refused_right k_law_refused_right, PySem.W.mg_of X_ G a_law_refused_right, k_law_refused_right, (Fun.binds (fun_mk (st := s_law_refused_right) l_law_refused_right c_law_refused_right k_law_refused_right) (ps := ["_law_box_here", "_law_seats1", "_law_lots1"]) fun _ _ _ _ _ _ us hl => match us, hl with | [_, _, _], _ => rfl)⟩
    d_law_talks_right := ⟨_, _, fun_mk (st := s_law_talks_right) l_law_talks_right c_law_talks_right k_law_talks_right, PySem.W.mg_of X_ G a_law_talks_right, k_law_talks_right, (Fun.binds (fun_mk (st := s_law_talks_right) l_law_talks_right c_law_talks_right k_law_talks_right) (ps := ["_law_box_here", "_law_seats1"]) fun _ _ _ _ _ _ us hl => match us, hl with | [_, _], _ => rfl)⟩
    d_law_webs_right := ⟨_, _, fun_mk (st := s_law_webs_right) l_law_webs_right c_law_webs_right k_law_webs_right, PySem.W.mg_of X_ G a_law_webs_right, k_law_webs_right, (Fun.binds (fun_mk (st := s_law_webs_right) l_law_webs_right c_law_webs_right k_law_webs_right) (ps := ["_law_seats1", "_law_lots1", "_law_firsts_here"]) fun _ _ _ _ _ _ us hl => match us, hl with | [_, _, _], _ => rfl)⟩
  }
  exact ⟨PySem.W.fnOf "law" "law" (defArgs s_law) (defBody s_law) (defScope s_law) .none kV_law dc_law pm_law an_law cd_law ct_law, 2, tbOfT K [C0, C1, 0, 0, 0, 0, 0, 0, 0, 0, 0, 0, C12, C13, 0, 0, 0, 0, 0, 0, 0, 0, 0, 0, 0, 0, C26, C27, 0, 0, 0, 0, 0, 0, 0, 0, 0, C37, 0, 0, 0, 0, 0, 0, 0, 0, 0, 0, 0, 0, 0, 0, 0, 0, 0, 0, 0, 0, 0, C59] [(["seats", "heard_lots"] : List Str), (["_top", "_bottom"] : List Str), ([] : List Str), ([] : List Str), ([] : List Str), ([] : List Str), ([] : List Str), ([] : List Str), ([] : List Str), ([] : List Str), ([] : List Str), ([] : List Str), ([] : List Str), ([] : List Str), ([] : List Str), ([] : List Str), ([] : List Str), ([] : List Str), ([] : List Str), ([] : List Str), ([] : List Str), ([] : List Str), ([] : List Str), ([] : List Str), ([] : List Str), ([] : List Str), (["given"] : List Str), (["given"] : List Str), ([] : List Str), ([] : List Str), ([] : List Str), ([] : List Str), ([] : List Str), ([] : List Str), ([] : List Str), ([] : List Str), ([] : List Str), (["given"] : List Str), ([] : List Str), ([] : List Str), ([] : List Str), ([] : List Str), ([] : List Str), ([] : List Str), ([] : List Str), ([] : List Str), ([] : List Str), ([] : List Str), ([] : List Str), ([] : List Str), ([] : List Str), ([] : List Str), ([] : List Str), ([] : List Str), ([] : List Str), ([] : List Str), ([] : List Str), ([] : List Str), ([] : List Str), (["given"] : List Str)] [tp_fewest_talks, tp_enough_talks] [tc_fewest_talks, tc_enough_talks] lamN, rfl, fun j hj => match j, hj with | 0, _ => tab_is X_ TS tx_fewest_talks_ (PySem.W.mg_of X_ G a_fewest_talks) l_fewest_talks tc_fewest_talks_ tr_fewest_talks_ tv_fewest_talks_ tn_fewest_talks_ | 1, _ => tab_is X_ TS tx_enough_talks_ (PySem.W.mg_of X_ G a_enough_talks) l_enough_talks tc_enough_talks_ tr_enough_talks_ tv_enough_talks_ tn_enough_talks_ | j + 2, hj => absurd (show j + 2 < 2 from hj) (by omega), nd_tp, fun s v => .of_eq rfl, fun base _ _ TB => law_endT law_true (ok_law ⟨⟨TX none, TB, fun _ _ => rfl⟩, fun o => ⟨TX o, TB, fun _ _ => rfl⟩⟩ (fun_mk (st := s_law) l_law c_law k_law))⟩
end Dn
open PySem PySem.W PyProof.Rows
set_option maxRecDepth 100000 in
set_option maxHeartbeats 0 in
theorem PySem.Challenge.cw_tellsmore_k21_talks_holds : PySem.Challenge.rw_tellsmore_k21_talks.Holds := by
  w_on; o_law; k_head; (case hw => w_witness2)
  k_fill
  refine Dn.walkDT (k := 12) (x := "_law_script") (l := PySem.Challenge.rw_tellsmore_k21_talks) (by decide) rfl rfl (fun w h Y => PySem.W.km_in_of Y) ?F
  case F =>
    intro w mg fa h KX G hmg TS
    refine' Dn.all_mk KX G hmg TS ?a12 ?a13 ?a37 ?a27 ?a26 ?a59 ?a1 ?a0 ?gi_MOST_SEATS ?gi_MOST_TALKS ?n_abs ?n_all ?n_any ?n_bool ?n_enumerate ?n_int ?n_isinstance ?n_len ?n_list ?n_max ?n_min ?n_range ?n_set ?n_sorted ?n_sum ?n_tuple ?n_zip ?pg1 ?hd1 ?po1 ?sa1 ?pg0 ?hd0 ?po0 ?sa0 ?no1__bottom ?no1__top ?no0_heard_lots ?no0_seats ?ha0 ?hn0 ?ht0 ?hm0 ?xi1 ?xt1 ?sc_0_1 ?sn_0_1 ?ha1 ?hn1 ?ht1 ?hm1 ?st_NoneType_1 ?st_bool_1 ?st_int_1 ?st_str_1 ?st_list_1 ?st_tuple_1 ?st_dict_1 ?xi0 ?xt0 ?sc_1_0 ?sn_1_0 ?st_NoneType_0 ?st_bool_0 ?st_int_0 ?st_str_0 ?st_list_0 ?st_tuple_0 ?st_dict_0 ?so_0_bool ?so_1_bool ?so_0_int ?so_1_int ?so_0_list ?so_0_tuple ?so_1_list ?so_1_tuple ?nf1_Web ?nf1_Ratio ?nf1_NoneType ?nf1_bool ?nf1_int ?nf1_str ?nf1_list ?nf1_tuple ?nf1_dict ?nf0_Web ?nf0_Ratio ?nf0_NoneType ?nf0_bool ?nf0_int ?nf0_str ?nf0_list ?nf0_tuple ?nf0_dict ?ei13 ?ek13 ?er13 ?et13 ?xb27 ?xh27 ?xt27 ?xi27 ?xs27 ?cx26_27 ?cx13_27 ?cx37_27 ?cx59_27 ?xb59 ?xh59 ?xt59 ?xi59 ?xs59 ?cx26_59 ?cx13_59 ?cx37_59 ?cx27_59 ?xb37 ?xh37 ?xt37 ?xi37 ?xs37 ?cx26_37 ?cx13_37 ?cx59_37 ?cx27_37 ?le1 ?le2 ?le3 ?iC_x37 ?tI_x37 ?l_x37 ?c_x37 ?k_x37 ?lo_x37 ?rv_x37 ?sa37 ?ek37 ?xn37_given ?iC_x27 ?tI_x27 ?l_x27 ?c_x27 ?k_x27 ?lo_x27 ?rv_x27 ?sa27 ?ek27 ?xn27_given ?iC_x26 ?tI_x26 ?l_x26 ?c_x26 ?k_x26 ?lo_x26 ?rv_x26 ?sa26 ?xb26 ?xt26 ?ek26 ?xn26_given ?iC_x59 ?tI_x59 ?l_x59 ?c_x59 ?k_x59 ?lo_x59 ?rv_x59 ?sa59 ?ek59 ?xn59_given ?ga59 ?gg59 ?ga26 ?gg26 ?xh26 ?ga27 ?gg27 ?ga37 ?gg37 ?gcd ?p1_p1_bottom ?p2_p1_bottom ?p3_p1_bottom ?p4_p1_bottom ?l_p1_bottom ?c_p1_bottom ?k_p1_bottom ?p1_p1_top ?p2_p1_top ?p3_p1_top ?p4_p1_top ?l_p1_top ?c_p1_top ?k_p1_top ?a_is_number ?l_is_number ?c_is_number ?k_is_number ?a_parts_of ?l_parts_of ?c_parts_of ?k_parts_of ?a_Ratio_eq ?i_Ratio_eq ?l_Ratio_eq ?c_Ratio_eq ?k_Ratio_eq ?a_Web_eq ?i_Web_eq ?l_Web_eq ?c_Web_eq ?k_Web_eq ?a_Web_len ?i_Web_len ?l_Web_len ?c_Web_len ?k_Web_len ?a_law_box ?l_law_box ?c_law_box ?k_law_box ?a_law_all_talks ?l_law_all_talks ?c_law_all_talks ?k_law_all_talks ?a_law_talked ?l_law_talked ?c_law_talked ?k_law_talked ?a_law_firsts ?l_law_firsts ?c_law_firsts ?k_law_firsts ?a_law_take ?l_law_take ?c_law_take ?k_law_take ?a_law_own_lots ?l_law_own_lots ?c_law_own_lots ?k_law_own_lots ?a_is_integer ?l_is_integer ?c_is_integer ?k_is_integer ?a_is_place ?l_is_place ?c_is_place ?k_is_place ?a_is_talk ?l_is_talk ?c_is_talk ?k_is_talk ?a_are_talks ?l_are_talks ?c_are_talks ?k_are_talks ?a_is_many ?l_is_many ?c_is_many ?k_is_many ?a_union_of ?l_union_of ?c_union_of ?k_union_of ?a_talked ?l_talked ?c_talked ?k_talked ?a_is_lot ?l_is_lot ?c_is_lot ?k_is_lot ?a_are_lots ?l_are_lots ?c_are_lots ?k_are_lots ?a_Web_init ?i_Web_init ?l_Web_init ?c_Web_init ?k_Web_init ?mk0 ?kc0 ?a_after_talks ?l_after_talks ?c_after_talks ?k_after_talks ?a_is_square ?l_is_square ?c_is_square ?k_is_square ?a_need_own ?l_need_own ?c_need_own ?k_need_own ?a_all_talks ?l_all_talks ?c_all_talks ?k_all_talks ?a_shortest_talks ?l_shortest_talks ?c_shortest_talks ?k_shortest_talks ?a_Web_links ?i_Web_links ?l_Web_links ?c_Web_links ?k_Web_links ?a_enough_talks ?l_enough_talks ?c_enough_talks ?k_enough_talks ?tc_enough_talks_ ?tr_enough_talks_ ?tv_enough_talks_ ?tn_enough_talks_ ?tx_enough_talks_ ?a_Web_lots ?i_Web_lots ?l_Web_lots ?c_Web_lots ?k_Web_lots ?a_fewest_talks ?l_fewest_talks ?c_fewest_talks ?k_fewest_talks ?tc_fewest_talks_ ?tr_fewest_talks_ ?tv_fewest_talks_ ?tn_fewest_talks_ ?tx_fewest_talks_ ?a_law_caught ?l_law_caught ?c_law_caught ?k_law_caught ?a_Ratio_init ?i_Ratio_init ?l_Ratio_init ?c_Ratio_init ?k_Ratio_init ?lt_Ratio_init ?ho_Ratio_init ?mk1 ?kc1 ?a_law_refused_right ?l_law_refused_right ?c_law_refused_right ?k_law_refused_right ?a_law_talks_right ?l_law_talks_right ?c_law_talks_right ?k_law_talks_right ?a_law_webs_right ?l_law_webs_right ?c_law_webs_right ?k_law_webs_right ?a_law ?l_law ?c_law ?k_law ?nd_tp
    (case a12 => k_is)
    (case a13 => k_is)
    (case a37 => k_is)
    (case a27 => k_is)
    (case a26 => k_is)
    (case a59 => k_is)
    (case a1 => k_is)
    (case a0 => k_is)
    (case gi_MOST_SEATS => k_is)
    (case gi_MOST_TALKS => k_is)
    (case n_abs => k_is)
    (case n_all => k_is)
    (case n_any => k_is)
    (case n_bool => k_is)
    (case n_enumerate => k_is)
    (case n_int => k_is)
    (case n_isinstance => k_is)
    (case n_len => k_is)
    (case n_list => k_is)
    (case n_max => k_is)
    (case n_min => k_is)
    (case n_range => k_is)
    (case n_set => k_is)
    (case n_sorted => k_is)
    (case n_sum => k_is)
    (case n_tuple => k_is)
    (case n_zip => k_is)
    (case pg1 => k_is)
    (case hd1 => k_is)
    (case po1 => k_is)
    (case sa1 => k_is)
    (case pg0 => k_is)
    (case hd0 => k_is)
    (case po0 => k_is)
    (case sa0 => k_is)
    (case no1__bottom => k_is)
    (case no1__top => k_is)
    (case no0_heard_lots => k_is)
    (case no0_seats => k_is)
    (case ha0 => k_is)
    (case hn0 => k_is)
    (case ht0 => k_is)
    (case hm0 => k_is)
    (case xi1 => k_is)
    (case xt1 => k_is)
    (case sc_0_1 => k_is)
    (case sn_0_1 => rfl)
    (case ha1 => k_is)
    (case hn1 => k_is)
    (case ht1 => k_is)
    (case hm1 => k_is)
    (case st_NoneType_1 => k_is)
    (case st_bool_1 => k_is)
    (case st_int_1 => k_is)
    (case st_str_1 => k_is)
    (case st_list_1 => k_is)
    (case st_tuple_1 => k_is)
    (case st_dict_1 => k_is)
    (case xi0 => k_is)
    (case xt0 => k_is)
    (case sc_1_0 => k_is)
    (case sn_1_0 => rfl)
    (case st_NoneType_0 => k_is)
    (case st_bool_0 => k_is)
    (case st_int_0 => k_is)
    (case st_str_0 => k_is)
    (case st_list_0 => k_is)
    (case st_tuple_0 => k_is)
    (case st_dict_0 => k_is)
    (case so_0_bool => k_is)
    (case so_1_bool => k_is)
    (case so_0_int => k_is)
    (case so_1_int => k_is)
    (case so_0_list => k_is)
    (case so_0_tuple => k_is)
    (case so_1_list => k_is)
    (case so_1_tuple => k_is)
    (case nf1_Web => k_is)
    (case nf1_Ratio => k_is)
    (case nf1_NoneType => k_is)
    (case nf1_bool => k_is)
    (case nf1_int => k_is)
    (case nf1_str => k_is)
    (case nf1_list => k_is)
    (case nf1_tuple => k_is)
    (case nf1_dict => k_is)
    (case nf0_Web => k_is)
    (case nf0_Ratio => k_is)
    (case nf0_NoneType => k_is)
    (case nf0_bool => k_is)
    (case nf0_int => k_is)
    (case nf0_str => k_is)
    (case nf0_list => k_is)
    (case nf0_tuple => k_is)
    (case nf0_dict => k_is)
    (case ei13 => k_exc)
    (case ek13 => k_is)
    (case er13 => k_is)
    (case et13 => k_is)
    (case xb27 => k_is)
    (case xh27 => k_is)
    (case xt27 => k_is)
    (case xi27 => k_is)
    (case xs27 => first | rfl | k_is)
    (case cx26_27 => k_is)
    (case cx13_27 => k_is)
    (case cx37_27 => k_is)
    (case cx59_27 => k_is)
    (case xb59 => k_is)
    (case xh59 => k_is)
    (case xt59 => k_is)
    (case xi59 => k_is)
    (case xs59 => first | rfl | k_is)
    (case cx26_59 => k_is)
    (case cx13_59 => k_is)
    (case cx37_59 => k_is)
    (case cx27_59 => k_is)
    (case xb37 => k_is)
    (case xh37 => k_is)
    (case xt37 => k_is)
    (case xi37 => k_is)
    (case xs37 => first | rfl | k_is)
    (case cx26_37 => k_is)
    (case cx13_37 => k_is)
    (case cx59_37 => k_is)
    (case cx27_37 => k_is)
    (case le1 => k_is)
    (case le2 => k_is)
    (case le3 => k_is)
    (case iC_x37 => k_is)
    (case tI_x37 => k_is)
    (case l_x37 => k_is)
    (case c_x37 => k_is)
    (case k_x37 => k_is)
    (case lo_x37 => k_is)
    (case rv_x37 => rfl)
    (case sa37 => k_is)
    (case ek37 => k_is)
    (case xn37_given => k_is)
    (case iC_x27 => k_is)
    (case tI_x27 => k_is)
    (case l_x27 => k_is)
    (case c_x27 => k_is)
    (case k_x27 => k_is)
    (case lo_x27 => k_is)
    (case rv_x27 => rfl)
    (case sa27 => k_is)
    (case ek27 => k_is)
    (case xn27_given => k_is)
    (case iC_x26 => k_is)
    (case tI_x26 => k_is)
    (case l_x26 => k_is)
    (case c_x26 => k_is)
    (case k_x26 => k_is)
    (case lo_x26 => k_is)
    (case rv_x26 => rfl)
    (case sa26 => k_is)
    (case xb26 => k_is)
    (case xt26 => k_is)
    (case ek26 => k_is)
    (case xn26_given => k_is)
    (case iC_x59 => k_is)
    (case tI_x59 => k_is)
    (case l_x59 => k_is)
    (case c_x59 => k_is)
    (case k_x59 => k_is)
    (case lo_x59 => k_is)
    (case rv_x59 => rfl)
    (case sa59 => k_is)
    (case ek59 => k_is)
    (case xn59_given => k_is)
    (case ga59 => k_is)
    (case gg59 => k_is)
    (case ga26 => k_is)
    (case gg26 => k_is)
    (case xh26 => k_is)
    (case ga27 => k_is)
    (case gg27 => k_is)
    (case ga37 => k_is)
    (case gg37 => k_is)
    (case gcd => k_is)
    (case p1_p1_bottom => k_is)
    (case p2_p1_bottom => k_is)
    (case p3_p1_bottom => k_is)
    (case p4_p1_bottom => k_is)
    (case l_p1_bottom => k_is)
    (case c_p1_bottom => k_is)
    (case k_p1_bottom => k_is)
    (case p1_p1_top => k_is)
    (case p2_p1_top => k_is)
    (case p3_p1_top => k_is)
    (case p4_p1_top => k_is)
    (case l_p1_top => k_is)
    (case c_p1_top => k_is)
    (case k_p1_top => k_is)
    (case a_is_number => k_is)
    (case l_is_number => k_is)
    (case c_is_number => k_is)
    (case k_is_number => k_is)
    (case a_parts_of => k_is)
    (case l_parts_of => k_is)
    (case c_parts_of => k_is)
    (case k_parts_of => k_is)
    (case a_Ratio_eq => k_is)
    (case i_Ratio_eq => k_is)
    (case l_Ratio_eq => k_is)
    (case c_Ratio_eq => k_is)
    (case k_Ratio_eq => k_is)
    (case a_Web_eq => k_is)
    (case i_Web_eq => k_is)
    (case l_Web_eq => k_is)
    (case c_Web_eq => k_is)
    (case k_Web_eq => k_is)
    (case a_Web_len => k_is)
    (case i_Web_len => k_is)
    (case l_Web_len => k_is)
    (case c_Web_len => k_is)
    (case k_Web_len => k_is)
    (case a_law_box => k_is)
    (case l_law_box => k_is)
    (case c_law_box => k_is)
    (case k_law_box => k_is)
    (case a_law_all_talks => k_is)
    (case l_law_all_talks => k_is)
    (case c_law_all_talks => k_is)
    (case k_law_all_talks => k_is)
    (case a_law_talked => k_is)
    (case l_law_talked => k_is)
    (case c_law_talked => k_is)
    (case k_law_talked => k_is)
    (case a_law_firsts => k_is)
    (case l_law_firsts => k_is)
    (case c_law_firsts => k_is)
    (case k_law_firsts => k_is)
    (case a_law_take => k_is)
    (case l_law_take => k_is)
    (case c_law_take => k_is)
    (case k_law_take => k_is)
    (case a_law_own_lots => k_is)
    (case l_law_own_lots => k_is)
    (case c_law_own_lots => k_is)
    (case k_law_own_lots => k_is)
    (case a_is_integer => k_is)
    (case l_is_integer => k_is)
    (case c_is_integer => k_is)
    (case k_is_integer => k_is)
    (case a_is_place => k_is)
    (case l_is_place => k_is)
    (case c_is_place => k_is)
    (case k_is_place => k_is)
    (case a_is_talk => k_is)
    (case l_is_talk => k_is)
    (case c_is_talk => k_is)
    (case k_is_talk => k_is)
    (case a_are_talks => k_is)
    (case l_are_talks => k_is)
    (case c_are_talks => k_is)
    (case k_are_talks => k_is)
    (case a_is_many => k_is)
    (case l_is_many => k_is)
    (case c_is_many => k_is)
    (case k_is_many => k_is)
    (case a_union_of => k_is)
    (case l_union_of => k_is)
    (case c_union_of => k_is)
    (case k_union_of => k_is)
    (case a_talked => k_is)
    (case l_talked => k_is)
    (case c_talked => k_is)
    (case k_talked => k_is)
    (case a_is_lot => k_is)
    (case l_is_lot => k_is)
    (case c_is_lot => k_is)
    (case k_is_lot => k_is)
    (case a_are_lots => k_is)
    (case l_are_lots => k_is)
    (case c_are_lots => k_is)
    (case k_are_lots => k_is)
    (case a_Web_init => k_is)
    (case i_Web_init => k_is)
    (case l_Web_init => k_is)
    (case c_Web_init => k_is)
    (case k_Web_init => k_is)
    (case mk0 => k_is)
    (case kc0 => k_is)
    (case a_after_talks => k_is)
    (case l_after_talks => k_is)
    (case c_after_talks => k_is)
    (case k_after_talks => k_is)
    (case a_is_square => k_is)
    (case l_is_square => k_is)
    (case c_is_square => k_is)
    (case k_is_square => k_is)
    (case a_need_own => k_is)
    (case l_need_own => k_is)
    (case c_need_own => k_is)
    (case k_need_own => k_is)
    (case a_all_talks => k_is)
    (case l_all_talks => k_is)
    (case c_all_talks => k_is)
    (case k_all_talks => k_is)
    (case a_shortest_talks => k_is)
    (case l_shortest_talks => k_is)
    (case c_shortest_talks => k_is)
    (case k_shortest_talks => k_is)
    (case a_Web_links => k_is)
    (case i_Web_links => k_is)
    (case l_Web_links => k_is)
    (case c_Web_links => k_is)
    (case k_Web_links => k_is)
    (case a_enough_talks => k_is)
    (case l_enough_talks => k_is)
    (case c_enough_talks => k_is)
    (case k_enough_talks => k_is)
    (case tc_enough_talks_ => rfl)
    (case tr_enough_talks_ => k_is)
    (case tv_enough_talks_ => rfl)
    (case tn_enough_talks_ => k_is)
    (case tx_enough_talks_ => decide +kernel)
    (case a_Web_lots => k_is)
    (case i_Web_lots => k_is)
    (case l_Web_lots => k_is)
    (case c_Web_lots => k_is)
    (case k_Web_lots => k_is)
    (case a_fewest_talks => k_is)
    (case l_fewest_talks => k_is)
    (case c_fewest_talks => k_is)
    (case k_fewest_talks => k_is)
    (case tc_fewest_talks_ => rfl)
    (case tr_fewest_talks_ => k_is)
    (case tv_fewest_talks_ => rfl)
    (case tn_fewest_talks_ => k_is)
    (case tx_fewest_talks_ => decide +kernel)
    (case a_law_caught => k_is)
    (case l_law_caught => k_is)
    (case c_law_caught => k_is)
    (case k_law_caught => k_is)
    (case a_Ratio_init => k_is)
    (case i_Ratio_init => k_is)
    (case l_Ratio_init => k_is)
    (case c_Ratio_init => k_is)
    (case k_Ratio_init => k_is)
    (case lt_Ratio_init => k_is)
    (case ho_Ratio_init => rfl)
    (case mk1 => k_is)
    (case kc1 => k_is)
    (case a_law_refused_right => k_is)
    (case l_law_refused_right => k_is)
    (case c_law_refused_right => k_is)
    (case k_law_refused_right => k_is)
    (case a_law_talks_right => k_is)
    (case l_law_talks_right => k_is)
    (case c_law_talks_right => k_is)
    (case k_law_talks_right => k_is)
    (case a_law_webs_right => k_is)
    (case l_law_webs_right => k_is)
    (case c_law_webs_right => k_is)
    (case k_law_webs_right => k_is)
    (case a_law => k_is)
    (case l_law => k_is)
    (case c_law => k_is)
    (case k_law => k_is)
    (case nd_tp => decide)

