import PyProof.Rows.All
import HandS.ForMost
import HandS.ForExc
import HandS.TupAny
import HandS.TupMul
import HandS.Wide
import HandS.Flow
import HandS.IsInst
import HandS.SortInts
import HandS.Conv
import HandS.Deep
import HandS.TupLen
import HandS.Comp
import HandS.Iter
import HandS.Walk
import HandS.Defaults
import HandS.ExcOwn
import HandS.Small
import HandS.SetFor
import HandS.Strs
import HandS.Style
import KE.GoesMore
import KE.GoesEnum
import HandS.HeadHook1
import HandS.HeadHook2
import HandS.Steps
import HandS.Call
import PyProof.EqAt
import PyProof.FactsAll.tuple_2
import PySem.Challenge.RW_asifforever_k01_whole_rows_led
import KE.KStateDown
import HandS.Ends
import HandS.EndBits
import HandS.Head0
import HandS.Head1
import HandS.Head2
import HandS.HeadEnd
set_option Elab.async false
set_option linter.all false
set_option maxRecDepth 100000
/-! VE1: data as trees; how they lie in the abstract heap: frozen parts (G), owned parts (footprints). -/
namespace VE
open PySem PySem.Spec PyProof.Rows L2

inductive D where
  | non
  | bl (b : Bool)
  | int (i : Int)
  | str (x : Str)
  | tup (xs : List D)
  | tux (xs : List D)
  | lst (o : Bool) (xs : List D)
  | rol (xs : List D)
  | dk (o : Bool) (ks : List Key) (xs : List D)
  | dt (o : Bool) (ks : List (List Key)) (xs : List D)
  | ins (o : Bool) (c : Str) (ns : List Str) (xs : List D)

abbrev Frag := PySem.W.Frag
def GLe (G G' : Hp) : Prop := ∀ a o, G a = some o → G' a = some o
def isDic : HO → Bool
  | .dK _ => true
  | .dT _ => true
  | _ => false
/-- what stands in G stands in H; a dict may be locked there -/
def RdS (G H : Hp) : Prop := ∀ a u, G a = some u → H a = some u ∨ (isDic u = true ∧ ∃ o, H a = some (.frz o u))
theorem GLe.refl (G : Hp) : GLe G G := fun _ _ h => h
theorem GLe.trans {A B C : Hp} (x : GLe A B) (y : GLe B C) : GLe A C := fun a o h => y a o (x a o h)
theorem GLe.rds {G G' : Hp} (x : GLe G G') : RdS G G' := fun a u h => .inl (x a u h)
theorem RdS.refl (G : Hp) : RdS G G := fun _ _ h => .inl h
theorem RdS.ex {G H : Hp} (x : RdS G H) {a : Addr} {u : HO} (h : G a = some u) (n : isDic u = false) : H a = some u := by
  rcases x a u h with q | ⟨q, _⟩
  · exact q
  · rw [n] at q; cases q
theorem RdS.rd {G H : Hp} (x : RdS G H) {a : Addr} {u : HO} (h : Rd G a u) : Rd H a u := by
  rcases h with h | ⟨o, h⟩
  · rcases x a u h with q | ⟨_, q⟩
    · exact .inl q
    · exact .inr q
  · exact .inr ⟨o, x.ex h rfl⟩
theorem RdS.trans {A B C : Hp} (x : RdS A B) (y : RdS B C) : RdS A C := fun a u h => by
  rcases x a u h with q | ⟨d, o, q⟩
  · exact y a u q
  · exact .inr ⟨d, o, y.ex q rfl⟩
theorem RdS.sqT {K : Frag} {G H : Hp} {a : Addr} {xs : List V} (x : RdS G H) (h : SqT K G a xs) : SqT K H a xs := h.elim (fun h => .inl (x.rd h)) .inr
theorem RdS.sqL {K : Frag} {G H : Hp} {a : Addr} {xs : List V} (x : RdS G H) (h : SqL K G a xs) : SqL K H a xs := h.elim (fun h => .inl (x.rd h)) .inr
theorem RdS.fresh {G H : Hp} (x : RdS G H) {p : Addr} (h : H p = none) : G p = none := by
  cases e : G p with
  | none => rfl
  | some o =>
    rcases x p o e with q | ⟨_, _, q⟩ <;> (rw [h] at q; cases q)
theorem RdS.ne {G H : Hp} (x : RdS G H) {p : Addr} (h : G p ≠ none) : H p ≠ none := fun z => h (x.fresh z)

section
variable (K : Frag) (cm : Str → Addr)
mutual
inductive Fz (G : Hp) : D → V → Prop
  | non : Fz G .non .non
  | bl (b : Bool) : Fz G (.bl b) (.bl b)
  | int (i : Int) : Fz G (.int i) (.int i)
  | str (x : Str) : Fz G (.str x) (.str x)
  | tup {a : Addr} {vs : List V} {ds : List D} : SqT K G a vs → FzL G ds vs → Fz G (.tup ds) (.ref a)
  | tux {a : Addr} {vs : List V} {ds : List D} : (∃ o, G a = some (.frz o (.tup vs)) ∧ o.dict = none) → FzL G ds vs → Fz G (.tux ds) (.ref a)
  | lst {a : Addr} {vs : List V} {ds : List D} : G a = some (.lst vs) → FzL G ds vs → Fz G (.lst false ds) (.ref a)
  | rol {a : Addr} {vs : List V} {ds : List D} : SqL K G a vs → FzL G ds vs → Fz G (.rol ds) (.ref a)
  | dk {a : Addr} {ks : List Key} {vs : List V} {ds : List D} : Rd G a (.dK (ks.zip vs)) → ks.length = vs.length → FzL G ds vs → Fz G (.dk false ks ds) (.ref a)
  | dt {a : Addr} {ks : List (List Key)} {vs : List V} {ds : List D} : Rd G a (.dT (ks.zip vs)) → ks.length = vs.length → FzL G ds vs → Fz G (.dt false ks ds) (.ref a)
  | ins {a dx : Addr} {c : Str} {ns : List Str} {vs : List V} {ds : List D} : G a = some (.ins (cm c) dx (ns.zip vs)) → ns.length = vs.length → FzL G ds vs → Fz G (.ins false c ns ds) (.ref a)
inductive FzL (G : Hp) : List D → List V → Prop
  | nil : FzL G [] []
  | cons {d : D} {v : V} {ds : List D} {vs : List V} : Fz G d v → FzL G ds vs → FzL G (d :: ds) (v :: vs)
end
mutual
inductive Ow (G H : Hp) : D → V → List Addr → Prop
  | fz {d : D} {v : V} : Fz K cm G d v → Ow G H d v []
  | lst {a : Addr} {vs : List V} {ds : List D} : H a = some (.lst vs) → FzL K cm G ds vs → Ow G H (.lst true ds) (.ref a) [a]
  | dt {a : Addr} {ks : List (List Key)} {vs : List V} {ds : List D} : H a = some (.dT (ks.zip vs)) → ks.length = vs.length → FzL K cm G ds vs → Ow G H (.dt true ks ds) (.ref a) [a]
  | dk {a : Addr} {ks : List Key} {vs : List V} {ds : List D} {F : List Addr} : H a = some (.dK (ks.zip vs)) → ks.length = vs.length → OwL G H ds vs F → Ow G H (.dk true ks ds) (.ref a) (a :: F)
  | ins {a dx : Addr} {c : Str} {ns : List Str} {vs : List V} {ds : List D} {F : List Addr} : H a = some (.ins (cm c) dx (ns.zip vs)) → ns.length = vs.length → OwL G H ds vs F → Ow G H (.ins true c ns ds) (.ref a) (a :: F)
inductive OwL (G H : Hp) : List D → List V → List Addr → Prop
  | nil : OwL G H [] [] []
  | cons {d : D} {v : V} {ds : List D} {vs : List V} {F1 F2 : List Addr} : Ow G H d v F1 → OwL G H ds vs F2 → OwL G H (d :: ds) (v :: vs) (F1 ++ F2)
end
end
section
variable {K : Frag} {cm : Str → Addr} {G G' H H' : Hp}
mutual
theorem Fz.mono (x : RdS G G') : ∀ {d : D} {v : V}, Fz K cm G d v → Fz K cm G' d v
  | _, _, .non => .non
  | _, _, .bl b => .bl b
  | _, _, .int i => .int i
  | _, _, .str z => .str z
  | _, _, .tup s l => .tup (x.sqT s) (FzL.mono x l)
  | _, _, .tux ⟨o, s, z⟩ l => .tux ⟨o, x.ex s rfl, z⟩ (FzL.mono x l)
  | _, _, .lst s l => .lst (x.ex s rfl) (FzL.mono x l)
  | _, _, .rol s l => .rol (x.sqL s) (FzL.mono x l)
  | _, _, .dk s n l => .dk (x.rd s) n (FzL.mono x l)
  | _, _, .dt s n l => .dt (x.rd s) n (FzL.mono x l)
  | _, _, .ins s n l => .ins (x.ex s rfl) n (FzL.mono x l)
theorem FzL.mono (x : RdS G G') : ∀ {d : List D} {v : List V}, FzL K cm G d v → FzL K cm G' d v
  | _, _, .nil => .nil
  | _, _, .cons a l => .cons (Fz.mono x a) (FzL.mono x l)
end
theorem FzL.length : ∀ {ds : List D} {vs : List V}, FzL K cm G ds vs → ds.length = vs.length
  | _, _, .nil => rfl
  | _, _, .cons _ l => congrArg (· + 1) l.length
theorem OwL.length : ∀ {ds : List D} {vs : List V} {F : List Addr}, OwL K cm G H ds vs F → ds.length = vs.length
  | _, _, _, .nil => rfl
  | _, _, _, .cons _ l => congrArg (· + 1) l.length
theorem FzL.get : ∀ {ds : List D} {vs : List V} {i : Nat} {d : D}, FzL K cm G ds vs → ds[i]? = some d → ∃ v, vs[i]? = some v ∧ Fz K cm G d v
  | _, _, 0, _, .cons a _, h => by cases (Option.some.inj h : _ = _); exact ⟨_, rfl, a⟩
  | _, _, i + 1, _, .cons _ l, h => by
    obtain ⟨v, h1, h2⟩ := FzL.get (i := i) l (by simpa using h)
    exact ⟨v, by simpa using h1, h2⟩
  | _, _, 0, _, .nil, h => by simp at h
  | _, _, i + 1, _, .nil, h => by simp at h
theorem FzL.append : ∀ {ds es : List D} {vs ws : List V}, FzL K cm G ds vs → FzL K cm G es ws → FzL K cm G (ds ++ es) (vs ++ ws)
  | _, _, _, _, .nil, h => h
  | _, _, _, _, .cons a l, h => .cons a (l.append h)
theorem FzL.drop : ∀ {ds : List D} {vs : List V} (n : Nat), FzL K cm G ds vs → FzL K cm G (ds.drop n) (vs.drop n)
  | _, _, 0, h => h
  | _, _, n + 1, .nil => .nil
  | _, _, n + 1, .cons _ l => l.drop n
theorem FzL.take : ∀ {ds : List D} {vs : List V} (n : Nat), FzL K cm G ds vs → FzL K cm G (ds.take n) (vs.take n)
  | _, _, 0, h => .nil
  | _, _, n + 1, .nil => .nil
  | _, _, n + 1, .cons a l => .cons a (l.take n)
theorem FzL.set : ∀ {ds : List D} {vs : List V} {d : D} {v : V} (n : Nat), FzL K cm G ds vs → Fz K cm G d v → FzL K cm G (ds.set n d) (vs.set n v)
  | _, _, _, _, _, .nil, _ => .nil
  | _, _, _, _, 0, .cons _ l, h => .cons h l
  | _, _, _, _, n + 1, .cons a l, h => .cons a (l.set n h)
theorem FzL.reverse : ∀ {ds : List D} {vs : List V}, FzL K cm G ds vs → FzL K cm G ds.reverse vs.reverse
  | _, _, .nil => .nil
  | _, _, .cons a l => by simpa using l.reverse.append (.cons a .nil)
mutual
theorem Ow.mono (g : GLe G G') : ∀ {d : D} {v : V} {F : List Addr}, Ow K cm G H d v F → (∀ a ∈ F, ∀ o, H a = some o → H' a = some o) → Ow K cm G' H' d v F
  | _, _, _, .fz x, _ => .fz (x.mono g.rds)
  | _, _, _, .lst h x, k => .lst (k _ (by simp) _ h) (x.mono g.rds)
  | _, _, _, .dt h n x, k => .dt (k _ (by simp) _ h) n (x.mono g.rds)
  | _, _, _, .dk h n x, k => .dk (k _ (by simp) _ h) n (OwL.mono g x fun a ha => k a (by simp [ha]))
  | _, _, _, .ins h n x, k => .ins (k _ (by simp) _ h) n (OwL.mono g x fun a ha => k a (by simp [ha]))
theorem OwL.mono (g : GLe G G') : ∀ {d : List D} {v : List V} {F : List Addr}, OwL K cm G H d v F → (∀ a ∈ F, ∀ o, H a = some o → H' a = some o) → OwL K cm G' H' d v F
  | _, _, _, .nil, _ => .nil
  | _, _, _, .cons x l, k => .cons (Ow.mono g x fun a ha => k a (by simp [ha])) (OwL.mono g l fun a ha => k a (by simp [ha]))
end
/-- what is owned is there -/
theorem Ow.there : ∀ {d : D} {v : V} {F : List Addr}, Ow K cm G H d v F → ∀ a ∈ F, H a ≠ none := by
  intro d v F h
  refine Ow.rec (motive_1 := fun d v F _ => ∀ a ∈ F, H a ≠ none) (motive_2 := fun d v F _ => ∀ a ∈ F, H a ≠ none) ?_ ?_ ?_ ?_ ?_ ?_ ?_ h
  · intro _ _ _ a ha; cases ha
  · intro a vs ds e _ b hb; simp at hb; subst hb; rw [e]; simp
  · intro a ks vs ds e _ _ b hb; simp at hb; subst hb; rw [e]; simp
  · intro a ks vs ds F e _ _ ih b hb
    rcases List.mem_cons.mp hb with rfl | hb
    · rw [e]; simp
    · exact ih b hb
  · intro a dx c ns vs ds F e _ _ ih b hb
    rcases List.mem_cons.mp hb with rfl | hb
    · rw [e]; simp
    · exact ih b hb
  · intro a ha; cases ha
  · intro d v ds vs F1 F2 _ _ i1 i2 a ha
    rcases List.mem_append.mp ha with ha | ha
    · exact i1 a ha
    · exact i2 a ha
mutual
def frz : D → D
  | .lst _ xs => .lst false xs
  | .dt _ ks xs => .dt false ks xs
  | .dk _ ks xs => .dk false ks (frzL xs)
  | .ins _ c ns xs => .ins false c ns (frzL xs)
  | d => d
def frzL : List D → List D
  | [] => []
  | d :: r => frz d :: frzL r
end
theorem frzL_map : ∀ xs : List D, frzL xs = xs.map frz
  | [] => rfl
  | d :: r => by rw [frzL, frzL_map r]; rfl
/-- the frozen heap with F's objects as they stand in H -/
def frzG (G H : Hp) (F : List Addr) : Hp := fun a => if a ∈ F then H a else G a
theorem frzG_in {F : List Addr} {a : Addr} (h : a ∈ F) : frzG G H F a = H a := if_pos h
theorem frzG_out {F : List Addr} {a : Addr} (h : a ∉ F) : frzG G H F a = G a := if_neg h
theorem frzG_le {F : List Addr} (h : ∀ a ∈ F, G a = none) : GLe G (frzG G H F) := fun a o e => by
  by_cases ha : a ∈ F
  · rw [h a ha] at e; cases e
  · rw [frzG_out ha]; exact e
theorem frzG_rds {F : List Addr} (r : RdS G H) : RdS (frzG G H F) H := fun a u h => by
  by_cases ha : a ∈ F
  · rw [frzG_in ha] at h; exact .inl h
  · rw [frzG_out ha] at h; exact r a u h
mutual
theorem Fz.frz_id : ∀ {d : D} {v : V}, Fz K cm G d v → frz d = d
  | _, _, .non => rfl
  | _, _, .bl b => rfl
  | _, _, .int i => rfl
  | _, _, .str z => rfl
  | _, _, .tup s l => rfl
  | _, _, .tux s l => rfl
  | _, _, .lst s l => rfl
  | _, _, .rol s l => rfl
  | _, _, .dk s n l => by rw [frz, FzL.frz_id l]
  | _, _, .dt s n l => rfl
  | _, _, .ins s n l => by rw [frz, FzL.frz_id l]
theorem FzL.frz_id : ∀ {d : List D} {v : List V}, FzL K cm G d v → frzL d = d
  | _, _, .nil => rfl
  | _, _, .cons a l => by rw [frzL, Fz.frz_id a, FzL.frz_id l]
end
mutual
theorem Ow.freeze {F0 : List Addr} (g : GLe G (frzG G H F0)) : ∀ {d : D} {v : V} {F : List Addr}, Ow K cm G H d v F → (∀ a ∈ F, a ∈ F0) → Fz K cm (frzG G H F0) (frz d) v
  | _, _, _, .fz x, _ => by rw [x.frz_id]; exact x.mono g.rds
  | _, _, _, .lst h x, k => .lst ((frzG_in (k _ (by simp))).trans h) (x.mono g.rds)
  | _, _, _, .dt h n x, k => .dt (.inl ((frzG_in (k _ (by simp))).trans h)) n (x.mono g.rds)
  | _, _, _, .dk h n x, k => by
    rw [frz]; exact .dk (.inl ((frzG_in (k _ (by simp))).trans h)) n (OwL.freeze g x fun a ha => k a (by simp [ha]))
  | _, _, _, .ins h n x, k => by
    rw [frz]; exact .ins ((frzG_in (k _ (by simp))).trans h) n (OwL.freeze g x fun a ha => k a (by simp [ha]))
theorem OwL.freeze {F0 : List Addr} (g : GLe G (frzG G H F0)) : ∀ {d : List D} {v : List V} {F : List Addr}, OwL K cm G H d v F → (∀ a ∈ F, a ∈ F0) → FzL K cm (frzG G H F0) (frzL d) v
  | _, _, _, .nil, _ => .nil
  | _, _, _, .cons x l, k => by
    rw [frzL]; exact .cons (Ow.freeze g x fun a ha => k a (by simp [ha])) (OwL.freeze g l fun a ha => k a (by simp [ha]))
end
/-- a view of the top: a list or a tuple, owned or not, stands in H, its items are frozen -/
theorem Ow.lst_inv {o : Bool} {ds : List D} {v : V} {F : List Addr} (h : Ow K cm G H (.lst o ds) v F) (r : RdS G H) : ∃ a vs, v = .ref a ∧ Rd H a (.lst vs) ∧ FzL K cm G ds vs := by
  cases h with
  | fz x => cases x with | lst s l => exact ⟨_, _, rfl, .inl (r.ex s rfl), l⟩
  | lst e l => exact ⟨_, _, rfl, .inl e, l⟩
theorem Ow.rol_inv {ds : List D} {v : V} {F : List Addr} (h : Ow K cm G H (.rol ds) v F) (r : RdS G H) : ∃ a vs, v = .ref a ∧ SqL K H a vs ∧ FzL K cm G ds vs := by
  cases h with
  | fz x => cases x with | rol s l => exact ⟨_, _, rfl, r.sqL s, l⟩
theorem Ow.tup_inv {ds : List D} {v : V} {F : List Addr} (h : Ow K cm G H (.tup ds) v F) (r : RdS G H) : ∃ a vs, v = .ref a ∧ SqT K H a vs ∧ FzL K cm G ds vs ∧ SqT K G a vs := by
  cases h with
  | fz x => cases x with | tup s l => exact ⟨_, _, rfl, r.sqT s, l, s⟩
theorem Ow.int_inv {i : Int} {v : V} {F : List Addr} (h : Ow K cm G H (.int i) v F) : v = .int i ∧ F = [] := by
  cases h with
  | fz x => cases x; exact ⟨rfl, rfl⟩
theorem Ow.str_inv {i : Str} {v : V} {F : List Addr} (h : Ow K cm G H (.str i) v F) : v = .str i ∧ F = [] := by
  cases h with
  | fz x => cases x; exact ⟨rfl, rfl⟩
theorem Ow.bl_inv {i : Bool} {v : V} {F : List Addr} (h : Ow K cm G H (.bl i) v F) : v = .bl i ∧ F = [] := by
  cases h with
  | fz x => cases x; exact ⟨rfl, rfl⟩
theorem Ow.non_inv {v : V} {F : List Addr} (h : Ow K cm G H .non v F) : v = .non ∧ F = [] := by
  cases h with
  | fz x => cases x; exact ⟨rfl, rfl⟩
end
end VE
/-! VE2: slots, the state's relation, transitions, what follows. -/
namespace VE
open PySem PySem.Spec PyProof.Rows L2
abbrev Env := List (Option D)
section
variable (K : Frag) (cm : Str → Addr)
def OwO (G H : Hp) : Option D → Option V → List Addr → Prop
  | none, _, F => F = []
  | some d, y, F => ∃ v, y = some v ∧ Ow K cm G H d v F
inductive OwS (G H : Hp) : Env → L2.St → List Addr → Prop
  | nil : OwS G H [] [] []
  | cons {x : Option D} {y : Option V} {ρ : Env} {σ : L2.St} {F1 F2 : List Addr} : OwO K cm G H x y F1 → OwS G H ρ σ F2 → OwS G H (x :: ρ) (y :: σ) (F1 ++ F2)
end
section
variable {K : Frag} {cm : Str → Addr} {G G' H H' : Hp} {F F' : List Addr}
theorem OwO.mono (g : GLe G G') : ∀ {x : Option D} {y : Option V} {F : List Addr}, OwO K cm G H x y F → (∀ a ∈ F, ∀ o, H a = some o → H' a = some o) → OwO K cm G' H' x y F
  | none, _, _, h, _ => h
  | some d, _, _, ⟨v, e, h⟩, k => ⟨v, e, h.mono g k⟩
theorem OwS.mono (g : GLe G G') : ∀ {ρ : Env} {σ : L2.St} {F : List Addr}, OwS K cm G H ρ σ F → (∀ a ∈ F, ∀ o, H a = some o → H' a = some o) → OwS K cm G' H' ρ σ F
  | _, _, _, .nil, _ => .nil
  | _, _, _, .cons x l, k => .cons (x.mono g fun a ha => k a (by simp [ha])) (l.mono g fun a ha => k a (by simp [ha]))
theorem OwO.there : ∀ {x : Option D} {y : Option V} {F : List Addr}, OwO K cm G H x y F → ∀ a ∈ F, H a ≠ none
  | none, _, _, h, a, ha => by rw [show _ = [] from h] at ha; cases ha
  | some d, _, _, ⟨v, e, h⟩, a, ha => h.there a ha
theorem OwS.there : ∀ {ρ : Env} {σ : L2.St} {F : List Addr}, OwS K cm G H ρ σ F → ∀ a ∈ F, H a ≠ none
  | _, _, _, .nil, a, ha => by cases ha
  | _, _, _, .cons x l, a, ha => (List.mem_append.mp ha).elim (x.there a) (l.there a)
theorem OwS.length : ∀ {ρ : Env} {σ : L2.St} {F : List Addr}, OwS K cm G H ρ σ F → ρ.length = σ.length
  | _, _, _, .nil => rfl
  | _, _, _, .cons x l => congrArg (· + 1) l.length
/-- one slot apart -/
theorem OwS.split : ∀ {ρ : Env} {σ : L2.St} {F : List Addr} (i : Nat) {x : Option D}, OwS K cm G H ρ σ F → ρ[i]? = some x →
    ∃ (y : Option V) (Fa F1 Fb : List Addr), σ[i]? = some y ∧ OwO K cm G H x y F1 ∧ F = Fa ++ (F1 ++ Fb) ∧
      ∀ G' H' x' y' F1', GLe G G' → (∀ a ∈ Fa ++ Fb, ∀ o, H a = some o → H' a = some o) → OwO K cm G' H' x' y' F1' → OwS K cm G' H' (ρ.set i x') (σ.set i y') (Fa ++ (F1' ++ Fb))
  | _, _, _, i, x, .nil, h => by simp at h
  | _, _, _, 0, x, .cons (F1 := F1) (F2 := F2) (y := y) (σ := σ) (ρ := ρ) o l, h => by
    cases (Option.some.inj h : _ = _)
    exact ⟨y, [], F1, F2, rfl, o, rfl, fun G' H' x' y' F1' g k o' => (OwS.cons o' (l.mono g fun a ha => k a (by simpa using ha)) : OwS K cm G' H' (x' :: ρ) (y' :: σ) (F1' ++ F2))⟩
  | _, _, _, i + 1, x, .cons (F1 := F1) (F2 := F2) (y := y) (σ := σ) (ρ := ρ) o l, h => by
    obtain ⟨y', Fa, F1', Fb, h1, h2, h3, h4⟩ := l.split i (x := x) (by simpa using h)
    refine ⟨y', F1 ++ Fa, F1', Fb, by simpa using h1, h2, by rw [h3, List.append_assoc], fun G' H' x' y' F2' g k o' => ?_⟩
    rw [List.append_assoc]
    exact .cons (o.mono g fun a ha => k a (by simp [ha])) (h4 G' H' x' y' F2' g (fun a ha => k a (by simp at ha ⊢; rcases ha with ha | ha <;> simp [ha])) o')
end

/-- pinned slots: the in-out parameters -/
abbrev Fix := List (Nat × V)
structure SR (K : Frag) (cm : Str → Addr) (fx : Fix) (G H : Hp) (σ : L2.St) (ρ : Env) (F : List Addr) : Prop where
  rd : RdS G H
  nd : F.Nodup
  dj : ∀ a ∈ F, G a = none
  sl : OwS K cm G H ρ σ F
  fx : ∀ p ∈ fx, σ[p.1]? = some (some p.2)
structure Tr (G H : Hp) (F : List Addr) (G' H' : Hp) (F' : List Addr) : Prop where
  g : GLe G G'
  h : ∀ a o, a ∉ F → H a = some o → H' a = some o
  f : ∀ a ∈ F', a ∈ F ∨ H a = none
  d : ∀ a, G' a ≠ none → G a ≠ none ∨ a ∈ F ∨ H a = none
  n : ∀ a, H a ≠ none → H' a ≠ none
section
variable {K : Frag} {cm : Str → Addr} {fx : Fix} {G G' G2 H H' H2 : Hp} {F F' F2 : List Addr} {σ : L2.St} {ρ ρ' : Env}
theorem Tr.refl : Tr G H F G H F := ⟨GLe.refl G, fun _ _ _ h => h, fun _ h => .inl h, fun _ h => .inl h, fun _ h => h⟩
theorem Tr.trans (x : Tr G H F G' H' F') (y : Tr G' H' F' G2 H2 F2) : Tr G H F G2 H2 F2 where
  g := x.g.trans y.g
  h := fun a o ha e => by
    refine y.h a o (fun z => ?_) (x.h a o ha e)
    rcases x.f a z with q | q
    · exact ha q
    · rw [e] at q; cases q
  f := fun a ha => by
    rcases y.f a ha with q | q
    · exact x.f a q
    · by_cases z : H a = none
      · exact .inr z
      · exact absurd q (x.n a z)
  d := fun a ha => by
    rcases y.d a ha with q | q | q
    · exact x.d a q
    · rcases x.f a q with q | q
      · exact .inr (.inl q)
      · exact .inr (.inr q)
    · by_cases z : H a = none
      · exact .inr (.inr z)
      · exact absurd q (x.n a z)
  n := fun a h => y.n a (x.n a h)
theorem Tr.sub (x : Tr G H F G' H' F') (h : ∀ a ∈ F2, a ∈ F') : Tr G H F G' H' F2 := ⟨x.g, x.h, fun a ha => x.f a (h a ha), x.d, x.n⟩
/-- a frame: what is owned besides stays -/
theorem Tr.frame (x : Tr G H F G' H' F') (h : ∀ a ∈ F2, H a ≠ none) : Tr G H (F ++ F2) G' H' (F' ++ F2) where
  g := x.g
  h := fun a o ha e => x.h a o (fun z => ha (by simp [z])) e
  f := fun a ha => by
    rcases List.mem_append.mp ha with q | q
    · rcases x.f a q with q | q
      · exact .inl (by simp [q])
      · exact .inr q
    · exact .inl (by simp [q])
  d := fun a ha => by
    rcases x.d a ha with q | q | q
    · exact .inl q
    · exact .inr (.inl (by simp [q]))
    · exact .inr (.inr q)
  n := x.n
theorem Tr.apart (x : Tr G H F G' H' F') {a : Addr} (h1 : a ∉ F) (h2 : H a ≠ none) (h3 : G a = none) : a ∉ F' ∧ G' a = none := by
  refine ⟨fun z => ?_, ?_⟩
  · rcases x.f a z with q | q
    · exact h1 q
    · exact h2 q
  · cases e : G' a with
    | none => rfl
    | some o =>
      rcases x.d a (by rw [e]; simp) with q | q | q
      · exact absurd h3 q
      · exact absurd q h1
      · exact absurd q h2
theorem SR.there (s : SR K cm fx G H σ ρ F) : ∀ a ∈ F, H a ≠ none := s.sl.there
end

/-- behind an expression: its value, what it owns -/
def Post (K : Frag) (cm : Str → Addr) (fx : Fix) (G H : Hp) (F : List Addr) (σ : L2.St) (ρ' : Env) (d : D) (v : V) (H' : Hp) : Prop :=
  ∃ G' F' Fv, Tr G H F G' H' (F' ++ Fv) ∧ SR K cm fx G' H' σ ρ' F' ∧ Ow K cm G' H' d v Fv ∧ (F' ++ Fv).Nodup ∧ ∀ a ∈ Fv, G' a = none
/-- .. a frozen one -/
def PostZ (K : Frag) (cm : Str → Addr) (fx : Fix) (G H : Hp) (F : List Addr) (σ : L2.St) (ρ' : Env) (d : D) (v : V) (H' : Hp) : Prop :=
  ∃ G' F', Tr G H F G' H' F' ∧ SR K cm fx G' H' σ ρ' F' ∧ Fz K cm G' d v
/-- .. behind an exception: the field's value lies in its own dict -/
def PostX (K : Frag) (cm : Str → Addr) (fx : Fix) (G H : Hp) (F : List Addr) (σ : L2.St) (ρ' : Env) (x : Option (Str × D)) (dd : Option Addr) (H' : Hp) : Prop :=
  ∃ G' F', Tr G H F G' H' F' ∧ SR K cm fx G' H' σ ρ' F' ∧ match x with
    | none => True
    | some (f, d) => ∃ a v, dd = some a ∧ H' a = some (.xd [(f, v)]) ∧ G' a = some (.xd [(f, v)]) ∧ Fz K cm G' d v
section
variable {K : Frag} {cm : Str → Addr} {fx : Fix} {G G' H H' : Hp} {F F' : List Addr} {σ : L2.St} {ρ ρ' : Env} {d : D} {v : V}
theorem Post.freeze (p : Post K cm fx G H F σ ρ' d v H') : PostZ K cm fx G H F σ ρ' (frz d) v H' := by
  obtain ⟨G', F', Fv, t, s, o, nd, dj⟩ := p
  have g := frzG_le (H := H') dj
  have nd3 := List.nodup_append.mp nd
  refine ⟨frzG G' H' Fv, F', ⟨t.g.trans g, t.h, fun a ha => t.f a (by simp [ha]), fun a ha => ?_, t.n⟩, ⟨frzG_rds s.rd, s.nd, fun a ha => ?_, s.sl.mono g (fun _ _ _ h => h), s.fx⟩, o.freeze g fun a h => h⟩
  · by_cases hm : a ∈ Fv
    · rcases t.f a (by simp [hm]) with q | q
      · exact .inr (.inl q)
      · exact .inr (.inr q)
    · rw [frzG_out hm] at ha; exact t.d a ha
  · rw [frzG_out (fun z => nd3.2.2 a ha a z rfl)]; exact s.dj a ha
theorem PostZ.post (p : PostZ K cm fx G H F σ ρ' d v H') : Post K cm fx G H F σ ρ' d v H' := by
  obtain ⟨G', F', t, s, z⟩ := p
  exact ⟨G', F', [], by simpa using t, s, .fz z, by simpa using s.nd, fun a ha => by cases ha⟩
theorem PostZ.here (s : SR K cm fx G H σ ρ F) (z : Fz K cm G d v) : PostZ K cm fx G H F σ ρ d v H := ⟨G, F, .refl, s, z⟩
theorem Post.trans {G1 H1 : Hp} {F1 : List Addr} (t : Tr G H F G1 H1 F1) (p : Post K cm fx G1 H1 F1 σ ρ' d v H') : Post K cm fx G H F σ ρ' d v H' := by
  obtain ⟨G', F', Fv, t', r⟩ := p
  exact ⟨G', F', Fv, t.trans t', r⟩
theorem PostZ.trans {G1 H1 : Hp} {F1 : List Addr} (t : Tr G H F G1 H1 F1) (p : PostZ K cm fx G1 H1 F1 σ ρ' d v H') : PostZ K cm fx G H F σ ρ' d v H' := by
  obtain ⟨G', F', t', r⟩ := p
  exact ⟨G', F', t.trans t', r⟩
theorem PostX.trans {G1 H1 : Hp} {F1 : List Addr} {x : Option (Str × D)} {dd : Option Addr} (t : Tr G H F G1 H1 F1) (p : PostX K cm fx G1 H1 F1 σ ρ' x dd H') : PostX K cm fx G H F σ ρ' x dd H' := by
  obtain ⟨G', F', t', r⟩ := p
  exact ⟨G', F', t.trans t', r⟩
end

/-- what an expression does to the slots' trees -/
inductive Out where
  | ok (d : D) (ρ : Env)
  | exc (c : Str) (x : Option (Str × D)) (ρ : Env)
  | bad
abbrev M := Env → Out
inductive OutL where
  | ok (ds : List D) (ρ : Env)
  | exc (c : Str) (x : Option (Str × D)) (ρ : Env)
  | bad
abbrev ML := Env → OutL
inductive OutS where
  | nx (ρ : Env)
  | rt (d : D) (ρ : Env)
  | bk (ρ : Env)
  | exc (c : Str) (x : Option (Str × D)) (ρ : Env)
  | bad
abbrev MS := Env → OutS
/-- the setting of a reading: the written part, the classes' places, the pinned slots, what is wished of an exception -/
structure Set_ where
  K : Frag
  cm : Str → Addr
  fx : Fix
  W : WX
def XOk (S : Set_) (G H : Hp) (F : List Addr) (σ : L2.St) (c : Str) (x : Option (Str × D)) (ρ' : Env) : Prop :=
  ∀ dd H', PostX S.K S.cm S.fx G H F σ ρ' x dd H' → S.W (.ref (S.cm c)) dd σ H'
/-- the reading of an expression -/
def rE (S : Set_) (m : M) : TE := fun σ H Q => ∃ G ρ F, SR S.K S.cm S.fx G H σ ρ F ∧ match m ρ with
  | .ok d ρ' => ∀ v H', Post S.K S.cm S.fx G H F σ ρ' d v H' → Q v H'
  | .exc c x ρ' => XOk S G H F σ c x ρ'
  | .bad => False
/-- .. with a frozen value -/
def rZ (S : Set_) (m : M) : TE := fun σ H Q => ∃ G ρ F, SR S.K S.cm S.fx G H σ ρ F ∧ match m ρ with
  | .ok d ρ' => ∀ v H', PostZ S.K S.cm S.fx G H F σ ρ' d v H' → Q v H'
  | .exc c x ρ' => XOk S G H F σ c x ρ'
  | .bad => False
/-- freezing an expression's value -/
def mZ (m : M) : M := fun ρ => match m ρ with
  | .ok d ρ' => .ok (frz d) ρ'
  | .exc c x ρ' => .exc c x ρ'
  | .bad => .bad
theorem pe_imp {X : Cx} {e : Expr} {t t' : TE} (h : PE X e t) (k : ∀ σ H Q, t' σ H Q → t σ H Q) : PE X e t' := ⟨fun pins s σ H Q I q => h.run pins s σ H Q I (k σ H Q q)⟩
theorem pe_z {X : Cx} {e : Expr} {S : Set_} {m : M} (h : PE X e (rE S m)) : PE X e (rZ S (mZ m)) := pe_imp h fun σ H Q ⟨G, ρ, F, s, q⟩ => ⟨G, ρ, F, s, by
  unfold mZ at q
  cases e : m ρ with
  | ok d ρ' => rw [e] at q; exact fun v H' p => q v H' p.freeze
  | exc c x ρ' => rw [e] at q; exact q
  | bad => rw [e] at q; exact q⟩
theorem pe_ow {X : Cx} {e : Expr} {S : Set_} {m : M} (h : PE X e (rZ S m)) : PE X e (rE S m) := pe_imp h fun σ H Q ⟨G, ρ, F, s, q⟩ => ⟨G, ρ, F, s, by
  cases e : m ρ with
  | ok d ρ' => rw [e] at q; exact fun v H' p => q v H' p.post
  | exc c x ρ' => rw [e] at q; exact q
  | bad => rw [e] at q; exact q⟩
end VE
/-! VE3: operands, operations by values. -/
namespace VE
open PySem PySem.Spec PyProof.Rows L2

/-- a view: represented at H, whoever owns it -/
def Vw (K : Frag) (cm : Str → Addr) (G H : Hp) (d : D) (v : V) : Prop := ∃ F, Ow K cm G H d v F
inductive VwL (K : Frag) (cm : Str → Addr) (G H : Hp) : List D → List V → Prop
  | nil : VwL K cm G H [] []
  | cons {d : D} {v : V} {ds : List D} {vs : List V} : Vw K cm G H d v → VwL K cm G H ds vs → VwL K cm G H (d :: ds) (v :: vs)
/-- the heaps grow -/
structure New (G H G' H' : Hp) (Fv : List Addr) : Prop where
  g : GLe G G'
  h : ∀ a o, H a = some o → H' a = some o
  rd : RdS G' H'
  nd : Fv.Nodup
  f : ∀ a ∈ Fv, H a = none ∧ G' a = none
  d : ∀ a, G' a ≠ none → G a ≠ none ∨ H a = none
section
variable {K : Frag} {cm : Str → Addr} {fx : Fix} {G G' H H' : Hp} {F F' Fv : List Addr} {σ : L2.St} {ρ ρ' : Env} {d : D} {v : V}
theorem New.same (r : RdS G H) : New G H G H [] := ⟨GLe.refl G, fun _ _ h => h, r, .nil, fun a ha => (by cases ha), fun a h => .inl h⟩
theorem gle_upd {p : Addr} {o : HO} (h : G p = none) : GLe G (upd G p o) := fun a u e => by
  rw [upd_ne (ne_of_none e h)]; exact e
theorem rds_upd {p : Addr} {o : HO} (r : RdS G H) (h : H p = none) : RdS G (upd H p o) := fun a u q => by
  have hne : a ≠ p := fun z => by
    subst z
    rw [r.fresh h] at q; cases q
  rw [upd_ne hne]
  exact r a u q
theorem rds_upd2 {p : Addr} {o : HO} (r : RdS G H) (h : H p = none) : RdS (upd G p o) (upd H p o) := fun a u q => by
  by_cases e : a = p
  · subst e
    rw [upd_same] at q
    exact .inl (by rw [upd_same]; exact q)
  · rw [upd_ne e] at q
    exact rds_upd r h a u q
/-- a new frozen object -/
theorem New.frozen {p : Addr} {o : HO} (r : RdS G H) (h : H p = none) : New G H (upd G p o) (upd H p o) [] :=
  ⟨gle_upd (r.fresh h), fun a u e => by rw [upd_ne (ne_of_none e h)]; exact e, rds_upd2 r h, .nil, fun a ha => (by cases ha), fun a q => by
    by_cases e : a = p
    · subst e; exact .inr h
    · rw [upd_ne e] at q; exact .inl q⟩
/-- a new object that is owned -/
theorem New.owned {p : Addr} {o : HO} (r : RdS G H) (h : H p = none) : New G H G (upd H p o) [p] :=
  ⟨GLe.refl G, fun a u e => by rw [upd_ne (ne_of_none e h)]; exact e, rds_upd r h, by simp, fun a ha => by simp at ha; subst ha; exact ⟨h, r.fresh h⟩, fun a q => .inl q⟩
theorem New.post (n : New G H G' H' Fv) (s : SR K cm fx G H σ ρ F) (o : Ow K cm G' H' d v Fv) : Post K cm fx G H F σ ρ d v H' := by
  have ap : ∀ a ∈ Fv, a ∉ F := fun a ha hf => s.there a hf (n.f a ha).1
  refine ⟨G', F, Fv, ⟨n.g, fun a o _ e => n.h a o e, fun a ha => ?_, fun a ha => (n.d a ha).imp id .inr, fun a ha => ?_⟩, ⟨n.rd, s.nd, fun a ha => ?_, s.sl.mono n.g fun a _ o e => n.h a o e, s.fx⟩, o, ?_, fun a ha => (n.f a ha).2⟩
  · rcases List.mem_append.mp ha with q | q
    · exact .inl q
    · exact .inr (n.f a q).1
  · cases e : H a with
    | none => exact absurd e ha
    | some o => rw [n.h a o e]; simp
  · cases e : G' a with
    | none => rfl
    | some o =>
      rcases n.d a (by rw [e]; simp) with q | q
      · exact absurd (s.dj a ha) q
      · exact absurd q (s.there a ha)
  · exact List.nodup_append.mpr ⟨s.nd, n.nd, fun a ha b hb z => by subst z; exact ap a hb ha⟩
theorem VwL.length : ∀ {ds : List D} {vs : List V}, VwL K cm G H ds vs → ds.length = vs.length
  | _, _, .nil => rfl
  | _, _, .cons _ l => congrArg (· + 1) l.length
theorem Fz.vw (h : Fz K cm G d v) : Vw K cm G H d v := ⟨[], .fz h⟩
end

inductive Opd where
  | slot (i : Nat)
  | ex (m : M)
def sget (ρ : Env) (i : Nat) : Option D := match ρ[i]? with
  | some (some d) => some d
  | _ => none
theorem sget_some {ρ : Env} {i : Nat} {d : D} (h : sget ρ i = some d) : ρ[i]? = some (some d) := by
  unfold sget at h
  split at h
  · cases h; assumption
  · cases h
/-- operands from the left; a slot is read at the end -/
def evO : List Opd → ML
  | [], ρ => .ok [] ρ
  | .slot i :: r, ρ => match sget ρ i with
    | some _ => (match evO r ρ with
      | .ok ds ρ' => (match sget ρ' i with
        | some d => .ok (d :: ds) ρ'
        | none => .bad)
      | .exc c x ρ' => .exc c x ρ'
      | .bad => .bad)
    | none => .bad
  | .ex m :: r, ρ => match m ρ with
    | .ok d ρ1 => (match evO r ρ1 with
      | .ok ds ρ' => .ok (frz d :: ds) ρ'
      | .exc c x ρ' => .exc c x ρ'
      | .bad => .bad)
    | .exc c x ρ' => .exc c x ρ'
    | .bad => .bad
/-- the operands' values: a slot's own, or a frozen one -/
inductive VwO (K : Frag) (cm : Str → Addr) (G H : Hp) (σ : L2.St) (ρ : Env) : List Opd → List D → List V → Prop
  | nil : VwO K cm G H σ ρ [] [] []
  | slot {i : Nat} {d : D} {v : V} {os : List Opd} {ds : List D} {vs : List V} : sget ρ i = some d → σ[i]? = some (some v) → Vw K cm G H d v → VwO K cm G H σ ρ os ds vs → VwO K cm G H σ ρ (.slot i :: os) (d :: ds) (v :: vs)
  | ex {m : M} {d : D} {v : V} {os : List Opd} {ds : List D} {vs : List V} : Fz K cm G d v → VwO K cm G H σ ρ os ds vs → VwO K cm G H σ ρ (.ex m :: os) (d :: ds) (v :: vs)
theorem VwO.l {K : Frag} {cm : Str → Addr} {G H : Hp} {σ : L2.St} {ρ : Env} : ∀ {os : List Opd} {ds : List D} {vs : List V}, VwO K cm G H σ ρ os ds vs → VwL K cm G H ds vs
  | _, _, _, .nil => .nil
  | _, _, _, .slot _ _ w l => .cons w l.l
  | _, _, _, .ex z l => .cons z.vw l.l
def PostO (K : Frag) (cm : Str → Addr) (fx : Fix) (G H : Hp) (F : List Addr) (σ : L2.St) (ρ' : Env) (os : List Opd) (ds : List D) (vs : List V) (H' : Hp) : Prop :=
  ∃ G' F', Tr G H F G' H' F' ∧ SR K cm fx G' H' σ ρ' F' ∧ VwO K cm G' H' σ ρ' os ds vs
def rO (S : Set_) (os : List Opd) : TA := fun σ H Q => ∃ G ρ F, SR S.K S.cm S.fx G H σ ρ F ∧ match evO os ρ with
  | .ok ds ρ' => ∀ vs H', PostO S.K S.cm S.fx G H F σ ρ' os ds vs H' → Q vs H'
  | .exc c x ρ' => XOk S G H F σ c x ρ'
  | .bad => False
section
variable {X : Cx} {S : Set_}
theorem SR.slot {K : Frag} {cm : Str → Addr} {fx : Fix} {G H : Hp} {F : List Addr} {σ : L2.St} {ρ : Env} (s : SR K cm fx G H σ ρ F) {i : Nat} {d : D} (h : ρ[i]? = some (some d)) : ∃ v, σ[i]? = some (some v) ∧ Vw K cm G H d v := by
  obtain ⟨y, Fa, F1, Fb, h1, ⟨v, e, o⟩, _, _⟩ := s.sl.split i h
  exact ⟨v, by rw [h1, e], F1, o⟩
theorem XOk.trans {G H G1 H1 : Hp} {F F1 : List Addr} {σ : L2.St} {c : Str} {x : Option (Str × D)} {ρ' : Env} (t : Tr G H F G1 H1 F1) (k : XOk S G H F σ c x ρ') : XOk S G1 H1 F1 σ c x ρ' := fun dd H' p => k dd H' (p.trans t)
theorem rE_mono {m : M} {σ : L2.St} {H : Hp} {Q Q' : VK} (k : ∀ v H', Q v H' → Q' v H') (h : rE S m σ H Q) : rE S m σ H Q' := by
  obtain ⟨G, ρ, F, sr, q⟩ := h
  refine ⟨G, ρ, F, sr, ?_⟩
  cases e : m ρ with
  | bad => rw [e] at q; exact q
  | exc c x ρ' => rw [e] at q; exact q
  | ok d ρ' => rw [e] at q; exact fun v H' p => k v H' (q v H' p)
theorem pa_o_nil : PA X [] (rO S []) := ⟨fun pos pins s σ H Q I h => by
  obtain ⟨G, ρ, F, sr, q⟩ := h
  exact pa_nil.run pos pins s σ H Q I (q [] H ⟨G, F, .refl, sr, .nil⟩)⟩
theorem pa_imp {es : List Expr} {t t' : TA} (h : PA X es t) (k : ∀ σ H Q, t' σ H Q → t σ H Q) : PA X es t' := ⟨fun pos pins s σ H Q I q => h.run pos pins s σ H Q I (k σ H Q q)⟩
/-- one operand -/
def tO (S : Set_) : Opd → TE
  | .slot i => tVar i
  | .ex m => rE S m
theorem tO_mono {o : Opd} {σ : L2.St} {H : Hp} {Q Q' : VK} (k : ∀ v H', Q v H' → Q' v H') (h : tO S o σ H Q) : tO S o σ H Q' := by
  cases o with
  | slot i => obtain ⟨v, e, q⟩ := h; exact ⟨v, e, k v H q⟩
  | ex m => exact rE_mono k h
theorem rO_cons {o : Opd} {os : List Opd} {σ : L2.St} {H : Hp} {Q : List V → Hp → Prop} (q : rO S (o :: os) σ H Q) : tCons (tO S o) (rO S os) σ H Q := by
  cases o with
  | slot i =>
    obtain ⟨G, ρ, F, sr, q⟩ := q
    unfold evO at q
    cases e0 : sget ρ i with
    | none => rw [e0] at q; exact q.elim
    | some d0 =>
      rw [e0] at q
      dsimp only at q
      obtain ⟨v, hv, _⟩ := sr.slot (sget_some e0)
      refine ⟨v, hv, G, ρ, F, sr, ?_⟩
      cases e1 : evO os ρ with
      | bad => rw [e1] at q; exact q
      | exc c x ρ' => rw [e1] at q; exact q
      | ok ds ρ' =>
        rw [e1] at q
        dsimp only at q ⊢
        intro vs H' ⟨G', F', t, sr', vl⟩
        cases e2 : sget ρ' i with
        | none => rw [e2] at q; exact q.elim
        | some d =>
          rw [e2] at q
          obtain ⟨v', hv', w⟩ := sr'.slot (sget_some e2)
          have : v' = v := by rw [hv] at hv'; exact (Option.some.inj (Option.some.inj hv')).symm
          subst this
          exact q _ _ ⟨G', F', t, sr', .slot e2 hv w vl⟩
  | ex m =>
    obtain ⟨G, ρ, F, sr, q⟩ := q
    refine ⟨G, ρ, F, sr, ?_⟩
    unfold evO at q
    cases e1 : m ρ with
    | bad => rw [e1] at q; exact q
    | exc c x ρ' => rw [e1] at q; exact q
    | ok d ρ1 =>
      rw [e1] at q
      dsimp only at q ⊢
      intro v H1 p
      obtain ⟨G1, F1, t1, sr1, z1⟩ := p.freeze
      refine ⟨G1, ρ1, F1, sr1, ?_⟩
      cases e2 : evO os ρ1 with
      | bad => rw [e2] at q; exact q
      | exc c x ρ' => rw [e2] at q; exact q.trans t1
      | ok ds ρ' =>
        rw [e2] at q
        dsimp only at q ⊢
        intro vs H2 ⟨G2, F2, t2, sr2, vl⟩
        exact q _ _ ⟨G2, F2, t1.trans t2, sr2, .ex (z1.mono t2.g.rds) vl⟩
theorem rO_nil {σ : L2.St} {H : Hp} {Q : List V → Hp → Prop} (q : rO S [] σ H Q) : Q [] H := by
  obtain ⟨G, ρ, F, sr, q⟩ := q
  exact q [] H ⟨G, F, .refl, sr, .nil⟩
theorem pa_o_cons {e : Expr} {es : List Expr} {o : Opd} {os : List Opd} (h : PE X e (tO S o)) (hr : PA X es (rO S os))
    (hs : starEach (e :: es) X.env = (false, eval e X.env) :: starEach es X.env) : PA X (e :: es) (rO S (o :: os)) := pa_imp (pa_cons h hr hs) fun _ _ _ q => rO_cons q
theorem rO1 {a : Opd} {σ : L2.St} {H : Hp} {Q : List V → Hp → Prop} (q : rO S [a] σ H Q) : tO S a σ H fun x H1 => Q [x] H1 := tO_mono (fun _ _ q => rO_nil q) (rO_cons q)
theorem rO2 {a b : Opd} {σ : L2.St} {H : Hp} {Q : List V → Hp → Prop} (q : rO S [a, b] σ H Q) : tO S a σ H fun x H1 => tO S b σ H1 fun y H2 => Q [x, y] H2 := tO_mono (fun _ _ q => rO1 q) (rO_cons q)
theorem rO3 {a b c : Opd} {σ : L2.St} {H : Hp} {Q : List V → Hp → Prop} (q : rO S [a, b, c] σ H Q) : tO S a σ H fun x H1 => tO S b σ H1 fun y H2 => tO S c σ H2 fun z H3 => Q [x, y, z] H3 := tO_mono (fun _ _ q => rO2 q) (rO_cons q)

/-- an operation by values: what it makes of trees -/
def OpD (S : Set_) (g : List D → Option D) (r : List V → Hp → VK → Prop) : Prop := ∀ (G H : Hp) (ds : List D) (vs : List V) (d : D) (Q : VK), RdS G H → VwL S.K S.cm G H ds vs → g ds = some d →
  (∀ v G' H' Fv, New G H G' H' Fv → Ow S.K S.cm G' H' d v Fv → Q v H') → r vs H Q
def ops (os : List Opd) (g : List D → Option D) : M := fun ρ => match evO os ρ with
  | .ok ds ρ' => (match g ds with
    | some d => .ok d ρ'
    | none => .bad)
  | .exc c x ρ' => .exc c x ρ'
  | .bad => .bad
theorem ops_imp {os : List Opd} {g : List D → Option D} {r : List V → Hp → VK → Prop} (od : OpD S g r) (σ : L2.St) (H : Hp) (Q : VK) (h : rE S (ops os g) σ H Q) : rO S os σ H fun vs H1 => r vs H1 Q := by
  obtain ⟨G, ρ, F, sr, q⟩ := h
  refine ⟨G, ρ, F, sr, ?_⟩
  unfold ops at q
  cases e : evO os ρ with
  | bad => rw [e] at q; exact q
  | exc c x ρ' => rw [e] at q; exact q
  | ok ds ρ' =>
    rw [e] at q
    dsimp only at q ⊢
    intro vs H1 ⟨G1, F1, t1, sr1, vl⟩
    cases e2 : g ds with
    | none => rw [e2] at q; exact q.elim
    | some d =>
      rw [e2] at q
      dsimp only at q
      exact od G1 H1 ds vs d Q sr1.rd vl.l e2 fun v G' H' Fv n o => q v H' ((n.post sr1 o).trans t1)
theorem OpD.or {g g' : List D → Option D} {r r' : List V → Hp → VK → Prop} (h : OpD S g r) (h' : OpD S g' r') : OpD S (fun ds => (g ds).or (g' ds)) (fun vs H Q => r vs H Q ∨ r' vs H Q) := by
  intro G H ds vs d Q rd vl e k
  cases e1 : g ds with
  | some d' =>
    dsimp only at e
    rw [e1] at e
    have e' : d' = d := by simpa using e
    subst e'
    exact .inl (h G H ds vs d' Q rd vl e1 k)
  | none =>
    dsimp only at e
    rw [e1] at e
    exact .inr (h' G H ds vs d Q rd vl (by simpa using e) k)
/-- several rules of one operation: the first that serves -/
def orL (gs : List (List D → Option D)) : List D → Option D := fun ds => gs.foldr (fun g z => (g ds).or z) none

/-! ### names, constants -/
/-- a name's value, which is frozen thereby -/
def eVar (i : Nat) : M := fun ρ => match sget ρ i with
  | some d => .ok (frz d) (ρ.set i (some (frz d)))
  | none => .bad
theorem set_self {α : Type} : ∀ (l : List α) (i : Nat) (x : α), l[i]? = some x → l.set i x = l
  | [], _, _, h => by simp at h
  | a :: l, 0, x, h => by simp at h; simp [h]
  | a :: l, i + 1, x, h => by simp at h; simp [set_self l i x h]
theorem SR.thaw {K : Frag} {cm : Str → Addr} {fx : Fix} {G H : Hp} {F : List Addr} {σ : L2.St} {ρ : Env} (s : SR K cm fx G H σ ρ F) {i : Nat} {d : D} (h : ρ[i]? = some (some d)) :
    ∃ v, σ[i]? = some (some v) ∧ PostZ K cm fx G H F σ (ρ.set i (some (frz d))) (frz d) v H := by
  obtain ⟨y, Fa, F1, Fb, h1, ⟨v, e, o⟩, eF, up⟩ := s.sl.split i h
  subst e
  refine ⟨v, h1, ?_⟩
  have hin : ∀ a ∈ F1, a ∈ F := fun a ha => by rw [eF]; simp [ha]
  have g := frzG_le (H := H) fun a ha => s.dj a (hin a ha)
  have nd : (Fa ++ (F1 ++ Fb)).Nodup := eF ▸ s.nd
  have sub : ∀ a ∈ Fa ++ Fb, a ∈ F := fun a ha => by rw [eF]; simp at ha ⊢; rcases ha with q | q <;> simp [q]
  have out : ∀ a ∈ Fa ++ Fb, a ∉ F1 := fun a ha h1 => by
    have n1 := List.nodup_append.mp nd
    have n2 := List.nodup_append.mp n1.2.1
    rcases List.mem_append.mp ha with q | q
    · exact n1.2.2 a q a (by simp [h1]) rfl
    · exact n2.2.2 a h1 a q rfl
  have z := o.freeze g fun a h => h
  have sl := up _ H (some (frz d)) (some v) [] g (fun _ _ _ h => h) ⟨v, rfl, .fz z⟩
  rw [set_self σ i _ h1] at sl
  refine ⟨frzG G H F1, Fa ++ Fb, ⟨g, fun _ _ _ h => h, fun a ha => .inl (sub a ha), fun a ha => ?_, fun _ h => h⟩, ⟨frzG_rds s.rd, ?_, fun a ha => ?_, by simpa using sl, s.fx⟩, z⟩
  · by_cases hm : a ∈ F1
    · exact .inr (.inl (hin a hm))
    · rw [frzG_out hm] at ha; exact .inl ha
  · have n1 := List.nodup_append.mp nd
    have n2 := List.nodup_append.mp n1.2.1
    exact List.nodup_append.mpr ⟨n1.1, n2.2.1, fun a ha b hb => n1.2.2 a ha b (by simp [hb])⟩
  · rw [frzG_out (out a ha)]; exact s.dj a (sub a ha)
theorem pe_eVar {e : Expr} {i : Nat} (h : PE X e (tVar i)) : PE X e (rE S (eVar i)) := pe_imp h fun σ H Q q => by
  obtain ⟨G, ρ, F, sr, q⟩ := q
  unfold eVar at q
  cases e1 : sget ρ i with
  | none => rw [e1] at q; exact q.elim
  | some d =>
    rw [e1] at q
    obtain ⟨v, hv, p⟩ := sr.thaw (sget_some e1)
    exact ⟨v, hv, q v H p.post⟩
def eC (d : D) : M := fun ρ => .ok d ρ
theorem pe_eC {e : Expr} {v : V} {d : D} (h : PE X e (tC v)) (hz : ∀ G, Fz S.K S.cm G d v) : PE X e (rE S (eC d)) := pe_imp h fun σ H Q q => by
  obtain ⟨G, ρ, F, sr, q⟩ := q
  exact q v H (PostZ.here sr (hz G)).post
end
end VE
/-! VE4: what operations make of trees. -/
namespace VE
open PySem PySem.Spec PyProof.Rows L2
/-! ### rules by values that the layer lacks -/
section
variable {X : Cx}
theorem Inv.rdl {pins : List (Addr × Obj)} {σ : L2.St} {H : Hp} {s : Shared} {l : Addr} {xs : List V} (I : Inv X pins σ H s) (h : Rd H l (.lst xs)) :
    xs.length ≤ sizeLine ∧ ∃ (its : List Value) (n : Nat), Vals xs its ∧ xs.length = its.length ∧ s.heap.get? l = some { cls := .type "list", data := .seq its.toArray n } := by
  obtain ⟨z, its, n, r, e⟩ := h.ok I.hok
  exact ⟨z, its, n, r, r.length, e⟩
def rCatR : R2 := fun x y H Q => ∃ l b xs zs, x = .ref l ∧ y = .ref b ∧ Rd H l (.lst xs) ∧ Rd H b (.lst zs) ∧ xs.length + zs.length ≤ sizeLine ∧ ∀ p, H p = none → Q (.ref p) (upd H p (.lst (xs ++ zs)))
theorem op_catR : OpR X (binaryOp .Add) rCatR := by
  intro pins s σ H x y v u Q I rx ry h
  obtain ⟨l, b, xs, zs, rfl, rfl, hH, hB, hz, q⟩ := h
  cases rx
  cases ry
  obtain ⟨z, its, n, r, hl, e⟩ := Inv.rdl I hH
  obtain ⟨z2, its2, n2, r2, hl2, e2⟩ := Inv.rdl I hB
  refine PySem.P.add_list e e2 ?_ (by rw [List.size_toArray, List.size_toArray]; omega)
  have ea : its.toArray ++ its2.toArray = (its ++ its2).toArray := by simp
  rw [ea]
  exact ⟨.ref _, _, I.lnew (t' := s.toks) (r.append r2) (by rw [List.length_append]; omega), rfl, q _ I.fresh⟩
def rRepR : R2 := fun x y H Q => ∃ l k xs, x = .ref l ∧ y = .int k ∧ Rd H l (.lst xs) ∧ -(2 ^ 63) ≤ k ∧ k < 2 ^ 63 ∧ xs.length * k.toNat ≤ sizeLine ∧
  ∀ p, H p = none → Q (.ref p) (upd H p (.lst (List.replicate k.toNat xs).flatten))
theorem op_repR : OpR X (binaryOp .Mult) rRepR := by
  intro pins s σ H x y v u Q I rx ry h
  obtain ⟨l, k, xs, rfl, rfl, hH, h1, h2, hz, q⟩ := h
  cases rx
  obtain ⟨t, rfl⟩ := ry
  obtain ⟨z, its, n, r, hl, e⟩ := Inv.rdl I hH
  have hlen : its.toArray.size * k.toNat ≤ sizeLine := by rw [List.size_toArray, ← hl]; exact hz
  have hcap : ¬ its.toArray.size * k.toNat > (2 ^ 63 - 1) / 8 := by
    have : (sizeLine : Nat) ≤ (2 ^ 63 - 1) / 8 := by decide
    omega
  have hfit : ¬ (!Builtin.List.listFitsIndex k) = true := by
    rw [fitsIndex_both h1 h2]
    exact Bool.false_ne_true
  have hlong : ¬ Builtin.List.listTooLong (its.toArray.size * k.toNat) = true := by
    rw [notLongL hlen]
    exact Bool.false_ne_true
  have hnew : List.foldl (fun x1 x2 => x1 ++ x2) #[] (List.replicate (if its.toArray.isEmpty = true then 0 else k.toNat) its.toArray) = (List.replicate k.toNat its).flatten.toArray := by
    have f0 : ∀ m : Nat, List.foldl (fun x1 x2 => x1 ++ x2) #[] (List.replicate m its.toArray) = (List.replicate m its).flatten.toArray := fun m => by
      have := foldl_rep its m []
      rw [List.nil_append] at this
      exact this
    rw [f0]
    cases its with
    | nil => simp
    | cons a r' => rw [if_neg (by simp)]
  refine wpAny_binaryOp_repeat_ref (T := "list") (U := "int") (by decide) ⟨_, e, rfl⟩ (fun s' => typeIs_int s' k t) noFill_list_mul F.fills_int_mul F.slot_int_rmul repeat_list F.slot_int_index.lookup
    (call_meets F.slot_int_rmul (typeIs_int s k t) F.entry_int_rmul (F.args_int_rmul_2 _ _) (int___rmul___int_list k t l its.toArray n)
      ⟨e, rfl, ⟨_, e, rfl⟩, call_meets F.slot_list_mul ⟨_, e, rfl⟩ F.entry_list_mul (F.args_list_mul_2 _ _) (AutoListH.list___mul___list_int_3 l its.toArray n k t hfit hcap hlong) ⟨e, ?_⟩⟩)
  rw [hnew]
  exact ⟨.ref _, _, I.lnew (t' := s.toks) (r.rep k.toNat) (by rw [PyProof.Rows.lm_len_rep_flat, Nat.mul_comm]; exact hz), rfl, q _ I.fresh⟩
def CDivP (i j : Int) : Prop := 0 < j ∧ Builtin.divisionGoesByPylong i j = false
theorem op_fdivP : OpR X (binaryOp .FloorDiv) (rI CDivP fun i j => .int (i / j)) := opI fun i j _ _ _ _ _ hc q => by
  have h1 : (0 : Int) < j := hc.1
  exact floordiv_int (by omega) (by rw [Int.fdiv_eq_ediv_of_nonneg i (by omega)]; exact q) (.inl hc.2)
/-- d[k], by values -/
def rIxG (K : Frag) : R2 := fun x y H Q => ∃ a v, x = .ref a ∧ DGet H a y (some v) ∧ Q v H
end
/-! ### shapes -/
section
variable {S : Set_} {G H : Hp} {K : Frag} {cm : Str → Addr}
theorem vw0 {vs : List V} (h : VwL K cm G H [] vs) : vs = [] := by cases h; rfl
theorem vw1 {d : D} {vs : List V} (h : VwL K cm G H [d] vs) : ∃ v F, vs = [v] ∧ Ow K cm G H d v F := by
  cases h with | cons a l => cases l; obtain ⟨F, a⟩ := a; exact ⟨_, F, rfl, a⟩
theorem vw2 {d e : D} {vs : List V} (h : VwL K cm G H [d, e] vs) : ∃ v w F F', vs = [v, w] ∧ Ow K cm G H d v F ∧ Ow K cm G H e w F' := by
  cases h with | cons a l => cases l with | cons b l => cases l; obtain ⟨F, a⟩ := a; obtain ⟨F', b⟩ := b; exact ⟨_, _, F, F', rfl, a, b⟩
theorem vw3 {d e f : D} {vs : List V} (h : VwL K cm G H [d, e, f] vs) : ∃ v w z F F' F2, vs = [v, w, z] ∧ Ow K cm G H d v F ∧ Ow K cm G H e w F' ∧ Ow K cm G H f z F2 := by
  cases h with | cons a l => cases l with | cons b l => cases l with | cons c l => cases l; obtain ⟨F, a⟩ := a; obtain ⟨F', b⟩ := b; obtain ⟨F2, c⟩ := c; exact ⟨_, _, _, F, F', F2, rfl, a, b, c⟩
def r1 (r : V → Hp → VK → Prop) : List V → Hp → VK → Prop := fun vs H Q => ∃ x, vs = [x] ∧ r x H Q
def r2 (r : R2) : List V → Hp → VK → Prop := fun vs H Q => ∃ x y, vs = [x, y] ∧ r x y H Q
/-- what a frozen, heapless result needs -/
theorem give {d : D} {v : V} {Q : VK} (rd : RdS G H) (k : ∀ v G' H' Fv, New G H G' H' Fv → Ow S.K S.cm G' H' d v Fv → Q v H') (z : Fz S.K S.cm G d v) : Q v H := k v G H [] (.same rd) (.fz z)
theorem give_tup {ds : List D} {vs : List V} {Q : VK} (rd : RdS G H) (k : ∀ v G' H' Fv, New G H G' H' Fv → Ow S.K S.cm G' H' (.tup ds) v Fv → Q v H') (z : FzL S.K S.cm G ds vs) : ∀ p, H p = none → Q (.ref p) (upd H p (.tup vs)) := fun p hp =>
  k _ _ _ _ (.frozen rd hp) (.fz (.tup (.inl (.inl upd_same)) (z.mono (gle_upd (rd.fresh hp)).rds)))
theorem give_lst {ds : List D} {vs : List V} {Q : VK} (rd : RdS G H) (k : ∀ v G' H' Fv, New G H G' H' Fv → Ow S.K S.cm G' H' (.lst true ds) v Fv → Q v H') (z : FzL S.K S.cm G ds vs) : ∀ p, H p = none → Q (.ref p) (upd H p (.lst vs)) := fun p hp =>
  k _ _ _ _ (.owned rd hp) (.lst upd_same z)
end
section
variable {S : Set_}
/-! ### + - * // % ** -/
def dAdd : List D → Option D
  | [.int a, .int b] => some (.int (a + b))
  | [.str a, .str b] => if a.length + b.length ≤ sizeLine then some (.str (a ++ b)) else none
  | [.tup a, .tup b] => if a.length + b.length ≤ sizeLine then some (.tup (a ++ b)) else none
  | [.lst _ a, .lst _ b] => if a.length + b.length ≤ sizeLine then some (.lst true (a ++ b)) else none
  | _ => none
def rAddS : R2 := fun x y H Q => ∃ i j, x = .str i ∧ y = .str j ∧ i.length + j.length ≤ sizeLine ∧ Q (.str (i ++ j)) H
def rAdd4 (K : Frag) : R2 := fun x y H Q => rI0 (fun i j => .int (i + j)) x y H Q ∨ rAddS x y H Q ∨ rCatA K x y H Q ∨ rCatR x y H Q
theorem op_add4 {X : Cx} : OpR X (binaryOp .Add) (rAdd4 X.K) := op_add.or (op_add_str.or (op_catA.or op_catR))
theorem od_add : OpD S dAdd (r2 (rAdd4 S.K)) := by
  intro G H ds vs d Q rd vl e k
  unfold dAdd at e
  split at e
  · cases (Option.some.inj e : _ = d)
    obtain ⟨v, w, F, F', rfl, a, b⟩ := vw2 vl
    obtain ⟨rfl, _⟩ := a.int_inv
    obtain ⟨rfl, _⟩ := b.int_inv
    exact ⟨_, _, rfl, .inl ⟨_, _, rfl, rfl, give rd k (.int _)⟩⟩
  · split at e
    case isFalse => cases e
    case isTrue hc =>
    cases (Option.some.inj e : _ = d)
    obtain ⟨v, w, F, F', rfl, a, b⟩ := vw2 vl
    obtain ⟨rfl, _⟩ := a.str_inv
    obtain ⟨rfl, _⟩ := b.str_inv
    exact ⟨_, _, rfl, .inr (.inl ⟨_, _, rfl, rfl, hc, give rd k (.str _)⟩)⟩
  · split at e
    case isFalse => cases e
    case isTrue hc =>
    cases (Option.some.inj e : _ = d)
    obtain ⟨v, w, F, F', rfl, a, b⟩ := vw2 vl
    obtain ⟨p, xs, rfl, s1, l1, g1⟩ := a.tup_inv rd
    obtain ⟨q, ys, rfl, s2, l2, g2⟩ := b.tup_inv rd
    refine ⟨_, _, rfl, .inr (.inr (.inl ⟨p, q, xs, ys, rfl, rfl, s1, s2, by rw [← l1.length, ← l2.length]; exact hc, fun e => ?_, fun _ e => ?_, fun _ _ => give_tup rd k (l1.append l2)⟩))⟩
    · subst e
      have := l1.length
      have : _ = [] := List.eq_nil_of_length_eq_zero this
      subst this
      exact give rd k (.tup g2 l2)
    · subst e
      have := l2.length
      have : _ = [] := List.eq_nil_of_length_eq_zero this
      subst this
      exact give rd k (by rw [List.append_nil]; exact .tup g1 l1)
  · split at e
    case isFalse => cases e
    case isTrue hc =>
    cases (Option.some.inj e : _ = d)
    obtain ⟨v, w, F, F', rfl, a, b⟩ := vw2 vl
    obtain ⟨p, xs, rfl, s1, l1⟩ := a.lst_inv rd
    obtain ⟨q, ys, rfl, s2, l2⟩ := b.lst_inv rd
    exact ⟨_, _, rfl, .inr (.inr (.inr ⟨p, q, xs, ys, rfl, rfl, s1, s2, by rw [← l1.length, ← l2.length]; exact hc, give_lst rd k (l1.append l2)⟩))⟩
  · cases e
def dSub : List D → Option D
  | [.int a, .int b] => some (.int (a - b))
  | _ => none
theorem od_sub : OpD S dSub (r2 (rI0 fun i j => .int (i - j))) := by
  intro G H ds vs d Q rd vl e k
  unfold dSub at e
  split at e
  · cases (Option.some.inj e : _ = d)
    obtain ⟨v, w, F, F', rfl, a, b⟩ := vw2 vl
    obtain ⟨rfl, _⟩ := a.int_inv
    obtain ⟨rfl, _⟩ := b.int_inv
    exact ⟨_, _, rfl, _, _, rfl, rfl, give rd k (.int _)⟩
  · cases e
theorem FzL.rep {K : Frag} {cm : Str → Addr} {G : Hp} {ds : List D} {vs : List V} (l : FzL K cm G ds vs) : ∀ n : Nat, FzL K cm G (List.replicate n ds).flatten (List.replicate n vs).flatten
  | 0 => .nil
  | n + 1 => by rw [List.replicate_succ, List.replicate_succ, List.flatten_cons, List.flatten_cons]; exact l.append (FzL.rep l n)
def dMul : List D → Option D
  | [.int a, .int b] => if a.natAbs.log2 + b.natAbs.log2 < 1000000 then some (.int (a * b)) else none
  | [.lst _ a, .int k] => if -(2 ^ 63) ≤ k ∧ k < 2 ^ 63 ∧ a.length * k.toNat ≤ sizeLine then some (.lst true (List.replicate k.toNat a).flatten) else none
  | [.tup a, .int k] => if a ≠ [] ∧ 2 ≤ k ∧ k ≤ 1000 ∧ a.length ≤ 1000 then some (.tup (List.replicate k.toNat a).flatten) else none
  | _ => none
def rMul3 (K : Frag) : R2 := fun x y H Q => rI CMulW (fun i j => .int (i * j)) x y H Q ∨ rRepR x y H Q ∨ rRepT K x y H Q
theorem op_mul3 {X : Cx} : OpR X (binaryOp .Mult) (rMul3 X.K) := op_mulW.or (op_repR.or op_repT)
theorem od_mul : OpD S dMul (r2 (rMul3 S.K)) := by
  intro G H ds vs d Q rd vl e k
  unfold dMul at e
  split at e
  · split at e
    case isFalse => cases e
    case isTrue hc =>
    cases (Option.some.inj e : _ = d)
    obtain ⟨v, w, F, F', rfl, a, b⟩ := vw2 vl
    obtain ⟨rfl, _⟩ := a.int_inv
    obtain ⟨rfl, _⟩ := b.int_inv
    exact ⟨_, _, rfl, .inl ⟨_, _, rfl, rfl, hc, give rd k (.int _)⟩⟩
  · split at e
    case isFalse => cases e
    case isTrue hc =>
    cases (Option.some.inj e : _ = d)
    obtain ⟨v, w, F, F', rfl, a, b⟩ := vw2 vl
    obtain ⟨rfl, _⟩ := b.int_inv
    obtain ⟨p, xs, rfl, s1, l1⟩ := a.lst_inv rd
    exact ⟨_, _, rfl, .inr (.inl ⟨p, _, xs, rfl, rfl, s1, hc.1, hc.2.1, by rw [← l1.length]; exact hc.2.2, give_lst rd k (l1.rep _)⟩)⟩
  · split at e
    case isFalse => cases e
    case isTrue hc =>
    cases (Option.some.inj e : _ = d)
    obtain ⟨v, w, F, F', rfl, a, b⟩ := vw2 vl
    obtain ⟨rfl, _⟩ := b.int_inv
    obtain ⟨p, xs, rfl, s1, l1, _⟩ := a.tup_inv rd
    refine ⟨_, _, rfl, .inr (.inr ⟨p, _, xs, rfl, rfl, s1, fun z => hc.1 ?_, hc.2.1, hc.2.2.1, by rw [← l1.length]; exact hc.2.2.2, give_tup rd k (l1.rep _)⟩)⟩
    subst z
    exact List.eq_nil_of_length_eq_zero l1.length
  · cases e
def dDiv : List D → Option D
  | [.int a, .int b] => if 0 < b then some (.int (a / b)) else none
  | _ => none
theorem od_div : OpD S dDiv (r2 (rI (fun _ j => 0 < j) fun i j => .int (i / j))) := by
  intro G H ds vs d Q rd vl e k
  unfold dDiv at e
  split at e
  · split at e
    case isFalse => cases e
    case isTrue hc =>
    cases (Option.some.inj e : _ = d)
    obtain ⟨v, w, F, F', rfl, a, b⟩ := vw2 vl
    obtain ⟨rfl, _⟩ := a.int_inv
    obtain ⟨rfl, _⟩ := b.int_inv
    exact ⟨_, _, rfl, _, _, rfl, rfl, hc, give rd k (.int _)⟩
  · cases e
def dMod : List D → Option D
  | [.int a, .int b] => if 0 < b then some (.int (a % b)) else none
  | _ => none
theorem od_mod : OpD S dMod (r2 (rI (fun _ j => 0 < j) fun i j => .int (i % j))) := by
  intro G H ds vs d Q rd vl e k
  unfold dMod at e
  split at e
  · split at e
    case isFalse => cases e
    case isTrue hc =>
    cases (Option.some.inj e : _ = d)
    obtain ⟨v, w, F, F', rfl, a, b⟩ := vw2 vl
    obtain ⟨rfl, _⟩ := a.int_inv
    obtain ⟨rfl, _⟩ := b.int_inv
    exact ⟨_, _, rfl, _, _, rfl, rfl, hc, give rd k (.int _)⟩
  · cases e
def dPow : List D → Option D
  | [.int a, .int b] => if 0 ≤ b ∧ b ≤ 1000000 ∧ a.natAbs < 2 ^ 64 then some (.int (a ^ b.toNat)) else none
  | _ => none
theorem od_pow : OpD S dPow (r2 (rI CPow fun i j => .int (i ^ j.toNat))) := by
  intro G H ds vs d Q rd vl e k
  unfold dPow at e
  split at e
  · split at e
    case isFalse => cases e
    case isTrue hc =>
    cases (Option.some.inj e : _ = d)
    obtain ⟨v, w, F, F', rfl, a, b⟩ := vw2 vl
    obtain ⟨rfl, _⟩ := a.int_inv
    obtain ⟨rfl, _⟩ := b.int_inv
    exact ⟨_, _, rfl, _, _, rfl, rfl, hc, give rd k (.int _)⟩
  · cases e
def dNeg : List D → Option D
  | [.int a] => some (.int (-a))
  | _ => none
theorem od_neg : OpD S dNeg (r1 (rU fun i => .int (-i))) := by
  intro G H ds vs d Q rd vl e k
  unfold dNeg at e
  split at e
  · cases (Option.some.inj e : _ = d)
    obtain ⟨v, F, rfl, a⟩ := vw1 vl
    obtain ⟨rfl, _⟩ := a.int_inv
    exact ⟨_, rfl, _, rfl, give rd k (.int _)⟩
  · cases e
/-! ### comparisons of ints, is None -/
def dCmp (p : Int → Int → Bool) : List D → Option D
  | [.int a, .int b] => some (.bl (p a b))
  | _ => none
theorem od_cmp {p : Int → Int → Bool} : OpD S (dCmp p) (r2 (rI0 fun i j => .bl (p i j))) := by
  intro G H ds vs d Q rd vl e k
  unfold dCmp at e
  split at e
  · cases (Option.some.inj e : _ = d)
    obtain ⟨v, w, F, F', rfl, a, b⟩ := vw2 vl
    obtain ⟨rfl, _⟩ := a.int_inv
    obtain ⟨rfl, _⟩ := b.int_inv
    exact ⟨_, _, rfl, _, _, rfl, rfl, give rd k (.bl _)⟩
  · cases e
def isNon : D → Bool
  | .non => true
  | _ => false
theorem isNon_v {K : Frag} {cm : Str → Addr} {G H : Hp} {d : D} {v : V} {F : List Addr} (o : Ow K cm G H d v F) : isNon d = decide (v = .non) := by
  cases o with
  | fz z => cases z <;> simp [isNon]
  | _ => simp [isNon]
def dIsN : List D → Option D
  | [a, .non] => some (.bl (isNon a))
  | _ => none
def rIsN2 : R2 := fun x y H Q => y = .non ∧ Q (.bl (decide (x = .non))) H
theorem od_isN : OpD S dIsN (r2 rIsN2) := by
  intro G H ds vs d Q rd vl e k
  unfold dIsN at e
  split at e
  · cases (Option.some.inj e : _ = d)
    obtain ⟨v, w, F, F', rfl, a, b⟩ := vw2 vl
    obtain ⟨rfl, _⟩ := b.non_inv
    exact ⟨_, _, rfl, rfl, by rw [← isNon_v a]; exact give rd k (.bl _)⟩
  · cases e
def dNotN : List D → Option D
  | [a, .non] => some (.bl (!isNon a))
  | _ => none
def rNotN2 : R2 := fun x y H Q => y = .non ∧ Q (.bl (!decide (x = .non))) H
theorem od_notN : OpD S dNotN (r2 rNotN2) := by
  intro G H ds vs d Q rd vl e k
  unfold dNotN at e
  split at e
  · cases (Option.some.inj e : _ = d)
    obtain ⟨v, w, F, F', rfl, a, b⟩ := vw2 vl
    obtain ⟨rfl, _⟩ := b.non_inv
    exact ⟨_, _, rfl, rfl, by rw [← isNon_v a]; exact give rd k (.bl _)⟩
  · cases e
end
/-! ### == of data -/
mutual
def deq : D → D → Bool
  | .non, .non => true
  | .bl a, .bl b => a == b
  | .bl a, .int j => (if a then 1 else 0) == j
  | .int i, .bl b => i == (if b then 1 else 0)
  | .int i, .int j => i == j
  | .str x, .str y => x == y
  | .lst _ xs, .lst _ ys => deqL xs ys
  | .tup xs, .tup ys => deqL xs ys
  | _, _ => false
def deqL : List D → List D → Bool
  | [], [] => true
  | x :: xs, y :: ys => deq x y && deqL xs ys
  | _, _ => false
end
mutual
def flat : Nat → D → Bool
  | _, .non => true
  | _, .bl _ => true
  | _, .int _ => true
  | _, .str x => PyData.strOk x
  | n + 1, .lst _ xs => flatL n xs
  | n + 1, .tup xs => flatL n xs
  | _, _ => false
def flatL : Nat → List D → Bool
  | _, [] => true
  | n, x :: xs => flat n x && flatL n xs
end
mutual
def toP : D → PyData
  | .bl b => .bool b
  | .int i => .int i
  | .str x => .str x
  | .lst _ xs => .list (toPL xs)
  | .tup xs => .tuple (toPL xs)
  | _ => .none
def toPL : List D → List PyData
  | [] => []
  | x :: xs => toP x :: toPL xs
end
section
variable {K : Frag} {cm : Str → Addr} {G H : Hp} {S : Set_}
mutual
theorem dp_fz : ∀ {n : Nat} {d : D} {v : V}, Fz K cm H d v → flat n d = true → Dp K H v (toP d)
  | _, _, _, .non, _ => .non
  | _, _, _, .bl b, _ => .bl b
  | _, _, _, .int i, _ => .int i
  | _, _, _, .str z, _ => .str z
  | 0, _, _, .tup s l, h => by simp [flat] at h
  | n + 1, _, _, .tup s l, h => .tup s (dp_fzL l (by simpa [flat] using h))
  | 0, _, _, .lst s l, h => by simp [flat] at h
  | n + 1, _, _, .lst s l, h => .lst (.inl (.inl s)) (dp_fzL l (by simpa [flat] using h))
  | n, _, _, .tux s l, h => by simp [flat] at h
  | n, _, _, .rol s l, h => by simp [flat] at h
  | n, _, _, .dk s _ l, h => by simp [flat] at h
  | n, _, _, .dt s _ l, h => by simp [flat] at h
  | n, _, _, .ins s _ l, h => by simp [flat] at h
theorem dp_fzL : ∀ {n : Nat} {ds : List D} {vs : List V}, FzL K cm H ds vs → flatL n ds = true → DpAll K H vs (toPL ds)
  | _, _, _, .nil, _ => .nil
  | n, _, _, .cons a l, h => by
    simp only [flatL, Bool.and_eq_true] at h
    exact .cons (dp_fz a h.1) (dp_fzL l h.2)
end
mutual
theorem flat_can : ∀ (n : Nat) (d : D), flat n d = true → (toP d).canLay0 = true ∧ (toP d).depth ≤ n
  | n, .non, _ => ⟨rfl, Nat.zero_le _⟩
  | n, .bl b, _ => ⟨rfl, Nat.zero_le _⟩
  | n, .int i, _ => ⟨rfl, Nat.zero_le _⟩
  | n, .str z, h => ⟨by simpa [flat, toP, PyData.canLay0] using h, Nat.zero_le _⟩
  | n + 1, .tup xs, h => by
    obtain ⟨h1, h2⟩ := flat_canL n xs (by simpa [flat] using h)
    exact ⟨by simpa [toP, PyData.canLay0] using h1, by simpa [toP, PyData.depth] using h2⟩
  | n + 1, .lst _ xs, h => by
    obtain ⟨h1, h2⟩ := flat_canL n xs (by simpa [flat] using h)
    exact ⟨by simpa [toP, PyData.canLay0] using h1, by simpa [toP, PyData.depth] using h2⟩
  | 0, .tup xs, h => by simp [flat] at h
  | 0, .lst _ xs, h => by simp [flat] at h
  | _, .tux _, h => by simp [flat] at h
  | _, .rol _, h => by simp [flat] at h
  | _, .dk _ _ _, h => by simp [flat] at h
  | _, .dt _ _ _, h => by simp [flat] at h
  | _, .ins _ _ _ _, h => by simp [flat] at h
theorem flat_canL : ∀ (n : Nat) (ds : List D), flatL n ds = true → PyData.canLayAll0 (toPL ds) = true ∧ PyData.depthAll (toPL ds) ≤ n
  | n, [], _ => ⟨rfl, Nat.zero_le _⟩
  | n, d :: ds, h => by
    simp only [flatL, Bool.and_eq_true] at h
    obtain ⟨h1, h2⟩ := flat_can n d h.1
    obtain ⟨h3, h4⟩ := flat_canL n ds h.2
    refine ⟨by simp [toPL, PyData.canLayAll0, h1, h3], ?_⟩
    simp only [toPL, PyData.depthAll]
    exact Nat.max_le.mpr ⟨h2, h4⟩
end
mutual
theorem deq_eqv : ∀ (n m : Nat) (d e : D), flat n d = true → flat m e = true → PyData.eqv (toP d) (toP e) = deq d e
  | _, _, .tux _, _, h, _ => by simp [flat] at h
  | _, _, .rol _, _, h, _ => by simp [flat] at h
  | _, _, .dk _ _ _, _, h, _ => by simp [flat] at h
  | _, _, .dt _ _ _, _, h, _ => by simp [flat] at h
  | _, _, .ins _ _ _ _, _, h, _ => by simp [flat] at h
  | 0, _, .tup _, _, h, _ => by simp [flat] at h
  | 0, _, .lst _ _, _, h, _ => by simp [flat] at h
  | n + 1, m, .tup xs, e, h, k => by
    cases e with
    | tup ys =>
      cases m with
      | zero => simp [flat] at k
      | succ m => simpa [toP, PyData.eqv, deq] using deqL_eqv n m xs ys (by simpa [flat] using h) (by simpa [flat] using k)
    | _ => first | (simp [toP, PyData.eqv, deq]; done) | (simp [flat] at k)
  | n + 1, m, .lst _ xs, e, h, k => by
    cases e with
    | lst _ ys =>
      cases m with
      | zero => simp [flat] at k
      | succ m => simpa [toP, PyData.eqv, deq] using deqL_eqv n m xs ys (by simpa [flat] using h) (by simpa [flat] using k)
    | _ => first | (simp [toP, PyData.eqv, deq]; done) | (simp [flat] at k)
  | _, _, .non, e, _, k => by cases e <;> first | (simp [toP, PyData.eqv, deq]; done) | (simp [flat] at k)
  | _, _, .bl b, e, _, k => by cases e <;> first | (simp [toP, PyData.eqv, deq]; done) | (simp [flat] at k)
  | _, _, .int i, e, _, k => by cases e <;> first | (simp [toP, PyData.eqv, deq]; done) | (simp [flat] at k)
  | _, _, .str z, e, _, k => by cases e <;> first | (simp [toP, PyData.eqv, deq]; done) | (simp [flat] at k)
theorem deqL_eqv : ∀ (n m : Nat) (ds es : List D), flatL n ds = true → flatL m es = true → PyData.eqvAll (toPL ds) (toPL es) = deqL ds es
  | _, _, [], [], _, _ => by simp [toPL, PyData.eqvAll, deqL]
  | _, _, [], _ :: _, _, _ => by simp [toPL, PyData.eqvAll, deqL]
  | _, _, _ :: _, [], _, _ => by simp [toPL, PyData.eqvAll, deqL]
  | n, m, d :: ds, e :: es, h, k => by
    simp only [flatL, Bool.and_eq_true] at h k
    simp only [toPL, PyData.eqvAll, deqL, deq_eqv n m d e h.1 k.1, deqL_eqv n m ds es h.2 k.2]
end
theorem dp_ow {n : Nat} {d : D} {v : V} {F : List Addr} (o : Ow K cm G H d v F) (rd : RdS G H) (h : flat n d = true) : Dp K H v (toP d) := by
  cases o with
  | fz z => exact dp_fz (z.mono rd) h
  | lst e l =>
    cases n with
    | zero => simp [flat] at h
    | succ n => exact .lst (.inl (.inl e)) (dp_fzL (l.mono rd) (by simpa [flat] using h))
  | dt e _ l => simp [flat] at h
  | dk e _ l => simp [flat] at h
  | ins e _ l => simp [flat] at h
theorem shaped_flat {n : Nat} {d : D} (h : flat n d = true) (hn : n ≤ 64) : SeqAt.shaped (toP d) = true := by
  obtain ⟨h1, h2⟩ := flat_can n d h
  unfold SeqAt.shaped
  rw [h1, Bool.true_and]
  exact decide_eq_true (Nat.le_trans h2 hn)
def dEq : List D → Option D
  | [a, b] => if flat 64 a && flat 64 b then some (.bl (deq a b)) else none
  | _ => none
theorem od_eq : OpD S dEq (r2 (rEqD S.K)) := by
  intro G H ds vs d Q rd vl e k
  unfold dEq at e
  split at e
  · split at e
    case isFalse => cases e
    case isTrue hc =>
    cases (Option.some.inj e : _ = d)
    simp only [Bool.and_eq_true] at hc
    obtain ⟨v, w, F, F', rfl, a, b⟩ := vw2 vl
    exact ⟨_, _, rfl, _, _, dp_ow a rd hc.1, dp_ow b rd hc.2, shaped_flat hc.1 (Nat.le_refl _), shaped_flat hc.2 (Nat.le_refl _), by rw [deq_eqv 64 64 _ _ hc.1 hc.2]; exact give rd k (.bl _)⟩
  · cases e
def dNe : List D → Option D
  | [a, b] => if flat 64 a && flat 64 b then some (.bl (!deq a b)) else none
  | _ => none
theorem od_ne : OpD S dNe (r2 (rNeD S.K)) := by
  intro G H ds vs d Q rd vl e k
  unfold dNe at e
  split at e
  · split at e
    case isFalse => cases e
    case isTrue hc =>
    cases (Option.some.inj e : _ = d)
    simp only [Bool.and_eq_true] at hc
    obtain ⟨v, w, F, F', rfl, a, b⟩ := vw2 vl
    exact ⟨_, _, rfl, _, _, dp_ow a rd hc.1, dp_ow b rd hc.2, shaped_flat hc.1 (Nat.le_refl _), shaped_flat hc.2 (Nat.le_refl _), by rw [deq_eqv 64 64 _ _ hc.1 hc.2]; exact give rd k (.bl _)⟩
  · cases e
/-! ### len, abs, int, sum, all, any, max, min, tuple, list -/
def dLen : List D → Option D
  | [.lst _ a] => some (.int a.length)
  | [.rol a] => some (.int a.length)
  | [.tup a] => some (.int a.length)
  | [.str x] => if x.length ≤ sizeLine then some (.int x.length) else none
  | _ => none
def rLenL (K : Frag) : List V → Hp → VK → Prop := fun xs H Q => ∃ x n, xs = [x] ∧ LenV K x H n ∧ Q (.int n) H
theorem od_len : OpD S dLen (rLenL S.K) := by
  intro G H ds vs d Q rd vl e k
  unfold dLen at e
  split at e
  · cases (Option.some.inj e : _ = d)
    obtain ⟨v, F, rfl, a⟩ := vw1 vl
    obtain ⟨p, xs, rfl, s, l⟩ := a.lst_inv rd
    exact ⟨_, _, rfl, .inl ⟨xs, .inl s, rfl⟩, by rw [← l.length]; exact give rd k (.int _)⟩
  · cases (Option.some.inj e : _ = d)
    obtain ⟨v, F, rfl, a⟩ := vw1 vl
    obtain ⟨p, xs, rfl, s, l⟩ := a.rol_inv rd
    exact ⟨_, _, rfl, .inl ⟨xs, s, rfl⟩, by rw [← l.length]; exact give rd k (.int _)⟩
  · cases (Option.some.inj e : _ = d)
    obtain ⟨v, F, rfl, a⟩ := vw1 vl
    obtain ⟨p, xs, rfl, s, l, _⟩ := a.tup_inv rd
    exact ⟨_, _, rfl, .inr ⟨xs, s, rfl⟩, by rw [← l.length]; exact give rd k (.int _)⟩
  · split at e
    case isFalse => cases e
    case isTrue hc =>
    cases (Option.some.inj e : _ = d)
    obtain ⟨v, F, rfl, a⟩ := vw1 vl
    obtain ⟨rfl, _⟩ := a.str_inv
    exact ⟨_, _, rfl, ⟨hc, rfl⟩, give rd k (.int _)⟩
  · cases e
def dAbs : List D → Option D
  | [.int a] => some (.int (if a < 0 then -a else a))
  | _ => none
theorem od_abs : OpD S dAbs (fun xs H Q => ∃ i, xs = [.int i] ∧ Q (.int (if i < 0 then -i else i)) H) := by
  intro G H ds vs d Q rd vl e k
  unfold dAbs at e
  split at e
  · cases (Option.some.inj e : _ = d)
    obtain ⟨v, F, rfl, a⟩ := vw1 vl
    obtain ⟨rfl, _⟩ := a.int_inv
    exact ⟨_, rfl, give rd k (.int _)⟩
  · cases e
def dInt : List D → Option D
  | [.int a] => some (.int a)
  | [.bl b] => some (.int (if b then 1 else 0))
  | _ => none
theorem od_int : OpD S dInt (fun xs H Q => (∃ i, xs = [.int i] ∧ Q (.int i) H) ∨ ∃ k, xs = [.bl k] ∧ Q (.int (if k then 1 else 0)) H) := by
  intro G H ds vs d Q rd vl e k
  unfold dInt at e
  split at e
  · cases (Option.some.inj e : _ = d)
    obtain ⟨v, F, rfl, a⟩ := vw1 vl
    obtain ⟨rfl, _⟩ := a.int_inv
    exact .inl ⟨_, rfl, give rd k (.int _)⟩
  · cases (Option.some.inj e : _ = d)
    obtain ⟨v, F, rfl, a⟩ := vw1 vl
    obtain ⟨rfl, _⟩ := a.bl_inv
    exact .inr ⟨_, rfl, give rd k (.int _)⟩
  · cases e
def intsOf : List D → Option (List Int)
  | [] => some []
  | .int i :: r => (intsOf r).map (i :: ·)
  | _ => none
theorem ints_v : ∀ {ds : List D} {vs : List V} {ns : List Int}, FzL K cm G ds vs → intsOf ds = some ns → vs = ns.map V.int ∧ ds = ns.map D.int
  | _, _, _, .nil, h => by cases (Option.some.inj h : [] = _); exact ⟨rfl, rfl⟩
  | _, _, _, .cons a l, h => by
    cases a with
    | int i =>
      simp only [intsOf, Option.map_eq_some_iff] at h
      obtain ⟨r, h1, rfl⟩ := h
      obtain ⟨e1, e2⟩ := ints_v l h1
      exact ⟨by rw [e1]; rfl, by rw [e2]; rfl⟩
    | _ => simp [intsOf] at h
def boolsOf : List D → Option (List Bool)
  | [] => some []
  | .bl i :: r => (boolsOf r).map (i :: ·)
  | _ => none
theorem bools_v : ∀ {ds : List D} {vs : List V} {ns : List Bool}, FzL K cm G ds vs → boolsOf ds = some ns → vs = ns.map V.bl ∧ ds = ns.map D.bl
  | _, _, _, .nil, h => by cases (Option.some.inj h : [] = _); exact ⟨rfl, rfl⟩
  | _, _, _, .cons a l, h => by
    cases a with
    | bl i =>
      simp only [boolsOf, Option.map_eq_some_iff] at h
      obtain ⟨r, h1, rfl⟩ := h
      obtain ⟨e1, e2⟩ := bools_v l h1
      exact ⟨by rw [e1]; rfl, by rw [e2]; rfl⟩
    | _ => simp [boolsOf] at h
theorem intsOf_map : ∀ ns : List Int, intsOf (ns.map D.int) = some ns
  | [] => rfl
  | n :: r => by simp [intsOf, intsOf_map r]
theorem boolsOf_map : ∀ ns : List Bool, boolsOf (ns.map D.bl) = some ns
  | [] => rfl
  | n :: r => by simp [boolsOf, boolsOf_map r]
def dSum : List D → Option D
  | [.lst _ a] => (intsOf a).map fun ns => .int ns.sum
  | _ => none
theorem od_sum : OpD S dSum (rSum S.K) := by
  intro G H ds vs d Q rd vl e k
  unfold dSum at e
  split at e
  · simp only [Option.map_eq_some_iff] at e
    obtain ⟨ns, e1, rfl⟩ := e
    obtain ⟨v, F, rfl, a⟩ := vw1 vl
    obtain ⟨p, xs, rfl, s, l⟩ := a.lst_inv rd
    obtain ⟨rfl, _⟩ := ints_v l e1
    exact ⟨_, ns, rfl, .inl s, give rd k (.int _)⟩
  · cases e
def dAll : List D → Option D
  | [.lst _ a] => (boolsOf a).map fun ns => .bl (ns.all id)
  | _ => none
theorem od_all : OpD S dAll (rAll S.K) := by
  intro G H ds vs d Q rd vl e k
  unfold dAll at e
  split at e
  · simp only [Option.map_eq_some_iff] at e
    obtain ⟨ns, e1, rfl⟩ := e
    obtain ⟨v, F, rfl, a⟩ := vw1 vl
    obtain ⟨p, xs, rfl, s, l⟩ := a.lst_inv rd
    obtain ⟨rfl, _⟩ := bools_v l e1
    exact ⟨_, ns, rfl, .inl s, give rd k (.bl _)⟩
  · cases e
def dAny : List D → Option D
  | [.lst _ a] => (boolsOf a).map fun ns => .bl (ns.any id)
  | _ => none
theorem od_any : OpD S dAny (rAny S.K) := by
  intro G H ds vs d Q rd vl e k
  unfold dAny at e
  split at e
  · simp only [Option.map_eq_some_iff] at e
    obtain ⟨ns, e1, rfl⟩ := e
    obtain ⟨v, F, rfl, a⟩ := vw1 vl
    obtain ⟨p, xs, rfl, s, l⟩ := a.lst_inv rd
    obtain ⟨rfl, _⟩ := bools_v l e1
    exact ⟨_, ns, rfl, .inl s, give rd k (.bl _)⟩
  · cases e
def dMax2 : List D → Option D
  | [.int i, .int j] => some (.int (if j > i then j else i))
  | _ => none
theorem od_max2 : OpD S dMax2 (fun xs H Q => ∃ i j, xs = [.int i, .int j] ∧ Q (.int (if j > i then j else i)) H) := by
  intro G H ds vs d Q rd vl e k
  unfold dMax2 at e
  split at e
  · cases (Option.some.inj e : _ = d)
    obtain ⟨v, w, F, F', rfl, a, b⟩ := vw2 vl
    obtain ⟨rfl, _⟩ := a.int_inv
    obtain ⟨rfl, _⟩ := b.int_inv
    exact ⟨_, _, rfl, give rd k (.int _)⟩
  · cases e
def dMin2 : List D → Option D
  | [.int i, .int j] => some (.int (if j < i then j else i))
  | _ => none
theorem od_min2 : OpD S dMin2 (fun xs H Q => ∃ i j, xs = [.int i, .int j] ∧ Q (.int (if j < i then j else i)) H) := by
  intro G H ds vs d Q rd vl e k
  unfold dMin2 at e
  split at e
  · cases (Option.some.inj e : _ = d)
    obtain ⟨v, w, F, F', rfl, a, b⟩ := vw2 vl
    obtain ⟨rfl, _⟩ := a.int_inv
    obtain ⟨rfl, _⟩ := b.int_inv
    exact ⟨_, _, rfl, give rd k (.int _)⟩
  · cases e
def dTuple : List D → Option D
  | [.lst _ a] => some (.tup a)
  | [.tup a] => some (.tup a)
  | _ => none
def rTuple (K : Frag) : List V → Hp → VK → Prop := fun xs H Q => ∃ p ys, xs = [.ref p] ∧ ((SqL K H p ys ∧ ∀ l, H l = none → Q (.ref l) (upd H l (.tup ys))) ∨ (SqT K H p ys ∧ Q (.ref p) H))
theorem od_tuple : OpD S dTuple (rTuple S.K) := by
  intro G H ds vs d Q rd vl e k
  unfold dTuple at e
  split at e
  · cases (Option.some.inj e : _ = d)
    obtain ⟨v, F, rfl, a⟩ := vw1 vl
    obtain ⟨p, xs, rfl, s, l⟩ := a.lst_inv rd
    exact ⟨_, _, rfl, .inl ⟨.inl s, give_tup rd k l⟩⟩
  · cases (Option.some.inj e : _ = d)
    obtain ⟨v, F, rfl, a⟩ := vw1 vl
    obtain ⟨p, xs, rfl, s, l, g⟩ := a.tup_inv rd
    exact ⟨_, _, rfl, .inr ⟨s, give rd k (.tup g l)⟩⟩
  · cases e
def dList : List D → Option D
  | [.lst _ a] => some (.lst true a)
  | [.tup a] => some (.lst true a)
  | _ => none
def rList (K : Frag) : List V → Hp → VK → Prop := fun xs H Q => ∃ p ys, xs = [.ref p] ∧ (SqL K H p ys ∨ SqT K H p ys) ∧ ∀ l, H l = none → Q (.ref l) (upd H l (.lst ys))
theorem od_list : OpD S dList (rList S.K) := by
  intro G H ds vs d Q rd vl e k
  unfold dList at e
  split at e
  · cases (Option.some.inj e : _ = d)
    obtain ⟨v, F, rfl, a⟩ := vw1 vl
    obtain ⟨p, xs, rfl, s, l⟩ := a.lst_inv rd
    exact ⟨_, _, rfl, .inl (.inl s), give_lst rd k l⟩
  · cases (Option.some.inj e : _ = d)
    obtain ⟨v, F, rfl, a⟩ := vw1 vl
    obtain ⟨p, xs, rfl, s, l, g⟩ := a.tup_inv rd
    exact ⟨_, _, rfl, .inr s, give_lst rd k l⟩
  · cases e
/-- sorted of ints -/
def sortI (ns : List Int) : List Int := ns.mergeSort (fun a b => decide (a ≤ b))
theorem sortI_perm (ns : List Int) : (sortI ns).Perm ns := List.mergeSort_perm _ _
theorem sortI_sorted (ns : List Int) : (sortI ns).Pairwise (· ≤ ·) := by
  have := List.pairwise_mergeSort (le := fun a b : Int => decide (a ≤ b)) (fun a b c h1 h2 => by simp at *; omega) (fun a b => by simp; omega) ns
  exact this.imp fun h => of_decide_eq_true h
def dSorted : List D → Option D
  | [.lst _ a] => (intsOf a).map fun ns => .lst true ((sortI ns).map D.int)
  | _ => none
theorem fz_ints (ns : List Int) : FzL K cm G (ns.map D.int) (ns.map V.int) := by
  induction ns with
  | nil => exact .nil
  | cons n r ih => exact .cons (.int n) ih
theorem od_sorted : OpD S dSorted (rSortedI S.K) := by
  intro G H ds vs d Q rd vl e k
  unfold dSorted at e
  split at e
  · simp only [Option.map_eq_some_iff] at e
    obtain ⟨ns, e1, rfl⟩ := e
    obtain ⟨v, F, rfl, a⟩ := vw1 vl
    obtain ⟨p, xs, rfl, s, l⟩ := a.lst_inv rd
    obtain ⟨rfl, _⟩ := ints_v l e1
    refine ⟨_, ns, rfl, .inl s, fun ns' q pm so hq => ?_⟩
    have : ns' = sortI ns := (pm.trans (sortI_perm ns).symm).eq_of_pairwise (fun x y _ _ h1 h2 => Int.le_antisymm h1 h2) so (sortI_sorted ns)
    subst this
    exact give_lst rd k (fz_ints _) q hq
  · cases e
/-! ### items, slices -/
def dGetK (ks : List Key) (xs : List D) (k : Key) : Option D := match ks, xs with
  | a :: ks, x :: xs => if a = k then some x else dGetK ks xs k
  | _, _ => none
def isFz : D → Bool
  | .lst true _ => false
  | .dk true _ _ => false
  | .dt true _ _ => false
  | .ins true _ _ _ => false
  | _ => true
theorem Ow.isFz {d : D} {v : V} {F : List Addr} (o : Ow K cm G H d v F) (h : isFz d = true) : Fz K cm G d v := by
  cases o with
  | fz z => exact z
  | _ => simp [VE.isFz] at h
def keyD : D → Option Key
  | .int i => some (.inl i)
  | .str x => some (.inr x)
  | _ => none
def keysD : List D → Option (List Key)
  | [] => some []
  | d :: r => match keyD d, keysD r with
    | some k, some ks => some (k :: ks)
    | _, _ => none
theorem keyD_v {d : D} {v : V} {F : List Addr} {k : Key} (o : Ow K cm G H d v F) (h : keyD d = some k) : v = kV k := by
  cases d with
  | int i => cases (Option.some.inj h : _ = k); exact o.int_inv.1
  | str x => cases (Option.some.inj h : _ = k); exact o.str_inv.1
  | _ => simp [keyD] at h
theorem keysD_v : ∀ {ds : List D} {vs : List V} {ks : List Key}, FzL K cm G ds vs → keysD ds = some ks → vs = ks.map kV
  | _, _, _, .nil, h => by cases (Option.some.inj h : [] = _); rfl
  | d :: ds, v :: vs, ks, .cons a l, h => by
    simp only [keysD] at h
    cases e1 : keyD d with
    | none => rw [e1] at h; cases h
    | some k =>
      cases e2 : keysD ds with
      | none => rw [e1, e2] at h; cases h
      | some r =>
        rw [e1, e2] at h
        cases (Option.some.inj h : _ = ks)
        rw [keysD_v l e2, keyD_v (H := G) (.fz a) e1]; rfl
end
end VE
/-! VE5: expressions. -/
namespace VE
open PySem PySem.Spec PyProof.Rows L2
section
variable {X : Cx}
theorem ix_dget (hu : X.A.units + 1 < cLine) : IxR X (rIxG X.K) := by
  intro value slice pins s σ H x y v u Q I rx ry h hs
  obtain ⟨a, z, rfl, g, q⟩ := h
  obtain rfl : v = Value.ref a := rx
  exact tail_any (dict_typeIs I g) slot_dict_getitem.lookup (d_getItem hu I g ry fun w' s3 I3 rw' => ⟨z, H, I3, rw', q⟩) hs
theorem pt_imp {e : Expr} {t t' : TT} (h : PT X e t) (k : ∀ σ H Q, t' σ H Q → t σ H Q) : PT X e t' := ⟨fun pins s σ H Q I q => h.run pins s σ H Q I (k σ H Q q)⟩
theorem pw_imp {e : Expr} {t t' : TT} (h : PW X e t) (k : ∀ σ H Q, t' σ H Q → t σ H Q) : PW X e t' := ⟨fun wh pins s σ H Q I q => h.run wh pins s σ H Q I (k σ H Q q)⟩
end
/-! ### items -/
def dIdx : List D → Option D
  | [.lst _ a, .int i] => atI a i
  | [.rol a, .int i] => atI a i
  | [.tup a, .int i] => atI a i
  | [.str z, .int i] => if z.length ≤ sizeLine then (atI z.cps.toList i).map fun c => .str ⟨#[c]⟩ else none
  | [.dk _ ks xs, k] => match keyD k with
    | some k => (dGetK ks xs k).bind fun d => if isFz d then some d else none
    | none => none
  | _ => none
def rIdx (K : Frag) : R2 := fun x y H Q => rIxL K x y H Q ∨ rIxT K x y H Q ∨ rIxS x y H Q ∨ rIxG K x y H Q
theorem ix_all {X : Cx} (hu : X.A.units + 1 < cLine) : IxR X (rIdx X.K) := ix_list.or (ix_tup.or (ix_str.or (ix_dget hu)))
section
variable {K : Frag} {cm : Str → Addr} {G H : Hp} {S : Set_}
theorem FzL.atI {ds : List D} {vs : List V} {i : Int} {d : D} (l : FzL K cm G ds vs) (h : L2.atI ds i = some d) : ∃ v, L2.atI vs i = some v ∧ Fz K cm G d v := by
  unfold L2.atI at h ⊢
  rw [← l.length]
  cases e : ixN ds.length i with
  | none => rw [e] at h; cases h
  | some j =>
    rw [e] at h
    exact l.get (i := j) h
theorem owl_getK : ∀ {ks : List Key} {ds : List D} {vs : List V} {F : List Addr} {k : Key} {d : D}, OwL K cm G H ds vs F → ks.length = vs.length → dGetK ks ds k = some d → ∃ v F', valV (ks.zip vs) k = some v ∧ Ow K cm G H d v F'
  | [], _, _, _, _, _, _, _, h => by simp [dGetK] at h
  | a :: ks, [], _, _, _, _, _, _, h => by simp [dGetK] at h
  | a :: ks, x :: xs, v :: vs, _, k, d, .cons o l, n, h => by
    simp only [dGetK] at h
    by_cases e : a = k
    · rw [if_pos e] at h
      cases (Option.some.inj h : x = d)
      exact ⟨v, _, by rw [List.zip_cons_cons]; exact valV_pos e, o⟩
    · rw [if_neg e] at h
      obtain ⟨w, F', h1, h2⟩ := owl_getK l (by simpa using n) h
      exact ⟨w, F', by rw [List.zip_cons_cons, valV_neg e]; exact h1, h2⟩
theorem fzl_getK : ∀ {ks : List Key} {ds : List D} {vs : List V} {k : Key} {d : D}, FzL K cm G ds vs → ks.length = vs.length → dGetK ks ds k = some d → ∃ v, valV (ks.zip vs) k = some v ∧ Fz K cm G d v
  | [], _, _, _, _, _, _, h => by simp [dGetK] at h
  | a :: ks, [], _, _, _, _, _, h => by simp [dGetK] at h
  | a :: ks, x :: xs, v :: vs, k, d, .cons o l, n, h => by
    simp only [dGetK] at h
    by_cases e : a = k
    · rw [if_pos e] at h
      cases (Option.some.inj h : x = d)
      exact ⟨v, by rw [List.zip_cons_cons]; exact valV_pos e, o⟩
    · rw [if_neg e] at h
      obtain ⟨w, h1, h2⟩ := fzl_getK l (by simpa using n) h
      exact ⟨w, by rw [List.zip_cons_cons, valV_neg e]; exact h1, h2⟩
theorem od_idx : OpD S dIdx (r2 (rIdx S.K)) := by
  intro G H ds vs d Q rd vl e k
  unfold dIdx at e
  split at e
  · obtain ⟨v, w, F, F', rfl, a, b⟩ := vw2 vl
    obtain ⟨rfl, _⟩ := b.int_inv
    obtain ⟨p, xs, rfl, s, l⟩ := a.lst_inv rd
    obtain ⟨v, h1, h2⟩ := l.atI e
    exact ⟨_, _, rfl, .inl ⟨p, xs, _, v, rfl, rfl, .inl s, h1, give rd k h2⟩⟩
  · obtain ⟨v, w, F, F', rfl, a, b⟩ := vw2 vl
    obtain ⟨rfl, _⟩ := b.int_inv
    obtain ⟨p, xs, rfl, s, l⟩ := a.rol_inv rd
    obtain ⟨v, h1, h2⟩ := l.atI e
    exact ⟨_, _, rfl, .inl ⟨p, xs, _, v, rfl, rfl, s, h1, give rd k h2⟩⟩
  · obtain ⟨v, w, F, F', rfl, a, b⟩ := vw2 vl
    obtain ⟨rfl, _⟩ := b.int_inv
    obtain ⟨p, xs, rfl, s, l, _⟩ := a.tup_inv rd
    obtain ⟨v, h1, h2⟩ := l.atI e
    exact ⟨_, _, rfl, .inr (.inl ⟨p, xs, _, v, rfl, rfl, s, h1, give rd k h2⟩)⟩
  · split at e
    case isFalse => cases e
    case isTrue hc =>
    obtain ⟨v, w, F, F', rfl, a, b⟩ := vw2 vl
    obtain ⟨rfl, _⟩ := b.int_inv
    obtain ⟨rfl, _⟩ := a.str_inv
    simp only [Option.map_eq_some_iff] at e
    obtain ⟨c, h1, rfl⟩ := e
    exact ⟨_, _, rfl, .inr (.inr (.inl ⟨_, _, c, rfl, rfl, hc, h1, give rd k (.str _)⟩))⟩
  · split at e
    case h_2 => cases e
    case h_1 o ks xs kd k' hk =>
    obtain ⟨v, w, F, F', rfl, a, b⟩ := vw2 vl
    rw [Option.bind_eq_some_iff] at e
    obtain ⟨d', h1, h2⟩ := e
    split at h2
    case isFalse => cases h2
    case isTrue hf =>
    cases (Option.some.inj h2 : d' = d)
    have hw := keyD_v b hk
    subst hw
    cases a with
    | fz z =>
      cases z with
      | dk s n l =>
        obtain ⟨u, g1, g2⟩ := fzl_getK l n h1
        exact ⟨_, _, rfl, .inr (.inr (.inr ⟨_, u, rfl, .inl ⟨_, _, rd.rd s, rfl, g1.symm⟩, give rd k g2⟩))⟩
    | dk s n l =>
      obtain ⟨u, F2, g1, g2⟩ := owl_getK l n h1
      exact ⟨_, _, rfl, .inr (.inr (.inr ⟨_, u, rfl, .inl ⟨_, _, .inl s, rfl, g1.symm⟩, give rd k (g2.isFz hf)⟩))⟩
  · cases e
/-! ### slices -/
def dSl (lo hi : Option Int) : D → Option D
  | .lst _ a => some (.lst true ((a.drop (HT.sIx a.length 0 lo)).take (HT.sIx a.length a.length hi - HT.sIx a.length 0 lo)))
  | .rol a => some (.lst true ((a.drop (HT.sIx a.length 0 lo)).take (HT.sIx a.length a.length hi - HT.sIx a.length 0 lo)))
  | .tup a => some (.tup ((a.drop (HT.sIx a.length 0 lo)).take (HT.sIx a.length a.length hi - HT.sIx a.length 0 lo)))
  | .str z => if z.length ≤ sizeLine then some (.str (cutS z lo hi)) else none
  | _ => none
def rSl (K : Frag) : V → Option Int → Option Int → Hp → VK → Prop := fun x lo hi H Q => rSlL K x lo hi H Q ∨ rSlA K x lo hi H Q ∨ rSlS x lo hi H Q
theorem sl_all {X : Cx} : SlR X (rSl X.K) := sl_list.or (sl_tupA.or sl_str)
theorem FzL.cut {ds : List D} {vs : List V} (l : FzL K cm G ds vs) (lo hi : Option Int) :
    FzL K cm G ((ds.drop (HT.sIx ds.length 0 lo)).take (HT.sIx ds.length ds.length hi - HT.sIx ds.length 0 lo)) (cutV vs lo hi) := by
  unfold cutV
  rw [l.length]
  exact (l.drop _).take _
theorem od_sl {lo hi : Option Int} {d d' : D} {v : V} {F : List Addr} {Q : VK} (rd : RdS G H) (o : Ow S.K S.cm G H d v F) (e : dSl lo hi d = some d') (k : ∀ v G' H' Fv, New G H G' H' Fv → Ow S.K S.cm G' H' d' v Fv → Q v H') : rSl S.K v lo hi H Q := by
  unfold dSl at e
  split at e
  · cases (Option.some.inj e : _ = d')
    obtain ⟨p, xs, rfl, s, l⟩ := o.lst_inv rd
    exact .inl ⟨p, xs, rfl, .inl s, give_lst rd k (l.cut lo hi)⟩
  · cases (Option.some.inj e : _ = d')
    obtain ⟨p, xs, rfl, s, l⟩ := o.rol_inv rd
    exact .inl ⟨p, xs, rfl, s, give_lst rd k (l.cut lo hi)⟩
  · cases (Option.some.inj e : _ = d')
    obtain ⟨p, xs, rfl, s, l, g⟩ := o.tup_inv rd
    refine .inr (.inl ⟨p, xs, rfl, s, fun hw => ?_, fun _ => give_tup rd k (l.cut lo hi)⟩)
    refine give rd k ?_
    have e1 : cutV xs lo hi = xs := by
      unfold cutV
      rw [hw.1, hw.2]
      simp
    have := l.cut lo hi
    rw [e1] at this
    exact .tup g this
  · split at e
    case isFalse => cases e
    case isTrue hc =>
    cases (Option.some.inj e : _ = d')
    obtain ⟨rfl, _⟩ := o.str_inv
    exact .inr (.inr ⟨_, rfl, hc, give rd k (.str _)⟩)
  · cases e
/-- the parts of a slice as operands -/
def partD : Option D → Option (Option Int)
  | none => some none
  | some (.int i) => some (some i)
  | _ => none
/-! ### tuples, lists, displayed -/
def dTup : List D → Option D := fun ds => if ds.all isFz && decide (ds.length ≤ sizeLine) then some (.tup ds) else none
def dLst : List D → Option D := fun ds => if ds.all isFz && decide (ds.length ≤ sizeLine) then some (.lst true ds) else none
theorem vwl_fz : ∀ {ds : List D} {vs : List V}, VwL K cm G H ds vs → ds.all isFz = true → FzL K cm G ds vs
  | _, _, .nil, _ => .nil
  | _, _, .cons ⟨_, a⟩ l, h => by
    simp only [List.all_cons, Bool.and_eq_true] at h
    exact .cons (a.isFz h.1) (vwl_fz l h.2)
def rTupD : List V → Hp → VK → Prop := fun xs H Q => xs.length ≤ sizeLine ∧ ∀ p, H p = none → Q (.ref p) (upd H p (.tup xs))
def rLstD : List V → Hp → VK → Prop := fun xs H Q => xs.length ≤ sizeLine ∧ ∀ p, H p = none → Q (.ref p) (upd H p (.lst xs))
theorem od_tup : OpD S dTup rTupD := by
  intro G H ds vs d Q rd vl e k
  unfold dTup at e
  split at e
  case isFalse => cases e
  case isTrue hc =>
  cases (Option.some.inj e : _ = d)
  simp only [Bool.and_eq_true, decide_eq_true_eq] at hc
  exact ⟨by rw [← vl.length]; exact hc.2, give_tup rd k (vwl_fz vl hc.1)⟩
theorem od_lst : OpD S dLst rLstD := by
  intro G H ds vs d Q rd vl e k
  unfold dLst at e
  split at e
  case isFalse => cases e
  case isTrue hc =>
  cases (Option.some.inj e : _ = d)
  simp only [Bool.and_eq_true, decide_eq_true_eq] at hc
  exact ⟨by rw [← vl.length]; exact hc.2, give_lst rd k (vwl_fz vl hc.1)⟩
/-! ### truth -/
def truD : D → Option Bool
  | .bl b => some b
  | .int i => some (i != 0)
  | .non => some false
  | .lst _ a => some (!a.isEmpty)
  | .tup a => some (!a.isEmpty)
  | _ => none
end

/-! ### the readings of composed expressions -/
section
variable {X : Cx} {S : Set_} {a b c : Expr} {oa ob : Opd} {g : List D → Option D} {pos : Pos}
theorem pe_bin {op : Operator} {r : R2} (ho : OpR X (binaryOp op) r) (od : OpD S g (r2 r)) (ha : PE X a (tO S oa)) (hb : PE X b (tO S ob)) : PE X (.BinOp a op b pos) (rE S (ops [oa, ob] g)) :=
  pe_imp (pe_op ho ha hb) fun σ H Q q => tO_mono (fun _ _ q => tO_mono (fun _ _ ⟨x', y', e, h⟩ => by cases e; exact h) q) (rO2 (ops_imp od σ H Q q))
theorem pe_cmp2 {op : CmpOp} {r : R2} (ho : OpR X (compareOp op) r) (od : OpD S g (r2 r)) (ha : PE X a (tO S oa)) (hb : PE X b (tO S ob)) (hm : behindInMarks op b = false) : PE X (.Compare a [op] [b] pos) (rE S (ops [oa, ob] g)) :=
  pe_imp (pe_cmpR ho ha hb hm) fun σ H Q q => tO_mono (fun _ _ q => tO_mono (fun _ _ ⟨x', y', e, h⟩ => by cases e; exact h) q) (rO2 (ops_imp od σ H Q q))
theorem pt_cmp2 {op : CmpOp} {r : R2} (ho : OpR X (compareOp op) r) (od : OpD S g (r2 r)) (ha : PE X a (tO S oa)) (hb : PE X b (tO S ob)) (hm : behindInMarks op b = false) : PT X (.Compare a [op] [b] pos) (tB (rE S (ops [oa, ob] g))) :=
  pt_imp (pt_cmpR ho ha hb hm) fun σ H Q q => tO_mono (fun _ _ q => tO_mono (fun _ _ ⟨x', y', e, h⟩ => by cases e; exact h) q) (rO2 (ops_imp od σ H _ q))
theorem pe_un1 {op : UnaryOp} {r : V → Hp → VK → Prop} (ho : UnR X (unaryOp op) r) (od : OpD S g (r1 r)) (ha : PE X a (tO S oa)) : PE X (.UnaryOp op a pos) (rE S (ops [oa] g)) :=
  pe_imp (pe_un ho ha) fun σ H Q q => tO_mono (fun _ _ ⟨x', e, h⟩ => by cases e; exact h) (rO1 (ops_imp od σ H Q q))
theorem pe_idx {r : R2} (ho : IxR X r) (od : OpD S g (r2 r)) (ha : PE X a (tO S oa)) (hb : PE X b (tO S ob)) (hs : PlainIx b) : PE X (.Subscript a b pos) (rE S (ops [oa, ob] g)) :=
  pe_imp (pe_ix ho ha hb hs) fun σ H Q q => tO_mono (fun _ _ q => tO_mono (fun _ _ ⟨x', y', e, h⟩ => by cases e; exact h) q) (rO2 (ops_imp od σ H Q q))
/-- a[lo:hi]: the operands: a, the parts that are there -/
def dSlice (l u : Bool) : List D → Option D := fun ds => match ds, l, u with
  | [a], false, false => dSl none none a
  | [a, .int i], true, false => dSl (some i) none a
  | [a, .int j], false, true => dSl none (some j) a
  | [a, .int i, .int j], true, true => dSl (some i) (some j) a
  | _, _, _ => none
def rSlice (K : Frag) (l u : Bool) : List V → Hp → VK → Prop := fun vs H Q => match vs, l, u with
  | [x], false, false => rSl K x none none H Q
  | [x, y], true, false => ∃ i, y = .int i ∧ rSl K x (some i) none H Q
  | [x, y], false, true => ∃ i, y = .int i ∧ rSl K x none (some i) H Q
  | [x, y, z], true, true => ∃ i j, y = .int i ∧ z = .int j ∧ rSl K x (some i) (some j) H Q
  | _, _, _ => False
theorem od_slice {l u : Bool} : OpD S (dSlice l u) (rSlice S.K l u) := by
  intro G H ds vs d Q rd vl e k
  unfold dSlice at e
  split at e
  · obtain ⟨v, F, rfl, a⟩ := vw1 vl
    exact od_sl rd a e k
  · obtain ⟨v, w, F, F', rfl, a, b⟩ := vw2 vl
    obtain ⟨rfl, _⟩ := b.int_inv
    exact ⟨_, rfl, od_sl rd a e k⟩
  · obtain ⟨v, w, F, F', rfl, a, b⟩ := vw2 vl
    obtain ⟨rfl, _⟩ := b.int_inv
    exact ⟨_, rfl, od_sl rd a e k⟩
  · obtain ⟨v, w, z, F, F', F2, rfl, a, b, c⟩ := vw3 vl
    obtain ⟨rfl, _⟩ := b.int_inv
    obtain ⟨rfl, _⟩ := c.int_inv
    exact ⟨_, _, rfl, rfl, od_sl rd a e k⟩
  · cases e
theorem pe_sl0 {p2 : Pos} (hK : S.K = X.K) (ha : PE X a (tO S oa)) : PE X (.Subscript a (.Slice none none none p2) pos) (rE S (ops [oa] (dSlice false false))) :=
  pe_imp (pe_slice sl_all ha po_none po_none) fun σ H Q q => tO_mono (fun _ _ h => by rw [← hK]; exact h) (rO1 (ops_imp od_slice σ H Q q))
theorem pe_slL {p2 : Pos} (hK : S.K = X.K) (ha : PE X a (tO S oa)) (hb : PE X b (tO S ob)) : PE X (.Subscript a (.Slice (some b) none none p2) pos) (rE S (ops [oa, ob] (dSlice true false))) :=
  pe_imp (pe_slice sl_all ha (po_some hb) po_none) fun σ H Q q => tO_mono (fun _ _ q => tO_mono (fun _ _ ⟨i, e, h⟩ => ⟨i, e, by rw [← hK]; exact h⟩) q) (rO2 (ops_imp od_slice σ H Q q))
theorem pe_slU {p2 : Pos} (hK : S.K = X.K) (ha : PE X a (tO S oa)) (hb : PE X b (tO S ob)) : PE X (.Subscript a (.Slice none (some b) none p2) pos) (rE S (ops [oa, ob] (dSlice false true))) :=
  pe_imp (pe_slice sl_all ha po_none (po_some hb)) fun σ H Q q => tO_mono (fun _ _ q => tO_mono (fun _ _ ⟨i, e, h⟩ => ⟨i, e, by rw [← hK]; exact h⟩) q) (rO2 (ops_imp od_slice σ H Q q))
def twoI : List D → Option (D × Int)
  | [d, .int i] => if isFz d then some (d, i) else none
  | _ => none
def oneI : List D → Option Int
  | [.int i] => some i
  | _ => none
theorem twoI_v {K : Frag} {cm : Str → Addr} {G H : Hp} {ds : List D} {vs : List V} {d : D} {i : Int} (l : VwL K cm G H ds vs) (h : twoI ds = some (d, i)) : ∃ v, vs = [v, .int i] ∧ Fz K cm G d v := by
  unfold twoI at h
  split at h
  · split at h
    · cases h
      obtain ⟨v, w, Fa, Fb, rfl, a', b'⟩ := vw2 l
      obtain ⟨rfl, _⟩ := b'.int_inv
      exact ⟨v, rfl, a'.isFz (by assumption)⟩
    · cases h
  · cases h
theorem oneI_v {K : Frag} {cm : Str → Addr} {G H : Hp} {ds : List D} {vs : List V} {i : Int} (l : VwL K cm G H ds vs) (h : oneI ds = some i) : vs = [.int i] := by
  unfold oneI at h
  split at h
  · cases h
    obtain ⟨v, F, rfl, a'⟩ := vw1 l
    obtain ⟨rfl, _⟩ := a'.int_inv
    rfl
  · cases h
/-- a[i:j]; a frozen -/
def eSlLU (oa ob oc : Opd) : M := fun ρ => match evO [oa, ob] ρ with
  | .ok ds ρ1 => (match twoI ds with
    | some (da, i) => (match evO [oc] ρ1 with
      | .ok es ρ2 => (match oneI es with
        | some j => (match dSl (some i) (some j) da with
          | some d => .ok d ρ2
          | none => .bad)
        | none => .bad)
      | .exc c x ρ' => .exc c x ρ'
      | .bad => .bad)
    | none => .bad)
  | .exc c x ρ' => .exc c x ρ'
  | .bad => .bad
theorem pe_slLU {p2 : Pos} {oc : Opd} (hK : S.K = X.K) (ha : PE X a (tO S oa)) (hb : PE X b (tO S ob)) (hc : PE X c (tO S oc)) : PE X (.Subscript a (.Slice (some b) (some c) none p2) pos) (rE S (eSlLU oa ob oc)) :=
  pe_imp (pe_slice sl_all ha (po_some hb) (po_some hc)) fun σ H Q q => by
    obtain ⟨G, ρ, F, sr, q⟩ := q
    have key : rO S [oa, ob] σ H fun vs H1 => ∃ x i, vs = [x, .int i] ∧ tO S oc σ H1 fun z H2 => ∃ j, z = .int j ∧ rSl X.K x (some i) (some j) H2 Q := by
      refine ⟨G, ρ, F, sr, ?_⟩
      unfold eSlLU at q
      cases e : evO [oa, ob] ρ with
      | bad => rw [e] at q; exact q
      | exc c x ρ' => rw [e] at q; exact q
      | ok ds ρ1 =>
        rw [e] at q
        dsimp only at q ⊢
        intro vs H1 ⟨G1, F1, t1, sr1, vl⟩
        cases he : twoI ds with
        | none => rw [he] at q; exact q.elim
        | some di =>
          obtain ⟨da, i⟩ := di
          rw [he] at q
          dsimp only at q
          obtain ⟨v, rfl, za⟩ := twoI_v vl.l he
          refine ⟨v, i, rfl, ?_⟩
          have key2 : rO S [oc] σ H1 fun us H2 => ∃ j, us = [.int j] ∧ rSl X.K v (some i) (some j) H2 Q := by
            refine ⟨G1, _, F1, sr1, ?_⟩
            cases e2 : evO [oc] ρ1 with
            | bad => rw [e2] at q; exact q
            | exc c x ρ' => rw [e2] at q; exact q.trans t1
            | ok es ρ2 =>
              rw [e2] at q
              dsimp only at q ⊢
              intro us H2 ⟨G2, F2, t2, sr2, vl2⟩
              cases he2 : oneI es with
              | none => rw [he2] at q; exact q.elim
              | some j =>
                rw [he2] at q
                dsimp only at q
                obtain rfl := oneI_v vl2.l he2
                refine ⟨j, rfl, ?_⟩
                cases e3 : dSl (some i) (some j) da with
                | none => rw [e3] at q; exact q.elim
                | some d =>
                  rw [e3] at q
                  rw [← hK]
                  exact od_sl (S := S) sr2.rd (.fz (za.mono t2.g.rds)) e3 fun v' G' H' Fv n o => q v' H' ((n.post sr2 o).trans (t1.trans t2))
          exact tO_mono (fun z H2 ⟨j, e, h⟩ => ⟨j, by cases e; rfl, h⟩) (rO1 key2)
    exact tO_mono (fun x H1 q => tO_mono (fun y H2 ⟨x', i, e, h⟩ => by cases e; exact ⟨i, rfl, h⟩) q) (rO2 key)
theorem pe_tupD {es : List Expr} {os : List Opd} {k : Nat} (h : PA X es (rO S os)) : PE X (.Tuple es k pos) (rE S (ops os dTup)) :=
  pe_imp (pe_tup h) fun σ H Q q => ops_imp od_tup σ H Q q
theorem pe_lstD {es : List Expr} {os : List Opd} (h : PA X es (rO S os)) : PE X (.List es pos) (rE S (ops os dLst)) :=
  pe_imp (pe_lst h) fun σ H Q q => ops_imp od_lst σ H Q q
theorem pe_callBD {id : String} {x : Str} {r : List V → Hp → VK → Prop} {e : Expr} {es : List Expr} {os : List Opd} {p : Pos} (hc : CallR X (.builtin id) r) (od : OpD S g r) (hg : Gl X x) (hm : X.mg x = none) (hv : bootBuiltins x = some (.builtin id)) (ha : PA X (e :: es) (rO S os))
    (hn : x ≠ "__name__") (hdb : (x == ("__debug__" : Str)) = false) (he : starEach (e :: es) X.env = (false, eval e X.env) :: starEach es X.env) (hpl : (backTo pos (starEach es X.env)).any (·.1) = false) : PE X (.Call (.Name x p) (e :: es) [] pos) (rE S (ops os g)) :=
  pe_imp (pe_callB hc hg hm hv ha hn hdb he hpl) fun σ H Q q => ops_imp od σ H Q q
theorem pe_callTD {T : String} {x : Str} {r : List V → Hp → VK → Prop} {e : Expr} {es : List Expr} {os : List Opd} {p : Pos} (hc : CallR X (.type T) r) (od : OpD S g r) (hg : Gl X x) (hm : X.mg x = none) (hv : bootBuiltins x = some (.type T)) (ha : PA X (e :: es) (rO S os))
    (hn : x ≠ "__name__") (hdb : (x == ("__debug__" : Str)) = false) (he : starEach (e :: es) X.env = (false, eval e X.env) :: starEach es X.env) (hpl : (backTo pos (starEach es X.env)).any (·.1) = false) : PE X (.Call (.Name x p) (e :: es) [] pos) (rE S (ops os g)) :=
  pe_imp (pe_callTy hc hg hm hv ha hn hdb he hpl) fun σ H Q q => ops_imp od σ H Q q

/-! ### and, or, not, if -/
def eAnd (a b : M) : M := fun ρ => match a ρ with
  | .ok d ρ1 => (match d with
    | .bl true => b ρ1
    | .bl false => .ok (.bl false) ρ1
    | _ => .bad)
  | .exc c x ρ' => .exc c x ρ'
  | .bad => .bad
def eOr (a b : M) : M := fun ρ => match a ρ with
  | .ok d ρ1 => (match d with
    | .bl true => .ok (.bl true) ρ1
    | .bl false => b ρ1
    | _ => .bad)
  | .exc c x ρ' => .exc c x ρ'
  | .bad => .bad
def eNot (a : M) : M := fun ρ => match a ρ with
  | .ok d ρ1 => (match d with
    | .bl b => .ok (.bl (!b)) ρ1
    | _ => .bad)
  | .exc c x ρ' => .exc c x ρ'
  | .bad => .bad
def eIf (c a b : M) : M := fun ρ => match c ρ with
  | .ok d ρ1 => (match d with
    | .bl true => a ρ1
    | .bl false => b ρ1
    | _ => .bad)
  | .exc c x ρ' => .exc c x ρ'
  | .bad => .bad
/-- behind a first part that gave a bool -/
theorem Post.bl {K : Frag} {cm : Str → Addr} {fx : Fix} {G H H' : Hp} {F : List Addr} {σ : L2.St} {ρ' : Env} {k : Bool} {v : V} (p : Post K cm fx G H F σ ρ' (.bl k) v H') :
    v = .bl k ∧ ∃ G' F', Tr G H F G' H' F' ∧ SR K cm fx G' H' σ ρ' F' := by
  obtain ⟨G', F', Fv, t, s, o, _, _⟩ := p
  obtain ⟨rfl, rfl⟩ := o.bl_inv
  exact ⟨rfl, G', F', by simpa using t, s⟩
theorem rE_go {m : M} {σ : L2.St} {H : Hp} {Q : VK} {G G1 H1 : Hp} {F F1 : List Addr} {ρ1 : Env} (t : Tr G H F G1 H1 F1) (s : SR S.K S.cm S.fx G1 H1 σ ρ1 F1) (q : match m ρ1 with
    | .ok d ρ' => ∀ v H', Post S.K S.cm S.fx G H F σ ρ' d v H' → Q v H'
    | .exc c x ρ' => XOk S G H F σ c x ρ'
    | .bad => False) : rE S m σ H1 Q := by
  refine ⟨G1, ρ1, F1, s, ?_⟩
  cases e : m ρ1 with
  | bad => rw [e] at q; exact q
  | exc c x ρ' => rw [e] at q; exact q.trans t
  | ok d ρ' => rw [e] at q; exact fun v H' p => q v H' (p.trans t)
theorem rE_and {a b : M} {σ : L2.St} {H : Hp} {Q : VK} (q : rE S (eAnd a b) σ H Q) : rE S a σ H fun v H1 => ∃ c, v = .bl c ∧ if c = true then rE S b σ H1 Q else Q (.bl false) H1 := by
  obtain ⟨G, ρ, F, sr, q⟩ := q
  refine ⟨G, ρ, F, sr, ?_⟩
  unfold eAnd at q
  cases e : a ρ with
  | bad => rw [e] at q; exact q
  | exc c x ρ' => rw [e] at q; exact q
  | ok d ρ1 =>
    rw [e] at q
    dsimp only at q ⊢
    intro v H1 p
    cases d with
    | bl k =>
      cases k with
      | true =>
        obtain ⟨rfl, G1, F1, t, s⟩ := p.bl
        exact ⟨true, rfl, rE_go t s q⟩
      | false =>
        have ev := p.bl.1
        subst ev
        exact ⟨false, rfl, q _ _ p⟩
    | _ => exact q.elim
theorem rE_or {a b : M} {σ : L2.St} {H : Hp} {Q : VK} (q : rE S (eOr a b) σ H Q) : rE S a σ H fun v H1 => ∃ c, v = .bl c ∧ if c = true then Q (.bl true) H1 else rE S b σ H1 Q := by
  obtain ⟨G, ρ, F, sr, q⟩ := q
  refine ⟨G, ρ, F, sr, ?_⟩
  unfold eOr at q
  cases e : a ρ with
  | bad => rw [e] at q; exact q
  | exc c x ρ' => rw [e] at q; exact q
  | ok d ρ1 =>
    rw [e] at q
    dsimp only at q ⊢
    intro v H1 p
    cases d with
    | bl k =>
      cases k with
      | false =>
        obtain ⟨rfl, G1, F1, t, s⟩ := p.bl
        exact ⟨false, rfl, rE_go t s q⟩
      | true =>
        have ev := p.bl.1
        subst ev
        exact ⟨true, rfl, q _ _ p⟩
    | _ => exact q.elim
theorem rE_not {a : M} {σ : L2.St} {H : Hp} {Q : VK} (q : rE S (eNot a) σ H Q) : rE S a σ H fun v H1 => ∃ c, v = .bl c ∧ Q (.bl (!c)) H1 := by
  obtain ⟨G, ρ, F, sr, q⟩ := q
  refine ⟨G, ρ, F, sr, ?_⟩
  unfold eNot at q
  cases e : a ρ with
  | bad => rw [e] at q; exact q
  | exc c x ρ' => rw [e] at q; exact q
  | ok d ρ1 =>
    rw [e] at q
    dsimp only at q ⊢
    intro v H1 p
    cases d with
    | bl k =>
      obtain ⟨rfl, G1, F1, t, s⟩ := p.bl
      exact ⟨k, rfl, q _ _ ((PostZ.here s (.bl _)).trans t).post⟩
    | _ => exact q.elim
theorem rE_if {c a b : M} {σ : L2.St} {H : Hp} {Q : VK} (q : rE S (eIf c a b) σ H Q) : rE S c σ H fun v H1 => ∃ k, v = .bl k ∧ if k = true then rE S a σ H1 Q else rE S b σ H1 Q := by
  obtain ⟨G, ρ, F, sr, q⟩ := q
  refine ⟨G, ρ, F, sr, ?_⟩
  unfold eIf at q
  cases e : c ρ with
  | bad => rw [e] at q; exact q
  | exc c x ρ' => rw [e] at q; exact q
  | ok d ρ1 =>
    rw [e] at q
    dsimp only at q ⊢
    intro v H1 p
    cases d with
    | bl k =>
      obtain ⟨rfl, G1, F1, t, s⟩ := p.bl
      cases k with
      | true => exact ⟨true, rfl, rE_go t s q⟩
      | false => exact ⟨false, rfl, rE_go t s q⟩
    | _ => exact q.elim
theorem pe_andD {rest : List Expr} {ma mb : M} (ha : PE X a (rE S ma)) (hb : PE X (.BoolOp .And (b :: rest) pos) (rE S mb)) : PE X (.BoolOp .And (a :: b :: rest) pos) (rE S (eAnd ma mb)) :=
  pe_imp (pe_and ha hb) fun σ H Q q => rE_and q
theorem pe_orD {rest : List Expr} {ma mb : M} (ha : PE X a (rE S ma)) (hb : PE X (.BoolOp .Or (b :: rest) pos) (rE S mb)) : PE X (.BoolOp .Or (a :: b :: rest) pos) (rE S (eOr ma mb)) :=
  pe_imp (pe_or ha hb) fun σ H Q q => rE_or q
theorem pe_notD {ma : M} (ha : PE X a (rE S ma)) : PE X (.UnaryOp .Not a pos) (rE S (eNot ma)) := pe_imp (pe_not ha) fun σ H Q q => rE_not q
theorem pe_ifD {mc ma mb : M} (hc : PT X c (tB (rE S mc))) (ha : PE X a (rE S ma)) (hb : PE X b (rE S mb)) : PE X (.IfExp c a b pos) (rE S (eIf mc ma mb)) := pe_imp (pe_ifExp hc ha hb) fun σ H Q q => rE_if q
/-- tests -/
abbrev PTD (X : Cx) (S : Set_) (e : Expr) (m : M) : Prop := PT X e (tB (rE S m))
abbrev PWD (X : Cx) (S : Set_) (e : Expr) (m : M) : Prop := PW X e (tB (rE S m))
theorem pw_andD {rest : List Expr} {ma mb : M} (ha : PTD X S a ma) (hb : PWD X S (.BoolOp .And (b :: rest) pos) mb) : PWD X S (.BoolOp .And (a :: b :: rest) pos) (eAnd ma mb) :=
  pw_imp (pw_and ha hb) fun σ H Q q => rE_mono (fun v H1 ⟨c, e, q⟩ => ⟨c, e, by cases c with | true => exact q | false => obtain ⟨k, e, q⟩ := q; cases e; exact q⟩) (rE_and q)
theorem pw_orD {rest : List Expr} {ma mb : M} (ha : PTD X S a ma) (hb : PWD X S (.BoolOp .Or (b :: rest) pos) mb) : PWD X S (.BoolOp .Or (a :: b :: rest) pos) (eOr ma mb) :=
  pw_imp (pw_or ha hb) fun σ H Q q => rE_mono (fun v H1 ⟨c, e, q⟩ => ⟨c, e, by cases c with | false => exact q | true => obtain ⟨k, e, q⟩ := q; cases e; exact q⟩) (rE_or q)
theorem pt_notD {ma : M} (ha : PTD X S a ma) : PTD X S (.UnaryOp .Not a pos) (eNot ma) :=
  pt_imp (L2.pt_not ha) fun σ H Q q => rE_mono (fun v H1 ⟨c, e, q⟩ => ⟨c, e, by obtain ⟨k, e, q⟩ := q; cases e; exact q⟩) (rE_not q)
end
end VE
/-! VE6: statements, loops. -/
namespace VE
open PySem PySem.Spec PyProof.Rows L2
def PostS (S : Set_) (G H : Hp) (F : List Addr) (σ' : L2.St) (ρ' : Env) (H' : Hp) : Prop := ∃ G' F', Tr G H F G' H' F' ∧ SR S.K S.cm S.fx G' H' σ' ρ' F'
def XOkS (S : Set_) (G H : Hp) (F : List Addr) (c : Str) (x : Option (Str × D)) (ρ' : Env) : Prop := ∀ σ' dd H', PostX S.K S.cm S.fx G H F σ' ρ' x dd H' → S.W (.ref (S.cm c)) dd σ' H'
/-- what is wanted behind an outcome -/
def Wish (S : Set_) (G H : Hp) (F : List Addr) (D : Ends) : OutS → Prop
  | .nx ρ' => ∀ σ' H', PostS S G H F σ' ρ' H' → D.nx σ' H'
  | .rt d ρ' => ∀ σ' v H', Post S.K S.cm S.fx G H F σ' ρ' d v H' → D.rt v H'
  | .bk ρ' => ∀ σ' H', PostS S G H F σ' ρ' H' → D.bk σ' H'
  | .exc c x ρ' => XOkS S G H F c x ρ'
  | .bad => False
def rS (S : Set_) (m : MS) : TS := fun D σ H => ∃ G ρ F, SR S.K S.cm S.fx G H σ ρ F ∧ Wish S G H F D (m ρ)
section
variable {X : Cx} {S : Set_} {G H G1 H1 : Hp} {F F1 : List Addr} {σ : L2.St} {ρ ρ' : Env} {De : Ends} {o : OutS}
theorem PostS.trans {σ' : L2.St} {H' : Hp} (t : Tr G H F G1 H1 F1) (p : PostS S G1 H1 F1 σ' ρ' H') : PostS S G H F σ' ρ' H' := by
  obtain ⟨G', F', t', s⟩ := p
  exact ⟨G', F', t.trans t', s⟩
theorem PostS.here (s : SR S.K S.cm S.fx G H σ ρ F) : PostS S G H F σ ρ H := ⟨G, F, .refl, s⟩
theorem Wish.from (t : Tr G H F G1 H1 F1) (w : Wish S G H F De o) : Wish S G1 H1 F1 De o := by
  cases o with
  | nx ρ' => exact fun σ' H' p => w σ' H' (p.trans t)
  | rt d ρ' => exact fun σ' v H' p => w σ' v H' (p.trans t)
  | bk ρ' => exact fun σ' H' p => w σ' H' (p.trans t)
  | exc c x ρ' => exact fun σ' dd H' p => w σ' dd H' (p.trans t)
  | bad => exact w
theorem rS_go {m : MS} (t : Tr G H F G1 H1 F1) (s : SR S.K S.cm S.fx G1 H1 σ ρ F1) (w : Wish S G H F De (m ρ)) : rS S m De σ H1 := ⟨G1, ρ, F1, s, w.from t⟩
theorem ps_imp {st : Stmt} {t t' : TS} (h : PS X st t) (k : ∀ D σ H, t' D σ H → t D σ H) : PS X st t' := ⟨fun pins s σ H D I q => h.run pins s σ H D I (k D σ H q)⟩
theorem pss_imp {st : List Stmt} {t t' : TS} (h : PSs X st t) (k : ∀ D σ H, t' D σ H → t D σ H) : PSs X st t' := ⟨fun pins s σ H D I q => h.run pins s σ H D I (k D σ H q)⟩

/-! ### blocks -/
def sNil : MS := fun ρ => .nx ρ
def sSeq (a b : MS) : MS := fun ρ => match a ρ with
  | .nx ρ' => b ρ'
  | o => o
theorem pss_nilD : PSs X [] (rS S sNil) := pss_imp pss_nil fun D σ H q => by
  obtain ⟨G, ρ, F, s, w⟩ := q
  exact w σ H (.here s)
theorem pss_consD {st : Stmt} {rest : List Stmt} {a b : MS} (ha : PS X st (rS S a)) (hb : PSs X rest (rS S b)) : PSs X (st :: rest) (rS S (sSeq a b)) :=
  pss_imp (pss_cons ha hb) fun D σ H q => by
    obtain ⟨G, ρ, F, s, w⟩ := q
    refine ⟨G, ρ, F, s, ?_⟩
    unfold sSeq at w
    cases e : a ρ with
    | nx ρ' =>
      rw [e] at w
      intro σ' H' ⟨G', F', t, s'⟩
      exact rS_go t s' w
    | rt d ρ' => rw [e] at w; exact w
    | bk ρ' => rw [e] at w; exact w
    | exc c x ρ' => rw [e] at w; exact w
    | bad => rw [e] at w; exact w
def sPass : MS := fun ρ => .nx ρ
theorem ps_passD {pos : Pos} : PS X (.Pass pos) (rS S sPass) := ps_imp ps_pass fun D σ H q => by
  obtain ⟨G, ρ, F, s, w⟩ := q
  exact w σ H (.here s)
def sBreak : MS := fun ρ => .bk ρ
theorem ps_breakD {pos : Pos} : PS X (.Break pos) (rS S sBreak) := ps_imp ps_break fun D σ H q => by
  obtain ⟨G, ρ, F, s, w⟩ := q
  exact w σ H (.here s)
/-- code that the evaluator doesn't enter -/
def sBad : MS := fun _ => .bad
theorem ps_badD {st : Stmt} : PS X st (rS S sBad) := ps_imp ps_never fun D σ H q => by
  obtain ⟨G, ρ, F, s, w⟩ := q
  exact w

/-! ### values into statements -/
/-- a statement that goes on from a value -/
def sWith (m : M) (k : D → MS) : MS := fun ρ => match m ρ with
  | .ok d ρ' => k d ρ'
  | .exc c x ρ' => .exc c x ρ'
  | .bad => .bad
def sRet (m : M) : MS := sWith m fun d ρ => .rt d ρ
def sExpr (m : M) : MS := sWith m fun _ ρ => .nx ρ
/-- store in a slot; the in-out parameters keep theirs -/
def putE (i : Nat) (d : D) (ρ : Env) : OutS := if i < ρ.length then .nx (ρ.set i (some d)) else .bad
def sSet (i : Nat) (m : M) : MS := sWith m fun d ρ => putE i d ρ
theorem rS_with {m : M} {k : D → MS} {Q : VK} {σ : L2.St} {H : Hp} {De : Ends} (q : rS S (sWith m k) De σ H)
    (hk : ∀ (G : Hp) (F : List Addr) (d : D) (ρ' : Env), Wish S G H F De (k d ρ') → ∀ v H', Post S.K S.cm S.fx G H F σ ρ' d v H' → Q v H') : rE S m σ H Q := by
  obtain ⟨G, ρ, F, s, w⟩ := q
  refine ⟨G, ρ, F, s, ?_⟩
  unfold sWith at w
  cases e : m ρ with
  | ok d ρ' => rw [e] at w; exact hk G F d ρ' w
  | exc c x ρ' => rw [e] at w; exact fun dd H' p => w σ dd H' p
  | bad => rw [e] at w; exact w
theorem ps_retD {e : Expr} {m : M} {pos : Pos} (he : PE X e (rE S m)) : PS X (.Return (some e) pos) (rS S (sRet m)) := ps_imp (ps_ret he) fun D σ H q => rS_with q fun G F d ρ' w v H' p => w σ v H' p
theorem Post.drop {K : Frag} {cm : Str → Addr} {fx : Fix} {G H H' : Hp} {F : List Addr} {σ : L2.St} {ρ' : Env} {d : D} {v : V} (p : Post K cm fx G H F σ ρ' d v H') : ∃ G' F', Tr G H F G' H' F' ∧ SR K cm fx G' H' σ ρ' F' := by
  obtain ⟨G', F', Fv, t, s, _, _, _⟩ := p
  exact ⟨G', F', t.sub fun a ha => by simp [ha], s⟩
theorem ps_exprD {e : Expr} {m : M} {pos : Pos} (he : PE X e (rE S m)) (hs : swapsWith e none pos.line X.env = pure false) : PS X (.Expr e pos) (rS S (sExpr m)) :=
  ps_imp (ps_expr he hs) fun D σ H q => rS_with q fun G F d ρ' w v H' p => w σ H' p.drop
theorem Post.store {K : Frag} {cm : Str → Addr} {fx : Fix} {G H H' : Hp} {F : List Addr} {σ : L2.St} {ρ' : Env} {d : D} {v : V} (p : Post K cm fx G H F σ ρ' d v H') {i : Nat} (hi : i < ρ'.length) (hf : ∀ q ∈ fx, q.1 ≠ i) :
    ∃ G' F', Tr G H F G' H' F' ∧ SR K cm fx G' H' (σ.set i (some v)) (ρ'.set i (some d)) F' := by
  obtain ⟨G', F', Fv, t, s, o, nd, dj⟩ := p
  obtain ⟨y, Fa, F1, Fb, h1, h2, eF, up⟩ := s.sl.split i (x := ρ'[i]) (by simp [hi])
  have sl := up G' H' (some d) (some v) Fv (GLe.refl _) (fun _ _ _ h => h) ⟨v, rfl, o⟩
  subst eF
  have ndA := List.nodup_append.mp nd
  have ndB := List.nodup_append.mp ndA.1
  have ndC := List.nodup_append.mp ndB.2.1
  refine ⟨G', Fa ++ (Fv ++ Fb), t.sub fun a ha => ?_, ⟨s.rd, ?_, fun a ha => ?_, sl, fun q hq => ?_⟩⟩
  · simp at ha ⊢
    rcases ha with ha | ha | ha <;> simp [ha]
  · refine List.nodup_append.mpr ⟨ndB.1, List.nodup_append.mpr ⟨ndA.2.1, ndC.2.1, fun a ha b hb e => ?_⟩, fun a ha b hb e => ?_⟩
    · subst e; exact ndA.2.2 a (by simp [hb]) a ha rfl
    · subst e
      rcases List.mem_append.mp hb with hb | hb
      · exact ndA.2.2 a (by simp [ha]) a hb rfl
      · exact ndB.2.2 a ha a (by simp [hb]) rfl
  · simp at ha
    rcases ha with ha | ha | ha
    · exact s.dj a (by simp [ha])
    · exact dj a ha
    · exact s.dj a (by simp [ha])
  · rw [List.getElem?_set_ne (Ne.symm (hf q hq))]
    exact s.fx q hq
theorem Post.stores {i : Nat} {d : D} {v : V} {H' : Hp} (hf : ∀ q ∈ S.fx, q.1 ≠ i) (w : Wish S G H F De (putE i d ρ')) (p : Post S.K S.cm S.fx G H F σ ρ' d v H')  : De.nx (σ.set i (some v)) H' := by
  unfold putE at w
  split at w
  case isFalse => exact w.elim
  case isTrue hi => exact w _ H' (p.store hi hf)
theorem ps_setD {i : Nat} {x : Str} {e : Expr} {m : M} {pos pos' : Pos} (hN : X.N.Nodup) (hi : X.N[i]? = some x) (hx : Loc X.env.scope x) (he : PE X e (rE S m)) (hs : swapsWith e (some (.Name x pos')) pos.line X.env = pure false)
    (hf : X.fn x = true ∨ X.env.scope.names.lookup x = some .local) (hfx : ∀ q ∈ S.fx, q.1 ≠ i) : PS X (.Assign [.Name x pos'] e pos) (rS S (sSet i m)) :=
  ps_imp (ps_set hN hi hx he hs hf) fun D σ H q => rS_with q fun G F d ρ' w v H' p => p.stores hfx w

/-! ### if -/
def sIf (c : M) (a b : MS) : MS := sWith c fun d ρ => match d with
  | .bl true => a ρ
  | .bl false => b ρ
  | _ => .bad
theorem ps_ifD {c : Expr} {as bs : List Stmt} {mc : M} {a b : MS} {pos : Pos} (hc : PTD X S c mc) (ha : PSs X as (rS S a)) (hb : PSs X bs (rS S b)) : PS X (.If c as bs pos) (rS S (sIf mc a b)) :=
  ps_imp (ps_if hc ha hb) fun D σ H q => rS_with q fun G F d ρ' w v H' p => by
    cases d with
    | bl k =>
      obtain ⟨rfl, G1, F1, t, s⟩ := p.bl
      refine ⟨k, rfl, ?_⟩
      cases k with
      | true => exact rS_go t s w
      | false => exact rS_go t s w
    | _ => exact w.elim

/-! ### while -/
def wIter (c : M) (b : MS) : Nat → MS
  | 0, _ => .bad
  | n + 1, ρ => match c ρ with
    | .ok (.bl true) ρ1 => (match b ρ1 with
      | .nx ρ2 => wIter c b n ρ2
      | .bk ρ2 => .nx ρ2
      | o => o)
    | .ok (.bl false) ρ1 => .nx ρ1
    | .ok _ _ => .bad
    | .exc c x ρ' => .exc c x ρ'
    | .bad => .bad
theorem wIter_succ {c : M} {b : MS} : ∀ {n : Nat} {ρ : Env} {o : OutS}, wIter c b n ρ = o → o ≠ .bad → wIter c b (n + 1) ρ = o
  | 0, ρ, o, h, ne => absurd h.symm ne
  | n + 1, ρ, o, h, ne => by
    rw [wIter] at h ⊢
    split at h <;> try exact h
    split at h <;> try exact h
    exact wIter_succ h ne
theorem wIter_le {c : M} {b : MS} {n m : Nat} {ρ : Env} {o : OutS} (h : wIter c b n ρ = o) (ne : o ≠ .bad) (hm : n ≤ m) : wIter c b m ρ = o := by
  induction hm with
  | refl => exact h
  | step _ ih => exact wIter_succ ih ne
open Classical in
noncomputable def sWhile (c : M) (b : MS) : MS := fun ρ => if h : ∃ n, wIter c b n ρ ≠ .bad then wIter c b (Classical.choose h) ρ else .bad
theorem sWhile_of {c : M} {b : MS} {n : Nat} {ρ : Env} {o : OutS} (h : wIter c b n ρ = o) (ne : o ≠ .bad) : sWhile c b ρ = o := by
  have ex : ∃ n, wIter c b n ρ ≠ .bad := ⟨n, by rw [h]; exact ne⟩
  unfold sWhile
  rw [dif_pos ex]
  have h2 := Classical.choose_spec ex
  have a := wIter_le (m := max n (Classical.choose ex)) h ne (Nat.le_max_left _ _)
  have b' := wIter_le (m := max n (Classical.choose ex)) rfl h2 (Nat.le_max_right _ _)
  rw [← b', a]
theorem sWhile_ends {c : M} {b : MS} {ρ : Env} (h : sWhile c b ρ ≠ .bad) : ∃ n, wIter c b n ρ = sWhile c b ρ := by
  unfold sWhile at h ⊢
  split
  case isTrue ex => exact ⟨_, rfl⟩
  case isFalse ex => rw [dif_neg ex] at h; exact absurd rfl h
/-- one turn -/
theorem sWhile_eq (c : M) (b : MS) (ρ : Env) : sWhile c b ρ = match c ρ with
    | .ok (.bl true) ρ1 => (match b ρ1 with
      | .nx ρ2 => sWhile c b ρ2
      | .bk ρ2 => .nx ρ2
      | o => o)
    | .ok (.bl false) ρ1 => .nx ρ1
    | .ok _ _ => .bad
    | .exc c x ρ' => .exc c x ρ'
    | .bad => .bad := by
  by_cases h : sWhile c b ρ = .bad
  · rw [h]
    have none : ∀ n, wIter c b n ρ = .bad := fun n => Classical.byContradiction fun z => z (by rw [← sWhile_of rfl z]; exact h)
    have h1 := none 1
    rw [wIter] at h1
    split <;> rename_i e <;> rw [e] at h1 <;> dsimp only at h1 <;> try (first | exact h1.symm | rfl | (cases h1; done))
    rename_i ρ1
    cases e2 : b ρ1 with
    | nx ρ2 =>
      dsimp only
      refine (Classical.byContradiction fun z => ?_)
      obtain ⟨n, hn⟩ := sWhile_ends (c := c) (b := b) (ρ := ρ2) (fun y => z y.symm)
      have := none (n + 1)
      rw [wIter, e] at this
      dsimp only at this
      rw [e2] at this
      dsimp only at this
      exact z (by rw [← hn, this])
    | bk ρ2 => rw [e2] at h1; cases h1
    | rt d ρ2 => rw [e2] at h1; cases h1
    | exc a x ρ2 => rw [e2] at h1; cases h1
    | bad => rfl
  · obtain ⟨n, hn⟩ := sWhile_ends h
    cases n with
    | zero => rw [wIter] at hn; exact absurd hn.symm h
    | succ n =>
      rw [wIter] at hn
      split at hn <;> rename_i e <;> (try rw [e]) <;> try exact hn.symm
      rename_i ρ1
      cases e2 : b ρ1 with
      | nx ρ2 =>
        rw [e2] at hn
        dsimp only at hn ⊢
        rw [sWhile_of hn h]
      | bk ρ2 => rw [e2] at hn; exact hn.symm
      | rt d ρ2 => rw [e2] at hn; exact hn.symm
      | exc a x ρ2 => rw [e2] at hn; exact hn.symm
      | bad => rw [e2] at hn; exact hn.symm
theorem ps_whileD {c : Expr} {body : List Stmt} {mc : M} {b : MS} {pos : Pos} (hp : PassesOwn (model X.prog X.w) X.A X.env X.xe) (hc : PTD X S c mc) (hb : PSs X body (rS S b)) : PS X (.While c body [] pos) (rS S (sWhile mc b)) :=
  ps_imp (ps_while hp hc hb) fun D σ H q => by
    obtain ⟨G, ρ, F, s, w⟩ := q
    have nb : sWhile mc b ρ ≠ .bad := fun z => by rw [z] at w; exact w
    obtain ⟨n0, hn0⟩ := sWhile_ends nb
    generalize sWhile mc b ρ = o at w nb hn0
    refine ⟨fun n σ' H' => ∃ G' ρ' F', Tr G H F G' H' F' ∧ SR S.K S.cm S.fx G' H' σ' ρ' F' ∧ wIter mc b n ρ' = o, ⟨n0, G, ρ, F, .refl, s, hn0⟩, ?_⟩
    rintro n σ1 H1 ⟨G1, ρ1, F1, t1, s1, h1⟩
    refine ⟨G1, ρ1, F1, s1, ?_⟩
    cases n with
    | zero => rw [wIter] at h1; exact absurd h1.symm nb
    | succ n =>
      rw [wIter] at h1
      cases e : mc ρ1 with
      | bad => rw [e] at h1; exact absurd h1.symm nb
      | exc c' x ρ' =>
        rw [e] at h1
        dsimp only at h1
        subst h1
        exact fun dd H' p => w σ1 dd H' (p.trans t1)
      | ok d ρ2 =>
        rw [e] at h1
        cases d with
        | bl k =>
          intro v H2 p
          obtain ⟨rfl, G2, F2, t2, s2⟩ := p.bl
          refine ⟨k, rfl, ?_⟩
          cases k with
          | false =>
            dsimp only at h1
            subst h1
            exact w σ1 H2 ⟨G2, F2, t1.trans t2, s2⟩
          | true =>
            dsimp only at h1
            refine ⟨fun σ' H' => ∃ G' ρ' F', Tr G H F G' H' F' ∧ SR S.K S.cm S.fx G' H' σ' ρ' F' ∧ wIter mc b n ρ' = o, fun σ' H' h => ⟨n, Nat.lt_succ_self _, h⟩, G2, ρ2, F2, s2, ?_⟩
            cases e2 : b ρ2 with
            | nx ρ3 =>
              rw [e2] at h1
              intro σ' H' ⟨G', F', t', s'⟩
              exact ⟨G', ρ3, F', (t1.trans t2).trans t', s', h1⟩
            | bk ρ3 =>
              rw [e2] at h1
              dsimp only at h1
              subst h1
              exact fun σ' H' ⟨G', F', t', s'⟩ => w σ' H' ⟨G', F', (t1.trans t2).trans t', s'⟩
            | rt d ρ3 =>
              rw [e2] at h1
              dsimp only at h1
              subst h1
              exact fun σ' v H' p => w σ' v H' (p.trans (t1.trans t2))
            | exc a x ρ3 =>
              rw [e2] at h1
              dsimp only at h1
              subst h1
              exact fun σ' dd H' p => w σ' dd H' (p.trans (t1.trans t2))
            | bad => rw [e2] at h1; exact absurd h1.symm nb
        | _ => exact absurd h1.symm nb

/-! ### targets -/
inductive Tgt where
  | nm (i : Nat)
  | tup (ts : List Tgt)
mutual
def Tgt.g (K : Frag) : Tgt → TG
  | .nm i => gName i
  | .tup ts => gTup K ts.length (Tgt.gs K ts)
def Tgt.gs (K : Frag) : List Tgt → TGs
  | [] => gNil
  | t :: ts => gCons (t.g K) (Tgt.gs K ts)
end
mutual
def Tgt.m : Tgt → D → MS
  | .nm i, d => putE i d
  | .tup ts, .tup ds => if ds.length = ts.length then Tgt.ms ts ds else fun _ => .bad
  | .tup _, _ => fun _ => .bad
def Tgt.ms : List Tgt → List D → MS
  | [], [] => fun ρ => .nx ρ
  | t :: ts, d :: ds => sSeq (t.m d) (Tgt.ms ts ds)
  | _, _ => fun _ => .bad
end
mutual
def Tgt.free (fx : List Nat) : Tgt → Bool
  | .nm i => !fx.contains i
  | .tup ts => Tgt.frees fx ts
def Tgt.frees (fx : List Nat) : List Tgt → Bool
  | [] => true
  | t :: ts => t.free fx && Tgt.frees fx ts
end
theorem fx_ne {fx : Fix} {i : Nat} (h : (!(fx.map (·.1)).contains i) = true) : ∀ q ∈ fx, q.1 ≠ i := fun q hq e => by
  simp at h
  exact h q.2 (by rw [← e]; exact hq)
mutual
def Tgt.sl : Tgt → List Nat
  | .nm i => [i]
  | .tup ts => Tgt.sls ts
def Tgt.sls : List Tgt → List Nat
  | [] => []
  | t :: ts => t.sl ++ Tgt.sls ts
end
/-- the slots but some are as they were -/
def But (l : List Nat) (σ σ' : L2.St) : Prop := σ'.length = σ.length ∧ ∀ j, j ∉ l → σ'[j]? = σ[j]?
/-- what is wanted behind a target -/
def GW (S : Set_) (G H : Hp) (F : List Addr) (l : List Nat) (σ : L2.St) (Q : L2.St → Hp → Prop) : OutS → Prop
  | .nx ρ' => ∀ σ' H', PostS S G H F σ' ρ' H' → But l σ σ' → Q σ' H'
  | _ => False
mutual
theorem Tgt.imp : ∀ (t : Tgt) (d : D) (v : V) (G : Hp) (ρ : Env) (F : List Addr) (σ : L2.St) (H : Hp) (Q : L2.St → Hp → Prop), t.free (S.fx.map (·.1)) = true → SR S.K S.cm S.fx G H σ ρ F → Fz S.K S.cm G d v → GW S G H F t.sl σ Q (t.m d ρ) → t.g S.K v σ H Q
  | .nm i, d, v, G, ρ, F, σ, H, Q, hf, s, z, w => by
    rw [Tgt.m] at w
    rw [Tgt.g]
    rw [Tgt.free] at hf
    unfold putE at w
    split at w
    case isFalse => exact w.elim
    case isTrue hl => exact w _ H ((PostZ.here s z).post.store hl (fx_ne hf)) ⟨by simp, fun j hj => List.getElem?_set_ne (fun e => hj (by rw [e]; simp [Tgt.sl]))⟩
  | .tup ts, d, v, G, ρ, F, σ, H, Q, hf, s, z, w => by
    rw [Tgt.g]
    rw [Tgt.free] at hf
    cases z with
    | tup sq l =>
      rw [Tgt.m] at w
      split at w
      case isFalse => exact w.elim
      case isTrue hl => exact ⟨_, _, rfl, s.rd.sqT sq, by rw [← l.length, hl], Tgt.imps ts _ _ G ρ F σ H Q hf s l w⟩
    | _ => exact (show False from by simpa [Tgt.m, GW] using w).elim
theorem Tgt.imps : ∀ (ts : List Tgt) (ds : List D) (vs : List V) (G : Hp) (ρ : Env) (F : List Addr) (σ : L2.St) (H : Hp) (Q : L2.St → Hp → Prop), Tgt.frees (S.fx.map (·.1)) ts = true → SR S.K S.cm S.fx G H σ ρ F → FzL S.K S.cm G ds vs → GW S G H F (Tgt.sls ts) σ Q (Tgt.ms ts ds ρ) → Tgt.gs S.K ts vs σ H Q
  | [], ds, vs, G, ρ, F, σ, H, Q, hf, s, z, w => by
    rw [Tgt.gs]
    cases z with
    | nil => exact ⟨rfl, w σ H (.here s) ⟨rfl, fun _ _ => rfl⟩⟩
    | cons a l => exact w.elim
  | t :: ts, ds, vs, G, ρ, F, σ, H, Q, hf, s, z, w => by
    rw [Tgt.gs]
    rw [Tgt.frees, Bool.and_eq_true] at hf
    cases z with
    | nil => exact w.elim
    | cons a l =>
      rw [Tgt.ms] at w
      refine ⟨_, _, rfl, Tgt.imp t _ _ G ρ F σ H _ hf.1 s a ?_⟩
      unfold sSeq at w
      cases e : t.m _ ρ with
      | nx ρ' =>
        rw [e] at w
        intro σ' H' ⟨G', F', t', s'⟩ bt
        refine Tgt.imps ts _ _ G' ρ' F' σ' H' Q hf.2 s' (l.mono t'.g.rds) ?_
        dsimp only at w
        cases e2 : Tgt.ms ts _ ρ' with
        | nx ρ2 =>
          rw [e2] at w
          exact fun σ2 H2 p b2 => w σ2 H2 (p.trans t') ⟨b2.1.trans bt.1, fun j hj => by
            rw [Tgt.sls, List.mem_append, not_or] at hj
            rw [b2.2 j hj.2, bt.2 j hj.1]⟩
        | rt d ρ2 => rw [e2] at w; exact w
        | bk ρ2 => rw [e2] at w; exact w
        | exc c x ρ2 => rw [e2] at w; exact w
        | bad => rw [e2] at w; exact w
      | rt d ρ2 => rw [e] at w; exact w.elim
      | bk ρ2 => rw [e] at w; exact w.elim
      | exc c x ρ2 => rw [e] at w; exact w.elim
      | bad => rw [e] at w; exact w.elim
end
/-- target = frozen value -/
def sAsg (t : Tgt) (m : M) : MS := sWith m fun d ρ => match t.m (frz d) ρ with
  | .nx ρ' => .nx ρ'
  | _ => .bad
theorem ps_asgD {tg e : Expr} {t : Tgt} {m : M} {pos : Pos} (he : PE X e (rE S m)) (hg : PG X tg (t.g S.K)) (hf : t.free (S.fx.map (·.1)) = true) (hs : swapsWithSole [tg] e pos.line X.env = pure false) (hw : swappedStores [tg] e X.env = pure none)
    (h1 : (assignEach [tg] X.env).map (·.2) = [assign tg X.env]) : PS X (.Assign [tg] e pos) (rS S (sAsg t m)) := by
  refine ps_imp (ps_asg he hg hs hw h1) fun D σ H q => rS_with q fun G F d ρ' w v H' p => ?_
  obtain ⟨G', F', t', s, z⟩ := p.freeze
  refine Tgt.imp t _ v G' ρ' F' σ H' _ hf s z ?_
  cases e : t.m (frz d) ρ' with
  | nx ρ2 => rw [e] at w; exact fun σ2 H2 p _ => w σ2 H2 (p.trans t')
  | rt d ρ2 => rw [e] at w; exact w
  | bk ρ2 => rw [e] at w; exact w
  | exc c x ρ2 => rw [e] at w; exact w
  | bad => rw [e] at w; exact w

/-! ### for -/
def fIter (t : Tgt) (b : MS) : List D → MS
  | [], ρ => .nx ρ
  | d :: ds, ρ => match t.m d ρ with
    | .nx ρ1 => (match b ρ1 with
      | .nx ρ2 => fIter t b ds ρ2
      | .bk ρ2 => .nx ρ2
      | o => o)
    | _ => .bad
/-- what an iterator yields -/
def Items (K : Frag) (cm : Str → Addr) (G : Hp) (ds : List D) (J : It) : Prop := ∀ (i : Nat) (G2 H2 : Hp), GLe G G2 → RdS G2 H2 →
  (∀ d, ds[i]? = some d → J.go i H2 ∧ ∀ x H3, J.yld i H2 x H3 → ∃ G3, New G2 H2 G3 H3 [] ∧ Fz K cm G3 d x) ∧ (ds.length ≤ i → J.stop i H2)
def rI (S : Set_) (it : ML) : TI := fun σ H R => ∃ G ρ F, SR S.K S.cm S.fx G H σ ρ F ∧ match it ρ with
  | .ok ds ρ' => ∀ J H', (∃ G' F', Tr G H F G' H' F' ∧ SR S.K S.cm S.fx G' H' σ ρ' F' ∧ Items S.K S.cm G' ds J) → R J H'
  | .exc c x ρ' => XOk S G H F σ c x ρ'
  | .bad => False
def sFor (it : ML) (t : Tgt) (b : MS) : MS := fun ρ => match it ρ with
  | .ok ds ρ' => fIter t b ds ρ'
  | .exc c x ρ' => .exc c x ρ'
  | .bad => .bad
theorem New.tr {Fv : List Addr} {G H G' H' : Hp} {F : List Addr} (n : New G H G' H' Fv) : Tr G H F G' H' F :=
  ⟨n.g, fun a o _ e => n.h a o e, fun a ha => .inl ha, fun a ha => (n.d a ha).imp id .inr, fun a ha => by
    cases e : H a with
    | none => exact absurd e ha
    | some o => rw [n.h a o e]; simp⟩
theorem New.sr {G H G' H' : Hp} {F : List Addr} {σ : L2.St} {ρ : Env} {K : Frag} {cm : Str → Addr} {fx : Fix} (n : New G H G' H' []) (s : SR K cm fx G H σ ρ F) : SR K cm fx G' H' σ ρ F := by
  obtain ⟨G2, F2, Fv, t, s', _⟩ := n.post s (.fz (.non))
  exact ⟨n.rd, s.nd, fun a ha => by
    cases e : G' a with
    | none => rfl
    | some o =>
      rcases n.d a (by rw [e]; simp) with q | q
      · exact absurd (s.dj a ha) q
      · exact absurd q (s.there a ha), s.sl.mono n.g fun a _ o e => n.h a o e, s.fx⟩
theorem ps_forD {tg iter : Expr} {body : List Stmt} {it : ML} {t : Tgt} {b : MS} {pos : Pos} (hp : PassesOwn (model X.prog X.w) X.A X.env X.xe) (hc : X.calm = true) (hi : PI X tg iter (rI S it)) (hg : PG X tg (t.g S.K)) (hf : t.free (S.fx.map (·.1)) = true) (hb : PSs X body (rS S b))
    (hs : ∀ x, foldedSetIterable iter X.env x = pure x) : PS X (.For tg iter body [] pos) (rS S (sFor it t b)) := by
  refine ps_imp (ps_for hp hc hi hg hb hs) fun D σ H q => ?_
  obtain ⟨G, ρ, F, s, w⟩ := q
  refine ⟨G, ρ, F, s, ?_⟩
  unfold sFor at w
  cases e : it ρ with
  | bad => rw [e] at w; exact w
  | exc c x ρ' => rw [e] at w; exact fun dd H' p => w σ dd H' p
  | ok ds ρ0 =>
    rw [e] at w
    dsimp only at w ⊢
    intro J H0 ⟨G0, F0, t0, s0, items⟩
    have nb : fIter t b ds ρ0 ≠ .bad := fun z => by rw [z] at w; exact w
    generalize ho : fIter t b ds ρ0 = o at w nb
    refine ⟨fun i m σ' H' => m = ds.length - i ∧ i ≤ ds.length ∧ ∃ G' ρ' F', Tr G H F G' H' F' ∧ GLe G0 G' ∧ SR S.K S.cm S.fx G' H' σ' ρ' F' ∧ fIter t b (ds.drop i) ρ' = o, ⟨ds.length, by simp, Nat.zero_le _, G0, ρ0, F0, t0, GLe.refl _, s0, by simpa using ho⟩, ?_⟩
    rintro i m σ1 H1 ⟨rfl, hi, G1, ρ1, F1, t1, g1, s1, h1⟩
    have it1 := items i G1 H1 g1 s1.rd
    by_cases hlt : i < ds.length
    · have hd : ds[i]? = some ds[i] := by simp [hlt]
      obtain ⟨go, yl⟩ := it1.1 _ hd
      rw [List.drop_eq_getElem_cons hlt, fIter] at h1
      refine .inr ⟨go, fun σ' H' => i + 1 ≤ ds.length ∧ ∃ G' ρ' F', Tr G H F G' H' F' ∧ GLe G0 G' ∧ SR S.K S.cm S.fx G' H' σ' ρ' F' ∧ fIter t b (ds.drop (i + 1)) ρ' = o,
        fun σ' H' h => ⟨ds.length - (i + 1), by omega, rfl, h⟩, fun x H2 y => ?_⟩
      obtain ⟨G2, n2, z2⟩ := yl x H2 y
      have s2 := n2.sr s1
      have t2 : Tr G1 H1 F1 G2 H2 F1 := n2.tr
      refine Tgt.imp t _ x G2 ρ1 F1 σ1 H2 _ hf s2 z2 ?_
      cases e2 : t.m ds[i] ρ1 with
      | nx ρ2 =>
        rw [e2] at h1
        dsimp only at h1
        intro σ3 H3 ⟨G3, F3, t3, s3⟩ _
        have tt := (t1.trans t2).trans t3
        have gg := g1.trans (n2.g.trans t3.g)
        refine ⟨G3, ρ2, F3, s3, ?_⟩
        cases e3 : b ρ2 with
        | nx ρ3 =>
          rw [e3] at h1
          intro σ' H' ⟨G', F', t', s'⟩
          exact ⟨hlt, G', ρ3, F', tt.trans t', gg.trans t'.g, s', h1⟩
        | bk ρ3 =>
          rw [e3] at h1
          dsimp only at h1
          subst h1
          exact fun σ' H' ⟨G', F', t', s'⟩ => w σ' H' ⟨G', F', tt.trans t', s'⟩
        | rt d ρ3 =>
          rw [e3] at h1
          dsimp only at h1
          subst h1
          exact fun σ' v H' p => w σ' v H' (p.trans tt)
        | exc a x ρ3 =>
          rw [e3] at h1
          dsimp only at h1
          subst h1
          exact fun σ' dd H' p => w σ' dd H' (p.trans tt)
        | bad => rw [e3] at h1; exact absurd h1.symm nb
      | rt d ρ2 => rw [e2] at h1; exact absurd h1.symm nb
      | bk ρ2 => rw [e2] at h1; exact absurd h1.symm nb
      | exc c x ρ2 => rw [e2] at h1; exact absurd h1.symm nb
      | bad => rw [e2] at h1; exact absurd h1.symm nb
    · have ei : i = ds.length := by omega
      subst ei
      rw [List.drop_length, fIter] at h1
      subst h1
      exact .inl ⟨it1.2 (Nat.le_refl _), w σ1 H1 ⟨G1, F1, t1, s1⟩⟩
end
end VE
/-! VE7: what is walked; comprehensions. -/
namespace VE
open PySem PySem.Spec PyProof.Rows L2
section
variable {X : Cx} {S : Set_}
theorem pi_imp {tg e : Expr} {t t' : TI} (h : PI X tg e t) (k : ∀ σ H R, t' σ H R → t σ H R) : PI X tg e t' := ⟨fun pins s σ H R I q => h.run pins s σ H R I (k σ H R q)⟩
/-- a list, a tuple or a text, as it comes -/
def iSeq (K : Frag) (tl : TE) : TI := fun σ H R => tl σ H fun x H1 => (∃ a xs, x = .ref a ∧ SqL K H1 a xs ∧ R (Itl K a) H1) ∨ (∃ a xs, x = .ref a ∧ SqT K H1 a xs ∧ R (Itt K a) H1) ∨ (∃ z, x = .str z ∧ R (Its z) H1)
theorem pi_seq {tg l : Expr} {tl : TE} (hl : PE X l tl) : PI X tg l (iSeq X.K tl) := by
  refine ⟨fun pins s σ H R I h => ?_⟩
  refine thn (hl.run pins s σ H _ I h) fun v s1 ⟨x, H1, I1, r1, q1⟩ => ?_
  rcases q1 with ⟨a, xs, e, hq, q⟩ | ⟨a, xs, e, hq, q⟩ | ⟨z, e, q⟩
  · subst e
    cases r1
    obtain ⟨its, rv, p, hz⟩ := I1.list hq
    refine wpAny_pyIter_list p.isList ?_
    refine ⟨s1.heap.objs.size, [s1.heap.objs.size], _, _, H1, rfl, I1.kept (t' := s1.toks) fun b o e => Heap.get?_push_of_some _ e, turn_list a _, ⟨_, Heap.get?_push_size _ rfl, rfl, rfl⟩, fun b hb => ?_, q⟩
    have e : b = s1.heap.objs.size := by simpa using hb
    subst e
    exact I1.fpOk (Nat.le_refl _) (I1.hok.fresh (Nat.le_refl _))
  · subst e
    cases r1
    obtain ⟨its, rv, p, hz⟩ := I1.tuple hq
    refine wpAny_pyIter_tuple (show s1.heap.IsTuple a its.toArray from p) ?_
    refine ⟨s1.heap.objs.size, [s1.heap.objs.size], _, _, H1, rfl, I1.kept (t' := s1.toks) fun b o e => Heap.get?_push_of_some _ e, turn_tuple a _, ⟨_, Heap.get?_push_size _ rfl, rfl, rfl⟩, fun b hb => ?_, q⟩
    have e : b = s1.heap.objs.size := by simpa using hb
    subst e
    exact I1.fpOk (Nat.le_refl _) (I1.hok.fresh (Nat.le_refl _))
  · subst e
    obtain ⟨t, rfl⟩ := r1
    cases ha : z.cps.all (· < 128)
    · exact wpAny_pyIter_wide ha (pi_one (tk := s1.toks) I1 _ (turn_str _ z t "str_iterator" (.inr rfl)) ⟨_, Heap.get?_push_size _ rfl, rfl, rfl⟩ q)
    · exact wpAny_pyIter_ascii ha (pi_one (tk := s1.toks) I1 _ (turn_str _ z t "str_ascii_iterator" (.inl rfl)) ⟨_, Heap.get?_push_size _ rfl, rfl, rfl⟩ q)
/-- the items of a value that is walked -/
def itemsOf : D → Option (List D)
  | .lst _ a => some a
  | .rol a => some a
  | .tup a => some a
  | .str z => some (z.cps.toList.map fun c => .str ⟨#[c]⟩)
  | _ => none
def iOf (m : M) : ML := fun ρ => match m ρ with
  | .ok d ρ' => (match itemsOf (frz d) with
    | some ds => .ok ds ρ'
    | none => .bad)
  | .exc c x ρ' => .exc c x ρ'
  | .bad => .bad
theorem items_list {K : Frag} {cm : Str → Addr} {G : Hp} {a : Addr} {vs : List V} {ds : List D} (s : SqL K G a vs) (l : FzL K cm G ds vs) : Items K cm G ds (Itl K a) := fun i G2 H2 g rd => by
  have s2 : SqL K H2 a vs := (g.rds.trans rd).sqL s
  refine ⟨fun d hd => ?_, fun hi => ⟨vs, s2, by rw [← l.length]; exact hi⟩⟩
  obtain ⟨v, hv, z⟩ := l.get hd
  refine ⟨⟨vs, v, s2, hv⟩, fun x H3 y => ?_⟩
  obtain ⟨rfl, y⟩ := y
  have := y vs s2
  rw [hv] at this
  cases this
  exact ⟨G2, .same rd, z.mono g.rds⟩
theorem items_tup {K : Frag} {cm : Str → Addr} {G : Hp} {a : Addr} {vs : List V} {ds : List D} (s : SqT K G a vs) (l : FzL K cm G ds vs) : Items K cm G ds (Itt K a) := fun i G2 H2 g rd => by
  have s2 : SqT K H2 a vs := (g.rds.trans rd).sqT s
  refine ⟨fun d hd => ?_, fun hi => ⟨vs, s2, by rw [← l.length]; exact hi⟩⟩
  obtain ⟨v, hv, z⟩ := l.get hd
  refine ⟨⟨vs, v, s2, hv⟩, fun x H3 y => ?_⟩
  obtain ⟨rfl, y⟩ := y
  have := y vs s2
  rw [hv] at this
  cases this
  exact ⟨G2, .same rd, z.mono g.rds⟩
theorem items_str {K : Frag} {cm : Str → Addr} {G : Hp} {z : Str} : Items K cm G (z.cps.toList.map fun c => .str ⟨#[c]⟩) (Its z) := fun i G2 H2 g rd => by
  refine ⟨fun d hd => ?_, fun hi => (by simpa using hi : z.cps.size ≤ i)⟩
  rw [List.getElem?_map, Option.map_eq_some_iff] at hd
  obtain ⟨c, hc, rfl⟩ := hd
  have hlt : i < z.cps.size := by
    have := (List.getElem?_eq_some_iff.mp hc).1
    simpa using this
  refine ⟨hlt, fun x H3 y => ?_⟩
  obtain ⟨rfl, c', hc', rfl⟩ := y
  have : c' = c := by
    rw [← Array.getElem?_toList] at hc'
    rw [hc] at hc'
    exact (Option.some.inj hc').symm
  subst this
  exact ⟨G2, .same rd, .str _⟩
theorem pi_seqD {tg l : Expr} {m : M} (hK : S.K = X.K) (hl : PE X l (rE S m)) : PI X tg l (rI S (iOf m)) := pi_imp (pi_seq hl) fun σ H R q => by
  obtain ⟨G, ρ, F, s, q⟩ := q
  refine ⟨G, ρ, F, s, ?_⟩
  unfold iOf at q
  cases e : m ρ with
  | bad => rw [e] at q; exact q
  | exc c x ρ' => rw [e] at q; exact q
  | ok d ρ' =>
    rw [e] at q
    dsimp only at q ⊢
    intro v H' p
    obtain ⟨G', F', t, s', z⟩ := p.freeze
    cases e2 : itemsOf (frz d) with
    | none => rw [e2] at q; exact q.elim
    | some ds =>
      rw [e2] at q
      dsimp only at q
      generalize frz d = d' at e2 z
      cases z with
      | tup sq l => cases e2; exact .inr (.inl ⟨_, _, rfl, by rw [← hK]; exact s'.rd.sqT sq, q _ _ ⟨G', F', t, s', by rw [← hK]; exact items_tup sq l⟩⟩)
      | lst sq l => cases e2; exact .inl ⟨_, _, rfl, by rw [← hK]; exact .inl (.inl (s'.rd.ex sq rfl)), q _ _ ⟨G', F', t, s', by rw [← hK]; exact items_list (.inl (.inl sq)) l⟩⟩
      | rol sq l => cases e2; exact .inl ⟨_, _, rfl, by rw [← hK]; exact s'.rd.sqL sq, q _ _ ⟨G', F', t, s', by rw [← hK]; exact items_list sq l⟩⟩
      | str z => cases e2; exact .inr (.inr ⟨_, rfl, q _ _ ⟨G', F', t, s', items_str⟩⟩)
      | _ => cases e2
/-! ### ranges -/
def rangeL (lo : Int) (n : Nat) : List D := (List.range n).map fun (i : Nat) => .int (lo + (i : Int))
theorem items_range {K : Frag} {cm : Str → Addr} {G : Hp} {lo : Int} {n : Nat} : Items K cm G (rangeL lo n) (Itr lo n) := fun i G2 H2 g rd => by
  unfold rangeL
  refine ⟨fun d hd => ?_, fun hi => (by simpa using hi : n ≤ i)⟩
  rw [List.getElem?_map, Option.map_eq_some_iff] at hd
  obtain ⟨j, hj, rfl⟩ := hd
  obtain ⟨hlt, rfl⟩ := List.getElem?_eq_some_iff.mp hj
  rw [List.length_range] at hlt
  refine ⟨hlt, fun x H3 y => ?_⟩
  obtain ⟨rfl, rfl⟩ := y
  exact ⟨G2, .same rd, by rw [List.getElem_range]; exact .int _⟩
def iRange1 (oa : Opd) : ML := fun ρ => match evO [oa] ρ with
  | .ok ds ρ' => (match oneI ds with
    | some j => if -(2 ^ 62) ≤ j ∧ j < 2 ^ 62 then .ok (rangeL 0 j.toNat) ρ' else .bad
    | none => .bad)
  | .exc c x ρ' => .exc c x ρ'
  | .bad => .bad
def int2 : List D → Option (Int × Int)
  | [.int i, .int j] => some (i, j)
  | _ => none
theorem int2_v {K : Frag} {cm : Str → Addr} {G H : Hp} {ds : List D} {vs : List V} {i j : Int} (l : VwL K cm G H ds vs) (h : int2 ds = some (i, j)) : vs = [.int i, .int j] := by
  unfold int2 at h
  split at h
  · cases h
    obtain ⟨v, w, F, F', rfl, a, b⟩ := vw2 l
    obtain ⟨rfl, _⟩ := a.int_inv
    obtain ⟨rfl, _⟩ := b.int_inv
    rfl
  · cases h
def iRange2 (oa ob : Opd) : ML := fun ρ => match evO [oa, ob] ρ with
  | .ok ds ρ' => (match int2 ds with
    | some (i, j) => if -(2 ^ 62) ≤ i ∧ i < 2 ^ 62 ∧ -(2 ^ 62) ≤ j ∧ j < 2 ^ 62 then .ok (rangeL i (j - i).toNat) ρ' else .bad
    | none => .bad)
  | .exc c x ρ' => .exc c x ρ'
  | .bad => .bad
theorem pi_range1D {tg a : Expr} {oa : Opd} {p pos : Pos} (hg : Gl X "range") (hm : X.mg "range" = none) (ha : PA X [a] (rO S [oa])) (hs : starEach [a] X.env = [(false, eval a X.env)]) : PI X tg (.Call (.Name "range" p) [a] [] pos) (rI S (iRange1 oa)) :=
  pi_imp (pi_range1 hg hm ha hs) fun σ H R q => by
    obtain ⟨G, ρ, F, s, q⟩ := q
    refine ⟨G, ρ, F, s, ?_⟩
    unfold iRange1 at q
    cases e : evO [oa] ρ with
    | bad => rw [e] at q; exact q
    | exc c x ρ' => rw [e] at q; exact q
    | ok ds ρ' =>
      rw [e] at q
      dsimp only at q ⊢
      intro vs H' ⟨G', F', t, s', vl⟩
      cases e2 : oneI ds with
      | none => rw [e2] at q; exact q.elim
      | some j =>
        rw [e2] at q
        dsimp only at q
        obtain rfl := oneI_v vl.l e2
        by_cases hc : -(2 ^ 62) ≤ j ∧ j < 2 ^ 62
        · rw [if_pos hc] at q
          exact ⟨j, rfl, hc.1, hc.2, q _ _ ⟨G', F', t, s', items_range⟩⟩
        · rw [if_neg hc] at q
          exact q.elim
theorem pi_range2D {tg a b : Expr} {oa ob : Opd} {p pos : Pos} (hg : Gl X "range") (hm : X.mg "range" = none) (ha : PA X [a, b] (rO S [oa, ob])) (hs : starEach [a, b] X.env = [(false, eval a X.env), (false, eval b X.env)]) (hs2 : starEach [b] X.env = [(false, eval b X.env)]) :
    PI X tg (.Call (.Name "range" p) [a, b] [] pos) (rI S (iRange2 oa ob)) :=
  pi_imp (pi_range2 hg hm ha hs hs2) fun σ H R q => by
    obtain ⟨G, ρ, F, s, q⟩ := q
    refine ⟨G, ρ, F, s, ?_⟩
    unfold iRange2 at q
    cases e : evO [oa, ob] ρ with
    | bad => rw [e] at q; exact q
    | exc c x ρ' => rw [e] at q; exact q
    | ok ds ρ' =>
      rw [e] at q
      dsimp only at q ⊢
      intro vs H' ⟨G', F', t, s', vl⟩
      cases e2 : int2 ds with
      | none => rw [e2] at q; exact q.elim
      | some ij =>
        obtain ⟨i, j⟩ := ij
        rw [e2] at q
        dsimp only at q
        obtain rfl := int2_v vl.l e2
        by_cases hc : -(2 ^ 62) ≤ i ∧ i < 2 ^ 62 ∧ -(2 ^ 62) ≤ j ∧ j < 2 ^ 62
        · rw [if_pos hc] at q
          exact ⟨i, j, rfl, hc, q _ _ ⟨G', F', t, s', items_range⟩⟩
        · rw [if_neg hc] at q
          exact q.elim
/-! ### comprehensions -/
def wipeE (ρ : Env) : List Nat → Env
  | [] => ρ
  | v :: vs => (wipeE ρ vs).set v none
def keepD (ρ : Env) (v : Nat) : Option D := match sget ρ v with
  | some d => if isFz d then some d else none
  | none => none
/-- the outer slots again -/
def unwipe (ρ0 : Env) : List Nat → Env → Env
  | [], ρ => ρ
  | v :: vs, ρ => unwipe ρ0 vs (ρ.set v (keepD ρ0 v))
def cTest (c : Option M) : M := fun ρ => match c with
  | none => .ok (.bl true) ρ
  | some c => c ρ
/-- the items that a comprehension makes, turn by turn -/
def cIter (own : List Nat) (t : Tgt) (c : Option M) (e : M) : List D → ML
  | [], ρ => .ok [] ρ
  | d :: ds, ρ => match t.m d (wipeE ρ own) with
    | .nx ρ1 => (match cTest c ρ1 with
      | .ok (.bl true) ρ2 => (match e ρ2 with
        | .ok x ρ3 => (match cIter own t c e ds ρ3 with
          | .ok xs ρ4 => .ok (frz x :: xs) ρ4
          | _ => .bad)
        | _ => .bad)
      | .ok (.bl false) ρ2 => cIter own t c e ds ρ2
      | _ => .bad)
    | _ => .bad
def eComp (own : List Nat) (it : ML) (t : Tgt) (c : Option M) (e : M) : M := fun ρ => match it ρ with
  | .ok ds ρ0 => if ds.length < sizeLine then (match cIter own t c e ds ρ0 with
    | .ok xs ρ1 => .ok (.lst true xs) (unwipe ρ0 own (wipeE ρ1 own))
    | _ => .bad) else .bad
  | .exc c x ρ' => .exc c x ρ'
  | .bad => .bad
theorem SR.clear {K : Frag} {cm : Str → Addr} {fx : Fix} {G H : Hp} {F : List Addr} {σ : L2.St} {ρ : Env} (s : SR K cm fx G H σ ρ F) (i : Nat) {x : Option D} {y : Option V} (ho : OwO K cm G H x y []) (hy : y = none → ∀ q ∈ fx, q.1 ≠ i) (hf : ∀ q ∈ fx, q.1 ≠ i) :
    ∃ F', (∀ a ∈ F', a ∈ F) ∧ SR K cm fx G H (σ.set i y) (ρ.set i x) F' := by
  by_cases hi : i < ρ.length
  · obtain ⟨y0, Fa, F1, Fb, h1, h2, eF, up⟩ := s.sl.split i (x := ρ[i]) (by simp [hi])
    have sl := up G H x y [] (GLe.refl _) (fun _ _ _ h => h) ho
    subst eF
    have n1 := List.nodup_append.mp s.nd
    have n2 := List.nodup_append.mp n1.2.1
    refine ⟨Fa ++ Fb, fun a ha => by simp at ha ⊢; rcases ha with ha | ha <;> simp [ha], s.rd, List.nodup_append.mpr ⟨n1.1, n2.2.1, fun a ha b hb => n1.2.2 a ha b (by simp [hb])⟩, fun a ha => s.dj a (by simp at ha ⊢; rcases ha with ha | ha <;> simp [ha]), by simpa using sl, fun q hq => ?_⟩
    rw [List.getElem?_set_ne (Ne.symm (hf q hq))]
    exact s.fx q hq
  · have hs : ¬ i < σ.length := by rw [← s.sl.length]; exact hi
    have e1 : ρ.set i x = ρ := List.set_eq_of_length_le (by omega)
    have e2 : σ.set i y = σ := List.set_eq_of_length_le (by omega)
    rw [e1, e2]
    exact ⟨F, fun a h => h, s⟩
theorem SR.wipe {K : Frag} {cm : Str → Addr} {fx : Fix} {G H : Hp} {σ : L2.St} {ρ : Env} : ∀ (vs : List Nat) {F : List Addr}, SR K cm fx G H σ ρ F → (∀ v ∈ vs, ∀ q ∈ fx, q.1 ≠ v) → ∃ F', (∀ a ∈ F', a ∈ F) ∧ SR K cm fx G H (L2.wipe σ vs) (wipeE ρ vs) F'
  | [], F, s, _ => ⟨F, fun _ h => h, s⟩
  | v :: vs, F, s, h => by
    obtain ⟨F1, s1, s2⟩ := SR.wipe vs s fun w hw => h w (by simp [hw])
    obtain ⟨F2, s3, s4⟩ := s2.clear v (x := none) (y := none) rfl (fun _ => h v (by simp)) (h v (by simp))
    exact ⟨F2, fun a ha => s1 a (s3 a ha), s4⟩
theorem wipe_at {σ : L2.St} {v : Nat} : ∀ {vs : List Nat}, v ∉ vs → (L2.wipe σ vs)[v]? = σ[v]?
  | [], _ => rfl
  | w :: vs, h => by
    simp only [List.mem_cons, not_or] at h
    show ((L2.wipe σ vs).set w none)[v]? = σ[v]?
    rw [List.getElem?_set_ne (Ne.symm h.1), wipe_at h.2]
theorem SR.unwipe {K : Frag} {cm : Str → Addr} {fx : Fix} {G0 H0 G H : Hp} {σ : L2.St} {ρ0 : Env} {F0 : List Addr} (s0 : SR K cm fx G0 H0 σ ρ0 F0) (g : GLe G0 G) : ∀ (vs : List Nat) {F : List Addr} {ρ : Env}, vs.Nodup → SR K cm fx G H (L2.wipe σ vs) ρ F → (∀ v ∈ vs, ∀ q ∈ fx, q.1 ≠ v) →
    ∃ F', (∀ a ∈ F', a ∈ F) ∧ SR K cm fx G H σ (unwipe ρ0 vs ρ) F'
  | [], F, ρ, _, s, _ => ⟨F, fun _ h => h, s⟩
  | v :: vs, F, ρ, nd, s, h => by
    obtain ⟨n1, n2⟩ := List.nodup_cons.mp nd
    have key : ∃ F', (∀ a ∈ F', a ∈ F) ∧ SR K cm fx G H (L2.wipe σ vs) (ρ.set v (keepD ρ0 v)) F' := by
      have e0 := wipe_at (σ := σ) n1
      by_cases hv : v < σ.length
      · have e1 : (L2.wipe σ vs)[v]? = some σ[v] := by rw [e0]; simp [hv]
        have ho : OwO K cm G H (keepD ρ0 v) σ[v] [] := by
          unfold keepD
          cases e2 : sget ρ0 v with
          | none => exact rfl
          | some d =>
            dsimp only
            by_cases hf : isFz d = true
            · rw [if_pos hf]
              obtain ⟨u, hu, Fu, o⟩ := s0.slot (sget_some e2)
              have : σ[v] = some u := by
                have := hu
                simp only [List.getElem?_eq_getElem hv, Option.some.injEq] at this
                exact this
              exact ⟨u, this, .fz ((o.isFz hf).mono g.rds)⟩
            · rw [if_neg hf]; exact rfl
        obtain ⟨F', f1, s1⟩ := s.clear v (x := keepD ρ0 v) (y := σ[v]) ho (fun _ => h v (by simp)) (h v (by simp))
        have e3 : ((L2.wipe σ vs).set v none).set v σ[v] = L2.wipe σ vs := by rw [List.set_set]; exact set_self _ _ _ e1
        exact ⟨F', f1, by rw [← e3]; exact s1⟩
      · have l1 : (L2.wipe σ vs).length = σ.length := wipe_length σ vs
        have e2 : (L2.wipe σ vs).set v none = L2.wipe σ vs := List.set_eq_of_length_le (by omega)
        have s' : SR K cm fx G H (L2.wipe σ vs) ρ F := by rw [← e2]; exact s
        have e1 : ρ.set v (keepD ρ0 v) = ρ := List.set_eq_of_length_le (by rw [s'.sl.length]; omega)
        rw [e1]
        exact ⟨F, fun _ h => h, s'⟩
    obtain ⟨F1, f1, s1⟩ := key
    obtain ⟨F2, f2, s2⟩ := SR.unwipe s0 g vs n2 s1 fun w hw => h w (by simp [hw])
    exact ⟨F2, fun a ha => f1 a (f2 a ha), s2⟩
mutual
theorem Tgt.free_of {fx : Fix} : ∀ (t : Tgt), (∀ j ∈ t.sl, ∀ q ∈ fx, q.1 ≠ j) → t.free (fx.map (·.1)) = true
  | .nm i, h => by
    rw [Tgt.free]
    simp only [Bool.not_eq_true', List.contains_eq_mem, decide_eq_false_iff_not, List.mem_map, not_exists, not_and]
    exact fun q hq => h i (by simp [Tgt.sl]) q hq
  | .tup ts, h => by rw [Tgt.free]; exact Tgt.frees_of ts fun j hj => h j (by rw [Tgt.sl]; exact hj)
theorem Tgt.frees_of {fx : Fix} : ∀ (ts : List Tgt), (∀ j ∈ Tgt.sls ts, ∀ q ∈ fx, q.1 ≠ j) → Tgt.frees (fx.map (·.1)) ts = true
  | [], _ => rfl
  | t :: ts, h => by
    rw [Tgt.frees, Bool.and_eq_true]
    exact ⟨Tgt.free_of t fun j hj => h j (by rw [Tgt.sls]; simp [hj]), Tgt.frees_of ts fun j hj => h j (by rw [Tgt.sls]; simp [hj])⟩
end
theorem wipe_get {σ : L2.St} : ∀ {vs : List Nat} (j : Nat), (L2.wipe σ vs)[j]? = if j ∈ vs ∧ j < σ.length then some none else σ[j]?
  | [], j => by simp [L2.wipe]
  | v :: vs, j => by
    show ((L2.wipe σ vs).set v none)[j]? = _
    by_cases e : v = j
    · subst e
      by_cases h : v < σ.length
      · rw [List.getElem?_set_self (by rw [wipe_length]; exact h), if_pos ⟨by simp, h⟩]
      · rw [if_neg (fun z => h z.2), List.getElem?_eq_none (by rw [List.length_set, wipe_length]; omega), List.getElem?_eq_none (by omega)]
    · rw [List.getElem?_set_ne e, wipe_get j]
      have : (j ∈ v :: vs) ↔ j ∈ vs := by simp [Ne.symm e]
      simp only [this]
theorem wipe_but {σ σ' : L2.St} {l vs : List Nat} (b : But l (L2.wipe σ vs) σ') (h : ∀ j ∈ l, j ∈ vs) : L2.wipe σ' vs = L2.wipe σ vs := by
  have hl : σ'.length = σ.length := by rw [b.1, wipe_length]
  refine List.ext_getElem? fun j => ?_
  rw [wipe_get, wipe_get, hl]
  by_cases hj : j ∈ vs
  · by_cases h2 : j < σ.length
    · rw [if_pos ⟨hj, h2⟩, if_pos ⟨hj, h2⟩]
    · rw [if_neg (fun z => h2 z.2), if_neg (fun z => h2 z.2), List.getElem?_eq_none (by omega), List.getElem?_eq_none (by omega)]
  · rw [if_neg (fun z => hj z.1), if_neg (fun z => hj z.1), b.2 j (fun z => hj (h j z)), wipe_at hj]
theorem SR.out {K : Frag} {cm : Str → Addr} {fx : Fix} {G H : Hp} {F : List Addr} {σ : L2.St} {ρ : Env} (s : SR K cm fx G H σ ρ F) {p : Addr} {o : HO} (h1 : G p = none) (h2 : p ∉ F) : SR K cm fx G (upd H p o) σ ρ F where
  rd := fun a u q => by
    have hne : a ≠ p := fun z => by
      subst z
      rw [h1] at q; cases q
    rw [upd_ne hne]
    exact s.rd a u q
  nd := s.nd
  dj := s.dj
  sl := s.sl.mono (GLe.refl _) fun a ha o e => by rw [upd_ne (fun z => h2 (by rw [← z]; exact ha))]; exact e
  fx := s.fx
/-- the setting within a comprehension: nothing may be raised -/
def Set_.blk (S : Set_) : Set_ := { S with W := fun _ _ _ _ => False }
/-- the state between two turns: p is the list that is made -/
def Mid (S : Set_) (G0 H0 : Hp) (F0 : List Addr) (p : Addr) (σ : L2.St) (ρ : Env) (xs : List D) (G H : Hp) (F : List Addr) : Prop :=
  Tr G0 H0 F0 G H (F ++ [p]) ∧ SR S.K S.cm S.fx G H σ ρ F ∧ p ∉ F ∧ G p = none ∧ ∃ acc, H p = some (.lst acc) ∧ FzL S.K S.cm G xs acc
theorem Mid.step {G0 H0 G H G' H' : Hp} {F0 F F' : List Addr} {p : Addr} {σ σ' : L2.St} {ρ ρ' : Env} {xs : List D} (m : Mid S G0 H0 F0 p σ ρ xs G H F) (t : Tr G H F G' H' F') (s : SR S.K S.cm S.fx G' H' σ' ρ' F') : Mid S G0 H0 F0 p σ' ρ' xs G' H' F' := by
  obtain ⟨t0, s0, n0, g0, acc, ha, l⟩ := m
  have hp : H p ≠ none := by rw [ha]; simp
  obtain ⟨n1, g1⟩ := t.apart n0 hp g0
  exact ⟨t0.trans (t.frame fun a h => by simp at h; subst h; exact hp), s, n1, g1, acc, t.h p _ n0 ha, l.mono t.g.rds⟩
def tCond (S : Set_) : Option M → TT
  | none => tYes
  | some c => tB (rE S c)
theorem pe_lcD {elt tg iter : Expr} {ifs : List Expr} {scope : Scope} {own : List (Str × Nat)} {pos : Pos} {it : ML} {t : Tgt} {c : Option M} {e : M} (hc : X.calm = true) (hN : X.N.Nodup) (hi : PI X tg iter (rI S it)) (ok : BlkOk X.N X.env.scope scope own)
    (hg : ∀ (s : Shared) (H : Hp) (C : Addr) (cl : List (Str × Addr)) (fp : List Addr), PG (X.blk s H scope (compEnvC scope cl C X.env) fp) tg (t.g S.K))
    (ht : ∀ (s : Shared) (H : Hp) (C : Addr) (cl : List (Str × Addr)) (fp : List Addr), PTs (X.blk s H scope (compEnvC scope cl C X.env) fp) ifs (tCond S.blk c))
    (he : ∀ (s : Shared) (H : Hp) (C : Addr) (cl : List (Str × Addr)) (fp : List Addr), PE (X.blk s H scope (compEnvC scope cl C X.env) fp) elt (rE S.blk e))
    (hs : ∀ x, foldedSetIterable iter X.env x = pure x) (hnd : (own.map (·.2)).Nodup) (hsl : ∀ j ∈ t.sl, j ∈ own.map (·.2)) (hfx : ∀ v ∈ own.map (·.2), ∀ q ∈ S.fx, q.1 ≠ v) :
    (PE X (.ListComp elt [⟨tg, iter, ifs, 0⟩] scope pos) (rE S (eComp (own.map (·.2)) it t c e))) ∧ ∀ σ H Q, rE S (eComp (own.map (·.2)) it t c e) σ H Q → tLc (rI S it) (t.g S.K) (tCond S.blk c) (rE S.blk e) (own.map (·.2)) σ H Q := by
  have hft : t.free (S.fx.map (·.1)) = true := by
    have h1 : ∀ j ∈ t.sl, ∀ q ∈ S.fx, q.1 ≠ j := fun j hj => hfx j (hsl j hj)
    exact Tgt.free_of t h1
  have key : ∀ σ H Q, rE S (eComp (own.map (·.2)) it t c e) σ H Q → tLc (rI S it) (t.g S.K) (tCond S.blk c) (rE S.blk e) (own.map (·.2)) σ H Q := by
    generalize own.map (·.2) = vs at hnd hsl hfx
    intro σ H Q ⟨G, ρ, F, s, q⟩
    refine ⟨G, ρ, F, s, ?_⟩
    unfold eComp at q
    cases e1 : it ρ with
    | bad => rw [e1] at q; exact q
    | exc c x ρ' => rw [e1] at q; exact q
    | ok ds ρ0 =>
      rw [e1] at q
      dsimp only at q ⊢
      intro J H0 ⟨G0, F0, t0, s0, items⟩ p hp
      by_cases hlen : ds.length < sizeLine
      case neg => rw [if_neg hlen] at q; exact q.elim
      rw [if_pos hlen] at q
      cases e2 : cIter vs t c e ds ρ0 with
      | bad => rw [e2] at q; exact q.elim
      | exc c x ρ' => rw [e2] at q; exact q.elim
      | ok all ρend =>
        rw [e2] at q
        dsimp only at q
        -- the state ahead of the first turn
        have sA := s0.out (p := p) (o := .lst []) (s0.rd.fresh hp) (fun z => s0.there p z hp)
        obtain ⟨FA, fA, sB⟩ := sA.wipe vs hfx
        have tA : Tr G0 H0 F0 G0 (upd H0 p (.lst [])) (FA ++ [p]) := ⟨GLe.refl _, fun a o _ ha => by rw [upd_ne (ne_of_none ha hp)]; exact ha, fun a ha => by
          rcases List.mem_append.mp ha with h | h
          · exact .inl (fA a h)
          · simp at h; subst h; exact .inr hp, fun a h => .inl h, fun a h => by
          by_cases z : a = p
          · subst z; rw [upd_same]; simp
          · rw [upd_ne z]; exact h⟩
        refine ⟨fun i m H' => m = ds.length - i ∧ i ≤ ds.length ∧ ∃ G' ρ' F' xs rest, Mid S G H F p (L2.wipe σ vs) (wipeE ρ' vs) xs G' H' F' ∧ GLe G0 G' ∧ cIter vs t c e (ds.drop i) ρ' = .ok rest ρend ∧ xs ++ rest = all ∧ xs.length ≤ i, ⟨ds.length, by simp, Nat.zero_le _, G0, ρ0, FA, [], all, ⟨t0.trans tA, sB, fun z => s0.there p (fA p z) hp, s0.rd.fresh hp, [], upd_same, .nil⟩, GLe.refl _, by simpa using e2, rfl, Nat.le_refl _⟩, ?_⟩
        rintro i m H1 ⟨rfl, hi, G1, ρ1, F1, xs, rest, mid, g1, h1, hall, hxs⟩
        obtain ⟨t1, s1, n1, gp1, acc, hacc, lacc⟩ := id mid
        have it1 := items i G1 H1 g1 s1.rd
        by_cases hlt : i < ds.length
        · have hd : ds[i]? = some ds[i] := by simp [hlt]
          obtain ⟨go, yl⟩ := it1.1 _ hd
          rw [List.drop_eq_getElem_cons hlt, cIter] at h1
          refine .inr ⟨go, fun H' => i + 1 ≤ ds.length ∧ ∃ G' ρ' F' xs rest, Mid S G H F p (L2.wipe σ vs) (wipeE ρ' vs) xs G' H' F' ∧ GLe G0 G' ∧ cIter vs t c e (ds.drop (i + 1)) ρ' = .ok rest ρend ∧ xs ++ rest = all ∧ xs.length ≤ i + 1,
            fun H' h => ⟨ds.length - (i + 1), by omega, rfl, h⟩, fun x H2 y => ?_⟩
          obtain ⟨G2, n2, z2⟩ := yl x H2 y
          have s2 := n2.sr s1
          have mid2 := mid.step n2.tr s2
          refine Tgt.imp t _ x G2 _ F1 _ H2 _ hft s2 z2 ?_
          cases e3 : t.m ds[i] (wipeE ρ1 vs) with
          | nx ρ2 =>
            rw [e3] at h1
            dsimp only at h1
            intro σ3 H3 ⟨G3, F3, t3, s3⟩ bt
            have hw : L2.wipe σ3 vs = L2.wipe σ vs := wipe_but bt hsl
            refine ⟨hw, ?_⟩
            have mid3 := mid2.step t3 s3
            have g3 : GLe G0 G3 := g1.trans (n2.g.trans t3.g)
            -- the test
            have test : ∀ (Qt : Bool → Hp → Prop), (∀ k G4 H4 ρ4 F4, cTest c ρ2 = .ok (.bl k) ρ4 → Tr G3 H3 F3 G4 H4 F4 → SR S.K S.cm S.fx G4 H4 σ3 ρ4 F4 → Qt k H4) → (tCond S.blk c) σ3 H3 Qt := by
              intro Qt hQ
              cases c with
              | none => exact hQ true G3 H3 ρ2 F3 rfl .refl s3
              | some c =>
                refine ⟨G3, ρ2, F3, s3, ?_⟩
                simp only [cTest] at h1 hQ
                cases e4 : c ρ2 with
                | bad => rw [e4] at h1; cases h1
                | exc c' x ρ' => rw [e4] at h1; cases h1
                | ok d ρ4 =>
                  rw [e4] at h1
                  cases d with
                  | bl k =>
                    intro v H4 p4
                    obtain ⟨rfl, G4, F4, t4, s4⟩ := p4.bl
                    exact ⟨k, rfl, hQ k G4 H4 ρ4 F4 e4 t4 s4⟩
                  | _ => cases h1
            refine test _ fun k G4 H4 ρ4 F4 ek t4 s4 => ?_
            rw [ek] at h1
            have mid4 := mid3.step t4 s4
            have g4 : GLe G0 G4 := g3.trans t4.g
            cases k with
            | false =>
              rw [if_neg Bool.false_ne_true]
              dsimp only at h1
              obtain ⟨F5, f5, s5⟩ := s4.wipe vs hfx
              rw [hw] at s5
              exact ⟨hlt, G4, ρ4, F5, xs, rest, mid4.step (Tr.refl.sub f5) s5, g4, h1, hall, by omega⟩
            | true =>
              rw [if_pos rfl]
              dsimp only at h1
              refine ⟨G4, ρ4, F4, s4, ?_⟩
              cases e5 : e ρ4 with
              | bad => rw [e5] at h1; cases h1
              | exc c' x ρ' => rw [e5] at h1; cases h1
              | ok d5 ρ5 =>
                rw [e5] at h1
                dsimp only at h1 ⊢
                intro v H5 p5
                obtain ⟨G5, F5, t5, s5, z5⟩ := p5.freeze
                have mid5 := mid4.step t5 s5
                obtain ⟨tt5, _, n5, gp5, acc5, hacc5, lacc5⟩ := id mid5
                cases e6 : cIter vs t c e (ds.drop (i + 1)) ρ5 with
                | bad => rw [e6] at h1; cases h1
                | exc c' x ρ' => rw [e6] at h1; cases h1
                | ok rest' ρ6 =>
                  rw [e6] at h1
                  cases h1
                  obtain ⟨F6, f6, s6⟩ := s5.wipe vs hfx
                  rw [hw] at s6
                  refine ⟨acc5, hacc5, by rw [← lacc5.length]; omega, hlt, G5, ρ5, F6, xs ++ [frz d5], rest', ⟨?_, s6.out gp5 (fun z => n5 (f6 p z)), fun z => n5 (f6 p z), gp5, acc5 ++ [v], upd_same, lacc5.append (.cons z5 .nil)⟩, g4.trans t5.g, e6, by simpa using hall, by simp; omega⟩
                  have tt6 := tt5.sub (F2 := F6 ++ [p]) fun a ha => by
                    rcases List.mem_append.mp ha with h | h
                    · simp [f6 a h]
                    · simp at h; simp [h]
                  have hpF : p ∉ F ∧ H p = none := by
                    have hp0 : p ∉ F0 := fun z => s0.there p z hp
                    constructor
                    · intro z
                      have : H p ≠ none := s.there p z
                      exact t0.n p this hp
                    · cases eh : H p with
                      | none => rfl
                      | some o => exact absurd hp (t0.n p (by rw [eh]; simp))
                  refine ⟨tt6.g, fun a o ha hh => ?_, tt6.f, tt6.d, fun a hh => ?_⟩
                  · have : a ≠ p := fun z => by rw [z, hpF.2] at hh; cases hh
                    rw [upd_ne this]; exact tt6.h a o ha hh
                  · by_cases z : a = p
                    · rw [z, upd_same]; simp
                    · rw [upd_ne z]; exact tt6.n a hh
          | rt d ρ2 => rw [e3] at h1; cases h1
          | bk ρ2 => rw [e3] at h1; cases h1
          | exc c x ρ2 => rw [e3] at h1; cases h1
          | bad => rw [e3] at h1; cases h1
        · have ei : i = ds.length := by omega
          subst ei
          rw [List.drop_length, cIter] at h1
          cases h1
          rw [List.append_nil] at hall
          subst hall
          refine .inl ⟨it1.2 (Nat.le_refl _), q _ _ ?_⟩
          obtain ⟨F7, f7, s7⟩ := SR.unwipe s0 g1 vs hnd s1 hfx
          refine ⟨G1, F7, [p], t1.sub fun a ha => ?_, s7, .lst hacc lacc, ?_, fun a ha => by simp at ha; subst ha; exact gp1⟩
          · rcases List.mem_append.mp ha with h | h
            · simp [f7 a h]
            · simp at h; simp [h]
          · exact List.nodup_append.mpr ⟨s7.nd, by simp, fun a ha b hb z => by simp at hb; subst hb; subst z; exact n1 (f7 a ha)⟩
  exact ⟨pe_imp (pe_lc hc hN hi ok hg ht he hs) key, key⟩
end
end VE
/-! VE8: defs and their calls. -/
namespace VE
open PySem PySem.Spec PyProof.Rows L2
/-! ### operands handed over, and back -/
section
variable {K : Frag} {cm : Str → Addr} {G G' H H' : Hp} {σ : L2.St}
theorem isFz_frz (d : D) : isFz (frz d) = true := by cases d <;> rfl
def slotsOf : List Opd → List Nat
  | [] => []
  | .slot i :: r => i :: slotsOf r
  | .ex _ :: r => slotsOf r
/-- what a call has made of the slots that were handed over -/
def putBack : List Opd → Env → Env → Env
  | .slot i :: os, x :: ρa, ρ => (putBack os ρa (ρ.set i none)).set i x
  | .ex _ :: os, _ :: ρa, ρ => putBack os ρa ρ
  | _, _, ρ => ρ
theorem sget_ne {ρ : Env} {i j : Nat} {x : Option D} (h : i ≠ j) : sget (ρ.set i x) j = sget ρ j := by
  unfold sget; rw [List.getElem?_set_ne h]
theorem VwO.off {i : Nat} : ∀ {os : List Opd} {ds : List D} {vs : List V} {ρ : Env}, VwO K cm G H σ ρ os ds vs → i ∉ slotsOf os → VwO K cm G H σ (ρ.set i none) os ds vs
  | _, _, _, _, .nil, _ => .nil
  | _, _, _, _, .slot a b c l, h => by
    simp only [slotsOf, List.mem_cons, not_or] at h
    exact .slot (by rw [sget_ne h.1]; exact a) b c (l.off h.2)
  | _, _, _, _, .ex a l, h => .ex a (l.off h)
theorem putBack_get {j : Nat} : ∀ {os : List Opd} {ρa ρ : Env}, j ∉ slotsOf os → (putBack os ρa ρ)[j]? = ρ[j]?
  | [], _, _, _ => by simp [putBack]
  | .slot i :: os, [], _, _ => by simp [putBack]
  | .ex _ :: os, [], _, _ => by simp [putBack]
  | .slot i :: os, x :: ρa, ρ, h => by
    simp only [slotsOf, List.mem_cons, not_or] at h
    rw [putBack, List.getElem?_set_ne (Ne.symm h.1), putBack_get h.2, List.getElem?_set_ne (Ne.symm h.1)]
  | .ex _ :: os, _ :: ρa, ρ, h => by
    rw [putBack]
    exact putBack_get h
theorem OwS.none_at : ∀ {ρ : Env} {σ : L2.St} {F : List Addr} (i : Nat) {x : Option D} {y : Option V}, OwS K cm G H ρ σ F → ρ[i]? = some none → σ[i]? = some y → ∀ {G' H' : Hp} {Fx : List Addr}, GLe G G' → (∀ a ∈ F, ∀ o, H a = some o → H' a = some o) → OwO K cm G' H' x y Fx →
    ∃ F', OwS K cm G' H' (ρ.set i x) σ F' ∧ F'.Perm (Fx ++ F) := by
  intro ρ σ F i x y s h hy G' H' Fx g k o
  obtain ⟨y0, Fa, F1, Fb, h1, h2, eF, up⟩ := s.split i h
  have e1 : F1 = [] := h2
  subst e1
  have ey : y0 = y := by rw [h1] at hy; exact Option.some.inj hy
  subst ey
  have := up G' H' x y0 Fx g (fun a ha => k a (by rw [eF]; simpa using ha)) o
  rw [set_self σ i _ h1] at this
  refine ⟨_, this, ?_⟩
  rw [eF]
  simp only [List.nil_append]
  rw [← List.append_assoc, ← List.append_assoc]
  exact List.Perm.append_right Fb List.perm_append_comm
/-- the operands' own parts stand apart; behind the call they come back -/
theorem take_args : ∀ {os : List Opd} {ds : List D} {vs : List V} {ρ : Env} {F : List Addr}, VwO K cm G H σ ρ os ds vs → (slotsOf os).Nodup → OwS K cm G H ρ σ F →
    ∃ Fa Fr, OwS K cm G H (ds.map some) (vs.map some) Fa ∧ (Fa ++ Fr).Perm F ∧ ∀ (G' H' : Hp) (ρa : Env) (Fa' : List Addr), GLe G G' → (∀ a ∈ Fr, ∀ o, H a = some o → H' a = some o) → OwS K cm G' H' ρa (vs.map some) Fa' →
      ∃ F' Fs, OwS K cm G' H' (putBack os ρa ρ) σ F' ∧ F'.Perm (Fs ++ Fr) ∧ Fs.Sublist Fa'
  | _, _, _, ρ, F, .nil, _, s => ⟨[], F, .nil, by simp, fun G' H' ρa Fa' g k sa => ⟨F, [], by
      have e : putBack [] ρa ρ = ρ := by cases ρa <;> rfl
      rw [e]; exact s.mono g k, by simp, by simp⟩⟩
  | _, _, _, ρ, F, .ex (m := m) (d := d) (v := v) (os := os) (ds := ds) (vs := vs) z l, nd, s => by
    obtain ⟨Fa, Fr, s1, pm, back⟩ := take_args l nd s
    refine ⟨Fa, Fr, (OwS.cons (F1 := []) ⟨v, rfl, .fz z⟩ s1 : OwS K cm G H (some d :: ds.map some) (some v :: vs.map some) ([] ++ Fa)), pm, fun G' H' ρa Fa' g k sa => ?_⟩
    cases sa with
    | cons o sa' =>
      obtain ⟨F', Fs, b1, b2, b3⟩ := back G' H' _ _ g k sa'
      exact ⟨F', Fs, b1, b2, b3.trans (List.sublist_append_right _ _)⟩
  | _, _, _, ρ, F, .slot (i := i) (d := d) (v := v) (os := os) (ds := ds) (vs := vs) hd hv w l, nd, s => by
    simp only [slotsOf, List.nodup_cons] at nd
    obtain ⟨y0, Fl, F1, Fb, h1, h2, eF, up⟩ := s.split i (sget_some hd)
    obtain ⟨v0, e0, ow⟩ := h2
    subst e0
    have ev : v0 = v := by rw [h1] at hv; exact Option.some.inj (Option.some.inj hv)
    subst ev
    have s0 := up G H none (some v0) [] (GLe.refl _) (fun _ _ _ h => h) rfl
    rw [set_self σ i _ h1] at s0
    obtain ⟨Fa, Fr, s1, pm, back⟩ := take_args (l.off nd.1) nd.2 s0
    refine ⟨F1 ++ Fa, Fr, (OwS.cons ⟨v0, rfl, ow⟩ s1 : OwS K cm G H (some d :: ds.map some) (some v0 :: vs.map some) (F1 ++ Fa)), ?_, fun G' H' ρa Fa' g k sa => ?_⟩
    · rw [eF, List.append_assoc]
      have p1 : (Fl ++ (F1 ++ Fb)).Perm (F1 ++ (Fl ++ Fb)) := by
        rw [← List.append_assoc, ← List.append_assoc]
        exact List.Perm.append_right Fb List.perm_append_comm
      refine List.Perm.trans ?_ p1.symm
      refine List.Perm.append_left F1 ?_
      simpa using pm
    · cases sa with
      | cons o sa' =>
        rename_i x ρa' Fx Fa''
        obtain ⟨F', Fs, b1, b2, b3⟩ := back G' H' _ _ g k sa'
        have hl : i < ρ.length := by
          have := sget_some hd
          exact (List.getElem?_eq_some_iff.mp this).1
        have hn : (putBack os ρa' (ρ.set i none))[i]? = some none := by
          rw [putBack_get nd.1, List.getElem?_set_self hl]
        obtain ⟨F2, c1, c2⟩ := b1.none_at i (x := x) (y := some v0) hn h1 (GLe.refl G') (fun _ _ _ h => h) o
        refine ⟨F2, Fx ++ Fs, c1, ?_, List.Sublist.append (List.Sublist.refl _) b3⟩
        rw [List.append_assoc]
        exact c2.trans (List.Perm.append_left Fx b2)
end
/-! ### a def, as others see it -/
structure FnI where
  nm : Str
  np : Nat
  lvl : Nat
  m : M
def setF (K : Frag) (cm : Str → Addr) (E : XK) : Set_ := ⟨K, cm, [], fun c d _ H => E c d H⟩
/-- its promise: what its m makes of the arguments' trees -/
def spD (K : Frag) (cm : Str → Addr) (np : Nat) (m : M) : Sp := fun vs H Q E => vs.length = np ∧ rE (setF K cm E) m (vs.map some) H Q
def eCall (m : M) (os : List Opd) : M := fun ρ => match evO os ρ with
  | .ok ds ρ1 => (match m (ds.map some) with
    | .ok d ρa => .ok d (putBack os ρa ρ1)
    | .exc c x ρa => .exc c x (putBack os ρa ρ1)
    | .bad => .bad)
  | .exc c x ρ' => .exc c x ρ'
  | .bad => .bad
section
variable {K : Frag} {cm : Str → Addr} {fx : Fix} {G G' H H' : Hp} {F F' Fa Fr : List Addr} {σ : L2.St} {ρ : Env}
theorem Tr.mem (t : Tr G H F G' H' F') {F2 F2' : List Addr} (h1 : ∀ a, a ∈ F ↔ a ∈ F2) (h2 : ∀ a ∈ F2', a ∈ F') : Tr G H F2 G' H' F2' :=
  ⟨t.g, fun a o ha e => t.h a o (fun z => ha ((h1 a).mp z)) e, fun a ha => (t.f a (h2 a ha)).imp (h1 a).mp id, fun a ha => by
    rcases t.d a ha with q | q | q
    · exact .inl q
    · exact .inr (.inl ((h1 a).mp q))
    · exact .inr (.inr q), t.n⟩
/-- behind a call: the caller's slots -/
theorem back_sr {ρa : Env} {vs : List V} {os : List Opd} {ds : List D} {Fc Fv : List Addr} (s : SR K cm fx G H σ ρ F) (vo : VwO K cm G H σ ρ os ds vs) (nd : (slotsOf os).Nodup) :
    ∃ Fa, SR K cm [] G H (vs.map some) (ds.map some) Fa ∧ ∀ (G' H' : Hp) (ρa : Env) (Fc Fv : List Addr), Tr G H Fa G' H' (Fc ++ Fv) → SR K cm [] G' H' (vs.map some) ρa Fc → (Fc ++ Fv).Nodup → (∀ a ∈ Fv, G' a = none) →
      ∃ F', Tr G H F G' H' (F' ++ Fv) ∧ SR K cm fx G' H' σ (putBack os ρa ρ) F' ∧ (F' ++ Fv).Nodup := by
  obtain ⟨Fa, Fr, s1, pm, back⟩ := take_args vo nd s.sl
  have nd1 : (Fa ++ Fr).Nodup := pm.nodup_iff.mpr s.nd
  have n1 := List.nodup_append.mp nd1
  have memF : ∀ a, a ∈ Fa ++ Fr ↔ a ∈ F := fun a => pm.mem_iff
  refine ⟨Fa, ⟨s.rd, n1.1, fun a ha => s.dj a ((memF a).mp (by simp [ha])), s1, fun q hq => (by cases hq)⟩, fun G' H' ρa Fc Fv t sc ndc djv => ?_⟩
  have thereR : ∀ a ∈ Fr, H a ≠ none := fun a ha => s.there a ((memF a).mp (by simp [ha]))
  have apart : ∀ a ∈ Fr, a ∉ Fc ++ Fv ∧ G' a = none := fun a ha => t.apart (fun z => n1.2.2 a z a ha rfl) (thereR a ha) (s.dj a ((memF a).mp (by simp [ha])))
  have keepR : ∀ a ∈ Fr, ∀ o, H a = some o → H' a = some o := fun a ha o e => t.h a o (fun z => n1.2.2 a z a ha rfl) e
  obtain ⟨F', Fs, b1, b2, b3⟩ := back G' H' ρa Fc t.g keepR sc.sl
  have mem' : ∀ a ∈ F', a ∈ Fc ∨ a ∈ Fr := fun a ha => by
    rcases List.mem_append.mp (b2.mem_iff.mp ha) with q | q
    · exact .inl (b3.subset q)
    · exact .inr q
  have nc := List.nodup_append.mp ndc
  have ndS : (Fs ++ Fr).Nodup := List.nodup_append.mpr ⟨b3.nodup nc.1, n1.2.1, fun a ha b hb e => by
    subst e
    exact (apart a hb).1 (by simp [b3.subset ha])⟩
  refine ⟨F', (t.frame thereR).mem memF fun a ha => ?_, ⟨sc.rd, b2.nodup_iff.mpr ndS, fun a ha => ?_, b1, s.fx⟩, List.nodup_append.mpr ⟨b2.nodup_iff.mpr ndS, nc.2.1, fun a ha b hb e => ?_⟩⟩
  · simp only [List.mem_append] at ha ⊢
    rcases ha with ha | ha
    · rcases mem' a ha with q | q
      · exact .inl (.inl q)
      · exact .inr q
    · exact .inl (.inr ha)
  · rcases mem' a ha with q | q
    · exact sc.dj a q
    · exact (apart a q).2
  · subst e
    rcases mem' a ha with q | q
    · exact nc.2.2 a q a hb rfl
    · exact (apart a q).1 (by simp [hb])
end
section
variable {X : Cx} {S : Set_}
theorem call_imp {m : M} {os : List Opd} {σ : L2.St} {H : Hp} {Q : VK} {np : Nat} (hnd : (slotsOf os).Nodup) (hnp : os.length = np) (q : rE S (eCall m os) σ H Q) : rO S os σ H fun vs H1 => spD S.K S.cm np m vs H1 Q (WE S.W σ) := by
  obtain ⟨G, ρ, F, s, q⟩ := q
  refine ⟨G, ρ, F, s, ?_⟩
  unfold eCall at q
  cases e : evO os ρ with
  | bad => rw [e] at q; exact q
  | exc c x ρ' => rw [e] at q; exact q
  | ok ds ρ1 =>
    rw [e] at q
    dsimp only at q ⊢
    intro vs H1 ⟨G1, F1, t1, s1, vo⟩
    obtain ⟨Fa, sa, back⟩ := back_sr (ρa := []) (Fc := []) (Fv := []) s1 vo hnd
    have hl : vs.length = np := by
      have : ∀ {os : List Opd} {ds : List D} {vs : List V}, VwO S.K S.cm G1 H1 σ ρ1 os ds vs → os.length = vs.length := by
        intro os ds vs h
        induction h with
        | nil => rfl
        | slot _ _ _ _ ih => simp [ih]
        | ex _ _ ih => simp [ih]
      rw [← this vo, hnp]
    refine ⟨hl, G1, ds.map some, Fa, sa, ?_⟩
    cases e2 : m (ds.map some) with
    | bad => rw [e2] at q; exact q
    | exc c x ρa =>
      rw [e2] at q
      dsimp only at q ⊢
      intro dd H2 ⟨G2, F2, t2, s2, hx⟩
      obtain ⟨F3, t3, s3, _⟩ := back G2 H2 ρa F2 [] (by simpa using t2) s2 (by simpa using s2.nd) (fun a ha => by cases ha)
      exact q dd H2 ⟨G2, F3, t1.trans (by simpa using t3), s3, hx⟩
    | ok d ρa =>
      rw [e2] at q
      dsimp only at q ⊢
      intro v H2 ⟨G2, F2, Fv, t2, s2, o, nd, dj⟩
      obtain ⟨F3, t3, s3, nd3⟩ := back G2 H2 ρa F2 Fv t2 s2 nd dj
      exact q v H2 ⟨G2, F3, Fv, t1.trans t3, s3, o, nd3, dj⟩
theorem pe_callD {m : M} {os : List Opd} {np k : Nat} {f : Addr} {fd : FuncData} {ps : List Str} {x : Str} {p pos : Pos} {e : Expr} {es : List Expr} (hK : S.K = X.K) (F : FnOk X.prog X.w X.K X.mg X.base (L2.CX X.prog X.w) k f fd ps (spD S.K S.cm np m)) (hr : Room k X.A) (hg : Gl X x) (hm : X.mg x = some (.ref f))
    (hk : PySem.W.keepIn X.K (.ref f) = true) (hb : Binds X.K fd ps []) (tk : Takes X S.W) (ha : PA X (e :: es) (rO S os)) (hnd : (slotsOf os).Nodup) (hnp : os.length = np) (hdb : (x == ("__debug__" : Str)) = false)
    (he : starEach (e :: es) X.env = (false, eval e X.env) :: starEach es X.env) (hpl : (backTo pos (starEach es X.env)).any (·.1) = false) : PE X (.Call (.Name x p) (e :: es) [] pos) (rE S (eCall m os)) :=
  pe_imp (pe_callS F hr hg hm hk hb (fun σ => passAt tk σ) ha hdb he hpl) fun σ H Q q => call_imp hnd hnp q
/-! ### a def from its body -/
/-- the arguments behind a def: the in-out ones as the body leaves them, others if they are frozen -/
def fin (io : List Nat) : Nat → Env → Env → Env
  | k, x :: ρ, y :: ρ' => (if io.contains k then y else match x with
    | some d => if isFz d then some d else none
    | none => none) :: fin io (k + 1) ρ ρ'
  | _, _, _ => []
def mDef (nl : Nat) (io : List Nat) (b : MS) : M := fun ρ => match b (ρ ++ List.replicate nl none) with
  | .nx ρ' => if ρ.length ≤ ρ'.length then .ok .non (fin io 0 ρ ρ') else .bad
  | .rt d ρ' => if ρ.length ≤ ρ'.length then .ok d (fin io 0 ρ ρ') else .bad
  | .exc c x ρ' => if ρ.length ≤ ρ'.length then .exc c x (fin io 0 ρ ρ') else .bad
  | _ => .bad
theorem fin_ok {K : Frag} {cm : Str → Addr} {io : List Nat} {G0 H0 G H : Hp} (g : GLe G0 G) : ∀ (k : Nat) (ρ ρ' : Env) (vs : List V) (σ' : L2.St) (F0 F : List Addr), OwS K cm G0 H0 ρ (vs.map some) F0 → OwS K cm G H ρ' σ' F → vs.length ≤ σ'.length → (∀ j, k + j ∈ io → ∀ v, vs[j]? = some v → σ'[j]? = some (some v)) →
    ∃ F', F'.Sublist F ∧ OwS K cm G H (fin io k ρ ρ') (vs.map some) F'
  | k, [], ρ', vs, σ', F0, F, s0, s, hl, h => by
    have : vs = [] := by
      have := s0.length
      simp at this
      exact List.eq_nil_of_length_eq_zero this.symm
    subst this
    exact ⟨[], by simp, by cases ρ' <;> exact .nil⟩
  | k, x :: ρ, [], vs, σ', F0, F, s0, s, hl, h => by
    have h1 := s0.length
    have h2 := s.length
    simp at h1 h2
    omega
  | k, x :: ρ, y :: ρ', vs, σ', F0, F, s0, s, hl, h => by
    cases vs with
    | nil => have := s0.length; simp at this
    | cons v vs =>
      cases s with
      | cons o s' =>
        rename_i z σ2 F1 F2
        have s0' : OwS K cm G0 H0 (x :: ρ) (some v :: vs.map some) F0 := s0
        cases s0' with
        | cons o0 s0'' =>
          obtain ⟨F', sub, r⟩ := fin_ok g (k + 1) ρ ρ' vs σ2 _ F2 s0'' s' (by simpa using hl) fun j hj w hw => by
            have := h (j + 1) (by rw [show k + (j + 1) = k + 1 + j by omega]; exact hj) w (by simpa using hw)
            simpa using this
          show ∃ F', F'.Sublist (F1 ++ F2) ∧ OwS K cm G H ((if io.contains k then y else match x with
            | some d => if isFz d then some d else none
            | none => none) :: fin io (k + 1) ρ ρ') (some v :: vs.map some) F'
          by_cases hk : io.contains k = true
          · rw [if_pos hk]
            have hz : z = some v := by
              have := h 0 (by simpa using hk) v rfl
              simpa using this
            subst hz
            exact ⟨F1 ++ F', List.Sublist.append (List.Sublist.refl _) sub, .cons o r⟩
          · rw [if_neg hk]
            refine ⟨F', sub.trans (List.sublist_append_right _ _), (OwS.cons (F1 := []) ?_ r : OwS K cm G H _ _ ([] ++ F'))⟩
            cases x with
            | none => exact rfl
            | some d =>
              dsimp only
              by_cases hf : isFz d = true
              · rw [if_pos hf]
                obtain ⟨w, ew, ow⟩ := o0
                cases ew
                exact ⟨v, rfl, .fz ((ow.isFz hf).mono g.rds)⟩
              · rw [if_neg hf]; exact rfl
/-- the setting of a def's body -/
def setB (K : Frag) (cm : Str → Addr) (io : List Nat) (vs : List V) (E : XK) : Set_ := ⟨K, cm, io.filterMap fun i => vs[i]?.map fun v => (i, v), fun c d _ H => E c d H⟩
theorem replicate_ows {K : Frag} {cm : Str → Addr} {G H : Hp} : ∀ n : Nat, OwS K cm G H (List.replicate n none) (List.replicate n none) []
  | 0 => .nil
  | n + 1 => OwS.cons (x := none) (y := none) (F1 := []) (F2 := []) rfl (replicate_ows n)
theorem OwS.append {K : Frag} {cm : Str → Addr} {G H : Hp} : ∀ {ρ ρ2 : Env} {σ σ2 : L2.St} {F F2 : List Addr}, OwS K cm G H ρ σ F → OwS K cm G H ρ2 σ2 F2 → OwS K cm G H (ρ ++ ρ2) (σ ++ σ2) (F ++ F2)
  | _, _, _, _, _, _, .nil, h => h
  | _, _, _, _, _, _, .cons o l, h => by rw [List.append_assoc]; exact .cons o (l.append h)
theorem def_imp {K : Frag} {cm : Str → Addr} {N : List Str} {np nl : Nat} {io : List Nat} {b : MS} {vs : List V} {H : Hp} {Q : VK} {E : XK} (hN : N.length = np + nl) (hlen : vs.length = np) (q : rE (setF K cm E) (mDef nl io b) (vs.map some) H Q) :
    rS (setB K cm io vs E) b { nx := fun _ H' => Q .non H', rt := Q } (L2.start N vs) H := by
  obtain ⟨G, ρ, F, s, q⟩ := q
  have hst : L2.start N vs = vs.map some ++ List.replicate nl none := by
    unfold L2.start
    rw [hN, hlen, Nat.add_sub_cancel_left]
  have s1 : SR K cm (setB K cm io vs E).fx G H (L2.start N vs) (ρ ++ List.replicate nl none) F := by
    refine ⟨s.rd, s.nd, s.dj, by
      have h0 : OwS K cm G H ρ (vs.map some) F := s.sl
      rw [hst]
      have := h0.append (replicate_ows (K := K) (cm := cm) (G := G) (H := H) nl)
      rw [List.append_nil] at this
      exact this, fun p hp => ?_⟩
    simp only [setB, List.mem_filterMap, Option.map_eq_some_iff] at hp
    obtain ⟨i, _, v, hv, rfl⟩ := hp
    rw [hst]
    have hi : i < (vs.map some).length := by
      rw [List.length_map]
      exact (List.getElem?_eq_some_iff.mp hv).1
    rw [List.getElem?_append_left hi, List.getElem?_map, hv]
    rfl
  refine ⟨G, _, F, s1, ?_⟩
  -- behind the body: the arguments again
  have back : ∀ {G' H' : Hp} {F' : List Addr} {σ' : L2.St} {ρ' : Env}, ρ.length ≤ ρ'.length → Tr G H F G' H' F' → SR K cm (setB K cm io vs E).fx G' H' σ' ρ' F' → ∃ F2, F2.Sublist F' ∧ SR K cm [] G' H' (vs.map some) (fin io 0 ρ ρ') F2 := by
    intro G' H' F' σ' ρ' hl t s'
    have hl2 : vs.length ≤ σ'.length := by
      have h1 := s.sl.length
      have h2 := s'.sl.length
      rw [List.length_map] at h1
      omega
    have s0 : OwS K cm G H ρ (vs.map some) F := s.sl
    obtain ⟨F2, sub, r⟩ := fin_ok (io := io) t.g 0 ρ ρ' vs σ' F F' s0 s'.sl hl2 fun j hj v hv => by
      have := s'.fx (j, v) (by simp only [setB, List.mem_filterMap, Option.map_eq_some_iff]; exact ⟨j, by simpa using hj, v, hv, rfl⟩)
      exact this
    exact ⟨F2, sub, s'.rd, sub.nodup s'.nd, fun a ha => s'.dj a (sub.subset ha), r, fun p hp => (by cases hp)⟩
  unfold mDef at q
  cases e : b (ρ ++ List.replicate nl none) with
  | bad => rw [e] at q; exact q
  | bk ρ' => rw [e] at q; exact q.elim
  | nx ρ' =>
    rw [e] at q
    dsimp only at q ⊢
    intro σ' H' ⟨G', F', t, s'⟩
    by_cases hl : ρ.length ≤ ρ'.length
    · rw [if_pos hl] at q
      obtain ⟨F2, sub, s2⟩ := back hl t s'
      exact q _ _ (PostZ.post ⟨G', F2, t.sub fun a ha => sub.subset ha, s2, .non⟩)
    · rw [if_neg hl] at q; exact q.elim
  | rt d ρ' =>
    rw [e] at q
    dsimp only at q ⊢
    intro σ' v H' ⟨G', F', Fv, t, s', o, nd, dj⟩
    by_cases hl : ρ.length ≤ ρ'.length
    · rw [if_pos hl] at q
      obtain ⟨F2, sub, s2⟩ := back hl (t.sub fun a ha => by simp [ha]) s'
      refine q _ _ ⟨G', F2, Fv, t.sub fun a ha => ?_, s2, o, (List.Sublist.append sub (List.Sublist.refl _)).nodup nd, dj⟩
      rcases List.mem_append.mp ha with h | h
      · simp [sub.subset h]
      · simp [h]
    · rw [if_neg hl] at q; exact q.elim
  | exc c x ρ' =>
    rw [e] at q
    dsimp only at q ⊢
    intro σ' dd H' ⟨G', F', t, s', hx⟩
    by_cases hl : ρ.length ≤ ρ'.length
    · rw [if_pos hl] at q
      obtain ⟨F2, sub, s2⟩ := back hl t s'
      exact q dd H' ⟨G', F2, t.sub fun a ha => sub.subset ha, s2, hx⟩
    · rw [if_neg hl] at q; exact q.elim
end
end VE
/-! VE9: what holds at every def; division of any size; defs from the text. -/
namespace VE
open PySem PySem.Spec PyProof.Rows L2
/-- what the walk needs to know besides -/
structure Hard (X : Cx) : Prop where
  seer : X.base.NoSeer
  tree : X.prog.given.tree = none
  top : ∃ env l, X.stack = env :: l ∧ env.scope.isGenerator = false ∧ env.scope.isCoroutine = false ∧ env.builtins = builtinsNs ∧ env.globals = mainGlobals
  dep : X.A.depth + 104 < recursionLimit
theorem Hard.room {X : Cx} (h : Hard X) {pins : List (Addr × Obj)} {σ : L2.St} {H : Hp} {s : Shared} (I : Inv X pins σ H s) : PylongRoom (model X.prog X.w) X.A s := by
  obtain ⟨env, l, e, g1, g2, g3, g4⟩ := h.top
  refine PylongRoom.of I.nolimit (by have := h.dep; show X.A.depth + 100 < _; omega) (SeerAt.of (h.seer.keeps fun b o e => I.bk b o e) h.tree (env := env) (l := l) (by rw [I.ok.frames, e]) g1 g2 g3 g4)
theorem op_fdivS {X : Cx} (h : Hard X) : OpR X (binaryOp .FloorDiv) (L2.rI (fun _ j => 0 < j) fun i j => .int (i / j)) := by
  intro pins s σ H x y v u Q I rx ry hh
  obtain ⟨i, j, rfl, rfl, hc, q⟩ := hh
  obtain ⟨t, rfl⟩ := rx
  obtain ⟨t', rfl⟩ := ry
  have h1 : (0 : Int) < j := hc
  exact floordiv_int (by omega) (by rw [Int.fdiv_eq_ediv_of_nonneg i (by omega)]; exact ⟨.int (i / j), H, I.tok _, ⟨_, rfl⟩, q⟩) (.inr (h.room I))
theorem Hard.blk {X : Cx} (h : Hard X) {s : Shared} {H : Hp} {scope : Scope} {cenv : PySem.Env} {fp : List Addr} : Hard (X.blk s H scope cenv fp) := ⟨h.seer, h.tree, h.top, h.dep⟩
/-- what a def's body may lean on -/
structure Good (X : Cx) (S : Set_) : Prop where
  K : S.K = X.K
  calm : X.calm = true
  po : PassesOwn (model X.prog X.w) X.A X.env X.xe
  tk : Takes X S.W
  hard : Hard X
/-- .. a comprehension's block -/
structure GoodB (X : Cx) (S : Set_) : Prop where
  K : S.K = X.K
  calm : X.calm = true
  tk : Takes X S.W
  hard : Hard X
theorem Good.b {X : Cx} {S : Set_} (g : Good X S) : GoodB X S := ⟨g.K, g.calm, g.tk, g.hard⟩
theorem takes0 {X : Cx} : Takes X (fun _ _ _ _ => False) := fun _ _ x => by
  obtain ⟨_, _, _, _, _, _, _, _, _, _, _, _, _, _, _, _, z⟩ := x
  exact z.elim
theorem GoodB.blk {X : Cx} {S : Set_} (g : GoodB X S) {s : Shared} {H : Hp} {scope : Scope} {cenv : PySem.Env} {fp : List Addr} : GoodB (X.blk s H scope cenv fp) S.blk := ⟨g.K, g.calm, takes0, g.hard.blk⟩
section
variable {P : Program} {w : World} {K : PySem.W.Frag} {mg : Str → Option Value} {base : Heap} {x qual : Str} {params : Arguments} {body : List Stmt} {scope : Scope} {dvs : List V} {kws : List (Str × V)} {f : Addr} {fd : FuncData}
/-- the facts about the whole -/
structure Whole (P : Program) (base : Heap) : Prop where
  seer : base.NoSeer
  tree : P.given.tree = none
theorem ok_def {cm : Str → Addr} {N ps : List Str} {k np nl : Nat} {io : List Nat} {b : MS} (Wh : Whole P base) (hk : 36 ≤ k) (F : FunD K x qual params body scope dvs kws f fd) (S : FnScope N ps scope) (hps : ps.length = np) (hN : N.length = np + nl)
    (hbody : ∀ (cdv : Value) (A : Around) (outer : List PySem.Env) (s : Shared) (H : Hp) (vs : List V) (E : XK), vs.length = np → Room k (A.deeper (envOfC qual scope s.heap.objs.size f cdv)) →
      Good (cxOf (L2.CX P w) P w K mg base N qual scope f cdv A outer s H E) (setB K cm io vs E) →
      PSs (cxOf (L2.CX P w) P w K mg base N qual scope f cdv A outer s H E) body (rS (setB K cm io vs E) b)) :
    FnOk P w K mg base (L2.CX P w) (k + 1) f fd ps (spD K cm np (mDef nl io b)) := by
  refine F.ok S (fun vs H Q E h => by rw [hps]; exact h.1) fun cdv A outer s H vs Q E hr h => ?_
  refine ⟨_, hbody cdv A outer s H vs E h.1 hr ⟨rfl, rfl, passes_of rfl, takes_of rfl rfl rfl rfl, ⟨Wh.seer, Wh.tree, ⟨_, _, rfl, S.gen, S.co, rfl, rfl⟩, by have := hr.dp; show (A.deeper _).depth + _ < _; omega⟩⟩, def_imp hN h.1 h.2⟩
end
end VE
/-! VE10: writes into a slot's object: items, methods of lists. -/
namespace VE
open PySem PySem.Spec PyProof.Rows L2
section
variable {K : Frag} {cm : Str → Addr} {fx : Fix} {G H : Hp} {F : List Addr} {σ : L2.St} {ρ : Env}
/-- the object of slot i may be written -/
theorem SR.wr (s : SR K cm fx G H σ ρ F) {i : Nat} {d : D} (hd : ρ[i]? = some (some d)) :
    ∃ v F1, σ[i]? = some (some v) ∧ Ow K cm G H d v F1 ∧ F1.Nodup ∧ (∀ a ∈ F1, G a = none) ∧ ∀ (a : Addr) (o' : HO) (d' : D) (F1' : List Addr), a ∈ F1 → Ow K cm G (upd H a o') d' v F1' → F1'.Sublist F1 →
      ∃ F', Tr G H F G (upd H a o') F' ∧ SR K cm fx G (upd H a o') σ (ρ.set i (some d')) F' := by
  obtain ⟨y, Fa, F1, Fb, h1, ⟨v, e, o⟩, eF, up⟩ := s.sl.split i hd
  subst e
  have nd : (Fa ++ (F1 ++ Fb)).Nodup := eF ▸ s.nd
  have n1 := List.nodup_append.mp nd
  have n2 := List.nodup_append.mp n1.2.1
  have inF : ∀ a ∈ F1, a ∈ F := fun a ha => by rw [eF]; simp [ha]
  refine ⟨v, F1, h1, o, n2.1, fun a ha => s.dj a (inF a ha), fun a o' d' F1' ha ow sub => ?_⟩
  have hG : G a = none := s.dj a (inF a ha)
  have hH : H a ≠ none := o.there a ha
  have out : ∀ b ∈ Fa ++ Fb, b ≠ a := fun b hb z => by
    subst z
    rcases List.mem_append.mp hb with q | q
    · exact n1.2.2 b q b (by simp [ha]) rfl
    · exact n2.2.2 b ha b q rfl
  have sl := up G (upd H a o') (some d') (some v) F1' (GLe.refl G) (fun b hb u e => by rw [upd_ne (out b hb)]; exact e) ⟨v, rfl, ow⟩
  rw [set_self σ i _ h1] at sl
  have memF : ∀ b ∈ Fa ++ (F1' ++ Fb), b ∈ F := fun b hb => by
    rw [eF]
    simp only [List.mem_append] at hb ⊢
    rcases hb with q | q | q
    · exact .inl q
    · exact .inr (.inl (sub.subset q))
    · exact .inr (.inr q)
  refine ⟨Fa ++ (F1' ++ Fb), ⟨GLe.refl G, fun b u hb e => ?_, fun b hb => .inl (memF b hb), fun b hb => .inl hb, fun b hb => ?_⟩, ⟨fun b u hb => ?_, ?_, fun b hb => s.dj b (memF b hb), sl, s.fx⟩⟩
  · rw [upd_ne (fun z => hb (by rw [z]; exact inF a ha))]; exact e
  · by_cases z : b = a
    · subst z; rw [upd_same]; simp
    · rw [upd_ne z]; exact hb
  · have hne : b ≠ a := fun z => by subst z; rw [hG] at hb; cases hb
    rw [upd_ne hne]
    exact s.rd b u hb
  · exact (List.Sublist.append (List.Sublist.refl Fa) (List.Sublist.append sub (List.Sublist.refl Fb))).nodup nd
end
/-! ### dicts' items -/
section
variable {κ α : Type} [DecidableEq κ]
def hasK (ks : List κ) (k : κ) : Bool := ks.any fun a => decide (a = k)
def mapK : List κ → List α → κ → α → List α
  | a :: ks, x :: xs, k, y => (if a = k then y else x) :: mapK ks xs k y
  | _, _, _, _ => []
theorem mapK_length : ∀ (ks : List κ) (xs : List α) (k : κ) (y : α), ks.length = xs.length → (mapK ks xs k y).length = xs.length
  | [], [], _, _, _ => rfl
  | a :: ks, x :: xs, k, y, h => by
    rw [mapK, List.length_cons, List.length_cons, mapK_length ks xs k y (by simpa using h)]
  | [], _ :: _, _, _, h => by simp at h
  | _ :: _, [], _, _, h => by simp at h
end
theorem putK_zip {κ : Type} [DecidableEq κ] {ks : List κ} {vs : List V} {k : κ} {v : V} (h : ks.length = vs.length) :
    putK (ks.zip vs) k v = if hasK ks k = true then ks.zip (mapK ks vs k v) else (ks ++ [k]).zip (vs ++ [v]) := by
  have e1 : ((ks.zip vs).any fun kv => decide (kv.1 = k)) = hasK ks k := by
    unfold hasK
    have : ∀ (ks : List κ) (vs : List V), ks.length = vs.length → ((ks.zip vs).any fun kv => decide (kv.1 = k)) = ks.any fun a => decide (a = k) := by
      intro ks
      induction ks with
      | nil => intro vs h; rfl
      | cons a ks ih =>
        intro vs h
        cases vs with
        | nil => simp at h
        | cons v vs => rw [List.zip_cons_cons, List.any_cons, List.any_cons, ih vs (by simpa using h)]
    exact this ks vs h
  have e2 : ∀ (ks : List κ) (vs : List V), ks.length = vs.length → (ks.zip vs).map (fun kv => if kv.1 = k then (kv.1, v) else kv) = ks.zip (mapK ks vs k v) := by
    intro ks
    induction ks with
    | nil => intro vs h; rfl
    | cons a ks ih =>
      intro vs h
      cases vs with
      | nil => simp at h
      | cons x vs =>
        rw [List.zip_cons_cons, List.map_cons, ih vs (by simpa using h), mapK, List.zip_cons_cons]
        congr 1
        dsimp only
        split <;> rfl
  unfold putK
  rw [e1]
  split
  · exact e2 ks vs h
  · rw [List.zip_append h]; rfl
section
variable {K : Frag} {cm : Str → Addr} {G H H' : Hp}
theorem OwL.mapK {κ : Type} [DecidableEq κ] {k : κ} {d : D} {v : V} (z : Fz K cm G d v) : ∀ {ks : List κ} {ds : List D} {vs : List V} {F : List Addr}, OwL K cm G H ds vs F → ks.length = vs.length → ∃ F', F'.Sublist F ∧ OwL K cm G H (mapK ks ds k d) (mapK ks vs k v) F'
  | [], _, _, _, .nil, _ => ⟨[], by simp, .nil⟩
  | a :: ks, _, _, _, .cons (F1 := F1) (F2 := F2) o l, h => by
    obtain ⟨F', sub, l'⟩ := OwL.mapK (k := k) (ks := ks) z l (by simpa using h)
    by_cases e : a = k
    · exact ⟨F', sub.trans (List.sublist_append_right _ _), by rw [VE.mapK, VE.mapK, if_pos e, if_pos e]; exact (OwL.cons (F1 := []) (.fz z) l' : OwL K cm G H _ _ ([] ++ F'))⟩
    · exact ⟨F1 ++ F', List.Sublist.append (List.Sublist.refl _) sub, by rw [VE.mapK, VE.mapK, if_neg e, if_neg e]; exact .cons o l'⟩
  | [], _, _, _, .cons _ _, h => by simp at h
  | _ :: _, _, _, _, .nil, h => by simp at h
theorem OwL.snoc {d : D} {v : V} (z : Fz K cm G d v) : ∀ {ds : List D} {vs : List V} {F : List Addr}, OwL K cm G H ds vs F → OwL K cm G H (ds ++ [d]) (vs ++ [v]) F
  | _, _, _, .nil => (OwL.cons (F1 := []) (.fz z) .nil : OwL K cm G H [d] [v] ([] ++ []))
  | _, _, _, .cons o l => .cons o (l.snoc z)
end
/-- d[k] = x, a frozen x -/
def putD : D → D → D → Option D
  | .lst true xs, .int i, x => (ixN xs.length i).map fun j => .lst true (xs.set j x)
  | .dk true ks xs, k, x => match keyD k with
    | some k => if xs.length < sizeLine then some (if hasK ks k = true then .dk true ks (mapK ks xs k x) else .dk true (ks ++ [k]) (xs ++ [x])) else none
    | none => none
  | _, _, _ => none
def rSet : TSet := fun o i v H Q => rSetL o i v H Q ∨ rSetD o i v H Q
theorem set_all {X : Cx} (hu : X.A.units + 1 < cLine) : PSet X rSet := by
  intro pins s σ H o i v ov iv u Q I ro ri rv h
  rcases h with h | h
  · exact set_list pins s σ H o i v ov iv u Q I ro ri rv h
  · exact set_dict hu pins s σ H o i v ov iv u Q I ro ri rv h
theorem put_ok {K : Frag} {cm : Str → Addr} {fx : Fix} {G H : Hp} {F : List Addr} {σ : L2.St} {ρ : Env} (s : SR K cm fx G H σ ρ F) {i : Nat} {t kd x t' : D} {kv xv : V} (ht : ρ[i]? = some (some t)) (hk : Fz K cm G kd kv) (hx : Fz K cm G x xv) (e : putD t kd x = some t')
    {Q : Hp → Prop} (q : ∀ F' H', Tr G H F G H' F' → SR K cm fx G H' σ (ρ.set i (some t')) F' → Q H') : ∃ v, σ[i]? = some (some v) ∧ rSet v kv xv H Q := by
  obtain ⟨v, F1, hv, ow, nd, dj, up⟩ := s.wr ht
  refine ⟨v, hv, ?_⟩
  have noG : ∀ {a : Addr} {u o' : HO}, G a = none → ∀ b w, G b = some w → upd H a o' b = H b := fun {a u o'} ha b w hb => by
    have : b ≠ a := fun z => by subst z; rw [ha] at hb; cases hb
    rw [upd_ne this]
  unfold putD at e
  split at e
  · rename_i xs j
    obtain ⟨n, hn, rfl⟩ := Option.map_eq_some_iff.mp e
    cases ow with
    | fz z => cases z
    | @lst a vs ds eH l =>
      cases hk
      refine .inl ⟨a, vs, j, n, rfl, rfl, eH, by rw [← l.length]; exact hn, ?_⟩
      obtain ⟨F', t1, s1⟩ := up a (.lst (vs.set n xv)) (.lst true (xs.set n x)) [a] (by simp) (.lst (upd_same ..) (l.set n hx)) (List.Sublist.refl _)
      exact q F' _ t1 s1
  · rename_i ks xs
    split at e
    case h_2 => cases e
    case h_1 k hk2 =>
    split at e
    case isFalse => cases e
    case isTrue hlen =>
    cases (Option.some.inj e)
    cases ow with
    | fz z => cases z
    | @dk a ks vs ds F2 eH n l =>
      have hkv := keyD_v (H := G) (.fz hk) hk2
      subst hkv
      have hlen2 : (ks.zip vs).length < sizeLine := by
        rw [List.length_zip, n, Nat.min_self, ← l.length]; exact hlen
      have nd2 := List.nodup_cons.mp nd
      have keep : ∀ {o' : HO}, ∀ b ∈ F2, ∀ u, H b = some u → upd H a o' b = some u := fun {o'} b hb u hu => by
        rw [upd_ne (fun z => nd2.1 (by rw [← z]; exact hb))]; exact hu
      refine .inr ⟨a, _, rfl, DPut.k eH hlen2, ?_⟩
      rw [putK_zip n]
      clear e
      by_cases hh : hasK ks k = true
      · rw [if_pos hh]; rw [if_pos hh] at q
        obtain ⟨F2', sub, l'⟩ := (l.mono (GLe.refl G) (keep (o' := .dK (ks.zip (mapK ks vs k xv))))).mapK (ks := ks) (k := k) hx n
        obtain ⟨F', t1, s1⟩ := up a (.dK (ks.zip (mapK ks vs k xv))) (.dk true ks (mapK ks xs k x)) (a :: F2') (by simp) (.dk (upd_same ..) (by rw [mapK_length _ _ _ _ n]; exact n) l') (List.Sublist.cons_cons a sub)
        exact q F' _ t1 s1
      · rw [if_neg hh]; rw [if_neg hh] at q
        have l' := (l.mono (GLe.refl G) (keep (o' := .dK ((ks ++ [k]).zip (vs ++ [xv]))))).snoc hx
        obtain ⟨F', t1, s1⟩ := up a (.dK ((ks ++ [k]).zip (vs ++ [xv]))) (.dk true (ks ++ [k]) (xs ++ [x])) (a :: F2) (by simp) (.dk (upd_same ..) (by rw [List.length_append, List.length_append, n] <;> rfl) l') (List.Sublist.refl _)
        exact q F' _ t1 s1
  · cases e
/-- slot[k] = value -/
def sPut (i : Nat) (k m : M) : MS := sWith m fun d ρ => match sget ρ i with
  | none => .bad
  | some _ => (match k ρ with
    | .ok kd ρ2 => (match sget ρ2 i with
      | some t => (match putD t (frz kd) (frz d) with
        | some t' => .nx (ρ2.set i (some t'))
        | none => .bad)
      | none => .bad)
    | _ => .bad)
section
variable {X : Cx} {S : Set_}
theorem ps_putD {i : Nat} {k m : M} {o ie e : Expr} {p2 pos : Pos} (hu : X.A.units + 1 < cLine) (ho : PE X o (tVar i)) (hk : PE X ie (rE S k)) (he : PE X e (rE S m))
    (ha : ∀ v, assign (.Subscript o ie p2) X.env v = (do
      let ov ← holding [v] (eval o X.env)
      let iv ← holding [v, ov] (eval ie X.env)
      standAt p2
      holding [v, ov, iv] (setItem ov iv v)
      release [v, ov, iv] []))
    (hs : swapsWithSole [.Subscript o ie p2] e pos.line X.env = pure false) (hw : swappedStores [.Subscript o ie p2] e X.env = pure none) (h1 : (assignEach [.Subscript o ie p2] X.env).map (·.2) = [assign (.Subscript o ie p2) X.env]) :
    PS X (.Assign [.Subscript o ie p2] e pos) (rS S (sPut i k m)) := by
  refine ps_imp (ps_asg he (pg_sub ho hk (set_all hu) ha) hs hw h1) fun D σ H q => rS_with q fun G F d ρ' w v H' p => ?_
  obtain ⟨G', F', t', s, z⟩ := p.freeze
  cases e1 : sget ρ' i with
  | none => rw [e1] at w; exact w.elim
  | some t0 =>
    rw [e1] at w
    dsimp only at w
    obtain ⟨v0, F0, hv0, _⟩ := s.wr (sget_some e1)
    refine ⟨v0, hv0, G', ρ', F', s, ?_⟩
    cases e2 : k ρ' with
    | bad => rw [e2] at w; exact w.elim
    | exc c x ρ2 => rw [e2] at w; exact w.elim
    | ok kd ρ2 =>
      rw [e2] at w
      dsimp only at w ⊢
      intro kv H2 p2
      obtain ⟨G2, F2, t2, s2, z2⟩ := p2.freeze
      cases e3 : sget ρ2 i with
      | none => rw [e3] at w; exact w.elim
      | some t =>
        rw [e3] at w
        dsimp only at w
        cases e4 : putD t (frz kd) (frz d) with
        | none => rw [e4] at w; exact w.elim
        | some t1 =>
          rw [e4] at w
          dsimp only at w
          obtain ⟨v1, hv1, r⟩ := put_ok s2 (sget_some e3) z2 (z.mono t2.g.rds) e4 (Q := fun H3 => D.nx σ H3) fun F3 H3 t3 s3 => w σ H3 ⟨G2, F3, t'.trans (t2.trans t3), s3⟩
          rw [hv0] at hv1
          cases hv1
          exact r
/-! ### methods of a slot's list -/
/-- what a method makes of the items: its value, the items behind it -/
def MutL (S : Set_) (g : List D → List D → Option (D × List D)) (r : V → List V → Hp → VK → Prop) : Prop :=
  ∀ (G H : Hp) (a : Addr) (xs ds : List D) (ys vs : List V) (d : D) (xs' : List D) (Q : VK), H a = some (.lst ys) → FzL S.K S.cm G xs ys → FzL S.K S.cm G ds vs → g xs ds = some (d, xs') →
    (∀ w ys', Fz S.K S.cm G d w → FzL S.K S.cm G xs' ys' → Q w (upd H a (.lst ys'))) → r (.ref a) vs H Q
def isLst : D → Bool
  | .lst _ _ => true
  | _ => false
def lstT : D → Option (List D)
  | .lst true xs => some xs
  | _ => none
theorem lstT_some {d : D} {xs : List D} (h : lstT d = some xs) : d = .lst true xs := by
  unfold lstT at h
  split at h
  · cases h; rfl
  · cases h
def eMut (i : Nat) (ms : List M) (g : List D → List D → Option (D × List D)) : M := fun ρ => match sget ρ i with
  | none => .bad
  | some t0 => if isLst t0 then (match evO (ms.map .ex) ρ with
    | .ok ds ρ1 => (match (sget ρ1 i).bind lstT with
      | some xs => (match g xs ds with
        | some (d, xs') => .ok d (ρ1.set i (some (.lst true xs')))
        | none => .bad)
      | none => .bad)
    | .exc c x ρ' => .exc c x ρ'
    | .bad => .bad) else .bad
theorem vwO_ex {K : Frag} {cm : Str → Addr} {G H : Hp} {σ : L2.St} {ρ : Env} : ∀ {ms : List M} {ds : List D} {vs : List V}, VwO K cm G H σ ρ (ms.map .ex) ds vs → FzL K cm G ds vs
  | [], _, _, .nil => .nil
  | _ :: _, _, _, .ex z l => .cons z (vwO_ex l)
theorem eMut_imp {i : Nat} {ms : List M} {g : List D → List D → Option (D × List D)} {r : V → List V → Hp → VK → Prop} (mu : MutL S g r) {σ : L2.St} {H : Hp} {Q : VK} (q : rE S (eMut i ms g) σ H Q) :
    ∃ v, σ[i]? = some (some v) ∧ tyV S.K "list" v H ∧ rO S (ms.map .ex) σ H fun xs H2 => r v xs H2 Q := by
  obtain ⟨G, ρ, F, s, q⟩ := q
  unfold eMut at q
  cases e0 : sget ρ i with
  | none => rw [e0] at q; exact q.elim
  | some t0 =>
    rw [e0] at q
    dsimp only at q
    by_cases hl : isLst t0 = true
    case neg => rw [if_neg hl] at q; exact q.elim
    rw [if_pos hl] at q
    obtain ⟨v, F1, hv, ow, _⟩ := s.wr (sget_some e0)
    have ty : tyV S.K "list" v H := by
      cases t0 with
      | lst o xs =>
        obtain ⟨a, vs, rfl, h1, _⟩ := ow.lst_inv s.rd
        exact .inl ⟨rfl, vs, .inl h1⟩
      | _ => cases hl
    refine ⟨v, hv, ty, G, ρ, F, s, ?_⟩
    cases e1 : evO (ms.map .ex) ρ with
    | bad => rw [e1] at q; exact q
    | exc c x ρ' => rw [e1] at q; exact q
    | ok ds ρ1 =>
      rw [e1] at q
      dsimp only at q ⊢
      intro vs H1 ⟨G1, F1, t1, s1, vo⟩
      cases e2' : (sget ρ1 i).bind lstT with
      | none => rw [e2'] at q; exact q.elim
      | some xs =>
        rw [e2'] at q
        dsimp only at q
        obtain ⟨t1', e2, e2l⟩ := Option.bind_eq_some_iff.mp e2'
        have := lstT_some e2l
        subst this
        cases e3 : g xs ds with
        | none => rw [e3] at q; exact q.elim
        | some p =>
          obtain ⟨d, xs'⟩ := p
          rw [e3] at q
          dsimp only at q
          obtain ⟨v2, F2, hv2, ow2, nd2, dj2, up2⟩ := s1.wr (sget_some e2)
          rw [hv] at hv2
          cases hv2
          cases ow2 with
          | fz z => cases z
          | @lst a ys _ eH l =>
            refine mu G1 H1 a xs ds ys vs d xs' Q eH l (vwO_ex vo) e3 fun w ys' zw zl => ?_
            obtain ⟨F', t2, s2⟩ := up2 a (.lst ys') (.lst true xs') [a] (by simp) (.lst (upd_same ..) zl) (List.Sublist.refl _)
            exact q w _ (PostZ.post ⟨G1, F', t1.trans t2, s2, zw⟩)
theorem pe_mutD {i : Nat} {g : List D → List D → Option (D × List D)} {r : V → List V → Hp → VK → Prop} {id : String} {name : Str} {o e : Expr} {es : List Expr} {m : M} {ms : List M} {apos cpos : Pos} (mu : MutL S g r) (hK : S.K = X.K)
    (slot : Slot "list" name id) (hty : typeOf (.builtin id) = pure (.type "method_descriptor")) (hm : MtR X id r) (ho : PE X o (tVar i)) (ha : PA X (e :: es) (rO S ((m :: ms).map .ex)))
    (hbase : attributeBase o name X.env (eval o X.env) = eval o X.env)
    (hfew : ((backTo cpos (starEach (e :: es) X.env)).all (fun x => !x.1) && (backToKw cpos (keywordEach [] X.env)).all (fun x => x.1.isSome)
      && decide ((e :: es).length + ([] : List Keyword).length + (if ([] : List Keyword).isEmpty then 0 else 1) < 30)) = true)
    (hline : (apos.endLine == cpos.line) = true) (hs : starEach (e :: es) X.env = (false, eval e X.env) :: starEach es X.env) (hplain : (backTo cpos (starEach es X.env)).any (·.1) = false) :
    PE X (.Call (.Attribute o name apos) (e :: es) [] cpos) (rE S (eMut i (m :: ms) g)) :=
  pe_imp (pe_bm PySem.F.plainAttrs_list slot hty hm ho ha hbase hfew hline hs hplain) fun σ H Q q => by
    obtain ⟨v, hv, ty, h⟩ := eMut_imp mu q
    exact ⟨v, hv, by rw [← hK]; exact ty, h⟩
theorem pe_mut0D {i : Nat} {g : List D → List D → Option (D × List D)} {r : V → List V → Hp → VK → Prop} {id : String} {name : Str} {o : Expr} {apos cpos : Pos} (mu : MutL S g r) (hK : S.K = X.K)
    (slot : Slot "list" name id) (hty : typeOf (.builtin id) = pure (.type "method_descriptor")) (hm : MtR X id r) (ho : PE X o (tVar i))
    (hbase : attributeBase o name X.env (eval o X.env) = eval o X.env) (hline : (apos.endLine == cpos.line) = true) :
    PE X (.Call (.Attribute o name apos) [] [] cpos) (rE S (eMut i [] g)) :=
  pe_imp (pe_bm0 PySem.F.plainAttrs_list slot hty hm ho hbase hline) fun σ H Q q => by
    obtain ⟨v, hv, ty, h⟩ := eMut_imp mu q
    refine ⟨v, hv, by rw [← hK]; exact ty, ?_⟩
    obtain ⟨G, ρ, F, s, h⟩ := h
    exact h [] H ⟨G, F, .refl, s, .nil⟩
def gAppend : List D → List D → Option (D × List D) := fun xs ds => match ds with
  | [d] => if xs.length < sizeLine then some (.non, xs ++ [d]) else none
  | _ => none
theorem mu_append : MutL S gAppend rAppend := by
  intro G H a xs ds ys vs d xs' Q eH l lv e k
  unfold gAppend at e
  split at e
  · split at e
    · cases e
      cases lv with
      | cons z n =>
        cases n
        exact ⟨a, ys, _, rfl, rfl, eH, by rw [← l.length]; assumption, k .non _ .non (l.append (.cons z .nil))⟩
    · cases e
  · cases e
def gPop : List D → List D → Option (D × List D) := fun xs ds => match ds with
  | [] => (xs[xs.length - 1]?).map fun y => (y, xs.dropLast)
  | _ => none
theorem FzL.dropLast {K : Frag} {cm : Str → Addr} {G : Hp} {ds : List D} {vs : List V} (l : FzL K cm G ds vs) : FzL K cm G ds.dropLast vs.dropLast := by
  rw [List.dropLast_eq_take, List.dropLast_eq_take, l.length]
  exact l.take _
theorem FzL.eraseIdx {K : Frag} {cm : Str → Addr} {G : Hp} : ∀ {ds : List D} {vs : List V} (n : Nat), FzL K cm G ds vs → FzL K cm G (ds.eraseIdx n) (vs.eraseIdx n)
  | _, _, _, .nil => .nil
  | _, _, 0, .cons _ l => l
  | _, _, n + 1, .cons a l => .cons a (l.eraseIdx n)
theorem mu_pop : MutL S gPop rPop := by
  intro G H a xs ds ys vs d xs' Q eH l lv e k
  unfold gPop at e
  split at e
  · obtain ⟨y, hy, ep⟩ := Option.map_eq_some_iff.mp e
    cases ep
    cases lv
    obtain ⟨w, hw, z⟩ := l.get hy
    exact ⟨a, ys, w, rfl, rfl, eH, by rw [← l.length]; exact hw, k w _ z l.dropLast⟩
  · cases e
def gPopAt : List D → List D → Option (D × List D) := fun xs ds => match ds with
  | [.int i] => if -(2 ^ 63) ≤ i ∧ i < 2 ^ 63 then (ixN xs.length i).bind fun k => (xs[k]?).map fun y => (y, xs.eraseIdx k) else none
  | _ => none
theorem mu_popAt : MutL S gPopAt rPopAt := by
  intro G H a xs ds ys vs d xs' Q eH l lv e k
  unfold gPopAt at e
  split at e
  · split at e
    · rename_i hb
      obtain ⟨n, hn, ep⟩ := Option.bind_eq_some_iff.mp e
      obtain ⟨y, hy, ep⟩ := Option.map_eq_some_iff.mp ep
      cases ep
      cases lv with
      | cons z0 nl =>
        cases nl
        cases z0
        obtain ⟨w, hw, z⟩ := l.get hy
        exact ⟨a, ys, _, n, w, rfl, rfl, eH, hb.1, hb.2, by rw [← l.length]; exact (ixN_seq hn).1, hw, k w _ z (l.eraseIdx n)⟩
    · cases e
  · cases e
end
end VE
/-! VE11: sets of ints on the way, ranges as lists, the other way round, isinstance, chains, displays of dicts. -/
namespace VE
open PySem PySem.Spec PyProof.Rows L2
section
variable {P : Program} {w : World} {A : Around} {E : Value → Shared → Prop} {s : Shared}
set_option maxRecDepth 100000 in
set_option maxHeartbeats 3200000 in
/-- set(xs) of a list of ints, as the table stands -/
theorem set_lstI {l : Addr} {items : Array Value} (ns : List Int) {Q : Value → Shared → Prop} (hh : A.handled = none) (hl : s.heap.IsList l items) (hit : IntsAre items.toList ns) (hb : ns.length + 1 < scanBound)
    (h : ∀ (h' : Heap) (tk c : Nat), SetR w h' s.heap.objs.size (fun j => decide (j ∈ ns)) c → c ≤ ns.length → (∀ b o, s.heap.get? b = some o → h'.get? b = some o) → Q (.ref s.heap.objs.size) { s with heap := h', toks := tk }) :
    wpAny (model P w) A (call (.type "set") [.ref l]) Q E s := by
  have hisz : items.size = ns.length := by
    have q := IntsAre.length hit
    rw [Array.length_toList] at q
    exact q
  obtain ⟨c, tl, hmro⟩ := F.called_set.mro
  have hmade := F.called_set.made
  have hsub := F.called_set.sub
  refine wpAny_call (codeAny_of_tree ?_)
  show wpAny _ _ (callAny (.type "set") _) _ _ _
  refine wpAny_pure ⟨Code.quiet_builtin _ (by decide +kernel), codeAny_builtin F.entry_type_call ?_⟩
  rw [Around.under_plain (weight_type_call_type "set" [.ref l] []) rfl]
  have h1 := F.called_set.notType
  have h2 := F.called_set.canCreate
  have hct := F.typeCall_set_1 (.ref l)
  repeat (any_goals (first | assumption | wp_step))
  generalize hhp : s.heap.push { cls := .type "set", dict := none, data := .set #[] 0 (.fresh 0 0 (!w.params.followText "set-order")) } = hp1
  refine codeAny_mono (code_set_led1 (.ref l) (E := E) (Q₁ := fun obj s₁ => obj = .ref s.heap.objs.size ∧ s₁ = { s with heap := hp1 }) ⟨rfl, by rw [hhp]⟩) fun r s₁ hr => ?_
  cases r with
  | error e => exact hr
  | ok fl =>
    cases fl with
    | ret obj =>
      obtain ⟨rfl, rfl⟩ := hr
      have hS : hp1.get? s.heap.objs.size = some { cls := .type "set", dict := none, data := .set #[] 0 (.fresh 0 0 (!w.params.followText "set-order")) } := by rw [← hhp]; exact Heap.get?_push_size _ rfl
      have hz1 : hp1.objs.size = s.heap.objs.size + 1 := by rw [← hhp]; exact Heap.size_push ..
      have up1 : ∀ b o, s.heap.get? b = some o → hp1.get? b = some o := fun b o e => by rw [← hhp]; exact Heap.get?_push_of_some _ e
      have hT : Shared.TypeIs { s with heap := hp1 } (.ref s.heap.objs.size) "set" := ⟨_, hS, rfl⟩
      have hli := F.called_set.init.lookup
      have hbi := F.called_set.init.bind (.ref s.heap.objs.size)
      repeat (any_goals (first | assumption | wp_step))
      refine codeAny_mono (codeAny_call_builtin (R := wants (fun r s₂ => r = .none ∧ ∃ h' tk c, s₂ = { s with heap := h', toks := tk } ∧ SetR w h' s.heap.objs.size (fun j => decide (j ∈ ns)) c ∧ c ≤ ns.length ∧
          (∀ b o, s.heap.get? b = some o → h'.get? b = some o)) E) F.called_set.init.plain F.entry_set_init (check_set_init_1 hT ?_)) fun r₂ s₂ hr₂ => ?_
      · obtain ⟨ol, hol, hcl, nl, hdl⟩ := hl
        obtain ⟨ocls, odict, odata, oslots⟩ := ol
        simp only at hcl hdl
        subst hcl; subst hdl
        have hol' : hp1.get? l = some { cls := .type "list", dict := odict, data := .seq items nl, slots := oslots } := up1 _ _ hol
        have hsls := F.sub_list_set
        have hslf := F.sub_list_frozenset
        have hne : (Value.type "list" == Value.type "dict") = false := by decide
        have hl1 : hp1.IsList l items := ⟨_, hol', rfl, nl, rfl⟩
        unfold Builtin.«set.__init__» noKeywords Builtin.Frozenset.updateFrom
        generalize hPI : pyIter = PI
        wp_walk
        subst hPI
        refine wpAny_pyIter_list hl1 ?_
        refine wpAny_bind (wpAny_runValue ?_)
        have hlS : l < s.heap.objs.size := Heap.lt_size hol
        have hh3 : A.in1.in1.in1.handled = none := by simp [hh]
        have hneI : l ≠ hp1.objs.size := by rw [hz1]; exact Nat.ne_of_lt (Nat.lt_succ_of_lt hlS)
        have hSf : s.heap.objs.size ∉ [hp1.objs.size, l] := by
          rw [hz1]; simp only [List.mem_cons, List.mem_singleton, List.not_mem_nil, or_false, not_or]
          exact ⟨Nat.ne_of_lt (Nat.lt_succ_self _), Nat.ne_of_gt hlS⟩
        have hval : ∀ (i : Nat) (v : Value), items[i]? = some v → ∃ k t, ns[i]? = some k ∧ v = .int k t := fun i v hv => by
          have hi : i < ns.length := by rw [← hisz]; exact (Array.getElem?_eq_some_iff.mp hv).1
          obtain ⟨t, e⟩ := PyProof.Rows.IntsAre.int_at hit i v (by rw [Array.getElem?_toList]; exact hv)
          refine ⟨ns[i], t, List.getElem?_eq_getElem hi, ?_⟩
          rw [e, List.getD_eq_getElem?_getD, List.getElem?_eq_getElem hi] <;> rfl
        refine set_update_ints ((Walks.list hh3 _ l hneI items).toS) s.heap.objs.size hSf ns hisz hb hval (items.size - 0) 0 _ (by omega) (Nat.zero_le _)
          ⟨⟨_, Heap.get?_push_size _ rfl, rfl, rfl⟩, (hl1.push _)⟩ ⟨0, Nat.le_refl 0, setR_new_at (Heap.get?_push_of_some _ hS)⟩ fun s' c' hm hc' hS' => ?_
        obtain ⟨h', g2, d', tk', os'⟩ := s'
        have eg : g2 = s.gens := hm.gens
        have ed : d' = s.drawn := hm.drawn
        have eo : os' = s.os := hm.os
        subst eg; subst ed; subst eo
        show wpAny _ _ _ _ _ _
        refine wpAny_pure ?_
        show wpAny _ _ (ret Value.none) _ _ _
        rw [hisz] at hc'
        refine wpAny_pure ⟨rfl, h', tk', c', rfl, hS', hc', fun b o e => ?_⟩
        have hb0 : b < s.heap.objs.size := Heap.lt_size e
        refine hm.heap b o ?_ (Heap.get?_push_of_some _ (up1 b o e))
        rw [hz1]
        simp only [List.mem_cons, List.mem_singleton, List.not_mem_nil, or_false, not_or]
        exact ⟨Nat.ne_of_lt hb0, Nat.ne_of_lt (Nat.lt_succ_of_lt hb0)⟩
      · cases r₂ with
        | error e => exact hr₂
        | ok fl2 =>
          cases fl2 with
          | ret v2 =>
            obtain ⟨rfl, h', tk, c', rfl, R1, hc, k⟩ := hr₂
            first
              | exact h h' tk c' R1 hc k
              | (repeat (any_goals (first | assumption | wp_step))
                 exact h h' tk c' R1 hc k)
          | next => exact hr₂
          | brk => exact hr₂
          | cont => exact hr₂
    | next => exact hr
    | brk => exact hr
    | cont => exact hr
end
end VE
/-! VE12: sorted(set(..)), len(set(..)); ranges as lists; the other way round; isinstance; chains; displays of dicts; constants; membership. -/
namespace VE
open PySem PySem.Spec PyProof.Rows L2
/-! ### sorted, each once -/
def insU (x : Int) : List Int → List Int
  | [] => [x]
  | y :: r => if x < y then x :: y :: r else if x = y then y :: r else y :: insU x r
def sortU : List Int → List Int
  | [] => []
  | x :: r => insU x (sortU r)
theorem mem_insU {x k : Int} : ∀ {l : List Int}, k ∈ insU x l ↔ k = x ∨ k ∈ l
  | [] => by simp [insU]
  | y :: r => by
    unfold insU
    split
    · simp
    · split
      · rename_i h; subst h; simp
      · rw [List.mem_cons, mem_insU, List.mem_cons]
        constructor
        · rintro (h | h | h) <;> simp [h]
        · rintro (h | h | h) <;> simp [h]
theorem mem_sortU {k : Int} : ∀ {l : List Int}, k ∈ sortU l ↔ k ∈ l
  | [] => Iff.rfl
  | x :: r => by rw [sortU, mem_insU, mem_sortU, List.mem_cons]
theorem insU_sorted {x : Int} : ∀ {l : List Int}, l.Pairwise (· < ·) → (insU x l).Pairwise (· < ·)
  | [], _ => by simp [insU]
  | y :: r, h => by
    have h1 := List.pairwise_cons.mp h
    unfold insU
    split
    · refine List.pairwise_cons.mpr ⟨fun z hz => ?_, h⟩
      rcases List.mem_cons.mp hz with rfl | hz
      · assumption
      · have := h1.1 z hz; omega
    · split
      · exact h
      · refine List.pairwise_cons.mpr ⟨fun z hz => ?_, insU_sorted h1.2⟩
        rcases mem_insU.mp hz with rfl | hz
        · omega
        · exact h1.1 z hz
theorem sortU_sorted : ∀ {l : List Int}, (sortU l).Pairwise (· < ·)
  | [] => .nil
  | _ :: _ => insU_sorted sortU_sorted
theorem sorted_ext : ∀ {l l' : List Int}, l.Pairwise (· < ·) → l'.Pairwise (· < ·) → (∀ k, k ∈ l ↔ k ∈ l') → l = l'
  | [], [], _, _, _ => rfl
  | [], y :: r, _, _, h => by have := (h y).mpr (by simp); simp at this
  | x :: r, [], _, _, h => by have := (h x).mp (by simp); simp at this
  | x :: r, y :: r', h1, h2, h => by
    have p1 := List.pairwise_cons.mp h1
    have p2 := List.pairwise_cons.mp h2
    have exy : x = y := by
      have hx := (h x).mp (by simp)
      have hy := (h y).mpr (by simp)
      rcases List.mem_cons.mp hx with e | hx
      · exact e
      · rcases List.mem_cons.mp hy with e | hy
        · exact e.symm
        · have := p2.1 x hx; have := p1.1 y hy; omega
    subst exy
    rw [sorted_ext p1.2 p2.2 fun k => ?_]
    have hk := h k
    rw [List.mem_cons, List.mem_cons] at hk
    constructor
    · intro hm
      rcases hk.mp (.inr hm) with e | e
      · subst e; exact absurd (p1.1 _ hm) (by omega)
      · exact e
    · intro hm
      rcases hk.mpr (.inr hm) with e | e
      · subst e; exact absurd (p2.1 _ hm) (by omega)
      · exact e
theorem len_same {l l' : List Int} (h1 : l.Nodup) (h2 : l'.Nodup) (h : ∀ k, k ∈ l ↔ k ∈ l') : l.length = l'.length := by
  have := (List.perm_ext_iff_of_nodup h1 h2).mpr h
  exact this.length_eq
theorem sorted_nodup {l : List Int} (h : l.Pairwise (· < ·)) : l.Nodup := h.imp fun h e => by subst e; omega
/-! ### set(xs), as it passes by -/
def rSetI (K : Frag) (w : World) : List V → Hp → VK → Prop := fun vs H Q => ∃ (p : Addr) (ns : List Int), vs = [.ref p] ∧ (SqL K H p (ns.map V.int) ∨ SqT K H p (ns.map V.int)) ∧ ns.length < 1000 ∧
  ∀ a c, H a = none → c ≤ ns.length → Q (.ref a) (upd H a (SetO w a (fun j => decide (j ∈ ns)) c))
section
variable {X : Cx} {S : Set_} {G H : Hp}
theorem cr_setI (hc : X.calm = true) : CallR X (.type "set") (rSetI X.K X.w) := by
  intro pins s σ H vs us Q I r h
  obtain ⟨p, ns, rfl, hq, hl, q⟩ := h
  cases r with
  | cons r0 rr =>
    cases rr
    cases r0
    have fin : ∀ (h' : Heap) (tk c : Nat), SetR X.w h' s.heap.objs.size (fun j => decide (j ∈ ns)) c → c ≤ ns.length → (∀ b o, s.heap.get? b = some o → h'.get? b = some o) → EP X pins σ Q (.ref s.heap.objs.size) { s with heap := h', toks := tk } := fun h' tk c R hcn k =>
      ⟨.ref s.heap.objs.size, _, I.laid (t' := tk) k (Nat.le_refl _) (setO_new R), rfl, q _ c (I.hok.fresh (Nat.le_refl _)) hcn⟩
    rcases hq with hq | hq
    · obtain ⟨its, rv, pl, hz⟩ := I.list hq
      exact set_lstI ns (I.ok.hd hc) pl.isList (ints_of_vals rv) (by unfold scanBound; omega) fin
    · obtain ⟨its, rv, pt, hz⟩ := I.tuple hq
      exact call_set_tupI ns (I.ok.hd hc) (show s.heap.IsTuple p its.toArray from pt) (ints_of_vals rv) (by unfold scanBound; omega) fin
def rLenSetI (w : World) : List V → Hp → VK → Prop := fun vs H Q => ∃ a Sf n, vs = [.ref a] ∧ H a = some (SetO w a Sf n) ∧ ∀ l : List Int, l.Nodup → (∀ k, k ∈ l ↔ Sf k = true) → Q (.int l.length) H
theorem cr_lenSetI : CallR X (.builtin "len") (rLenSetI X.w) := by
  intro pins s σ H vs us Q I r h
  obtain ⟨a, Sf, n, rfl, ha, q⟩ := h
  have R := setO_get I ha
  rw [Vals.ref1 r]
  obtain ⟨o, es, ep, t, ho, hex, hd, g, nd, hm, hb, hf, hn, hr, hl⟩ := R
  refine call_len_set ho hex hd hf (by unfold scanBound at hb; omega) ⟨.int (es.toList.map keyOf).length, H, I.tok _, ⟨_, by rw [List.length_map, Array.length_toList]⟩, q _ nd fun k => (hm k).symm⟩
/-- sorted(set(xs)) -/
def dSortSet : List D → Option D
  | [.lst _ a] => (intsOf a).bind fun ns => if ns.length < 64 then some (.lst true ((sortU ns).map D.int)) else none
  | [.tup a] => (intsOf a).bind fun ns => if ns.length < 64 then some (.lst true ((sortU ns).map D.int)) else none
  | _ => none
/-- len(set(xs)) -/
def dLenSet : List D → Option D
  | [.lst _ a] => (intsOf a).bind fun ns => if ns.length < 1000 then some (.int (sortU ns).length) else none
  | [.tup a] => (intsOf a).bind fun ns => if ns.length < 1000 then some (.int (sortU ns).length) else none
  | _ => none
/-- an object that nobody holds -/
theorem New.waste {p : Addr} {o : HO} (r : RdS G H) (h : H p = none) : New G H G (upd H p o) [] :=
  ⟨GLe.refl G, fun a u e => by rw [upd_ne (ne_of_none e h)]; exact e, rds_upd r h, .nil, fun a ha => (by cases ha), fun a h => .inl h⟩
theorem New.then {G' H' G2 H2 : Hp} {F : List Addr} (x : New G H G' H' []) (y : New G' H' G2 H2 F) : New G H G2 H2 F where
  g := x.g.trans y.g
  h := fun a o e => y.h a o (x.h a o e)
  rd := y.rd
  nd := y.nd
  f := fun a ha => by
    refine ⟨?_, (y.f a ha).2⟩
    cases e : H a with
    | none => rfl
    | some o => exact absurd (y.f a ha).1 (by rw [x.h a o e]; simp)
  d := fun a ha => by
    rcases y.d a ha with q | q
    · exact x.d a q
    · right
      cases e : H a with
      | none => rfl
      | some o => rw [x.h a o e] at q; cases q
/-- a call of a call: the inner one's object is nobody's -/
theorem two_ok {g : List D → Option D} {r1' : List V → Hp → VK → Prop} {r2' : List V → Hp → VK → Prop}
    (h : ∀ (G H : Hp) (ds : List D) (vs : List V) (d : D) (Q : VK), RdS G H → VwL S.K S.cm G H ds vs → g ds = some d → (∀ v G' H' Fv, New G H G' H' Fv → Ow S.K S.cm G' H' d v Fv → Q v H') → r1' vs H fun v H' => r2' [v] H' Q) :
    OpD S g (fun vs H Q => r1' vs H fun v H' => r2' [v] H' Q) := fun G H ds vs d Q rd vl e k => h G H ds vs d Q rd vl e k
theorem seq_v {ds : List D} {v : V} {F : List Addr} {ns : List Int} (h : (∃ o, Ow S.K S.cm G H (.lst o ds) v F) ∨ Ow S.K S.cm G H (.tup ds) v F) (rd : RdS G H) (e : intsOf ds = some ns) : ∃ p, v = .ref p ∧ (SqL S.K H p (ns.map V.int) ∨ SqT S.K H p (ns.map V.int)) := by
  rcases h with ⟨o, h⟩ | h
  · obtain ⟨p, xs, rfl, s, l⟩ := h.lst_inv rd
    obtain ⟨rfl, _⟩ := ints_v l e
    exact ⟨p, rfl, .inl (.inl s)⟩
  · obtain ⟨p, xs, rfl, s, l, _⟩ := h.tup_inv rd
    obtain ⟨rfl, _⟩ := ints_v l e
    exact ⟨p, rfl, .inr s⟩
theorem od_sortSet {w : World} : OpD S dSortSet (fun vs H Q => rSetI S.K w vs H fun v H' => rSortedSet w [v] H' Q) := by
  intro G H ds vs d Q rd vl e k
  have key : ∀ (a : List D) (x : D), ((∃ o, x = .lst o a) ∨ x = .tup a) → ds = [x] → ((intsOf a).bind fun ns => if ns.length < 64 then some (D.lst true ((sortU ns).map D.int)) else none) = some d → rSetI S.K w vs H fun v H' => rSortedSet w [v] H' Q := by
    intro a x hx hds e1
    subst hds
    obtain ⟨ns, hns, e2⟩ := Option.bind_eq_some_iff.mp e1
    split at e2
    case isFalse => cases e2
    case isTrue hl =>
    cases (Option.some.inj e2 : _ = d)
    obtain ⟨v, F, rfl, o⟩ := vw1 vl
    obtain ⟨p, rfl, hq⟩ := seq_v (S := S) (ds := a) (hx.elim (fun ⟨o', z⟩ => .inl ⟨o', by rw [← z]; exact o⟩) (fun z => .inr (by rw [← z]; exact o))) rd hns
    refine ⟨p, ns, rfl, hq, by omega, fun a c ha hc => ⟨a, _, c, rfl, upd_same .., by omega, fun out q hs hm hlen hq => ?_⟩⟩
    have e3 : out = sortU ns := sorted_ext hs sortU_sorted fun k => by rw [hm k, mem_sortU]; simp
    subst e3
    have n1 : New G H G (upd H a (SetO w a (fun j => decide (j ∈ ns)) c)) [] := .waste rd ha
    exact give_lst (S := S) n1.rd (fun v G' H' Fv n o => k v G' H' Fv (n1.then n) o) (fz_ints _) q hq
  unfold dSortSet at e
  split at e
  · exact key _ _ (.inl ⟨_, rfl⟩) rfl e
  · exact key _ _ (.inr rfl) rfl e
  · cases e
theorem od_lenSet {w : World} : OpD S dLenSet (fun vs H Q => rSetI S.K w vs H fun v H' => rLenSetI w [v] H' Q) := by
  intro G H ds vs d Q rd vl e k
  have key : ∀ (a : List D) (x : D), ((∃ o, x = .lst o a) ∨ x = .tup a) → ds = [x] → ((intsOf a).bind fun ns => if ns.length < 1000 then some (D.int (sortU ns).length) else none) = some d → rSetI S.K w vs H fun v H' => rLenSetI w [v] H' Q := by
    intro a x hx hds e1
    subst hds
    obtain ⟨ns, hns, e2⟩ := Option.bind_eq_some_iff.mp e1
    split at e2
    case isFalse => cases e2
    case isTrue hl =>
    cases (Option.some.inj e2 : _ = d)
    obtain ⟨v, F, rfl, o⟩ := vw1 vl
    obtain ⟨p, rfl, hq⟩ := seq_v (S := S) (ds := a) (hx.elim (fun ⟨o', z⟩ => .inl ⟨o', by rw [← z]; exact o⟩) (fun z => .inr (by rw [← z]; exact o))) rd hns
    refine ⟨p, ns, rfl, hq, by omega, fun a c ha hc => ⟨a, _, c, rfl, upd_same .., fun l hl1 hm => ?_⟩⟩
    rw [len_same hl1 (sorted_nodup (sortU_sorted (l := ns))) fun k => by rw [hm k, mem_sortU]; simp]
    exact k _ _ _ _ (.waste rd ha) (.fz (.int _))
  unfold dLenSet at e
  split at e
  · exact key _ _ (.inl ⟨_, rfl⟩) rfl e
  · exact key _ _ (.inr rfl) rfl e
  · cases e
/-- f(set(a)), f: sorted, len -/
theorem pe_setD {id : String} {x : Str} {g : List D → Option D} {r : List V → Hp → VK → Prop} {a : Expr} {oa : Opd} {p p2 p3 pos : Pos} (hcalm : X.calm = true) (hK : S.K = X.K) (hc : CallR X (.builtin id) r) (od : OpD S g (fun vs H Q => rSetI S.K X.w vs H fun v H' => r [v] H' Q))
    (hg : Gl X x) (hm : X.mg x = none) (hv : bootBuiltins x = some (.builtin id)) (hg2 : Gl X "set") (hm2 : X.mg "set" = none) (ha : PA X [a] (rO S [oa]))
    (hn : x ≠ "__name__") (hdb : (x == ("__debug__" : Str)) = false) (he2 : starEach [a] X.env = (false, eval a X.env) :: starEach [] X.env)
    (he : starEach [.Call (.Name "set" p2) [a] [] p3] X.env = (false, eval (.Call (.Name "set" p2) [a] [] p3) X.env) :: starEach [] X.env) :
    PE X (.Call (.Name x p) [.Call (.Name "set" p2) [a] [] p3] [] pos) (rE S (ops [oa] g)) := by
  have h1 : PE X (.Call (.Name "set" p2) [a] [] p3) (tCB (rSetI X.K X.w) (rO S [oa])) := pe_callTy (cr_setI hcalm) hg2 hm2 PyProof.Rows.boot_set ha (by decide) (by decide) he2 rfl
  refine pe_imp (pe_callB hc hg hm hv (pa_cons h1 pa_nil he) hn hdb he rfl) fun σ H Q q => ?_
  have q2 := ops_imp od σ H Q q
  rw [hK] at q2
  exact q2
end
end VE
/-! VE13: ranges as lists and tuples; a tuple the other way round; isinstance; membership; chains; constants. -/
namespace HT
open PySem PySem.Spec PyProof.Rows
section
variable {prog : Program} {w : World} {A : Around} {E : Value → Shared → Prop} {s : Shared}
theorem places_rev (n : Nat) : Builtin.Slice.slicePlaces ((n : Int) - 1) (-1) (-1) = n := by
  unfold Builtin.Slice.slicePlaces
  have h1 : ¬ ((-1 : Int) > 0) := by omega
  simp only [h1, if_false, Int.neg_neg, Int.ediv_one]
  split <;> omega
theorem fm_congr {α β : Type} {f g : α → Option β} : ∀ {l : List α}, (∀ m ∈ l, f m = g m) → l.filterMap f = l.filterMap g
  | [], _ => rfl
  | a :: l, h => by
    rw [List.filterMap_cons, List.filterMap_cons, h a (by simp), fm_congr fun m hm => h m (by simp [hm])]
theorem pick_rev (xs : Array Value) : ((List.range xs.size).filterMap fun (m : Nat) => xs[(((xs.size : Int) - 1) + (m : Int) * (-1)).toNat]?).toArray = xs.toList.reverse.toArray := by
  congr 1
  rw [← PySem.W.krv_all xs, ← List.filterMap_reverse, ← PySem.W.krv_range, List.filterMap_map]
  refine fm_congr fun m hm => ?_
  have := List.mem_range.mp hm
  show xs[(((xs.size : Int) - 1) + (m : Int) * (-1)).toNat]? = xs[xs.size - 1 - m]?
  congr 1
  omega
theorem getItem_tuple_rev {t sl : Addr} {items : Array Value} {vs : Value} {Q : Value → Shared → Prop} (ht : IsTup s.heap t items) (hs : s.heap.IsSliceOf sl .none .none vs) (ps : IsPart vs (some (-1)))
    (h : Q (.ref s.heap.objs.size) { s with heap := s.heap.push { cls := .type "tuple", data := .seq items.toList.reverse.toArray } })
    (hsz : items.size ≤ sizeLine) : wpAny (model prog w) A (getItem (.ref t) (.ref sl)) Q E s := by
  have hrev : sizeOk (.seq items.toList.reverse.toArray) := by
    show items.toList.reverse.toArray.size ≤ sizeLine
    rw [List.size_toArray, List.length_reverse, Array.length_toList]
    exact hsz
  obtain ⟨os, hos, hcs, hds⟩ := id hs
  have hTs : s.TypeIs (.ref sl) "slice" := ⟨os, hos, hcs⟩
  unfold getItem
  try with_reducible refine wpAny_holding ?_
  first | refine wpAny_bind (wpAny_pure ?_) | skip
  refine wpAny_bind (wpAny_sequenceKey ht.typeIs (by decide) ?_)
  refine wpAny_bind (wpAny_callSpecial?_slot (name := Str.ofString "__getitem__") ht.typeIs PyProof.Rows.slot_tuple_getitem
    (wpAny_call_entry PyProof.Rows.slot_tuple_getitem ht.typeIs entry_tuple_getitem ?_ (args_tuple_getitem _ _)))
  show wpAny _ _ (Builtin.Tuple.tupleItemsOf (.ref t) >>= _) _ _ s
  refine wpAny_bind (tupleItemsOf_ ht ?_)
  refine wpAny_bind (wpAny_typeOf hTs ?_)
  rw [if_pos (by decide)]
  have app : ∀ {A : Around} {E : Value → Shared → Prop} {Q' : Int × Int × Nat → Shared → Prop}, Q' ((items.size : Int) - 1, -1, items.size) s → wpAny (model prog w) A (Builtin.Slice.sliceApplied (.ref sl) (pure (items.size : Int))) Q' E s := fun {A E Q'} h' => by
    unfold Builtin.Slice.sliceApplied Builtin.Slice.sliceFields
    refine wpAny_bind (wpAny_bind (wpAny_field hos hds (x := .none) rfl (wpAny_bind (wpAny_field hos hds (x := .none) rfl (wpAny_bind (wpAny_field hos hds (x := vs) rfl (wpAny_pure ?_)))))))
    refine wpAny_bind (slicePart_ ps ?_)
    show wpAny _ _ (if ((-1 : Int) == 0) = true then _ else _) _ _ s
    rw [if_neg (by decide)]
    refine wpAny_bind (slicePart_none (wpAny_bind (slicePart_none (wpAny_bind (wpAny_pure ?_)))))
    show wpAny _ _ (pure ((items.size : Int) - 1, (-1 : Int), Builtin.Slice.slicePlaces ((items.size : Int) - 1) (-1) (-1))) _ _ s
    rw [places_rev]
    exact wpAny_pure h'
  refine wpAny_bind (app ?_)
  have hno : ¬ ((((items.size : Int) - 1 == 0) && (-1 : Int) == 1 && items.size == items.size) = true) := by
    intro q
    rw [Bool.and_eq_true, Bool.and_eq_true] at q
    exact absurd q.1.2 (by decide)
  show wpAny _ _ (if (((items.size : Int) - 1 == 0) && (-1 : Int) == 1 && items.size == items.size) = true then _ else _) _ _ s
  rw [if_neg hno, pick_rev]
  first
    | exact wpAny_bind (m := Builtin.Tuple.tupleExact _) (wpAny_newObj_type (wpAny_pure ⟨_, rfl, wpAny_pure h⟩) hrev)
    | exact wpAny_bind (m := Builtin.Tuple.tupleExact _) (wpAny_newObj_type (wpAny_bind (wpAny_pure (wpAny_pure ⟨_, rfl, wpAny_pure h⟩))) hrev)
    | exact wpAny_bind (wpAny_bind (m := Builtin.Tuple.tupleExact _) (wpAny_newObj_type (wpAny_pure (wpAny_pure ⟨_, rfl, wpAny_pure h⟩)) hrev))
    | exact wpAny_bind (wpAny_bind (m := Builtin.Tuple.tupleExact _) (wpAny_newObj_type (wpAny_pure ⟨_, rfl, wpAny_pure h⟩) hrev))
end
end HT
/-! VE14: the rules of VE13's operations; isinstance; membership; chains; displays of dicts. -/
namespace VE
open PySem PySem.Spec PyProof.Rows L2
section
variable {X : Cx} {S : Set_} {a b c : Expr} {oa ob oc : Opd} {pos : Pos} {G H : Hp}
/-! ### a[::-1] -/
def rRev (K : Frag) : V → Hp → VK → Prop := fun x H Q => ∃ a xs, x = .ref a ∧ ((SqL K H a xs ∧ ∀ p, H p = none → Q (.ref p) (upd H p (.lst xs.reverse))) ∨ (SqT K H a xs ∧ ∀ p, H p = none → Q (.ref p) (upd H p (.tup xs.reverse))))
theorem pe_rev {e : Expr} {te : TE} {k : Nat} {p1 p2 p3 : Pos} (he : PE X e te) : PE X (.Subscript e (.Slice none none (some (.UnaryOp .USub (.Constant (.int 1) k p1) p2)) p3) pos) (tUn (rRev X.K) te) := by
  refine ⟨fun pins s σ H Q I h => ?_⟩
  refine Subscript_ (thn (he.run pins s σ H _ I h) fun v s1 ⟨x, H1, I1, r1, q1⟩ => ?_)
  obtain ⟨a, xs, rfl, hx⟩ := q1
  cases r1
  have hst : PO X (some (.UnaryOp .USub (.Constant (.int 1) k p1) p2)) (tPart (tUn (rU fun i => .int (-i)) (tC (.int 1)))) := po_some (pe_un un_neg pe_int)
  refine wpAny_Slice (thn (po_none.run pins s1 σ H1 (fun o H2 => o = none ∧ H2 = H1) I1 ⟨rfl, rfl⟩) fun vl s2 ⟨l, H2, I2, pl, el, e2⟩ => ?_)
  subst el e2
  refine thn (po_none.run pins s2 σ H2 (fun o H3 => o = none ∧ H3 = H2) I2 ⟨rfl, rfl⟩) fun vu s3 ⟨u, H3, I3, pu, eu, e3⟩ => ?_
  subst eu e3
  refine thn (hst.run pins s3 σ H3 (fun o H4 => o = some (-1) ∧ H4 = H3) I3 ⟨1, rfl, -1, rfl, rfl, rfl⟩) fun vs s4 ⟨o, H4, I4, ps, eo, e4⟩ => ?_
  subst eo e4
  have I5 : Inv X pins σ H4 { s4 with heap := s4.heap.push { cls := .type "slice", data := .fields #[vl, vu, vs] } } := I4.kept (t' := s4.toks) fun b ob q => Heap.get?_push_of_some _ q
  rcases hx with ⟨hx, q⟩ | ⟨hx, q⟩
  · obtain ⟨its, r, ht, hz⟩ := I5.list hx
    have hlen := r.length
    refine tail_any (ops := [.ref a, .ref s4.heap.objs.size]) ht.isList.typeIs (PySem.slot_list_getitem.lookup) ?_ (by with_unfolding_all rfl)
    refine wpAny_getItem_list_slice ht.isList (Heap.IsSliceOf.new _ vl vu vs) pl pu ps (by decide) ?_ (by rw [List.size_toArray]; omega)
    rw [PySem.W.krv_pick]
    refine ⟨.ref _, _, I5.laid (t' := s4.toks) (o := .lst xs.reverse) (fun b ob q => Heap.get?_push_of_some _ q) (Nat.le_refl _) ?_, rfl, q _ (I5.hok.fresh (Nat.le_refl _))⟩
    exact ⟨by rw [List.length_reverse]; exact hz, _, 0, r.reverse, Heap.get?_push_size _ rfl⟩
  · obtain ⟨its, r, ht, hz⟩ := I5.tuple hx
    have hlen := r.length
    cases pl
    cases pu
    refine tail_any (ops := [.ref a, .ref s4.heap.objs.size]) ht.typeIs PyProof.Rows.slot_tuple_getitem.lookup ?_ (by with_unfolding_all rfl)
    refine HT.getItem_tuple_rev ht (Heap.IsSliceOf.new _ _ _ vs) ps ?_ (by rw [List.size_toArray]; omega)
    refine ⟨.ref _, _, I5.laid (t' := s4.toks) (o := .tup xs.reverse) (fun b ob q => Heap.get?_push_of_some _ q) (Nat.le_refl _) ?_, rfl, q _ (I5.hok.fresh (Nat.le_refl _))⟩
    exact ⟨by rw [List.length_reverse]; exact hz, _, r.reverse, IsTup.new _ _⟩
def dRev : List D → Option D
  | [.lst _ a] => some (.lst true a.reverse)
  | [.rol a] => some (.lst true a.reverse)
  | [.tup a] => some (.tup a.reverse)
  | _ => none
theorem od_rev : OpD S dRev (r1 (rRev S.K)) := by
  intro G H ds vs d Q rd vl e k
  unfold dRev at e
  split at e
  · cases (Option.some.inj e : _ = d)
    obtain ⟨v, F, rfl, a⟩ := vw1 vl
    obtain ⟨p, xs, rfl, s, l⟩ := a.lst_inv rd
    exact ⟨_, rfl, p, xs, rfl, .inl ⟨.inl s, give_lst rd k l.reverse⟩⟩
  · cases (Option.some.inj e : _ = d)
    obtain ⟨v, F, rfl, a⟩ := vw1 vl
    obtain ⟨p, xs, rfl, s, l⟩ := a.rol_inv rd
    exact ⟨_, rfl, p, xs, rfl, .inl ⟨s, give_lst rd k l.reverse⟩⟩
  · cases (Option.some.inj e : _ = d)
    obtain ⟨v, F, rfl, a⟩ := vw1 vl
    obtain ⟨p, xs, rfl, s, l, _⟩ := a.tup_inv rd
    exact ⟨_, rfl, p, xs, rfl, .inr ⟨s, give_tup rd k l.reverse⟩⟩
  · cases e
theorem pe_revD {k : Nat} {p1 p2 p3 : Pos} (hK : S.K = X.K) (ha : PE X a (tO S oa)) : PE X (.Subscript a (.Slice none none (some (.UnaryOp .USub (.Constant (.int 1) k p1) p2)) p3) pos) (rE S (ops [oa] dRev)) :=
  pe_imp (pe_rev ha) fun σ H Q q => tO_mono (fun _ _ ⟨x', e, h⟩ => by cases e; rw [← hK]; exact h) (rO1 (ops_imp od_rev σ H Q q))
/-! ### tuple(range(..)), list(range(..)) -/
def rgD (a b : Int) : List D := (List.range (b - a).toNat).map fun i => D.int (a + (i : Nat))
theorem fz_rg (K : Frag) (cm : Str → Addr) (G : Hp) (a b : Int) : FzL K cm G (rgD a b) (rgV a b) := by
  unfold rgD rgV
  generalize List.range (b - a).toNat = l
  induction l with
  | nil => exact .nil
  | cons x r ih => exact .cons (.int _) ih
instance (a b : Int) : Decidable (RgOk a b) := by unfold RgOk; infer_instance
def rgB (ds : List D) : Option (Int × Int) := match ds with
  | [.int b] => some (0, b)
  | [.int a, .int b] => some (a, b)
  | _ => none
def dTupRg : List D → Option D := fun ds => (rgB ds).bind fun p => if RgOk p.1 p.2 then some (.tup (rgD p.1 p.2)) else none
def dLstRg : List D → Option D := fun ds => (rgB ds).bind fun p => if RgOk p.1 p.2 then some (.lst true (rgD p.1 p.2)) else none
def rRg (f : List V → HO) : List V → Hp → VK → Prop := fun vs H Q => ∃ a b, ((vs = [.int b] ∧ a = 0) ∨ vs = [.int a, .int b]) ∧ RgOk a b ∧ ∀ q, H q = none → Q (.ref q) (upd H q (f (rgV a b)))
theorem rgB_v {ds : List D} {vs : List V} {p : Int × Int} (vl : VwL S.K S.cm G H ds vs) (e : rgB ds = some p) : (vs = [.int p.2] ∧ p.1 = 0) ∨ vs = [.int p.1, .int p.2] := by
  unfold rgB at e
  split at e
  · cases e
    obtain ⟨v, F, rfl, a⟩ := vw1 vl
    obtain ⟨rfl, _⟩ := a.int_inv
    exact .inl ⟨rfl, rfl⟩
  · cases e
    obtain ⟨v, w, F, F', rfl, a, b⟩ := vw2 vl
    obtain ⟨rfl, _⟩ := a.int_inv
    obtain ⟨rfl, _⟩ := b.int_inv
    exact .inr rfl
  · cases e
theorem od_tupRg : OpD S dTupRg (rRg .tup) := by
  intro G H ds vs d Q rd vl e k
  obtain ⟨p, hp, e⟩ := Option.bind_eq_some_iff.mp e
  split at e
  · cases (Option.some.inj e : _ = d)
    exact ⟨p.1, p.2, rgB_v vl hp, by assumption, give_tup rd k (fz_rg ..)⟩
  · cases e
theorem od_lstRg : OpD S dLstRg (rRg .lst) := by
  intro G H ds vs d Q rd vl e k
  obtain ⟨p, hp, e⟩ := Option.bind_eq_some_iff.mp e
  split at e
  · cases (Option.some.inj e : _ = d)
    exact ⟨p.1, p.2, rgB_v vl hp, by assumption, give_lst rd k (fz_rg ..)⟩
  · cases e
theorem rg1 {f : List V → HO} {σ : L2.St} {Q : VK} (q : rO S [oa] σ H fun vs H1 => rRg f vs H1 Q) : tRg1 (tO S oa) σ H fun a b H1 => RgOk a b ∧ ∀ q, H1 q = none → Q (.ref q) (upd H1 q (f (rgV a b))) :=
  tO_mono (fun x H1 ⟨a, b, h, ok, q⟩ => by
    rcases h with ⟨h, rfl⟩ | h
    · cases h; exact ⟨b, rfl, ok, q⟩
    · cases h) (rO1 q)
theorem rg2 {f : List V → HO} {σ : L2.St} {Q : VK} (q : rO S [oa, ob] σ H fun vs H1 => rRg f vs H1 Q) : tRg2 (tO S oa) (tO S ob) σ H fun a b H1 => RgOk a b ∧ ∀ q, H1 q = none → Q (.ref q) (upd H1 q (f (rgV a b))) :=
  tO_mono (fun x H1 q1 => tO_mono (fun y H2 ⟨a, b, h, ok, q2⟩ => by
    rcases h with ⟨h, rfl⟩ | h
    · cases h
    · cases h; exact ⟨a, b, rfl, rfl, ok, q2⟩) q1) (rO2 q)
section
variable {p p2 : Pos} {rpos : Pos}
theorem pe_tupRg1 (hc : X.calm = true) (hg : Gl X "tuple") (hm : X.mg "tuple" = none) (hgr : Gl X "range") (hmr : X.mg "range" = none) (ha : PE X a (tO S oa)) (na : starEach [a] X.env = (false, eval a X.env) :: starEach [] X.env)
    (nb : starEach [.Call (.Name "range" p2) [a] [] rpos] X.env = (false, eval (.Call (.Name "range" p2) [a] [] rpos) X.env) :: starEach [] X.env) :
    PE X (.Call (.Name "tuple" p) [.Call (.Name "range" p2) [a] [] rpos] [] pos) (rE S (ops [oa] dTupRg)) :=
  pe_imp (L2.pe_tupRg hc hg hm (prg_1 hgr hmr ha na) nb) fun σ H Q q => rg1 (f := .tup) (ops_imp od_tupRg σ H Q q)
theorem pe_lstRg1 (hc : X.calm = true) (hg : Gl X "list") (hm : X.mg "list" = none) (hgr : Gl X "range") (hmr : X.mg "range" = none) (ha : PE X a (tO S oa)) (na : starEach [a] X.env = (false, eval a X.env) :: starEach [] X.env)
    (nb : starEach [.Call (.Name "range" p2) [a] [] rpos] X.env = (false, eval (.Call (.Name "range" p2) [a] [] rpos) X.env) :: starEach [] X.env) :
    PE X (.Call (.Name "list" p) [.Call (.Name "range" p2) [a] [] rpos] [] pos) (rE S (ops [oa] dLstRg)) :=
  pe_imp (L2.pe_listRg hc hg hm (prg_1 hgr hmr ha na) nb) fun σ H Q q => rg1 (f := .lst) (ops_imp od_lstRg σ H Q q)
theorem pe_tupRg2 (hc : X.calm = true) (hg : Gl X "tuple") (hm : X.mg "tuple" = none) (hgr : Gl X "range") (hmr : X.mg "range" = none) (ha : PE X a (tO S oa)) (hb : PE X b (tO S ob)) (na : starEach [a, b] X.env = (false, eval a X.env) :: starEach [b] X.env)
    (na2 : starEach [b] X.env = (false, eval b X.env) :: starEach [] X.env) (hp : (backTo rpos (starEach [b] X.env)).any (·.1) = false)
    (nb : starEach [.Call (.Name "range" p2) [a, b] [] rpos] X.env = (false, eval (.Call (.Name "range" p2) [a, b] [] rpos) X.env) :: starEach [] X.env) :
    PE X (.Call (.Name "tuple" p) [.Call (.Name "range" p2) [a, b] [] rpos] [] pos) (rE S (ops [oa, ob] dTupRg)) :=
  pe_imp (L2.pe_tupRg hc hg hm (prg_2 hgr hmr ha hb na na2 hp) nb) fun σ H Q q => rg2 (f := .tup) (ops_imp od_tupRg σ H Q q)
theorem pe_lstRg2 (hc : X.calm = true) (hg : Gl X "list") (hm : X.mg "list" = none) (hgr : Gl X "range") (hmr : X.mg "range" = none) (ha : PE X a (tO S oa)) (hb : PE X b (tO S ob)) (na : starEach [a, b] X.env = (false, eval a X.env) :: starEach [b] X.env)
    (na2 : starEach [b] X.env = (false, eval b X.env) :: starEach [] X.env) (hp : (backTo rpos (starEach [b] X.env)).any (·.1) = false)
    (nb : starEach [.Call (.Name "range" p2) [a, b] [] rpos] X.env = (false, eval (.Call (.Name "range" p2) [a, b] [] rpos) X.env) :: starEach [] X.env) :
    PE X (.Call (.Name "list" p) [.Call (.Name "range" p2) [a, b] [] rpos] [] pos) (rE S (ops [oa, ob] dLstRg)) :=
  pe_imp (L2.pe_listRg hc hg hm (prg_2 hgr hmr ha hb na na2 hp) nb) fun σ H Q q => rg2 (f := .lst) (ops_imp od_lstRg σ H Q q)
end
/-! ### isinstance(x, T), T a built-in type -/
def tyN : D → Option String
  | .non => some "NoneType"
  | .bl _ => some "bool"
  | .int _ => some "int"
  | .str _ => some "str"
  | .tup _ => some "tuple"
  | .lst _ _ => some "list"
  | .rol _ => some "list"
  | .dk _ _ _ => some "dict"
  | _ => none
def dIsi (T : String) : List D → Option D
  | [d] => (tyN d).bind fun t => (kitB t T).map D.bl
  | _ => none
theorem sqT_ty {K : Frag} {H : Hp} {a : Addr} {xs : List V} (h : SqT K H a xs) : TyX K H (.ref a) (.type "tuple") := by
  rcases h with (h | ⟨o, h⟩) | ⟨o, its, n, h1, h2, _⟩
  · exact .base (.tup h)
  · exact .fTuple h
  · exact .kTuple h1 h2
theorem sqL_ty {K : Frag} {H : Hp} {a : Addr} {xs : List V} (h : SqL K H a xs) : TyX K H (.ref a) (.type "list") := by
  rcases h with (h | ⟨o, h⟩) | ⟨o, its, n, h1, h2, _⟩
  · exact .base (.lst h)
  · exact .base (.frz h)
  · exact .kList h1 h2
theorem tyN_ok {K : Frag} {cm : Str → Addr} {d : D} {v : V} {F : List Addr} {t : String} (o : Ow K cm G H d v F) (rd : RdS G H) (h : tyN d = some t) : TyX K H v (.type t) := by
  cases d with
  | non => cases h; obtain ⟨rfl, _⟩ := o.non_inv; exact .base .non
  | bl b => cases h; obtain ⟨rfl, _⟩ := o.bl_inv; exact .base (.bl b)
  | int b => cases h; obtain ⟨rfl, _⟩ := o.int_inv; exact .base (.int b)
  | str b => cases h; obtain ⟨rfl, _⟩ := o.str_inv; exact .base (.str b)
  | tup xs => cases h; obtain ⟨p, ys, rfl, s, _⟩ := o.tup_inv rd; exact sqT_ty s
  | lst o' xs => cases h; obtain ⟨p, ys, rfl, s, _⟩ := o.lst_inv rd; exact sqL_ty (.inl s)
  | rol xs => cases h; obtain ⟨p, ys, rfl, s, _⟩ := o.rol_inv rd; exact sqL_ty s
  | dk o' ks xs =>
    cases h
    cases o with
    | fz z =>
      cases z with
      | dk r n l =>
        rcases rd.rd r with q | ⟨ob, q⟩
        · exact .base (.dK q)
        · exact .fDict q
    | dk e n l => exact .base (.dK e)
  | dt _ _ _ => cases h
  | tux _ => cases h
  | ins _ _ _ _ => cases h
theorem pe_isiD {T : Str} {ts : String} {p p2 : Pos} (hg : Gl X "isinstance") (hm : X.mg "isinstance" = none) (hgT : Gl X T) (hmT : X.mg T = none) (hvT : bootBuiltins T = some (.type ts)) (hnT : T ≠ "__name__") (hdT : (T == ("__debug__" : Str)) = false)
    (ha : PE X a (tO S oa)) (hK : S.K = X.K) (he : starEach [a, .Name T p2] X.env = (false, eval a X.env) :: starEach [.Name T p2] X.env) (he2 : starEach [.Name T p2] X.env = (false, eval (.Name T p2) X.env) :: starEach [] X.env)
    (hpl : (backTo pos (starEach [.Name T p2] X.env)).any (·.1) = false) :
    PE X (.Call (.Name "isinstance" p) [a, .Name T p2] [] pos) (rE S (ops [oa] (dIsi ts))) := by
  have od : OpD S (dIsi ts) (fun vs H Q => ∃ x, vs = [x] ∧ rIsi S.K [x, .ty ts] H Q) := by
    intro G H ds vs d Q rd vl e k
    unfold dIsi at e
    split at e
    · obtain ⟨t, ht, e⟩ := Option.bind_eq_some_iff.mp e
      obtain ⟨r, hr, rfl⟩ := Option.map_eq_some_iff.mp e
      obtain ⟨v, F, rfl, a⟩ := vw1 vl
      exact ⟨v, rfl, v, .ty ts, .type t, .type ts, r, rfl, .ty ts, tyN_ok a rd ht, kit_ty hr, give rd k (.bl r)⟩
    · cases e
  refine pe_imp (pe_callB call_isi hg hm (by decide +kernel) (pa_cons ha (pa_cons (pe_bltn (v := V.ty ts) hgT hmT hvT rfl hnT hdT) pa_nil he2) he) (by decide) (by decide) he hpl) fun σ H Q q => ?_
  exact tO_mono (fun x H1 ⟨x', e, h⟩ => by cases e; rw [← hK]; exact h) (rO1 (ops_imp od σ H Q q))
/-! ### x in xs -/
def scaD : D → Option V
  | .non => some .non
  | .bl b => some (.bl b)
  | .int i => some (.int i)
  | .str x => some (.str x)
  | _ => none
def scaL : List D → Option (List V)
  | [] => some []
  | d :: r => match scaD d, scaL r with
    | some v, some vs => some (v :: vs)
    | _, _ => none
theorem scaD_v {K : Frag} {cm : Str → Addr} {d : D} {v w : V} {F : List Addr} (o : Ow K cm G H d v F) (h : scaD d = some w) : v = w ∧ flatV v = true := by
  cases d with
  | non => cases h; obtain ⟨rfl, _⟩ := o.non_inv; exact ⟨rfl, rfl⟩
  | bl b => cases h; obtain ⟨rfl, _⟩ := o.bl_inv; exact ⟨rfl, rfl⟩
  | int b => cases h; obtain ⟨rfl, _⟩ := o.int_inv; exact ⟨rfl, rfl⟩
  | str b => cases h; obtain ⟨rfl, _⟩ := o.str_inv; exact ⟨rfl, rfl⟩
  | _ => cases h
theorem scaL_v {K : Frag} {cm : Str → Addr} : ∀ {ds : List D} {vs ws : List V}, FzL K cm G ds vs → scaL ds = some ws → vs = ws ∧ vs.all flatV = true
  | [], _, _, .nil, h => by cases h; exact ⟨rfl, rfl⟩
  | d :: ds, _, _, .cons z l, h => by
    simp only [scaL] at h
    split at h
    · rename_i v vs' h1 h2
      cases h
      obtain ⟨rfl, f1⟩ := scaD_v (H := G) (.fz z) h1
      obtain ⟨rfl, f2⟩ := scaL_v l h2
      exact ⟨rfl, by rw [List.all_cons, f1, f2] <;> rfl⟩
    · cases h
def dIn (neg : Bool) : List D → Option D
  | [x, .lst _ a] => (scaD x).bind fun v => (scaL a).map fun vs => .bl (if neg then !inV v vs else inV v vs)
  | [x, .rol a] => (scaD x).bind fun v => (scaL a).map fun vs => .bl (if neg then !inV v vs else inV v vs)
  | [x, .tup a] => (scaD x).bind fun v => (scaL a).map fun vs => .bl (if neg then !inV v vs else inV v vs)
  | _ => none
theorem od_in {neg : Bool} : OpD S (dIn neg) (r2 (rIn S.K neg)) := by
  intro G H ds vs d Q rd vl e k
  unfold dIn at e
  split at e
  all_goals try (cases e; done)
  all_goals
    obtain ⟨v, hv, e⟩ := Option.bind_eq_some_iff.mp e
    obtain ⟨ws, hw, rfl⟩ := Option.map_eq_some_iff.mp e
    obtain ⟨x, y, F, F', rfl, o1, o2⟩ := vw2 vl
    obtain ⟨rfl, f1⟩ := scaD_v o1 hv
  · obtain ⟨p, xs, rfl, s, l⟩ := o2.lst_inv rd
    obtain ⟨rfl, f2⟩ := scaL_v l hw
    exact ⟨_, _, rfl, p, _, rfl, .inl (.inl s), f1, f2, give rd k (.bl _)⟩
  · obtain ⟨p, xs, rfl, s, l⟩ := o2.rol_inv rd
    obtain ⟨rfl, f2⟩ := scaL_v l hw
    exact ⟨_, _, rfl, p, _, rfl, .inl s, f1, f2, give rd k (.bl _)⟩
  · obtain ⟨p, xs, rfl, s, l, _⟩ := o2.tup_inv rd
    obtain ⟨rfl, f2⟩ := scaL_v l hw
    exact ⟨_, _, rfl, p, _, rfl, .inr s, f1, f2, give rd k (.bl _)⟩
end
end VE
/-! VE15: several values at once, each with what it owns; parallel stores; displays of dicts; chains. -/
namespace VE
open PySem PySem.Spec PyProof.Rows L2
/-- values from the left -/
def evM : List M → ML
  | [], ρ => .ok [] ρ
  | m :: r, ρ => match m ρ with
    | .ok d ρ1 => (match evM r ρ1 with
      | .ok ds ρ2 => .ok (d :: ds) ρ2
      | .exc c x ρ' => .exc c x ρ'
      | .bad => .bad)
    | .exc c x ρ' => .exc c x ρ'
    | .bad => .bad
def PostM (K : Frag) (cm : Str → Addr) (fx : Fix) (G H : Hp) (F : List Addr) (σ : L2.St) (ρ' : Env) (ds : List D) (vs : List V) (H' : Hp) : Prop :=
  ∃ G' F' Fv, Tr G H F G' H' (F' ++ Fv) ∧ SR K cm fx G' H' σ ρ' F' ∧ OwL K cm G' H' ds vs Fv ∧ (F' ++ Fv).Nodup ∧ ∀ a ∈ Fv, G' a = none
def rM (S : Set_) (ms : List M) : TA := fun σ H Q => ∃ G ρ F, SR S.K S.cm S.fx G H σ ρ F ∧ match evM ms ρ with
  | .ok ds ρ' => ∀ vs H', PostM S.K S.cm S.fx G H F σ ρ' ds vs H' → Q vs H'
  | .exc c x ρ' => XOk S G H F σ c x ρ'
  | .bad => False
section
variable {X : Cx} {S : Set_} {K : Frag} {cm : Str → Addr} {fx : Fix} {G H G1 H1 G2 H2 : Hp} {F F1 F2 Fv Fw : List Addr} {σ : L2.St} {ρ ρ1 : Env}
/-- what is held over a further part -/
theorem hold {d : D} {v : V} (t1 : Tr G H F G1 H1 (F1 ++ Fv)) (o : Ow K cm G1 H1 d v Fv) (nd : (F1 ++ Fv).Nodup) (dj : ∀ a ∈ Fv, G1 a = none) (t2 : Tr G1 H1 F1 G2 H2 (F2 ++ Fw)) (nd2 : (F2 ++ Fw).Nodup) (dj2 : ∀ a ∈ Fw, G2 a = none) :
    Tr G H F G2 H2 (F2 ++ (Fv ++ Fw)) ∧ Ow K cm G2 H2 d v Fv ∧ (F2 ++ (Fv ++ Fw)).Nodup ∧ ∀ a ∈ Fv ++ Fw, G2 a = none := by
  have n1 := List.nodup_append.mp nd
  have n2 := List.nodup_append.mp nd2
  have notF : ∀ a ∈ Fv, a ∉ F1 := fun a ha h => n1.2.2 a h a ha rfl
  have ap : ∀ a ∈ Fv, a ∉ F2 ++ Fw ∧ G2 a = none := fun a ha => t2.apart (notF a ha) (o.there a ha) (dj a ha)
  refine ⟨t1.trans ((t2.frame fun a ha => o.there a ha).sub fun a ha => ?_), o.mono t2.g fun a ha u e => t2.h a u (notF a ha) e, ?_, fun a ha => ?_⟩
  · simp only [List.mem_append] at ha ⊢
    rcases ha with h | h | h
    · exact .inl (.inl h)
    · exact .inr h
    · exact .inl (.inr h)
  · refine List.nodup_append.mpr ⟨n2.1, List.nodup_append.mpr ⟨n1.2.1, n2.2.1, fun a ha b hb e => ?_⟩, fun a ha b hb e => ?_⟩
    · subst e; exact (ap a ha).1 (by simp [hb])
    · subst e
      rcases List.mem_append.mp hb with hb | hb
      · exact (ap a hb).1 (by simp [ha])
      · exact n2.2.2 a ha a hb rfl
  · rcases List.mem_append.mp ha with h | h
    · exact (ap a h).2
    · exact dj2 a h
theorem rM_nil {Q : List V → Hp → Prop} (q : rM S [] σ H Q) : Q [] H := by
  obtain ⟨G, ρ, F, s, q⟩ := q
  exact q [] H ⟨G, F, [], by simpa using Tr.refl, s, .nil, by simpa using s.nd, fun a ha => by cases ha⟩
theorem rM_cons {m : M} {ms : List M} {Q : List V → Hp → Prop} (q : rM S (m :: ms) σ H Q) : rE S m σ H fun v H1 => rM S ms σ H1 fun vs H2 => Q (v :: vs) H2 := by
  obtain ⟨G, ρ, F, s, q⟩ := q
  refine ⟨G, ρ, F, s, ?_⟩
  unfold evM at q
  cases e : m ρ with
  | bad => rw [e] at q; exact q
  | exc c x ρ' => rw [e] at q; exact q
  | ok d ρ1 =>
    rw [e] at q
    dsimp only at q ⊢
    intro v H1 ⟨G1, F1, Fv, t1, s1, o, nd, dj⟩
    refine ⟨G1, ρ1, F1, s1, ?_⟩
    cases e2 : evM ms ρ1 with
    | bad => rw [e2] at q; exact q
    | exc c x ρ' =>
      rw [e2] at q
      exact XOk.trans (t1.sub fun a ha => by simp [ha]) q
    | ok ds ρ2 =>
      rw [e2] at q
      dsimp only at q ⊢
      intro vs H2 ⟨G2, F2, Fw, t2, s2, ol, nd2, dj2⟩
      obtain ⟨t3, o3, nd3, dj3⟩ := hold t1 o nd dj t2 nd2 dj2
      exact q _ _ ⟨G2, F2, Fv ++ Fw, t3, s2, .cons o3 ol, nd3, dj3⟩
/-- a store into a slot -/
theorem SR.put {d : D} {v : V} {Fr : List Addr} (s : SR K cm fx G H σ ρ F) (o : Ow K cm G H d v Fv) (nd : (F ++ (Fv ++ Fr)).Nodup) (dj : ∀ a ∈ Fv, G a = none) {i : Nat} (hi : i < ρ.length) (hf : ∀ q ∈ fx, q.1 ≠ i) :
    ∃ F', SR K cm fx G H (σ.set i (some v)) (ρ.set i (some d)) F' ∧ (∀ a ∈ F', a ∈ F ++ Fv) ∧ (F' ++ Fr).Nodup := by
  obtain ⟨y, Fa, F1, Fb, h1, h2, eF, up⟩ := s.sl.split i (x := ρ[i]) (by simp [hi])
  have sl := up G H (some d) (some v) Fv (GLe.refl _) (fun _ _ _ h => h) ⟨v, rfl, o⟩
  subst eF
  have sub : List.Perm (Fa ++ (Fv ++ Fb) ++ Fr) (Fa ++ Fb ++ (Fv ++ Fr)) := by
    have p1 : (Fv ++ Fb).Perm (Fb ++ Fv) := List.perm_append_comm
    have p2 : (Fa ++ (Fv ++ Fb) ++ Fr).Perm (Fa ++ (Fb ++ Fv) ++ Fr) := List.Perm.append_right Fr (List.Perm.append_left Fa p1)
    refine p2.trans ?_
    simp [List.append_assoc]
  have sub2 : (Fa ++ Fb ++ (Fv ++ Fr)).Sublist (Fa ++ (F1 ++ Fb) ++ (Fv ++ Fr)) :=
    List.Sublist.append (List.Sublist.append (List.Sublist.refl Fa) (List.sublist_append_right F1 Fb)) (List.Sublist.refl _)
  have ndall : (Fa ++ (Fv ++ Fb) ++ Fr).Nodup := sub.nodup_iff.mpr (sub2.nodup nd)
  refine ⟨Fa ++ (Fv ++ Fb), ⟨s.rd, (List.nodup_append.mp ndall).1, fun a ha => ?_, sl, fun q hq => ?_⟩, fun a ha => ?_, ndall⟩
  · simp only [List.mem_append] at ha
    rcases ha with ha | ha | ha
    · exact s.dj a (by simp [ha])
    · exact dj a ha
    · exact s.dj a (by simp [ha])
  · rw [List.getElem?_set_ne (Ne.symm (hf q hq))]
    exact s.fx q hq
  · simp only [List.mem_append] at ha ⊢
    rcases ha with ha | ha | ha
    · exact .inl (.inl ha)
    · exact .inr ha
    · exact .inl (.inr (.inr ha))
/-! ### x, y = a, b -/
def putS : List Nat → List D → Env → Option Env
  | [], [], ρ => some ρ
  | i :: is, d :: ds, ρ => if i < ρ.length then putS is ds (ρ.set i (some d)) else none
  | _, _, _ => none
def setS : List Nat → List V → L2.St → L2.St
  | i :: is, v :: vs, σ => setS is vs (σ.set i (some v))
  | _, _, σ => σ
theorem putS_ok : ∀ {is : List Nat} {ds : List D} {vs : List V} {ρ ρ' : Env} {σ : L2.St} {F Fv : List Addr}, SR K cm fx G H σ ρ F → OwL K cm G H ds vs Fv → (F ++ Fv).Nodup → (∀ a ∈ Fv, G a = none) → (∀ i ∈ is, ∀ q ∈ fx, q.1 ≠ i) → putS is ds ρ = some ρ' →
    ∃ F', SR K cm fx G H (setS is vs σ) ρ' F' ∧ ∀ a ∈ F', a ∈ F ++ Fv
  | [], [], _, ρ, ρ', σ, F, _, s, .nil, nd, dj, hf, e => by
    cases (Option.some.inj e)
    exact ⟨F, s, fun a ha => by simp [ha]⟩
  | i :: is, d :: ds, _, ρ, ρ', σ, F, _, s, .cons (F1 := Fa) (F2 := Fb) (v := v) (vs := vs) o l, nd, dj, hf, e => by
    unfold putS at e
    split at e
    case isFalse => cases e
    case isTrue hi =>
    obtain ⟨F1, s1, mem, nd1⟩ := s.put o nd (fun a ha => dj a (by simp [ha])) hi (hf i (by simp))
    obtain ⟨F', s', mem'⟩ := putS_ok s1 l nd1 (fun a ha => dj a (by simp [ha])) (fun j hj => hf j (by simp [hj])) e
    refine ⟨F', s', fun a ha => ?_⟩
    rcases List.mem_append.mp (mem' a ha) with h | h
    · have := mem a h
      simp only [List.mem_append] at this ⊢
      rcases this with h | h
      · exact .inl h
      · exact .inr (.inl h)
    · simp [h]
  | [], _ :: _, _, _, _, _, _, _, _, _, _, _, _, e => by cases e
  | _ :: _, [], _, _, _, _, _, _, _, _, _, _, _, e => by cases e
/-- names = values, each its own -/
def sPar (is : List Nat) (ms : List M) : MS := fun ρ => match evM ms ρ with
  | .ok ds ρ1 => (match putS is ds ρ1 with
    | some ρ2 => .nx ρ2
    | none => .bad)
  | .exc c x ρ' => .exc c x ρ'
  | .bad => .bad
theorem par_imp {is : List Nat} {ms : List M} {De : Ends} (hf : ∀ i ∈ is, ∀ q ∈ S.fx, q.1 ≠ i) (q : rS S (sPar is ms) De σ H) : rM S ms σ H fun vs H1 => vs.length = is.length → De.nx (setS is vs σ) H1 := by
  obtain ⟨G, ρ, F, s, w⟩ := q
  refine ⟨G, ρ, F, s, ?_⟩
  unfold sPar at w
  cases e : evM ms ρ with
  | bad => rw [e] at w; exact w
  | exc c x ρ' => rw [e] at w; exact fun dd H' p => w σ dd H' p
  | ok ds ρ1 =>
    rw [e] at w
    dsimp only at w ⊢
    intro vs H1 ⟨G1, F1, Fv, t1, s1, ol, nd, dj⟩ hl
    cases e2 : putS is ds ρ1 with
    | none => rw [e2] at w; exact w.elim
    | some ρ2 =>
      rw [e2] at w
      dsimp only at w
      obtain ⟨F2, s2, mem⟩ := putS_ok s1 ol nd dj hf e2
      exact w _ _ ⟨G1, F2, t1.sub mem, s2⟩
theorem ps_par2D {i j : Nat} {x y : Str} {a b : Expr} {m1 m2 : M} {px py pt pos : Pos} {kt k2 : Nat} {pt2 : Pos} (hc : X.calm = true) (hN : X.N.Nodup) (hi : X.N[i]? = some x) (hj : X.N[j]? = some y) (hij : i ≠ j)
    (hx : X.env.scope.names.lookup x = some .local) (hy : X.env.scope.names.lookup y = some .local) (ha : PE X a (rE S m1)) (hb : PE X b (rE S m2)) (he1 : starEach [a, b] X.env = (false, eval a X.env) :: starEach [b] X.env) (he2 : starEach [b] X.env = (false, eval b X.env) :: starEach [] X.env)
    (hw : swappedStores [.Tuple [.Name x px, .Name y py] kt pt] (.Tuple [a, b] k2 pt2) X.env = pure (some [x, y])) (hs : swapsWithSole [.Tuple [.Name x px, .Name y py] kt pt] (.Tuple [a, b] k2 pt2) pos.line X.env = pure false)
    (hf : ∀ n ∈ [i, j], ∀ q ∈ S.fx, q.1 ≠ n) : PS X (.Assign [.Tuple [.Name x px, .Name y py] kt pt] (.Tuple [a, b] k2 pt2) pos) (rS S (sPar [i, j] [m1, m2])) :=
  ps_imp (ps_par hc hN hi hj hij hx hy (pa_cons ha (pa_cons hb pa_nil he2) he1) hw hs) fun De σ H q =>
    rE_mono (fun v H1 q => rE_mono (fun w H2 q => ⟨v, w, rfl, (rM_nil q) rfl⟩) (rM_cons q)) (rM_cons (par_imp hf q))
theorem ps_par3D {i j l : Nat} {x y z : Str} {a b c : Expr} {m1 m2 m3 : M} {px py pz pt pos : Pos} {kt k2 : Nat} {pt2 : Pos} (hc : X.calm = true) (hN : X.N.Nodup) (hi : X.N[i]? = some x) (hj : X.N[j]? = some y) (hl : X.N[l]? = some z) (hij : i ≠ j) (hil : i ≠ l) (hjl : j ≠ l)
    (hx : X.env.scope.names.lookup x = some .local) (hy : X.env.scope.names.lookup y = some .local) (hz : X.env.scope.names.lookup z = some .local) (ha : PE X a (rE S m1)) (hb : PE X b (rE S m2)) (hcc : PE X c (rE S m3))
    (he1 : starEach [a, b, c] X.env = (false, eval a X.env) :: starEach [b, c] X.env) (he2 : starEach [b, c] X.env = (false, eval b X.env) :: starEach [c] X.env) (he3 : starEach [c] X.env = (false, eval c X.env) :: starEach [] X.env)
    (hw : swappedStores [.Tuple [.Name x px, .Name y py, .Name z pz] kt pt] (.Tuple [a, b, c] k2 pt2) X.env = pure (some [x, y, z])) (hs : swapsWithSole [.Tuple [.Name x px, .Name y py, .Name z pz] kt pt] (.Tuple [a, b, c] k2 pt2) pos.line X.env = pure false)
    (hf : ∀ n ∈ [i, j, l], ∀ q ∈ S.fx, q.1 ≠ n) : PS X (.Assign [.Tuple [.Name x px, .Name y py, .Name z pz] kt pt] (.Tuple [a, b, c] k2 pt2) pos) (rS S (sPar [i, j, l] [m1, m2, m3])) :=
  ps_imp (ps_par3 hc hN hi hj hl hij hil hjl hx hy hz (pa_cons ha (pa_cons hb (pa_cons hcc pa_nil he3) he2) he1) hw hs) fun De σ H q =>
    rE_mono (fun v H1 q => rE_mono (fun w H2 q => rE_mono (fun u H3 q => ⟨v, w, u, rfl, (rM_nil q) rfl⟩) (rM_cons q)) (rM_cons q)) (rM_cons (par_imp hf q))
/-! ### {'k': a, ..} -/
def dispK (ks : List Key) (ds : List D) : Option D := if ks.length = ds.length ∧ ks.length ≤ 15 ∧ ks.Nodup then some (.dk true ks ds) else none
def eDisp (ks : List Key) (ms : List M) : M := fun ρ => match evM ms ρ with
  | .ok ds ρ1 => (match dispK ks ds with
    | some d => .ok d ρ1
    | none => .bad)
  | .exc c x ρ' => .exc c x ρ'
  | .bad => .bad
theorem mergeK_new : ∀ {ks : List Key} {vs : List V} {acc : List (Key × V)}, ks.Nodup → (∀ k ∈ ks, ∀ p ∈ acc, p.1 ≠ k) → mergeK acc (ks.zip vs) = acc ++ ks.zip vs
  | [], vs, acc, _, _ => by simp [mergeK]
  | k :: ks, [], acc, _, _ => by simp [mergeK]
  | k :: ks, v :: vs, acc, nd, h => by
    have n := List.nodup_cons.mp nd
    have e1 : putK acc k v = acc ++ [(k, v)] := by
      unfold putK
      rw [if_neg]
      intro z
      obtain ⟨p, hp, e⟩ := List.any_eq_true.mp z
      exact h k (by simp) p hp (of_decide_eq_true e)
    have ih := mergeK_new (ks := ks) (vs := vs) (acc := acc ++ [(k, v)]) n.2 fun k' hk p hp => by
      rcases List.mem_append.mp hp with hp | hp
      · exact h k' (by simp [hk]) p hp
      · simp at hp
        subst hp
        intro e
        subst e
        exact n.1 hk
    rw [List.zip_cons_cons]
    show mergeK (putK acc k v) (ks.zip vs) = _
    rw [e1, ih]
    simp
theorem pairs_imp : ∀ {ks : List Key} {ms : List M} {σ : L2.St} {H : Hp} {Q : List V → Hp → Prop}, ks.length = ms.length → rM S ms σ H Q → tPairs ((ks.zip ms).map fun p => (tC (kV p.1), rE S p.2)) σ H fun ps H2 => ∃ vs, ps = ((ks.zip vs).map fun p => (kV p.1, p.2)) ∧ vs.length = ks.length ∧ Q vs H2
  | [], [], _, _, _, _, q => ⟨[], rfl, rfl, rM_nil q⟩
  | k :: ks, m :: ms, σ, H, Q, hl, q => by
    show rE S m σ H _
    refine rE_mono (fun v H1 q => ?_) (rM_cons q)
    have := pairs_imp (ks := ks) (by simpa using hl) q
    have mono : ∀ {trs : List (TE × TE)} {σ : L2.St} {H : Hp} {Q Q' : List (V × V) → Hp → Prop}, (∀ p ∈ trs, (∃ v, p.1 = tC v) ∧ ∃ m, p.2 = rE S m) → (∀ ps H, Q ps H → Q' ps H) → tPairs trs σ H Q → tPairs trs σ H Q' := by
      intro trs
      induction trs with
      | nil => intro σ H Q Q' _ h q; exact h _ _ q
      | cons p trs ih =>
        intro σ H Q Q' hp h q
        obtain ⟨⟨v, e1⟩, m, e2⟩ := hp p (by simp)
        obtain ⟨tk, tv⟩ := p
        simp only at e1 e2
        subst e1 e2
        show rE S m σ H _
        have q : rE S m σ H fun y H2 => tPairs trs σ H2 fun ps H3 => Q ((v, y) :: ps) H3 := q
        exact rE_mono (fun y H2 q => ih (fun p hp' => hp p (by simp [hp'])) (fun ps H3 q => h _ _ q) q) q
    refine mono (fun p hp => ?_) (fun ps H2 ⟨vs, e, hl2, q⟩ => ?_) this
    · obtain ⟨x, hx, rfl⟩ := List.mem_map.mp hp
      exact ⟨⟨_, rfl⟩, _, rfl⟩
    · exact ⟨v :: vs, by rw [e]; rfl, by simp [hl2], q⟩
  | [], _ :: _, _, _, _, hl, _ => by simp at hl
  | _ :: _, [], _, _, _, hl, _ => by simp at hl
theorem disp_imp {ks : List Key} {ms : List M} {Q : VK} (hl : ks.length = ms.length) (q : rE S (eDisp ks ms) σ H Q) : tDisp ((ks.zip ms).map fun p => (tC (kV p.1), rE S p.2)) σ H Q := by
  obtain ⟨G, ρ, F, s, q⟩ := q
  intro p hp
  have hG : G p = none := s.rd.fresh hp
  have hF : p ∉ F := fun z => s.there p z hp
  have s0 : SR S.K S.cm S.fx G (upd H p (.dK [])) σ ρ F := ⟨rds_upd s.rd hp, s.nd, s.dj, s.sl.mono (GLe.refl _) fun a ha o e => by rw [upd_ne (fun z => hF (by rw [← z]; exact ha))]; exact e, s.fx⟩
  have tr0 : Tr G H F G (upd H p (.dK [])) F := ⟨GLe.refl _, fun a o _ e => by rw [upd_ne (ne_of_none e hp)]; exact e, fun a h => .inl h, fun a h => .inl h, fun a h => by
    by_cases z : a = p
    · subst z; rw [upd_same]; simp
    · rw [upd_ne z]; exact h⟩
  have key : rM S ms σ (upd H p (.dK [])) fun vs H2 => H2 p = some (.dK []) ∧ (vs.length = ks.length → ks.length ≤ 15 ∧ Q (.ref p) (upd H2 p (.dK (mergeK [] (ks.zip vs))))) := by
    refine ⟨G, ρ, F, s0, ?_⟩
    unfold eDisp at q
    cases e : evM ms ρ with
    | bad => rw [e] at q; exact q
    | exc c x ρ' => rw [e] at q; exact q.trans tr0
    | ok ds ρ1 =>
      rw [e] at q
      dsimp only at q ⊢
      intro vs H2 ⟨G2, F2, Fv, t2, s2, ol, nd, dj⟩
      have h0 : upd H p (.dK []) p ≠ none := by rw [upd_same]; simp
      have hp2 : H2 p = some (.dK []) := t2.h p _ hF (upd_same ..)
      obtain ⟨pF, pG⟩ := t2.apart hF h0 hG
      refine ⟨hp2, fun hlen => ?_⟩
      cases e2 : dispK ks ds with
      | none => rw [e2] at q; exact q.elim
      | some d =>
        rw [e2] at q
        dsimp only at q
        unfold dispK at e2
        split at e2
        case isFalse => cases e2
        case isTrue hk =>
        cases (Option.some.inj e2)
        refine ⟨hk.2.1, ?_⟩
        rw [mergeK_new hk.2.2 (fun _ _ _ z => by cases z), List.nil_append]
        have keep : ∀ a ∈ F2 ++ Fv, ∀ u, H2 a = some u → upd H2 p (.dK (ks.zip vs)) a = some u := fun a ha u e => by rw [upd_ne (fun z => pF (by rw [← z]; exact ha))]; exact e
        have pF2 : p ∉ F2 := fun z => pF (by simp [z])
        have pFv : p ∉ Fv := fun z => pF (by simp [z])
        have nd1 := List.nodup_append.mp nd
        refine q _ _ ⟨G2, F2, p :: Fv, ?_, ⟨fun a u ha => ?_, s2.nd, s2.dj, s2.sl.mono (GLe.refl _) fun a ha => keep a (by simp [ha]), s2.fx⟩, .dk (upd_same ..) hlen.symm (ol.mono (GLe.refl _) fun a ha => keep a (by simp [ha])), ?_, fun a ha => ?_⟩
        · have t3 := tr0.trans t2
          refine ⟨t3.g, fun a o ha e => ?_, fun a ha => ?_, fun a ha => t3.d a ha, fun a ha => ?_⟩
          · rw [upd_ne (ne_of_none e hp)]; exact t3.h a o ha e
          · simp only [List.mem_append, List.mem_cons] at ha
            rcases ha with h | h | h
            · exact t3.f a (by simp [h])
            · subst h; exact .inr hp
            · exact t3.f a (by simp [h])
          · by_cases z : a = p
            · subst z; rw [upd_same]; simp
            · rw [upd_ne z]; exact t3.n a ha
        · have hne : a ≠ p := fun z => by subst z; rw [pG] at ha; cases ha
          rw [upd_ne hne]
          exact s2.rd a u ha
        · refine List.nodup_append.mpr ⟨nd1.1, List.nodup_cons.mpr ⟨pFv, nd1.2.1⟩, fun a ha b hb e => ?_⟩
          subst e
          rcases List.mem_cons.mp hb with h | h
          · subst h; exact pF2 ha
          · exact nd1.2.2 a ha a h rfl
        · rcases List.mem_cons.mp ha with h | h
          · subst h; exact pG
          · exact dj a h
  have mono : ∀ {trs : List (TE × TE)} {σ : L2.St} {H : Hp} {Q Q' : List (V × V) → Hp → Prop}, (∀ p ∈ trs, (∃ v, p.1 = tC v) ∧ ∃ m, p.2 = rE S m) → (∀ ps H, Q ps H → Q' ps H) → tPairs trs σ H Q → tPairs trs σ H Q' := by
    intro trs
    induction trs with
    | nil => intro σ H Q Q' _ h q; exact h _ _ q
    | cons p trs ih =>
      intro σ H Q Q' hp h q
      obtain ⟨⟨v, e1⟩, m, e2⟩ := hp p (by simp)
      obtain ⟨tk, tv⟩ := p
      simp only at e1 e2
      subst e1 e2
      show rE S m σ H _
      have q : rE S m σ H fun y H2 => tPairs trs σ H2 fun ps H3 => Q ((v, y) :: ps) H3 := q
      exact rE_mono (fun y H2 q => ih (fun p hp' => hp p (by simp [hp'])) (fun ps H3 q => h _ _ q) q) q
  refine mono (fun p hp => ?_) (fun ps H2 ⟨vs, e, hlen, h1, h2⟩ => ⟨h1, ks.zip vs, e, ?_, (h2 hlen).2⟩) (pairs_imp hl key)
  · obtain ⟨x, hx, rfl⟩ := List.mem_map.mp hp
    exact ⟨⟨_, rfl⟩, _, rfl⟩
  · rw [List.length_zip, hlen, Nat.min_self]; exact (h2 hlen).1
theorem pe_dispD {ks : List Key} {ms : List M} {keys : List (Option Expr)} {values : List Expr} {pos : Pos} (h : PPs X pos keys values ((ks.zip ms).map fun p => (tC (kV p.1), rE S p.2))) (hl : ks.length = ms.length) (hall : keys.all (·.isSome) = true) (hl2 : keys.length = values.length) (h0 : keys ≠ []) (h15 : keys.length ≤ 15) :
    PE X (.Dict keys values pos) (rE S (eDisp ks ms)) := pe_imp (L2.pe_disp h hall hl2 h0 h15) fun σ H Q q => disp_imp hl q
end
end VE
/-! VE16: chains; fields; instances made. -/
namespace VE
open PySem PySem.Spec PyProof.Rows L2
/-! ### a op b op' c -/
def asB : Option D → Option Bool
  | some (.bl b) => some b
  | _ => none
def eChain (g1 g2 : List D → Option D) (oa ob oc : Opd) : M := fun ρ => match evO [oa, ob] ρ with
  | .ok ds ρ1 => (match twoI ds with
    | some (_, i) => (match asB (g1 ds) with
      | some true => (match evO [oc] ρ1 with
        | .ok es ρ2 => (match g2 (.int i :: es) with
          | some d => .ok d ρ2
          | none => .bad)
        | .exc c x ρ' => .exc c x ρ'
        | .bad => .bad)
      | some false => .ok (.bl false) ρ1
      | none => .bad)
    | none => .bad)
  | .exc c x ρ' => .exc c x ρ'
  | .bad => .bad
section
variable {X : Cx} {S : Set_} {a b c : Expr} {oa ob oc : Opd} {pos : Pos} {g1 g2 : List D → Option D} {r r' : R2}
theorem chain_imp {σ : L2.St} {H : Hp} {Q : VK} (od1 : OpD S g1 (r2 r)) (od2 : OpD S g2 (r2 r')) (q : rE S (eChain g1 g2 oa ob oc) σ H Q) : tChain r r' (tO S oa) (tO S ob) (tO S oc) σ H Q := by
  obtain ⟨G, ρ, F, sr, q⟩ := q
  have key : rO S [oa, ob] σ H fun vs H1 => ∃ x y, vs = [x, y] ∧ r x y H1 fun z H3 => ∃ k, z = .bl k ∧ (if k = true then tO S oc σ H3 fun w' H4 => r' y w' H4 Q else Q (.bl false) H3) := by
    refine ⟨G, ρ, F, sr, ?_⟩
    unfold eChain at q
    cases e1 : evO [oa, ob] ρ with
    | bad => rw [e1] at q; exact q
    | exc c x ρ' => rw [e1] at q; exact q
    | ok ds ρ1 =>
      rw [e1] at q
      dsimp only at q ⊢
      intro vs H1 ⟨G1, F1, t1, sr1, vo⟩
      cases e2 : twoI ds with
      | none => rw [e2] at q; exact q.elim
      | some p =>
        obtain ⟨d0, i⟩ := p
        rw [e2] at q
        dsimp only at q
        obtain ⟨x, rfl, zx⟩ := twoI_v vo.l e2
        cases e3 : asB (g1 ds) with
        | none => rw [e3] at q; exact q.elim
        | some k =>
          have e4 : g1 ds = some (.bl k) := by
            unfold asB at e3
            split at e3
            · cases e3; assumption
            · cases e3
          rw [e3] at q
          obtain ⟨x', y', e5, h5⟩ := od1 G1 H1 ds _ _ (fun z H3 => ∃ k, z = .bl k ∧ (if k = true then tO S oc σ H3 fun w' H4 => r' (.int i) w' H4 Q else Q (.bl false) H3)) sr1.rd vo.l e4 fun v G' H' Fv n o => by
            obtain ⟨ev, G2, F2, t2, sr2⟩ := (n.post sr1 o).bl
            refine ⟨k, ev, ?_⟩
            cases k with
            | false => exact q _ _ (PostZ.post ⟨G2, F2, t1.trans t2, sr2, .bl false⟩)
            | true =>
              dsimp only at q
              have key2 : rO S [oc] σ H' fun vs H4 => ∃ w', vs = [w'] ∧ r' (.int i) w' H4 Q := by
                refine ⟨G2, ρ1, F2, sr2, ?_⟩
                cases e6 : evO [oc] ρ1 with
                | bad => rw [e6] at q; exact q
                | exc c x ρ' => rw [e6] at q; exact q.trans (t1.trans t2)
                | ok es ρ2 =>
                  rw [e6] at q
                  dsimp only at q ⊢
                  intro ws H4 ⟨G4, F4, t4, sr4, vo4⟩
                  cases e7 : g2 (.int i :: es) with
                  | none => rw [e7] at q; exact q.elim
                  | some d =>
                    rw [e7] at q
                    dsimp only at q
                    obtain ⟨x2, y2, e8, h8⟩ := od2 G4 H4 (.int i :: es) (.int i :: ws) d Q sr4.rd (.cons (Fz.int i).vw vo4.l) e7 fun v G5 H5 Fv n o => q v H5 ((n.post sr4 o).trans ((t1.trans t2).trans t4))
                    cases e8
                    exact ⟨_, rfl, h8⟩
              exact tO_mono (fun w' H4 ⟨w2, e, h⟩ => by cases e; exact h) (rO1 key2)
          cases e5
          exact ⟨_, _, rfl, h5⟩
  exact tO_mono (fun x H1 q => tO_mono (fun y H2 ⟨x', y', e, h⟩ => by cases e; exact h) q) (rO2 key)
theorem pe_chainD {op op' : CmpOp} (ho : OpR X (compareOp op) r) (ho' : OpR X (compareOp op') r') (od1 : OpD S g1 (r2 r)) (od2 : OpD S g2 (r2 r')) (ha : PE X a (tO S oa)) (hb : PE X b (tO S ob)) (hc : PE X c (tO S oc)) (hm : lastMarks [op, op'] [b, c] = false) :
    PE X (.Compare a [op, op'] [b, c] pos) (rE S (eChain g1 g2 oa ob oc)) := pe_imp (pe_chain ho ho' ha hb hc hm) fun σ H Q q => chain_imp od1 od2 q
theorem pt_chainD {op op' : CmpOp} (ho : OpR X (compareOp op) r) (ho' : OpR X (compareOp op') r') (od1 : OpD S g1 (r2 r)) (od2 : OpD S g2 (r2 r')) (ha : PE X a (tO S oa)) (hb : PE X b (tO S ob)) (hc : PE X c (tO S oc)) (hm : lastMarks [op, op'] [b, c] = false) :
    PTD X S (.Compare a [op, op'] [b, c] pos) (eChain g1 g2 oa ob oc) := pt_imp (L2.pt_chain ho ho' ha hb hc hm) fun σ H Q q => chain_imp od1 od2 q
end
/-! ### fields -/
def getN {α : Type} : List Str → List α → Str → Option α
  | n :: ns, x :: xs, f => if f = n then some x else getN ns xs f
  | _, _, _ => none
def putN {α : Type} : List Str → List α → Str → α → List Str × List α
  | n :: ns, y :: ys, f, x => if n = f then (n :: ns, x :: ys) else (n :: (putN ns ys f x).1, y :: (putN ns ys f x).2)
  | _, _, f, x => ([f], [x])
theorem putN_names {α β : Type} : ∀ {ns : List Str} {xs : List α} {ys : List β} {f : Str} {x : α} {y : β}, ns.length = xs.length → ns.length = ys.length → (putN ns xs f x).1 = (putN ns ys f y).1
  | [], [], [], _, _, _, _, _ => rfl
  | n :: ns, x0 :: xs, y0 :: ys, f, x, y, h1, h2 => by
    unfold putN
    split
    · rfl
    · rw [putN_names (ns := ns) (xs := xs) (ys := ys) (by simpa using h1) (by simpa using h2)]
  | [], _ :: _, _, _, _, _, h, _ => by simp at h
  | _ :: _, [], _, _, _, _, h, _ => by simp at h
  | [], [], _ :: _, _, _, _, _, h => by simp at h
  | _ :: _, _ :: _, [], _, _, _, _, h => by simp at h
theorem putN_len {α : Type} : ∀ {ns : List Str} {xs : List α} {f : Str} {x : α}, ns.length = xs.length → (putN ns xs f x).1.length = (putN ns xs f x).2.length
  | [], [], _, _, _ => rfl
  | n :: ns, x0 :: xs, f, x, h => by
    unfold putN
    split
    · simpa using h
    · simp [putN_len (ns := ns) (xs := xs) (f := f) (x := x) (by simpa using h)]
  | [], _ :: _, _, _, h => by simp at h
  | _ :: _, [], _, _, h => by simp at h
theorem putN_zip : ∀ {ns : List Str} {vs : List V} {f : Str} {v : V}, ns.length = vs.length → putF f v (ns.zip vs) = (putN ns vs f v).1.zip (putN ns vs f v).2
  | [], [], _, _, _ => rfl
  | n :: ns, w :: vs, f, v, h => by
    rw [List.zip_cons_cons]
    show (if n = f then (n, v) :: ns.zip vs else (n, w) :: putF f v (ns.zip vs)) = _
    unfold putN
    split
    · rfl
    · rw [putN_zip (by simpa using h)]; rfl
  | [], _ :: _, _, _, h => by simp at h
  | _ :: _, [], _, _, h => by simp at h
theorem OwL.putN {K : Frag} {cm : Str → Addr} {G H : Hp} {f : Str} {d : D} {v : V} (z : Fz K cm G d v) : ∀ {ns : List Str} {ds : List D} {vs : List V} {F : List Addr}, OwL K cm G H ds vs F → ns.length = vs.length → ∃ F', F'.Sublist F ∧ OwL K cm G H (putN ns ds f d).2 (putN ns vs f v).2 F'
  | [], _, _, _, .nil, _ => ⟨[], by simp, (OwL.cons (F1 := []) (.fz z) .nil : OwL K cm G H [d] [v] ([] ++ []))⟩
  | n :: ns, _, _, _, .cons (F1 := F1) (F2 := F2) o l, h => by
    obtain ⟨F', sub, l'⟩ := OwL.putN (f := f) (ns := ns) z l (by simpa using h)
    by_cases e : n = f
    · exact ⟨F2, List.sublist_append_right _ _, by rw [VE.putN, VE.putN, if_pos e, if_pos e]; exact (OwL.cons (F1 := []) (.fz z) l : OwL K cm G H _ _ ([] ++ F2))⟩
    · exact ⟨F1 ++ F', List.Sublist.append (List.Sublist.refl _) sub, by rw [VE.putN, VE.putN, if_neg e, if_neg e]; exact .cons o l'⟩
  | [], _, _, _, .cons _ _, h => by simp at h
  | _ :: _, _, _, _, .nil, h => by simp at h
section
variable {X : Cx} {S : Set_} {K : Frag} {cm : Str → Addr} {G H : Hp}
theorem getN_owl : ∀ {ns : List Str} {ds : List D} {vs : List V} {F : List Addr} {f : Str} {d : D}, OwL K cm G H ds vs F → ns.length = vs.length → getN ns ds f = some d → ∃ v F', (ns.zip vs).lookup f = some v ∧ Ow K cm G H d v F'
  | [], _, _, _, _, _, _, _, h => by simp [getN] at h
  | n :: ns, [], _, _, _, _, _, _, h => by simp [getN] at h
  | n :: ns, x :: xs, v :: vs, _, f, d, .cons o l, hn, h => by
    simp only [getN] at h
    rw [List.zip_cons_cons, List.lookup_cons]
    by_cases e : f = n
    · rw [if_pos e] at h
      cases (Option.some.inj h : x = d)
      subst e
      exact ⟨v, _, by simp, o⟩
    · rw [if_neg e] at h
      obtain ⟨w, F', h1, h2⟩ := getN_owl l (by simpa using hn) h
      have : (f == n) = false := beq_eq_false_iff_ne.mpr e
      exact ⟨w, F', by rw [this]; exact h1, h2⟩
theorem getN_fzl : ∀ {ns : List Str} {ds : List D} {vs : List V} {f : Str} {d : D}, FzL K cm G ds vs → ns.length = vs.length → getN ns ds f = some d → ∃ v, (ns.zip vs).lookup f = some v ∧ Fz K cm G d v
  | [], _, _, _, _, _, _, h => by simp [getN] at h
  | n :: ns, [], _, _, _, _, _, h => by simp [getN] at h
  | n :: ns, x :: xs, v :: vs, f, d, .cons o l, hn, h => by
    simp only [getN] at h
    rw [List.zip_cons_cons, List.lookup_cons]
    by_cases e : f = n
    · rw [if_pos e] at h
      cases (Option.some.inj h : x = d)
      subst e
      exact ⟨v, by simp, o⟩
    · rw [if_neg e] at h
      obtain ⟨w, h1, h2⟩ := getN_fzl l (by simpa using hn) h
      have : (f == n) = false := beq_eq_false_iff_ne.mpr e
      exact ⟨w, by rw [this]; exact h1, h2⟩
/-- e.f of an instance of class c -/
def dFld (c f : Str) : List D → Option D
  | [.ins _ c' ns xs] => if c' = c then (getN ns xs f).bind fun d => if isFz d then some d else none else none
  | _ => none
def rFld (K : Frag) (f : Str) : V → Hp → VK → Prop := fun x H Q => ∃ a C dx fs v, x = .ref a ∧ H a = some (.ins C dx fs) ∧ Cls K C ∧ NoAttr K C f ∧ fs.lookup f = some v ∧ Q v H
theorem od_fld {c f : Str} (hc : Cls S.K (S.cm c)) (hn : NoAttr S.K (S.cm c) f) : OpD S (dFld c f) (r1 (rFld S.K f)) := by
  intro G H ds vs d Q rd vl e k
  unfold dFld at e
  split at e
  · split at e
    case isFalse => cases e
    case isTrue ec =>
    subst ec
    obtain ⟨d0, h0, e⟩ := Option.bind_eq_some_iff.mp e
    split at e
    case isFalse => cases e
    case isTrue hz =>
    cases (Option.some.inj e : _ = d)
    obtain ⟨v, F, rfl, o⟩ := vw1 vl
    cases o with
    | fz z =>
      cases z with
      | ins eG n l =>
        obtain ⟨w, h1, z⟩ := getN_fzl l n h0
        exact ⟨_, rfl, _, _, _, _, w, rfl, rd.ex eG rfl, hc, hn, h1, give rd k z⟩
    | ins eH n l =>
      obtain ⟨w, F', h1, o⟩ := getN_owl l n h0
      exact ⟨_, rfl, _, _, _, _, w, rfl, eH, hc, hn, h1, give rd k (o.isFz hz)⟩
  · cases e
theorem pe_fldD {c f : Str} {e : Expr} {oa : Opd} {pos : Pos} (hK : S.K = X.K) (hc : Cls S.K (S.cm c)) (hn : NoAttr S.K (S.cm c) f) (he : PE X e (tO S oa)) (hb : attributeBase e f X.env (eval e X.env) = eval e X.env) : PE X (.Attribute e f pos) (rE S (ops [oa] (dFld c f))) :=
  pe_imp (L2.pe_fld he hb) fun σ H Q q => tO_mono (fun x H1 ⟨x', e, h⟩ => by cases e; rw [← hK]; exact h) (rO1 (ops_imp (od_fld hc hn) σ H Q q))
/-- slot.f = value -/
def putI (c f : Str) (x : D) : D → Option D
  | .ins true c' ns xs => if c' = c ∧ ns.length < 1000 then some (.ins true c' (putN ns xs f x).1 (putN ns xs f x).2) else none
  | _ => none
def sFldP (i : Nat) (c f : Str) (m : M) : MS := sWith m fun d ρ => match sget ρ i with
  | some t => (match putI c f (frz d) t with
    | some t' => .nx (ρ.set i (some t'))
    | none => .bad)
  | none => .bad
theorem ps_fldD {i : Nat} {c f : Str} {m : M} {o e : Expr} {p2 pos : Pos} (hK : S.K = X.K) (hc : Cls S.K (S.cm c)) (hn : NoAttr S.K (S.cm c) f) (ho : PE X o (tVar i)) (he : PE X e (rE S m)) (hs : swapsWith e (some (.Attribute o f p2)) pos.line X.env = pure false) :
    PS X (.Assign [.Attribute o f p2] e pos) (rS S (sFldP i c f m)) := by
  refine ps_imp (L2.ps_fld ho he hs) fun D σ H q => rS_with q fun G F d ρ' w v H' p => ?_
  obtain ⟨G', F', t', s, z⟩ := p.freeze
  cases e1 : sget ρ' i with
  | none => rw [e1] at w; exact w.elim
  | some t =>
    rw [e1] at w
    dsimp only at w
    cases e2 : putI c f (frz d) t with
    | none => rw [e2] at w; exact w.elim
    | some t1 =>
      rw [e2] at w
      dsimp only at w
      obtain ⟨v0, F1, hv, ow, nd, dj, up⟩ := s.wr (sget_some e1)
      refine ⟨v0, hv, ?_⟩
      unfold putI at e2
      split at e2
      · rename_i c' ns xs
        split at e2
        case isFalse => cases e2
        case isTrue hcc =>
        obtain ⟨rfl, hlen⟩ := hcc
        cases (Option.some.inj e2)
        cases ow with
        | fz z => cases z
        | @ins a dx _ _ vs _ F2 eH n l =>
          have nd2 := List.nodup_cons.mp nd
          have nn : (putN ns xs f (frz d)).1 = (putN ns vs f v).1 := putN_names (by rw [l.length, n]) n
          have l' := l.mono (GLe.refl G') (H' := upd H' a (.ins (S.cm c') dx (putF f v (ns.zip vs)))) fun b hb u hu => by
            rw [upd_ne (fun z => nd2.1 (by rw [← z]; exact hb))]; exact hu
          obtain ⟨F2', sub, l2⟩ := l'.putN (f := f) (ns := ns) z n
          obtain ⟨F3, t3, s3⟩ := up a (.ins (S.cm c') dx (putF f v (ns.zip vs))) (.ins true c' (putN ns xs f (frz d)).1 (putN ns xs f (frz d)).2) (a :: F2') (by simp)
            (.ins (by rw [upd_same, putN_zip n, nn]) (by rw [nn]; exact putN_len n) l2) (List.Sublist.cons_cons a sub)
          refine ⟨a, _, dx, _, rfl, eH, by rw [← hK]; exact hc, by rw [← hK]; exact hn, by rw [List.length_zip, ← n, Nat.min_self]; exact hlen, w σ _ ⟨G', F3, t'.trans t3, s3⟩⟩
      · cases e2
end
end VE
/-! VE17: new instances; enumerate over a tuple. -/
namespace VE
open PySem PySem.Spec PyProof.Rows L2
section
variable {X : Cx} {CX : CXT} {k : Nat} {f C : Addr} {fd : FuncData} {ps : List Str} {sp : Sp} {E : L2.St → XK} {x : Str} {p pos : Pos} {e : Expr} {es : List Expr} {t : TA}
/-- C(..), where an exception passes as the slots say -/
theorem run_makeS {pins : List (Addr × Obj)} {σ : L2.St} {H : Hp} {s : Shared} {Q : VK} {us : List Value} {vs : List V} (M : Mk X.K C f) (F : FnOk X.prog X.w X.K X.mg X.base CX k f fd ps sp) (hr : Room (k + 1) X.A) (hb : Binds X.K fd ps []) (hx : PassesAt CX X σ (E σ))
    (I : Inv X pins σ H s) (r : Vals vs us) (h : ∀ x dx, H x = none → H dx = none → dx ≠ x → sp (.ref x :: vs) (upd (upd H dx (.own x)) x (.ins C dx [])) (fun v H2 => v = .non ∧ Q (.ref x) H2) (E σ)) :
    wpAny (model X.prog X.w) X.A (call (.ref C) us) (EP X pins σ Q) X.xe s := by
  have hq := h (s.heap.objs.size + 1) s.heap.objs.size (I.hok.fresh (Nat.le_succ _)) (I.hok.fresh (Nat.le_refl _)) (Nat.ne_of_lt (Nat.lt_succ_self _))
  have I2 := Inv.made (C := C) I
  have r2 : Vals (V.ref (s.heap.objs.size + 1) :: vs) (Value.ref (s.heap.objs.size + 1) :: us) := .cons rfl r
  have hl : (Value.ref (s.heap.objs.size + 1) :: us).length = ps.length := by rw [← r2.length]; exact F.len _ _ _ _ hq
  have bn := hb _ (Value.ref (s.heap.objs.size + 1) :: us) I2.kIn (by rw [List.append_nil]; exact hl)
  rw [List.append_nil] at bn
  refine wpAny_call (make_map (f := f) I.kIn M.makes M.init (beq_iff_eq.mp M.fn) (codeAny_mono (F.run _ X.stack _ _ ⟨Value.ref (s.heap.objs.size + 1) :: us, []⟩ (Value.ref (s.heap.objs.size + 1) :: us) _ _ (E σ) (hr.make C us [])
    (I2.env0.make C us []) bn r2 hq) fun r s' hq' => ?_))
  cases r with
  | error e => exact hx pins _ _ e s' I2 hq'
  | ok fl =>
    cases fl with
    | ret u =>
      obtain ⟨v, H', I3, rv, ev, q3⟩ := I2.after hq'
      subst ev
      exact ⟨rv, ⟨V.ref (s.heap.objs.size + 1), H', I3, rfl, q3⟩⟩
    | next => exact False.elim hq'
    | brk => exact False.elim hq'
    | cont => exact False.elim hq'
def tMakeS (C : Addr) (sp : Sp) (E : L2.St → XK) (t : TA) : TE := fun σ H Q => t σ H fun vs H1 => ∀ x dx, H1 x = none → H1 dx = none → dx ≠ x →
  sp (.ref x :: vs) (upd (upd H1 dx (.own x)) x (.ins C dx [])) (fun v H2 => v = .non ∧ Q (.ref x) H2) (E σ)
theorem pe_makeS (M : Mk X.K C f) (F : FnOk X.prog X.w X.K X.mg X.base CX k f fd ps sp) (hr : Room (k + 1) X.A) (hg : Gl X x) (hm : X.mg x = some (.ref C)) (hb : Binds X.K fd ps []) (hx : ∀ σ, PassesAt CX X σ (E σ)) (ha : PA X (e :: es) t)
    (hdb : (x == ("__debug__" : Str)) = false) (he : starEach (e :: es) X.env = (false, eval e X.env) :: starEach es X.env) (hpl : (backTo pos (starEach es X.env)).any (·.1) = false) :
    PE X (.Call (.Name x p) (e :: es) [] pos) (tMakeS C sp E t) := by
  refine ⟨fun pins s σ H Q I h => ?_⟩
  refine wpAny_Call_Name_kw (ld_glob I hg hm ?_ hdb)
  refine PySem.W.callWith_K (h₀ := X.base) I.ok.mod.kin M.kp (thn (ha.run pos pins s σ H _ I h) fun us s1 ⟨vs, H1, I1, r, q⟩ => ⟨I1.kIn, ?_⟩) he hpl
  exact run_makeS M F hr hb (hx σ) I1 r q
end
/-- C(..): its __init__ is m -/
def eMake (c : Str) (m : M) (os : List Opd) : M := fun ρ => match evO os ρ with
  | .ok ds ρ1 => (match m (some (.ins true c [] []) :: ds.map some) with
    | .ok .non (some d :: ρa) => .ok d (putBack os ρa ρ1)
    | .exc cc x (_ :: ρa) => .exc cc x (putBack os ρa ρ1)
    | _ => .bad)
  | .exc c x ρ' => .exc c x ρ'
  | .bad => .bad
section
variable {X : Cx} {S : Set_}
theorem make_imp {c : Str} {m : M} {os : List Opd} {σ : L2.St} {H : Hp} {Q : VK} {np : Nat} (hnd : (slotsOf os).Nodup) (hnp : os.length + 1 = np) (q : rE S (eMake c m os) σ H Q) : tMakeS (S.cm c) (spD S.K S.cm np m) (WE S.W) (rO S os) σ H Q := by
  obtain ⟨G, ρ, F, s, q⟩ := q
  refine ⟨G, ρ, F, s, ?_⟩
  unfold eMake at q
  cases e : evO os ρ with
  | bad => rw [e] at q; exact q
  | exc c x ρ' => rw [e] at q; exact q
  | ok ds ρ1 =>
    rw [e] at q
    dsimp only at q ⊢
    intro vs H1 ⟨G1, F1, t1, s1, vo⟩ x dx hx hdx hne
    obtain ⟨Fa, sa, back⟩ := back_sr (ρa := []) (Fc := []) (Fv := []) s1 vo hnd
    have hl : (V.ref x :: vs).length = np := by
      have : ∀ {os : List Opd} {ds : List D} {vs : List V}, VwO S.K S.cm G1 H1 σ ρ1 os ds vs → os.length = vs.length := by
        intro os ds vs h
        induction h with
        | nil => rfl
        | slot _ _ _ _ ih => simp [ih]
        | ex _ _ ih => simp [ih]
      rw [List.length_cons, ← this vo, hnp]
    have xF : x ∉ Fa := fun z => sa.there x z hx
    have dF : dx ∉ Fa := fun z => sa.there dx z hdx
    have xG : G1 x = none := s1.rd.fresh hx
    have dG : G1 dx = none := s1.rd.fresh hdx
    have same : ∀ b, b ≠ x → b ≠ dx → upd (upd H1 dx (.own x)) x (.ins (S.cm c) dx []) b = H1 b := fun b h1 h2 => by rw [upd_ne h1, upd_ne h2]
    have old : ∀ b u, H1 b = some u → upd (upd H1 dx (.own x)) x (.ins (S.cm c) dx []) b = some u := fun b u h => by
      rw [same b (ne_of_none h hx) (ne_of_none h hdx)]; exact h
    have s0 : SR S.K S.cm [] G1 (upd (upd H1 dx (.own x)) x (.ins (S.cm c) dx [])) ((V.ref x :: vs).map some) ((D.ins true c [] [] :: ds).map some) ([x] ++ Fa) := by
      refine ⟨fun b u hb => ?_, ?_, fun b hb => ?_, ?_, fun q hq => by cases hq⟩
      · have h1 : b ≠ x := fun z => by subst z; rw [xG] at hb; cases hb
        have h2 : b ≠ dx := fun z => by subst z; rw [dG] at hb; cases hb
        rw [same b h1 h2]
        exact s1.rd b u hb
      · exact List.nodup_append.mpr ⟨by simp, sa.nd, fun a ha b hb e => by simp at ha; subst ha; subst e; exact xF hb⟩
      · rcases List.mem_append.mp hb with h | h
        · simp at h; subst h; exact xG
        · exact sa.dj b h
      · rw [List.map_cons, List.map_cons]
        exact .cons ⟨_, rfl, .ins (ns := []) (vs := []) (upd_same ..) rfl .nil⟩ (sa.sl.mono (GLe.refl _) fun b _ u h => old b u h)
    have tr0 : Tr G1 H1 Fa G1 (upd (upd H1 dx (.own x)) x (.ins (S.cm c) dx [])) ([x] ++ Fa) := ⟨GLe.refl _, fun b u _ h => old b u h, fun b hb => by
      rcases List.mem_append.mp hb with h | h
      · simp at h; subst h; exact .inr hx
      · exact .inl h, fun b h => .inl h, fun b h => by
      cases e : H1 b with
      | none => exact absurd e h
      | some u => rw [old b u e]; simp⟩
    refine ⟨hl, G1, _, _, s0, ?_⟩
    rw [show ((D.ins true c [] [] :: ds).map some : Env) = some (.ins true c [] []) :: ds.map some from rfl]
    cases e2 : m (some (.ins true c [] []) :: ds.map some) with
    | bad => rw [e2] at q; exact q
    | exc cc xx ρa =>
      rw [e2] at q
      cases ρa with
      | nil => exact q.elim
      | cons y ρa =>
        dsimp only at q ⊢
        intro dd H2 ⟨G2, F2, t2, s2, hxx⟩
        have sl2 : OwS S.K S.cm G2 H2 (y :: ρa) (some (.ref x) :: vs.map some) F2 := s2.sl
        cases sl2 with
        | cons o l =>
          rename_i Fx Fc
          have nd2 := List.nodup_append.mp s2.nd
          have sc : SR S.K S.cm [] G2 H2 (vs.map some) ρa Fc := ⟨s2.rd, nd2.2.1, fun a ha => s2.dj a (by simp [ha]), l, fun q hq => by cases hq⟩
          obtain ⟨F3, t3, s3, _⟩ := back G2 H2 ρa Fc [] (by simpa using (tr0.trans t2).sub fun a ha => by simp [ha]) sc (by simpa using nd2.2.1) (fun a ha => by cases ha)
          exact q dd H2 ⟨G2, F3, t1.trans (by simpa using t3), s3, hxx⟩
    | ok d0 ρa =>
      rw [e2] at q
      cases d0 with
      | non =>
        cases ρa with
        | nil => exact q.elim
        | cons y ρa =>
          cases y with
          | none => exact q.elim
          | some d =>
            dsimp only at q ⊢
            intro v H2 ⟨G2, F2, Fv, t2, s2, o, nd, dj⟩
            obtain ⟨rfl, rfl⟩ := o.non_inv
            have sl2 : OwS S.K S.cm G2 H2 (some d :: ρa) (some (.ref x) :: vs.map some) F2 := s2.sl
            cases sl2 with
            | cons o2 l =>
              rename_i Fx Fc
              obtain ⟨w, ew, ow⟩ := o2
              cases ew
              have nd2 := List.nodup_append.mp s2.nd
              have sc : SR S.K S.cm [] G2 H2 (vs.map some) ρa Fc := ⟨s2.rd, nd2.2.1, fun a ha => s2.dj a (by simp [ha]), l, fun q hq => by cases hq⟩
              obtain ⟨F3, t3, s3, nd3⟩ := back G2 H2 ρa Fc Fx ((tr0.trans t2).sub fun a ha => by
                rcases List.mem_append.mp ha with h | h <;> simp [h]) sc (List.nodup_append.mpr ⟨nd2.2.1, nd2.1, fun a ha b hb e => (nd2.2.2 b hb a ha e.symm)⟩) (fun a ha => s2.dj a (by simp [ha]))
              exact ⟨rfl, q _ H2 ⟨G2, F3, Fx, t1.trans t3, s3, ow, nd3, fun a ha => s2.dj a (by simp [ha])⟩⟩
      | _ => exact q.elim
theorem pe_makeD {c : Str} {m : M} {os : List Opd} {np k : Nat} {f : Addr} {fd : FuncData} {ps : List Str} {x : Str} {p pos : Pos} {e : Expr} {es : List Expr} (hK : S.K = X.K) (M : Mk X.K (S.cm c) f) (F : FnOk X.prog X.w X.K X.mg X.base (L2.CX X.prog X.w) k f fd ps (spD S.K S.cm np m)) (hr : Room (k + 1) X.A)
    (hg : Gl X x) (hm : X.mg x = some (.ref (S.cm c))) (hb : Binds X.K fd ps []) (tk : Takes X S.W) (ha : PA X (e :: es) (rO S os)) (hnd : (slotsOf os).Nodup) (hnp : os.length + 1 = np) (hdb : (x == ("__debug__" : Str)) = false)
    (he : starEach (e :: es) X.env = (false, eval e X.env) :: starEach es X.env) (hpl : (backTo pos (starEach es X.env)).any (·.1) = false) : PE X (.Call (.Name x p) (e :: es) [] pos) (rE S (eMake c m os)) :=
  pe_imp (pe_makeS M F hr hg hm hb (fun σ => passAt tk σ) ha hdb he hpl) fun σ H Q q => make_imp hnd hnp q
end
end VE
/-! VE18: enumerate(..) over tuples and lists. -/
namespace VE
open PySem PySem.Spec PyProof.Rows L2
set_option maxHeartbeats 1000000 in
theorem meets_enumT (l : Addr) (items : Array Value) (n : Nat) (dct : Option Addr) (sl : Array (Option Value)) :
    Meets (Builtin.«enumerate.__new__» ⟨[.type "enumerate", .ref l], []⟩) (fun _ R s => s.heap.get? l = some { cls := .type "tuple", dict := dct, data := .seq items n, slots := sl } ∧
      R (.ok (.ret (.ref (s.heap.push { cls := .type "tuple_iterator", data := .fields #[.ref l, .int 0 0] }).objs.size)))
        { s with heap := (s.heap.push { cls := .type "tuple_iterator", data := .fields #[.ref l, .int 0 0] }).push { cls := .type "enumerate", data := .fields #[.none, .bool false, .ref s.heap.objs.size, rawInt 0, .none, .none] } }) :=
  .of_wp fun prog w A R s h => by
    obtain ⟨hp, g, d, tk, os⟩ := s; obtain ⟨hl, h⟩ := h
    have hsub := sub_enumerate
    have hL : Heap.IsTuple (Shared.heap ⟨hp, g, d, tk, os⟩) l items := ⟨_, hl, rfl, n, rfl⟩
    wp_walk using AutoSeq1.wpAny_loadPart' hl
    refine wpAny_stack_any fun st => wpAny_pure ?_
    split
    · rename_i c _ _ _ _ _
      cases (c == Value.type "enumerate")
      · wp_walk using AutoSeq1.wpAny_loadPart' hl, wpAny_pyIter_tuple hL
        exact ⟨_, rfl, h⟩
      · wp_walk using AutoSeq1.wpAny_loadPart' hl, wpAny_pyIter_tuple hL
        exact ⟨_, rfl, h⟩
    · wp_walk using AutoSeq1.wpAny_loadPart' hl, wpAny_pyIter_tuple hL
      exact ⟨_, rfl, h⟩
section
variable {prog : Program} {w : World} {A : Around} {E : Value → Shared → Prop} {s : Shared}
theorem call_enumT {l : Addr} {items : Array Value} {Q : Value → Shared → Prop} (hL : s.heap.IsTuple l items)
    (h : ∀ h', IsEnum h' (s.heap.objs.size + 1) s.heap.objs.size 0 .none → h'.IsTupleIter s.heap.objs.size l 0 → h'.objs.size = s.heap.objs.size + 2 →
      (∀ b o, s.heap.get? b = some o → h'.get? b = some o) → Q (.ref (s.heap.objs.size + 1)) { s with heap := h' }) :
    wpAny (model prog w) A (call (.type "enumerate") [.ref l]) Q E s := by
  obtain ⟨⟨c, dct, dt, sl⟩, hl, hc, n, hd⟩ := hL
  replace hc : c = .type "tuple" := hc
  replace hd : dt = .seq items n := hd
  subst hc hd
  refine callType_new F.called_enumerate (by decide) (F.typeCall_enumerate_1 _) (F.newCall_enumerate_1 _) (fun obj => F.args_object_init_2 obj _) F.entry_enumerate_new
    (meets_enumT l items n dct sl) ⟨hl, ?_⟩
  have hz : (s.heap.push { cls := .type "tuple_iterator", data := .fields #[.ref l, .int 0 0] }).objs.size = s.heap.objs.size + 1 := Heap.size_push ..
  show _ ∧ _
  rw [hz]
  have he : IsEnum ((s.heap.push { cls := .type "tuple_iterator", data := .fields #[.ref l, .int 0 0] }).push
      { cls := .type "enumerate", data := .fields #[.none, .bool false, .ref s.heap.objs.size, rawInt 0, .none, .none] }) (s.heap.objs.size + 1) s.heap.objs.size 0 .none := by
    have := Heap.get?_push_size (s.heap.push { cls := .type "tuple_iterator", data := .fields #[.ref l, .int 0 0] })
      (o := { cls := .type "enumerate", data := .fields #[.none, .bool false, .ref s.heap.objs.size, rawInt 0, .none, .none] }) rfl
    rw [hz] at this; exact this
  refine ⟨⟨_, he, rfl⟩, h _ he ⟨_, Heap.get?_push_of_some _ (Heap.get?_push_size _ rfl), rfl, rfl⟩ (by rw [Heap.size_push, hz]) fun b o y => Heap.get?_push_of_some _ (Heap.get?_push_of_some _ y)⟩
end
/-- the tuple at a (N items), each item in a new pair -/
def IteT (K : Frag) (a : Addr) (N : Nat) : It :=
  ⟨fun i H => ∃ (xs : List V) (x : V), SqT K H a xs ∧ xs.length = N ∧ xs[i]? = some x, fun i H v H' => ∃ T x, v = .ref T ∧ H T = none ∧ H' = upd H T (.tup [.int (i : Nat), x]) ∧ ∀ xs, SqT K H a xs → xs[i]? = some x, fun i H => ∃ xs : List V, SqT K H a xs ∧ xs.length = N ∧ N ≤ i⟩
theorem turn_enumT {P : Program} {w : World} {K : Frag} {elts : List Expr} {kk : Nat} {tpos : Pos} (a e it : Addr) (N : Nat) :
    Turn P w K (.Tuple elts kk tpos) (IteT K a N) [e, it] e (fun i h => (∃ old, IsEnum h e it ((i : Nat) : Int) old) ∧ h.IsTupleIter it a i ∧ e ≠ it ∧ e ≠ a ∧ a ≠ it ∧ i ≤ N) where
  mem := by simp
  obj := fun i h st b hb => by
    obtain ⟨⟨old, he⟩, ⟨o, ho, hc, hd⟩, _⟩ := st
    have e' : b = e ∨ b = it := by simpa using hb
    rcases e' with z | z
    · rw [z]; exact ⟨_, he, fun v q => nomatch q⟩
    · rw [z]; exact ⟨o, ho, fun v q => by rw [hd] at q; cases q⟩
  keep := fun i h h' st k => let ⟨⟨old, he⟩, hi, hne⟩ := st; ⟨⟨old, k e (by simp) _ he⟩, hi.at fun o q => k it (by simp) o q, hne⟩
  item := by
    intro X hP hw hK hc i pins s σ H E I hf st hg
    subst hP hw hK
    obtain ⟨⟨old, he⟩, hit, hne, hea, hai, hiN⟩ := st
    obtain ⟨xs, x, hq, hN, hx⟩ := hg
    obtain ⟨its, rv, p, hz⟩ := I.tuple hq
    obtain ⟨u, hu, ru⟩ := rv.get hx
    have hel : e < s.heap.objs.size := Heap.lt_size he
    have hil : it < s.heap.objs.size := by obtain ⟨_, q, _⟩ := hit; exact Heap.lt_size q
    have hi : i < its.toArray.size := by
      have := (List.getElem?_eq_some_iff.mp hu).1
      simpa using this
    have hl := rv.length
    rw [List.size_toArray] at hi
    have hd : X.A.in1.handled = none := by have := I.ok.hd hc; simpa using this
    have D := Draws.tuple (prog := X.prog) (w := X.w) hd it a hai its.toArray
    have hst : s.heap.IsTupleIter it a i ∧ s.heap.IsTuple a its.toArray := ⟨hit, p⟩
    refine wpAny_pyNext_enum_itemD D he hst (by rw [List.size_toArray]; exact hi) hne (by simp [hne, hea]) fun y h' tk hP ho hit' hT hsz hk => ?_
    have ey : y = u := by
      have : its[i]? = some y := by simpa using hP
      rw [hu] at this
      exact (Option.some.inj this).symm
    subst ey
    refine ⟨_, rfl, wpAny_letOwnedTupleGo_enum (s := { s with heap := h', toks := tk + 1 }) ho fun h'' he' sb => ?_⟩
    have hT2 : h''.get? s.heap.objs.size = some { cls := .type "tuple", data := .seq #[.int i tk, y] } := (sb.2 _ (Nat.ne_of_gt hel)).trans hT
    have new : ObjOk X.prog X.w (upd H s.heap.objs.size (.tup [.int (i : Nat), x])) h'' s.heap.objs.size (.tup [.int (i : Nat), x]) :=
      ⟨by show 2 ≤ sizeLine; decide, [.int i tk, y], .cons ⟨_, rfl⟩ (.cons ru .nil), ⟨_, hT2, rfl, _, rfl⟩⟩
    have I1 : Inv X pins σ (upd H s.heap.objs.size (.tup [.int (i : Nat), x])) { s with heap := h'', toks := tk + 1 } :=
      I.turnedNew (ch := [e, it]) (fun b ob hb q => (sb.2 b (fun z => hb (by simp [z]))).trans (hk b ob (fun z => hb (by simp [z])) (fun z => hb (by simp [z])) q)) hf (Nat.le_refl _) new
    refine ⟨.ref s.heap.objs.size, _, I1, rfl, ⟨_, x, rfl, I.hok.fresh (Nat.le_refl _), rfl, fun ys hy => by rw [I.tuple_inj hy hq]; exact hx⟩, ⟨⟨y, ?_⟩, hit'.1.at fun o q => (sb.2 it (Ne.symm hne)).trans q, hne, hea, hai, by omega⟩, fun b hb => ?_⟩
    · have e1 : ((i + 1 : Nat) : Int) = (i : Int) + 1 := by omega
      rw [e1]; exact he'
    · have hb' : b < s.heap.objs.size := by
        have e' : b = e ∨ b = it := by simpa using hb
        rcases e' with z | z
        · rw [z]; exact hel
        · rw [z]; exact hil
      rw [upd_ne (Nat.ne_of_lt hb')]
      exact (hf b hb).1
  done := by
    intro X hP hw hK hc i pins s σ H E I hf st hg
    subst hP hw hK
    obtain ⟨⟨old, he⟩, hit, hne, hea, hai, hiN⟩ := st
    obtain ⟨xs, hq, hN, hx⟩ := hg
    obtain ⟨its, rv, p, hz⟩ := I.tuple hq
    obtain ⟨f0, f1, f2, f3, f4, f5⟩ := hf it (by simp)
    have hl := rv.length
    have hd : X.A.in1.handled = none := by have := I.ok.hd hc; simpa using this
    have D := Draws.tuple (prog := X.prog) (w := X.w) hd it a hai its.toArray
    have hi : i = its.toArray.size := by rw [List.size_toArray]; omega
    have hst : s.heap.IsTupleIter it a its.toArray.size ∧ s.heap.IsTuple a its.toArray := ⟨hi ▸ hit, p⟩
    exact wpAny_pyNext_enum_endD D he hst fun h' eb => ⟨rfl, I.turned (t' := s.toks) (fun b o hb q => eb b o hb q) f0 f1 f3 f4 f5⟩
  self := fun A i s Q E st h => let ⟨⟨_, he⟩, _⟩ := st; wpAny_pyIter_enum he h
/-! ### the rule -/
def iEnumA (K : Frag) (ta : TA) : TI := fun σ H R => ta σ H fun vs H1 => ∃ a xs, vs = [.ref a] ∧ ((SqL K H1 a xs ∧ R (Ite K a) H1) ∨ (SqT K H1 a xs ∧ R (IteT K a xs.length) H1))
section
variable {X : Cx} {S : Set_}
theorem pi_enumA {e : Expr} {ta : TA} {p pos tpos : Pos} {elts : List Expr} {kk : Nat} (hg : Gl X "enumerate") (hm : X.mg "enumerate" = none) (ha : PA X [e] ta) (hs : starEach [e] X.env = [(false, eval e X.env)]) :
    PI X (.Tuple elts kk tpos) (.Call (.Name "enumerate" p) [e] [] pos) (iEnumA X.K ta) := by
  refine ⟨fun pins s σ H R I h => ?_⟩
  refine Call_ (ld_blt I hg hm boot_enumerate (PyProof.Rows.callWith_type1 (thn (ha.run pos pins s σ H _ I h) fun us s1 ⟨vs, H1, I1, r1, q1⟩ => ?_) hs rfl))
  obtain ⟨a, xs, ex, q1⟩ := q1
  subst ex
  cases r1 with
  | cons r rr =>
    cases rr
    cases r
    have fp : ∀ b ∈ [s1.heap.objs.size + 1, s1.heap.objs.size], FpOk X pins H1 b := fun b hb => by
      have e' : b = s1.heap.objs.size + 1 ∨ b = s1.heap.objs.size := by simpa using hb
      have hle : s1.heap.objs.size ≤ b := by
        rcases e' with z | z
        · rw [z]; exact Nat.le_add_right _ _
        · rw [z]; exact Nat.le_refl _
      exact I1.fpOk hle (I1.hok.fresh hle)
    rcases q1 with ⟨hq, q⟩ | ⟨hq, q⟩
    · obtain ⟨its, rv, p', hz⟩ := I1.list hq
      refine call_enumerate_list p'.isList fun h' he hit hsz hk => wpAny_pyIter_enum he ?_
      exact ⟨s1.heap.objs.size + 1, [s1.heap.objs.size + 1, s1.heap.objs.size], _, _, H1, rfl, I1.kept (t' := s1.toks) hk, turn_enum a (s1.heap.objs.size + 1) s1.heap.objs.size, ⟨⟨.none, he⟩, hit, Nat.succ_ne_self _⟩, fp, q⟩
    · obtain ⟨its, rv, p', hz⟩ := I1.tuple hq
      have hlt : a < s1.heap.objs.size := by obtain ⟨o, ho, _⟩ := p'; exact Heap.lt_size ho
      refine call_enumT (show s1.heap.IsTuple a its.toArray from p') fun h' he hit hsz hk => wpAny_pyIter_enum he ?_
      exact ⟨s1.heap.objs.size + 1, [s1.heap.objs.size + 1, s1.heap.objs.size], _, _, H1, rfl, I1.kept (t' := s1.toks) hk, turn_enumT a (s1.heap.objs.size + 1) s1.heap.objs.size xs.length,
        ⟨⟨.none, he⟩, hit, Nat.succ_ne_self _, Nat.ne_of_gt (Nat.lt_succ_of_lt hlt), Nat.ne_of_lt hlt, Nat.zero_le _⟩, fp, q⟩
/-- the pairs -/
def pairsD : Nat → List D → List D
  | _, [] => []
  | i, d :: r => .tup [.int (i : Nat), d] :: pairsD (i + 1) r
theorem pairsD_get : ∀ {ds : List D} {k i : Nat} {d : D}, (pairsD k ds)[i]? = some d → ∃ x, ds[i]? = some x ∧ d = .tup [.int ((k + i : Nat) : Int), x]
  | [], _, _, _, h => by simp [pairsD] at h
  | x :: r, k, 0, d, h => by
    simp [pairsD] at h
    exact ⟨x, rfl, h.symm⟩
  | x :: r, k, i + 1, d, h => by
    obtain ⟨y, h1, h2⟩ := pairsD_get (ds := r) (k := k + 1) (i := i) (by simpa [pairsD] using h)
    exact ⟨y, by simpa using h1, by rw [h2, show k + 1 + i = k + (i + 1) by omega]⟩
theorem pairsD_length : ∀ {ds : List D} {k : Nat}, (pairsD k ds).length = ds.length
  | [], _ => rfl
  | _ :: r, k => by rw [pairsD, List.length_cons, List.length_cons, pairsD_length]
theorem items_enumT {K : Frag} {cm : Str → Addr} {G : Hp} {a : Addr} {vs : List V} {ds : List D} (s : SqT K G a vs) (l : FzL K cm G ds vs) : Items K cm G (pairsD 0 ds) (IteT K a vs.length) := fun i G2 H2 g rd => by
  have s2 : SqT K H2 a vs := (g.rds.trans rd).sqT s
  refine ⟨fun d hd => ?_, fun hi => ⟨vs, s2, rfl, by rw [pairsD_length] at hi; rw [← l.length]; exact hi⟩⟩
  obtain ⟨x, hx, rfl⟩ := pairsD_get hd
  obtain ⟨v, hv, z⟩ := l.get hx
  refine ⟨⟨vs, v, s2, rfl, hv⟩, fun w H3 ⟨T, x', e1, hT, e2, hall⟩ => ?_⟩
  have := hall vs s2
  rw [hv] at this
  cases this
  subst e1 e2
  exact ⟨_, .frozen rd hT, .tup (.inl (.inl (upd_same ..))) (.cons (by rw [Nat.zero_add]; exact .int _) (.cons (z.mono ((g.trans (gle_upd (rd.fresh hT))).rds)) .nil))⟩
theorem items_enumL {K : Frag} {cm : Str → Addr} {G : Hp} {a : Addr} {vs : List V} {ds : List D} (s : SqL K G a vs) (l : FzL K cm G ds vs) : Items K cm G (pairsD 0 ds) (Ite K a) := fun i G2 H2 g rd => by
  have s2 : SqL K H2 a vs := (g.rds.trans rd).sqL s
  refine ⟨fun d hd => ?_, fun hi => ⟨vs, s2, by rw [pairsD_length] at hi; rw [← l.length]; exact hi⟩⟩
  obtain ⟨x, hx, rfl⟩ := pairsD_get hd
  obtain ⟨v, hv, z⟩ := l.get hx
  refine ⟨⟨vs, v, s2, hv⟩, fun w H3 ⟨T, x', e1, hT, e2, hall⟩ => ?_⟩
  have := hall vs s2
  rw [hv] at this
  cases this
  subst e1 e2
  exact ⟨_, .frozen rd hT, .tup (.inl (.inl (upd_same ..))) (.cons (by rw [Nat.zero_add]; exact .int _) (.cons (z.mono ((g.trans (gle_upd (rd.fresh hT))).rds)) .nil))⟩
def iEnum (m : M) : ML := fun ρ => match m ρ with
  | .ok d ρ' => (match frz d with
    | .lst _ a => .ok (pairsD 0 a) ρ'
    | .tup a => .ok (pairsD 0 a) ρ'
    | _ => .bad)
  | .exc c x ρ' => .exc c x ρ'
  | .bad => .bad
theorem pi_enumD {e : Expr} {m : M} {p pos tpos : Pos} {elts : List Expr} {kk : Nat} (hK : S.K = X.K) (hg : Gl X "enumerate") (hm : X.mg "enumerate" = none) (he : PE X e (rE S m)) (hs : starEach [e] X.env = [(false, eval e X.env)]) :
    PI X (.Tuple elts kk tpos) (.Call (.Name "enumerate" p) [e] [] pos) (rI S (iEnum m)) :=
  pi_imp (pi_enumA hg hm (pa_cons he pa_nil hs) hs) fun σ H R q => by
    rw [← hK]
    obtain ⟨G, ρ, F, s, q⟩ := q
    refine ⟨G, ρ, F, s, ?_⟩
    unfold iEnum at q
    cases e1 : m ρ with
    | bad => rw [e1] at q; exact q
    | exc c x ρ' => rw [e1] at q; exact q
    | ok d ρ' =>
      rw [e1] at q
      dsimp only at q ⊢
      intro v H1 p
      obtain ⟨G1, F1, t1, s1, z⟩ := p.freeze
      cases hz : frz d with
      | lst o a =>
        rw [hz] at q z
        obtain ⟨p', xs, rfl, h1, l⟩ := (Ow.fz z : Ow S.K S.cm G1 H1 _ _ []).lst_inv s1.rd
        cases z with
        | lst hG l =>
        exact ⟨_, _, rfl, .inl ⟨.inl (.inl (s1.rd.ex hG rfl)), q _ _ ⟨G1, F1, t1, s1, items_enumL (.inl (.inl hG)) l⟩⟩⟩
      | tup a =>
        rw [hz] at q z
        cases z with
        | tup hG l =>
        exact ⟨_, _, rfl, .inr ⟨s1.rd.sqT hG, q _ _ ⟨G1, F1, t1, s1, items_enumT hG l⟩⟩⟩
      | _ => rw [hz] at q; exact q.elim
end
end VE
/-! VE19: entries: defs, classes, constants by their names. -/
namespace VE
open PySem PySem.Spec PyProof.Rows L2
section
variable (P : Program) (w : World) (K : Frag) (mg : Str → Option Value) (base : Heap) (cm : Str → Addr)
/-- a def, by its name -/
def Ent (k : Nat) (x : Str) (np : Nat) (m : M) : Prop := ∃ (f : Addr) (fd : FuncData) (ps : List Str), FnOk P w K mg base (L2.CX P w) k f fd ps (spD K cm np m) ∧ mg x = some (.ref f) ∧ PySem.W.keepIn K (.ref f) = true ∧ Binds K fd ps []
/-- a class, by its name: its __init__ -/
def EntI (k : Nat) (c : Str) (np : Nat) (m : M) : Prop := ∃ (f : Addr) (fd : FuncData) (ps : List Str), FnOk P w K mg base (L2.CX P w) k f fd ps (spD K cm np m) ∧ Mk K (cm c) f ∧ mg c = some (.ref (cm c)) ∧ Binds K fd ps []
/-- constants -/
def IntC (x : Str) (i : Int) : Prop := ∃ t, mg x = some (.int i t)
def StrC (x z : Str) : Prop := ∃ t, mg x = some (.str z t)
def TupC (x : Str) (ds : List D) : Prop := ∃ (a : Addr) (o : Obj) (its : Array Value) (n : Nat) (vs : List V), mg x = some (.ref a) ∧ K.lookup a = some o ∧ o.cls = .type "tuple" ∧ o.data = .seq its n ∧ its.size ≤ sizeLine ∧ Vals vs its.toList ∧ ∀ (cm : Str → Addr) (G : Hp), FzL K cm G ds vs
end
section
variable {X : Cx} {S : Set_} {pos : Pos} {a b c : Expr}
theorem pe_callN {k np : Nat} {m : M} {os : List Opd} {x : Str} {p : Pos} {e : Expr} {es : List Expr} (E : Ent X.prog X.w X.K X.mg X.base S.cm k x np m) (hK : S.K = X.K) (hr : Room k X.A) (hg : Gl X x) (tk : Takes X S.W) (ha : PA X (e :: es) (rO S os)) (hnd : (slotsOf os).Nodup) (hnp : os.length = np)
    (hdb : (x == ("__debug__" : Str)) = false) (he : starEach (e :: es) X.env = (false, eval e X.env) :: starEach es X.env) (hpl : (backTo pos (starEach es X.env)).any (·.1) = false) : PE X (.Call (.Name x p) (e :: es) [] pos) (rE S (eCall m os)) := by
  obtain ⟨f, fd, ps, F, hm, hk, hb⟩ := E
  rw [← hK] at F
  exact pe_callD hK (hK ▸ F) hr hg hm hk hb tk ha hnd hnp hdb he hpl
theorem pe_makeN {k np : Nat} {m : M} {os : List Opd} {x : Str} {p : Pos} {e : Expr} {es : List Expr} (E : EntI X.prog X.w X.K X.mg X.base S.cm k x np m) (hK : S.K = X.K) (hr : Room (k + 1) X.A) (hg : Gl X x) (tk : Takes X S.W) (ha : PA X (e :: es) (rO S os)) (hnd : (slotsOf os).Nodup) (hnp : os.length + 1 = np)
    (hdb : (x == ("__debug__" : Str)) = false) (he : starEach (e :: es) X.env = (false, eval e X.env) :: starEach es X.env) (hpl : (backTo pos (starEach es X.env)).any (·.1) = false) : PE X (.Call (.Name x p) (e :: es) [] pos) (rE S (eMake x m os)) := by
  obtain ⟨f, fd, ps, F, M, hm, hb⟩ := E
  rw [← hK] at F
  exact pe_makeD hK M (hK ▸ F) hr hg hm hb tk ha hnd hnp hdb he hpl
theorem pe_intC {x : Str} {i : Int} (h : IntC X.mg x i) (hg : Gl X x) (hdb : (x == ("__debug__" : Str)) = false) : PE X (.Name x pos) (rE S (eC (.int i))) := by
  obtain ⟨t, h⟩ := h
  exact pe_eC (pe_glob (v := .int i) hg h ⟨t, rfl⟩ hdb) fun _ => .int i
theorem pe_strC {x z : Str} (h : StrC X.mg x z) (hg : Gl X x) (hdb : (x == ("__debug__" : Str)) = false) : PE X (.Name x pos) (rE S (eC (.str z))) := by
  obtain ⟨t, h⟩ := h
  exact pe_eC (pe_glob (v := .str z) hg h ⟨t, rfl⟩ hdb) fun _ => .str z
theorem pe_tupC {x : Str} {ds : List D} (h : TupC X.K X.mg x ds) (hK : S.K = X.K) (hg : Gl X x) (hdb : (x == ("__debug__" : Str)) = false) : PE X (.Name x pos) (rE S (eC (.tup ds))) := by
  obtain ⟨a, o, its, n, vs, h, h1, h2, h3, h4, h5, h6⟩ := h
  refine pe_eC (pe_glob (v := .ref a) hg h rfl hdb) fun G => .tup (.inr ⟨o, its, n, ?_, h2, h3, h4, h5⟩) ?_
  · rw [hK]; exact h1
  · rw [hK]; exact h6 _ _
theorem pe_cInt {i : Int} {j : Nat} : PE X (.Constant (.int i) j pos) (rE S (eC (.int i))) := pe_eC pe_int fun _ => .int i
theorem pe_cStr {z : Str} {j : Nat} : PE X (.Constant (.str z) j pos) (rE S (eC (.str z))) := pe_eC pe_str fun _ => .str z
theorem pe_cNon {j : Nat} : PE X (.Constant .none j pos) (rE S (eC .non)) := pe_eC pe_non fun _ => .non
theorem pe_cBl {b : Bool} {j : Nat} : PE X (.Constant (.bool b) j pos) (rE S (eC (.bl b))) := pe_eC pe_bl fun _ => .bl b
end
end VE
/-! VE20: y = [.. for ..] into a local name. -/
namespace VE
open PySem PySem.Spec PyProof.Rows L2
section
variable {K : Frag} {cm : Str → Addr} {io : List Nat} {vs : List V} {E : XK}
theorem fx_mem {q : Nat × V} (h : q ∈ (setB K cm io vs E).fx) : q.1 ∈ io := by
  simp only [setB, List.mem_filterMap, Option.map_eq_some_iff] at h
  obtain ⟨i, hi, v, _, rfl⟩ := h
  exact hi
theorem fx_io {i : Nat} (h : io.contains i = false) : ∀ q ∈ (setB K cm io vs E).fx, q.1 ≠ i := fun q hq e => by
  have := fx_mem hq
  rw [e] at this
  rw [List.contains_eq_mem, decide_eq_false_iff_not] at h
  exact h this
theorem fxs_io {l : List Nat} (h : (l.all fun i => !io.contains i) = true) : ∀ v ∈ l, ∀ q ∈ (setB K cm io vs E).fx, q.1 ≠ v := fun v hv =>
  fx_io (by have := List.all_eq_true.mp h v hv; simpa using this)
theorem free_io {t : Tgt} (h : (t.sl.all fun i => !io.contains i) = true) : t.free ((setB K cm io vs E).fx.map (·.1)) = true :=
  Tgt.free_of t fun j hj q hq => fxs_io h j hj q hq
end
end VE
namespace VE
open PySem PySem.Spec PyProof.Rows L2
theorem fxl_io {K : Frag} {cm : Str → Addr} {io : List Nat} {vs : List V} {E : XK} {l : List Nat} (h : (l.all fun i => !io.contains i) = true) : ∀ n ∈ l, ∀ q ∈ (setB K cm io vs E).fx, q.1 ≠ n := fxs_io h
end VE
namespace VE
open PySem PySem.Spec PyProof.Rows L2
section
variable {X : Cx} {S : Set_}
theorem xo {e : Expr} {m : M} (h : PE X e (rE S m)) : PE X e (tO S (.ex m)) := h
theorem so {e : Expr} {i : Nat} (h : PE X e (tVar i)) : PE X e (tO S (.slot i)) := h
/-- BlkOk, computed -/
def blkB (N : List Str) (sc scope : Scope) (own : List (Str × Nat)) : Bool :=
  decide (scope.kind = .function) && (scope.names.all fun y => decide (scope.names.lookup y.1 = some y.2)) && (own.all fun p => decide (N[p.2]? = some p.1)) &&
  (scope.names.all fun y => decide (y.2 = .free → sc.names.lookup y.1 = some .cell ∨ sc.names.lookup y.1 = some .free)) &&
  (scope.names.all fun y => decide (y.2 = .local ∨ y.2 = .cell → y.1 ∈ own.map (·.1) ∨ y.1 ∉ N))
theorem blk_ok {N : List Str} {sc scope : Scope} {own : List (Str × Nat)} (h : blkB N sc scope own = true) : BlkOk N sc scope own := by
  unfold blkB at h
  simp only [Bool.and_eq_true, List.all_eq_true, decide_eq_true_eq] at h
  obtain ⟨⟨⟨⟨h1, h2⟩, h3⟩, h4⟩, h5⟩ := h
  exact ⟨h1, h2, h3, h4, h5⟩
theorem pe_lcE {elt tg iter : Expr} {ifs : List Expr} {scope : Scope} {own : List (Str × Nat)} {pos : Pos} {it : ML} {t : Tgt} {c : Option M} {e : M} (hc : X.calm = true) (hN : X.N.Nodup) (hi : PI X tg iter (rI S it)) (ok : blkB X.N X.env.scope scope own = true)
    (hg : ∀ (s : Shared) (H : Hp) (C : Addr) (cl : List (Str × Addr)) (fp : List Addr), PG (X.blk s H scope (compEnvC scope cl C X.env) fp) tg (t.g S.K))
    (ht : ∀ (s : Shared) (H : Hp) (C : Addr) (cl : List (Str × Addr)) (fp : List Addr), PTs (X.blk s H scope (compEnvC scope cl C X.env) fp) ifs (tCond S.blk c))
    (he : ∀ (s : Shared) (H : Hp) (C : Addr) (cl : List (Str × Addr)) (fp : List Addr), PE (X.blk s H scope (compEnvC scope cl C X.env) fp) elt (rE S.blk e))
    (hs : ∀ x, foldedSetIterable iter X.env x = pure x) (hnd : (own.map (·.2)).Nodup) (hsl : ∀ j ∈ t.sl, j ∈ own.map (·.2)) (hfx : ∀ v ∈ own.map (·.2), ∀ q ∈ S.fx, q.1 ≠ v) :
    PE X (.ListComp elt [⟨tg, iter, ifs, 0⟩] scope pos) (rE S (eComp (own.map (·.2)) it t c e)) := (pe_lcD hc hN hi (blk_ok ok) hg ht he hs hnd hsl hfx).1
end
end VE
namespace VE
open PySem PySem.Spec PyProof.Rows L2
section
variable {X : Cx} {S : Set_}
theorem ps_setLcD {i : Nat} {y : Str} {py : Pos} {elt tg iter : Expr} {ifs : List Expr} {scope : Scope} {own : List (Str × Nat)} {pos spos : Pos} {it : ML} {t : Tgt} {c : Option M} {e : M} (hc : X.calm = true) (hN : X.N.Nodup) (hy : X.N[i]? = some y) (hyl : X.env.scope.names.lookup y = some .local)
    (hsw : swapsWith (.ListComp elt [⟨tg, iter, ifs, 0⟩] scope pos) (some (.Name y py)) spos.line X.env = pure true) (hi : PI X tg iter (rI S it)) (ok : blkB X.N X.env.scope scope own = true)
    (hg : ∀ (s : Shared) (H : Hp) (C : Addr) (cl : List (Str × Addr)) (fp : List Addr), PG (X.blk s H scope (compEnvC scope cl C X.env) fp) tg (t.g S.K))
    (ht : ∀ (s : Shared) (H : Hp) (C : Addr) (cl : List (Str × Addr)) (fp : List Addr), PTs (X.blk s H scope (compEnvC scope cl C X.env) fp) ifs (tCond S.blk c))
    (he : ∀ (s : Shared) (H : Hp) (C : Addr) (cl : List (Str × Addr)) (fp : List Addr), PE (X.blk s H scope (compEnvC scope cl C X.env) fp) elt (rE S.blk e))
    (hs : ∀ x, foldedSetIterable iter X.env x = pure x) (hnd : (own.map (·.2)).Nodup) (hsl : ∀ j ∈ t.sl, j ∈ own.map (·.2)) (hfx : ∀ v ∈ own.map (·.2), ∀ q ∈ S.fx, q.1 ≠ v) (hfi : ∀ q ∈ S.fx, q.1 ≠ i) :
    PS X (.Assign [.Name y py] (.ListComp elt [⟨tg, iter, ifs, 0⟩] scope pos) spos) (rS S (sSet i (eComp (own.map (·.2)) it t c e))) :=
  ps_imp (ps_setLc hc hN hy hyl hsw hi (blk_ok ok) hg ht he hs) fun D σ H q => by
    have key := (pe_lcD (pos := pos) hc hN hi (blk_ok ok) hg ht he hs hnd hsl hfx).2
    exact key σ H _ (rS_with q fun G F d ρ' w v H' p => p.stores hfi w)
end
end VE
namespace VE
open PySem PySem.Spec PyProof.Rows L2
section
variable {X : Cx} {S : Set_}
/-- a display's pairs -/
def PP (X : Cx) (S : Set_) (pos : Pos) (keys : List (Option Expr)) (values : List Expr) (ks : List Key) (ms : List M) : Prop := PPs X pos keys values ((ks.zip ms).map fun p => (tC (kV p.1), rE S p.2))
theorem pp_nil {pos : Pos} : PP X S pos [] [] [] [] := pps_nil
theorem pp_s {pos p : Pos} {k : Str} {j : Nat} {v : Expr} {m : M} {keys : List (Option Expr)} {values : List Expr} {ks : List Key} {ms : List M} (h : PE X v (rE S m)) (hr : PP X S pos keys values ks ms) : PP X S pos (some (.Constant (.str k) j p) :: keys) (v :: values) (.inr k :: ks) (m :: ms) := pps_cons pe_str h hr
theorem pp_i {pos p : Pos} {k : Int} {j : Nat} {v : Expr} {m : M} {keys : List (Option Expr)} {values : List Expr} {ks : List Key} {ms : List M} (h : PE X v (rE S m)) (hr : PP X S pos keys values ks ms) : PP X S pos (some (.Constant (.int k) j p) :: keys) (v :: values) (.inl k :: ks) (m :: ms) := pps_cons pe_int h hr
theorem pe_dispE {ks : List Key} {ms : List M} {keys : List (Option Expr)} {values : List Expr} {pos : Pos} (h : PP X S pos keys values ks ms) (hl : ks.length = ms.length) (hall : keys.all (·.isSome) = true) (hl2 : keys.length = values.length) (h0 : keys ≠ []) (h15 : keys.length ≤ 15) :
    PE X (.Dict keys values pos) (rE S (eDisp ks ms)) := pe_dispD h hl hall hl2 h0 h15
end
end VE
/-! VE22: what the combinators do, step by step: a calculus without the program. -/
namespace VE
open PySem PySem.Spec PyProof.Rows L2
@[irreducible] def wpE (m : M) (ρ : Env) (Q : D → Env → Prop) : Prop := match m ρ with
  | .ok d ρ' => Q d ρ'
  | _ => False
@[irreducible] def wpO (os : List Opd) (ρ : Env) (Q : List D → Env → Prop) : Prop := match evO os ρ with
  | .ok d ρ' => Q d ρ'
  | _ => False
@[irreducible] def wpI (it : ML) (ρ : Env) (Q : List D → Env → Prop) : Prop := match it ρ with
  | .ok d ρ' => Q d ρ'
  | _ => False
@[irreducible] def wpS (b : MS) (ρ : Env) (N : Env → Prop) (R : D → Env → Prop) (B : Env → Prop) : Prop := match b ρ with
  | .nx ρ' => N ρ'
  | .rt d ρ' => R d ρ'
  | .bk ρ' => B ρ'
  | _ => False
section
variable {ρ : Env} {Q : D → Env → Prop} {QL : List D → Env → Prop} {N B : Env → Prop} {R : D → Env → Prop}
theorem wpE_of {m : M} {d : D} {ρ' : Env} (h : m ρ = .ok d ρ') (q : Q d ρ') : wpE m ρ Q := by unfold wpE; rw [h]; exact q
theorem wpE_mono {m : M} {Q' : D → Env → Prop} (h : wpE m ρ Q) (k : ∀ d ρ', Q d ρ' → Q' d ρ') : wpE m ρ Q' := by
  unfold wpE at h ⊢
  split at h
  · exact k _ _ h
  · exact h.elim
theorem wpE_ok {m : M} (h : wpE m ρ Q) : ∃ d ρ', m ρ = .ok d ρ' ∧ Q d ρ' := by
  unfold wpE at h
  split at h
  · exact ⟨_, _, by assumption, h⟩
  · exact h.elim
theorem wpS_mono {b : MS} {N' B' : Env → Prop} {R' : D → Env → Prop} (h : wpS b ρ N R B) (k1 : ∀ ρ', N ρ' → N' ρ') (k2 : ∀ d ρ', R d ρ' → R' d ρ') (k3 : ∀ ρ', B ρ' → B' ρ') : wpS b ρ N' R' B' := by
  unfold wpS at h ⊢
  split at h
  · exact k1 _ h
  · exact k2 _ _ h
  · exact k3 _ h
  · exact h.elim
/-! expressions -/
theorem wp_var {i : Nat} : wpE (eVar i) ρ Q ↔ ∃ d, sget ρ i = some d ∧ Q (frz d) (ρ.set i (some (frz d))) := by
  unfold wpE eVar
  cases e : sget ρ i with
  | none => simp
  | some d => simp
theorem wp_c {d : D} : wpE (eC d) ρ Q ↔ Q d ρ := by unfold wpE; exact Iff.rfl
theorem wpO_nil : wpO [] ρ QL ↔ QL [] ρ := by unfold wpO; exact Iff.rfl
theorem wpO_ex {m : M} {os : List Opd} : wpO (.ex m :: os) ρ QL ↔ wpE m ρ fun d ρ1 => wpO os ρ1 fun ds ρ2 => QL (frz d :: ds) ρ2 := by
  unfold wpO wpE
  rw [evO]
  cases e : m ρ with
  | ok d ρ1 => dsimp only; cases e2 : evO os ρ1 <;> rfl
  | exc _ _ _ => rfl
  | bad => rfl
theorem wpO_slot {i : Nat} {os : List Opd} : wpO (.slot i :: os) ρ QL ↔ (sget ρ i).isSome = true ∧ wpO os ρ fun ds ρ2 => ∃ d, sget ρ2 i = some d ∧ QL (d :: ds) ρ2 := by
  unfold wpO
  rw [evO]
  cases e : sget ρ i with
  | none => simp
  | some d =>
    cases e2 : evO os ρ with
    | ok ds ρ2 =>
      dsimp only
      cases e3 : sget ρ2 i <;> simp
    | exc _ _ _ => simp
    | bad => simp
theorem wp_ops {os : List Opd} {g : List D → Option D} : wpE (ops os g) ρ Q ↔ wpO os ρ fun ds ρ' => ∃ d, g ds = some d ∧ Q d ρ' := by
  unfold wpE wpO ops
  cases e : evO os ρ with
  | ok ds ρ1 => dsimp only; cases e2 : g ds <;> simp
  | exc _ _ _ => rfl
  | bad => rfl
theorem wp_and {a b : M} : wpE (eAnd a b) ρ Q ↔ wpE a ρ fun d ρ1 => (d = .bl true ∧ wpE b ρ1 Q) ∨ (d = .bl false ∧ Q (.bl false) ρ1) := by
  unfold wpE eAnd
  cases e : a ρ with
  | ok d ρ1 =>
    cases d with
    | bl k => cases k <;> simp
    | _ => simp
  | _ => rfl
theorem wp_or {a b : M} : wpE (eOr a b) ρ Q ↔ wpE a ρ fun d ρ1 => (d = .bl true ∧ Q (.bl true) ρ1) ∨ (d = .bl false ∧ wpE b ρ1 Q) := by
  unfold wpE eOr
  cases e : a ρ with
  | ok d ρ1 =>
    cases d with
    | bl k => cases k <;> simp
    | _ => simp
  | _ => rfl
theorem wp_not {a : M} : wpE (eNot a) ρ Q ↔ wpE a ρ fun d ρ1 => ∃ b, d = .bl b ∧ Q (.bl (!b)) ρ1 := by
  unfold wpE eNot
  cases e : a ρ with
  | ok d ρ1 =>
    cases d with
    | bl k => simp
    | _ => simp
  | _ => rfl
theorem wp_if {c a b : M} : wpE (eIf c a b) ρ Q ↔ wpE c ρ fun d ρ1 => (d = .bl true ∧ wpE a ρ1 Q) ∨ (d = .bl false ∧ wpE b ρ1 Q) := by
  unfold wpE eIf
  cases e : c ρ with
  | ok d ρ1 =>
    cases d with
    | bl k => cases k <;> simp
    | _ => simp
  | _ => rfl
theorem wp_call {m : M} {os : List Opd} : wpE (eCall m os) ρ Q ↔ wpO os ρ fun ds ρ1 => wpE m (ds.map some) fun d ρa => Q d (putBack os ρa ρ1) := by
  unfold wpE wpO eCall
  cases e : evO os ρ with
  | ok ds ρ1 => dsimp only; cases e2 : m (ds.map some) <;> rfl
  | exc _ _ _ => rfl
  | bad => rfl
theorem wp_make {c : Str} {m : M} {os : List Opd} : wpE (eMake c m os) ρ Q ↔ wpO os ρ fun ds ρ1 => wpE m (some (.ins true c [] []) :: ds.map some) fun d ρa => d = .non ∧ ∃ x ρb, ρa = some x :: ρb ∧ Q x (putBack os ρb ρ1) := by
  unfold wpE wpO eMake
  cases e : evO os ρ with
  | ok ds ρ1 =>
    dsimp only
    cases e2 : m (some (.ins true c [] []) :: ds.map some) with
    | ok d ρa =>
      cases d with
      | non =>
        cases ρa with
        | nil => simp
        | cons y ρb =>
          cases y with
          | none => simp
          | some v => exact ⟨fun h => ⟨rfl, _, _, rfl, h⟩, fun ⟨_, _, _, h0, h⟩ => by cases h0; exact h⟩
      | _ => simp
    | exc cc x ρa => cases ρa <;> simp
    | bad => simp
  | exc _ _ _ => rfl
  | bad => rfl
theorem wp_slLU {a b c : Opd} : wpE (eSlLU a b c) ρ Q ↔ wpO [a, b] ρ fun ds ρ1 => ∃ da i, twoI ds = some (da, i) ∧ wpO [c] ρ1 fun es ρ2 => ∃ j, oneI es = some j ∧ ∃ d, dSl (some i) (some j) da = some d ∧ Q d ρ2 := by
  unfold wpE wpO eSlLU
  cases e : evO [a, b] ρ with
  | ok ds ρ1 =>
    dsimp only
    cases e2 : twoI ds with
    | none => simp
    | some p =>
      obtain ⟨da, i⟩ := p
      dsimp only
      cases e3 : evO [c] ρ1 with
      | ok es ρ2 =>
        dsimp only
        cases e4 : oneI es with
        | none => simp
        | some j =>
          dsimp only
          cases e5 : dSl (some i) (some j) da with
          | none => exact ⟨fun h => h.elim, fun ⟨_, _, h0, _, h1, _, h5, h⟩ => by cases h0; cases h1; rw [e5] at h5; cases h5⟩
          | some v => exact ⟨fun h => ⟨_, _, rfl, _, rfl, _, e5, h⟩, fun ⟨_, _, h0, _, h1, _, h5, h⟩ => by cases h0; cases h1; rw [e5] at h5; cases h5; exact h⟩
      | exc _ _ _ => simp
      | bad => simp
  | exc _ _ _ => rfl
  | bad => rfl
theorem wp_chain {g1 g2 : List D → Option D} {a b c : Opd} : wpE (eChain g1 g2 a b c) ρ Q ↔ wpO [a, b] ρ fun ds ρ1 => ∃ da i, twoI ds = some (da, i) ∧ ∃ k, g1 ds = some (.bl k) ∧ if k = true then wpO [c] ρ1 fun es ρ2 => ∃ d, g2 (.int i :: es) = some d ∧ Q d ρ2 else Q (.bl false) ρ1 := by
  unfold wpE wpO eChain
  cases e : evO [a, b] ρ with
  | ok ds ρ1 =>
    dsimp only
    cases e2 : twoI ds with
    | none => exact ⟨fun h => h.elim, fun ⟨_, _, h0, _⟩ => by cases h0⟩
    | some p =>
      obtain ⟨da, i⟩ := p
      dsimp only
      have asb : ∀ k, asB (g1 ds) = some k ↔ g1 ds = some (.bl k) := fun k => by
        unfold asB
        split
        · rename_i x h; rw [h]; constructor
          · intro e; cases e; rfl
          · intro e; cases e; rfl
        · rename_i x h; constructor
          · intro e; cases e
          · intro e; exact absurd e (h k)
      cases e3 : asB (g1 ds) with
      | none => exact ⟨fun h => h.elim, fun ⟨_, _, _, k, h1, _⟩ => by rw [← asb] at h1; rw [h1] at e3; cases e3⟩
      | some k =>
        have e4 := (asb k).mp e3
        cases k with
        | false => exact ⟨fun h => ⟨_, _, rfl, _, e4, h⟩, fun ⟨_, _, _, k, h1, h⟩ => by rw [e4] at h1; cases h1; exact h⟩
        | true =>
          dsimp only
          cases e5 : evO [c] ρ1 with
          | ok es ρ2 =>
            dsimp only
            cases e6 : g2 (.int i :: es) with
            | none => exact ⟨fun h => h.elim, fun ⟨_, _, h0, k, h1, h⟩ => by cases h0; rw [e4] at h1; cases h1; obtain ⟨_, h2, _⟩ := h; rw [e6] at h2; cases h2⟩
            | some v => exact ⟨fun h => ⟨_, _, rfl, _, e4, ⟨_, e6, h⟩⟩, fun ⟨_, _, h0, k, h1, h⟩ => by cases h0; rw [e4] at h1; cases h1; obtain ⟨_, h2, h⟩ := h; rw [e6] at h2; cases h2; exact h⟩
          | exc _ _ _ => exact ⟨fun h => h.elim, fun ⟨_, _, _, k, h1, h⟩ => by rw [e4] at h1; cases h1; exact h⟩
          | bad => exact ⟨fun h => h.elim, fun ⟨_, _, _, k, h1, h⟩ => by rw [e4] at h1; cases h1; exact h⟩
  | exc _ _ _ => rfl
  | bad => rfl
theorem wp_mut {i : Nat} {ms : List M} {g : List D → List D → Option (D × List D)} : wpE (eMut i ms g) ρ Q ↔ (∃ t, sget ρ i = some t ∧ isLst t = true) ∧ wpO (ms.map .ex) ρ fun ds ρ1 => ∃ xs, sget ρ1 i = some (.lst true xs) ∧ ∃ d xs', g xs ds = some (d, xs') ∧ Q d (ρ1.set i (some (.lst true xs'))) := by
  unfold wpE wpO eMut
  cases e : sget ρ i with
  | none => simp
  | some t =>
    dsimp only
    by_cases hl : isLst t = true
    case neg =>
      rw [if_neg hl]
      exact ⟨fun h => h.elim, fun ⟨⟨_, h1, h2⟩, _⟩ => by cases h1; exact absurd h2 hl⟩
    rw [if_pos hl]
    cases e1 : evO (ms.map .ex) ρ with
    | ok ds ρ1 =>
      dsimp only
      cases e2 : (sget ρ1 i).bind lstT with
      | none =>
        refine ⟨fun h => h.elim, fun ⟨_, xs, h1, _⟩ => ?_⟩
        rw [h1] at e2; cases e2
      | some xs =>
        obtain ⟨t1, h1, h2⟩ := Option.bind_eq_some_iff.mp e2
        have := lstT_some h2
        subst this
        dsimp only
        cases e3 : g xs ds with
        | none => exact ⟨fun h => h.elim, fun ⟨_, xs', h3, _, _, h4, _⟩ => by rw [h1] at h3; cases h3; rw [e3] at h4; cases h4⟩
        | some p => exact ⟨fun h => ⟨⟨t, rfl, hl⟩, xs, h1, p.1, p.2, e3, h⟩, fun ⟨_, xs', h3, _, _, h4, h⟩ => by rw [h1] at h3; cases h3; rw [e3] at h4; cases h4; exact h⟩
    | exc _ _ _ => exact ⟨fun h => h.elim, fun h => h.2.elim⟩
    | bad => exact ⟨fun h => h.elim, fun h => h.2.elim⟩
@[irreducible] def wpM (ms : List M) (ρ : Env) (Q : List D → Env → Prop) : Prop := match evM ms ρ with
  | .ok d ρ' => Q d ρ'
  | _ => False
theorem wpM_nil : wpM [] ρ QL ↔ QL [] ρ := by unfold wpM; exact Iff.rfl
theorem wpM_cons {m : M} {ms : List M} : wpM (m :: ms) ρ QL ↔ wpE m ρ fun d ρ1 => wpM ms ρ1 fun ds ρ2 => QL (d :: ds) ρ2 := by
  unfold wpM wpE
  rw [evM]
  cases e : m ρ with
  | ok d ρ1 => dsimp only; cases e2 : evM ms ρ1 <;> rfl
  | exc _ _ _ => rfl
  | bad => rfl
theorem wp_disp {ks : List Key} {ms : List M} : wpE (eDisp ks ms) ρ Q ↔ wpM ms ρ fun ds ρ1 => (ks.length = ds.length ∧ ks.length ≤ 15 ∧ ks.Nodup) ∧ Q (.dk true ks ds) ρ1 := by
  unfold wpE wpM eDisp
  cases e : evM ms ρ with
  | ok ds ρ1 =>
    dsimp only
    unfold dispK
    by_cases h : ks.length = ds.length ∧ ks.length ≤ 15 ∧ ks.Nodup
    · rw [if_pos h]; exact ⟨fun q => ⟨h, q⟩, fun q => q.2⟩
    · rw [if_neg h]; exact ⟨fun q => q.elim, fun q => absurd q.1 h⟩
  | exc _ _ _ => rfl
  | bad => rfl
/-! statements -/
theorem wp_nil : wpS sNil ρ N R B ↔ N ρ := by unfold wpS; exact Iff.rfl
theorem wp_pass : wpS sPass ρ N R B ↔ N ρ := by unfold wpS; exact Iff.rfl
theorem wp_brk : wpS sBreak ρ N R B ↔ B ρ := by unfold wpS; exact Iff.rfl
theorem wp_badS : wpS sBad ρ N R B ↔ False := by unfold wpS; exact Iff.rfl
theorem wp_seq {a b : MS} : wpS (sSeq a b) ρ N R B ↔ wpS a ρ (fun ρ1 => wpS b ρ1 N R B) R B := by
  unfold wpS sSeq
  cases a ρ <;> rfl
theorem wp_ret {m : M} : wpS (sRet m) ρ N R B ↔ wpE m ρ R := by
  unfold wpS wpE sRet sWith
  cases m ρ <;> rfl
theorem wp_expr {m : M} : wpS (sExpr m) ρ N R B ↔ wpE m ρ fun _ ρ' => N ρ' := by
  unfold wpS wpE sExpr sWith
  cases m ρ <;> rfl
theorem wp_set {i : Nat} {m : M} : wpS (sSet i m) ρ N R B ↔ wpE m ρ fun d ρ' => i < ρ'.length ∧ N (ρ'.set i (some d)) := by
  unfold wpS wpE sSet sWith
  cases m ρ with
  | ok d ρ' =>
    dsimp only
    unfold putE
    by_cases h : i < ρ'.length
    · rw [if_pos h]; exact ⟨fun q => ⟨h, q⟩, fun q => q.2⟩
    · rw [if_neg h]; exact ⟨fun q => q.elim, fun q => absurd q.1 h⟩
  | exc _ _ _ => rfl
  | bad => rfl
theorem wp_ifS {c : M} {a b : MS} : wpS (sIf c a b) ρ N R B ↔ wpE c ρ fun d ρ1 => (d = .bl true ∧ wpS a ρ1 N R B) ∨ (d = .bl false ∧ wpS b ρ1 N R B) := by
  unfold wpS wpE sIf sWith
  cases e : c ρ with
  | ok d ρ1 =>
    cases d with
    | bl k => cases k <;> simp
    | _ => simp
  | _ => rfl
theorem wp_put {i : Nat} {k m : M} : wpS (sPut i k m) ρ N R B ↔ wpE m ρ fun d ρ1 => (sget ρ1 i).isSome = true ∧ wpE k ρ1 fun kd ρ2 => ∃ t t', sget ρ2 i = some t ∧ putD t (frz kd) (frz d) = some t' ∧ N (ρ2.set i (some t')) := by
  unfold wpS wpE sPut sWith
  cases m ρ with
  | ok d ρ1 =>
    dsimp only
    cases e : sget ρ1 i with
    | none => simp
    | some t0 =>
      dsimp only
      cases e2 : k ρ1 with
      | ok kd ρ2 =>
        dsimp only
        cases e3 : sget ρ2 i with
        | none => simp
        | some t =>
          dsimp only
          cases e4 : putD t (frz kd) (frz d) with
          | none => exact ⟨fun h => h.elim, fun ⟨_, _, _, h1, h2, _⟩ => by cases h1; rw [e4] at h2; cases h2⟩
          | some t' => exact ⟨fun h => ⟨rfl, _, _, rfl, e4, h⟩, fun ⟨_, _, _, h1, h2, h⟩ => by cases h1; rw [e4] at h2; cases h2; exact h⟩
      | exc _ _ _ => simp
      | bad => simp
  | exc _ _ _ => rfl
  | bad => rfl
theorem wp_fldP {i : Nat} {c f : Str} {m : M} : wpS (sFldP i c f m) ρ N R B ↔ wpE m ρ fun d ρ1 => ∃ t t', sget ρ1 i = some t ∧ putI c f (frz d) t = some t' ∧ N (ρ1.set i (some t')) := by
  unfold wpS wpE sFldP sWith
  cases m ρ with
  | ok d ρ1 =>
    dsimp only
    cases e3 : sget ρ1 i with
    | none => simp
    | some t =>
      dsimp only
      cases e4 : putI c f (frz d) t with
      | none => exact ⟨fun h => h.elim, fun ⟨_, _, h1, h2, _⟩ => by cases h1; rw [e4] at h2; cases h2⟩
      | some t' => exact ⟨fun h => ⟨_, _, rfl, e4, h⟩, fun ⟨_, _, h1, h2, h⟩ => by cases h1; rw [e4] at h2; cases h2; exact h⟩
  | exc _ _ _ => rfl
  | bad => rfl
theorem wp_par {is : List Nat} {ms : List M} : wpS (sPar is ms) ρ N R B ↔ wpM ms ρ fun ds ρ1 => ∃ ρ2, putS is ds ρ1 = some ρ2 ∧ N ρ2 := by
  unfold wpS wpM sPar
  cases evM ms ρ with
  | ok ds ρ1 => dsimp only; cases e : putS is ds ρ1 <;> simp
  | exc _ _ _ => rfl
  | bad => rfl
theorem wp_asg {t : Tgt} {m : M} : wpS (sAsg t m) ρ N R B ↔ wpE m ρ fun d ρ1 => wpS (t.m (frz d)) ρ1 N (fun _ _ => False) (fun _ => False) := by
  unfold wpS wpE sAsg sWith
  cases m ρ with
  | ok d ρ1 => dsimp only; cases e : t.m (frz d) ρ1 <;> rfl
  | exc _ _ _ => rfl
  | bad => rfl
theorem wp_nm {i : Nat} {d : D} : wpS (Tgt.m (.nm i) d) ρ N R B ↔ i < ρ.length ∧ N (ρ.set i (some d)) := by
  unfold wpS
  rw [Tgt.m]
  unfold putE
  by_cases h : i < ρ.length
  · rw [if_pos h]; exact ⟨fun q => ⟨h, q⟩, fun q => q.2⟩
  · rw [if_neg h]; exact ⟨fun q => q.elim, fun q => absurd q.1 h⟩
theorem wp_tup2 {i j : Nat} {a b : D} : wpS (Tgt.m (.tup [.nm i, .nm j]) (.tup [a, b])) ρ N R B ↔ i < ρ.length ∧ j < ρ.length ∧ N ((ρ.set i (some a)).set j (some b)) := by
  rw [Tgt.m]
  show wpS (sSeq (Tgt.m (.nm i) a) (sSeq (Tgt.m (.nm j) b) (Tgt.ms [] []))) ρ N R B ↔ _
  rw [wp_seq, wp_nm, wp_seq, wp_nm]
  simp [wpS, Tgt.ms]
theorem wp_def {nl : Nat} {io : List Nat} {b : MS} : wpE (mDef nl io b) ρ Q ↔ wpS b (ρ ++ List.replicate nl none) (fun ρ' => ρ.length ≤ ρ'.length ∧ Q .non (fin io 0 ρ ρ')) (fun d ρ' => ρ.length ≤ ρ'.length ∧ Q d (fin io 0 ρ ρ')) (fun _ => False) := by
  unfold wpE wpS mDef
  cases b (ρ ++ List.replicate nl none) with
  | nx ρ' =>
    dsimp only
    by_cases h : ρ.length ≤ ρ'.length
    · rw [if_pos h]; first | exact ⟨fun q => ⟨h, q⟩, fun q => q.2⟩ | exact Iff.rfl
    · rw [if_neg h]; first | exact ⟨fun q => q.elim, fun q => absurd q.1 h⟩ | exact Iff.rfl
  | rt d ρ' =>
    dsimp only
    by_cases h : ρ.length ≤ ρ'.length
    · rw [if_pos h]; first | exact ⟨fun q => ⟨h, q⟩, fun q => q.2⟩ | exact Iff.rfl
    · rw [if_neg h]; first | exact ⟨fun q => q.elim, fun q => absurd q.1 h⟩ | exact Iff.rfl
  | exc c x ρ' =>
    dsimp only
    by_cases h : ρ.length ≤ ρ'.length
    · rw [if_pos h]
    · rw [if_neg h]
  | _ => rfl
/-! loops -/
theorem wp_fIter {t : Tgt} {b : MS} (I : List D → Env → Prop) (hN : ∀ ρ, I [] ρ → N ρ) (step : ∀ d r ρ, I (d :: r) ρ → wpS (t.m d) ρ (fun ρ1 => wpS b ρ1 (I r) R N) (fun _ _ => False) (fun _ => False)) :
    ∀ (ds : List D) (ρ : Env), I ds ρ → wpS (fIter t b ds) ρ N R B
  | [], ρ, h => by unfold wpS; exact hN ρ h
  | d :: r, ρ, h => by
    have s := step d r ρ h
    unfold wpS at s ⊢
    rw [fIter]
    cases e : t.m d ρ with
    | nx ρ1 =>
      rw [e] at s
      dsimp only at s ⊢
      cases e2 : b ρ1 with
      | nx ρ2 =>
        rw [e2] at s
        have z := wp_fIter I hN step r ρ2 s
        unfold wpS at z
        exact z
      | rt d ρ2 => rw [e2] at s; exact s
      | bk ρ2 => rw [e2] at s; exact s
      | exc _ _ _ => rw [e2] at s; exact s
      | bad => rw [e2] at s; exact s
    | rt d ρ2 => rw [e] at s; exact s.elim
    | bk ρ2 => rw [e] at s; exact s.elim
    | exc _ _ _ => rw [e] at s; exact s.elim
    | bad => rw [e] at s; exact s.elim
theorem wp_for {it : ML} {t : Tgt} {b : MS} : wpS (sFor it t b) ρ N R B ↔ wpI it ρ fun ds ρ1 => wpS (fIter t b ds) ρ1 N R B := by
  unfold wpS wpI sFor
  cases it ρ <;> rfl
theorem wp_while {c : M} {b : MS} (I : Env → Prop) (μ : Env → Nat) (step : ∀ ρ, I ρ → wpE c ρ fun d ρ1 => (d = .bl true ∧ wpS b ρ1 (fun ρ2 => I ρ2 ∧ μ ρ2 < μ ρ) R N) ∨ (d = .bl false ∧ N ρ1)) :
    ∀ (ρ : Env), I ρ → wpS (sWhile c b) ρ N R B := by
  have key : ∀ (n : Nat) (ρ : Env), μ ρ < n → I ρ → wpS (sWhile c b) ρ N R B := by
    intro n
    induction n with
    | zero => intro ρ h; omega
    | succ n ih =>
      intro ρ hn h
      have s := step ρ h
      unfold wpS
      rw [sWhile_eq]
      unfold wpE at s
      cases e : c ρ with
      | ok d ρ1 =>
        rw [e] at s
        dsimp only at s ⊢
        rcases s with ⟨rfl, s⟩ | ⟨rfl, s⟩
        · dsimp only
          unfold wpS at s
          cases e2 : b ρ1 with
          | nx ρ2 =>
            rw [e2] at s
            have z := ih ρ2 (by have := s.2; omega) s.1
            unfold wpS at z
            exact z
          | rt d ρ2 => rw [e2] at s; exact s
          | bk ρ2 => rw [e2] at s; exact s
          | exc _ _ _ => rw [e2] at s; exact s
          | bad => rw [e2] at s; exact s
        · exact s
      | exc _ _ _ => rw [e] at s; exact s.elim
      | bad => rw [e] at s; exact s.elim
  exact fun ρ h => key _ ρ (Nat.lt_succ_self _) h
theorem wpI_of {m : M} : wpI (iOf m) ρ QL ↔ wpE m ρ fun d ρ' => ∃ ds, itemsOf (frz d) = some ds ∧ QL ds ρ' := by
  unfold wpI wpE iOf
  cases m ρ with
  | ok d ρ' => dsimp only; cases itemsOf (frz d) <;> simp
  | exc _ _ _ => rfl
  | bad => rfl
theorem wpI_range1 {o : Opd} : wpI (iRange1 o) ρ QL ↔ wpO [o] ρ fun ds ρ' => ∃ j, oneI ds = some j ∧ (-(2 ^ 62) ≤ j ∧ j < 2 ^ 62) ∧ QL (rangeL 0 j.toNat) ρ' := by
  unfold wpI wpO iRange1
  cases evO [o] ρ with
  | ok ds ρ' =>
    dsimp only
    cases e : oneI ds with
    | none => simp
    | some j =>
      dsimp only
      by_cases h : -(2 ^ 62) ≤ j ∧ j < 2 ^ 62
      · rw [if_pos h]; exact ⟨fun q => ⟨j, rfl, h, q⟩, fun ⟨_, h1, _, q⟩ => by cases h1; exact q⟩
      · rw [if_neg h]; exact ⟨fun q => q.elim, fun ⟨_, h1, h2, _⟩ => by cases h1; exact absurd h2 h⟩
  | exc _ _ _ => rfl
  | bad => rfl
theorem wpI_enum {m : M} : wpI (iEnum m) ρ QL ↔ wpE m ρ fun d ρ' => ∃ a, ((∃ o, frz d = .lst o a) ∨ frz d = .tup a) ∧ QL (pairsD 0 a) ρ' := by
  unfold wpI wpE iEnum
  cases m ρ with
  | ok d ρ' =>
    dsimp only
    cases e : frz d <;> simp
  | exc _ _ _ => rfl
  | bad => rfl
theorem wp_cIter {own : List Nat} {t : Tgt} {c : Option M} {e : M} (I : List D → List D → Env → Prop) (step : ∀ acc d r ρ, I acc (d :: r) ρ → wpS (t.m d) (wipeE ρ own) (fun ρ1 => wpE (cTest c) ρ1 fun k ρ2 => (k = .bl true ∧ wpE e ρ2 fun x ρ3 => I (acc ++ [frz x]) r ρ3) ∨ (k = .bl false ∧ I acc r ρ2)) (fun _ _ => False) (fun _ => False)) :
    ∀ (ds acc : List D) (ρ : Env), I acc ds ρ → wpI (cIter own t c e ds) ρ fun xs ρ1 => I (acc ++ xs) [] ρ1
  | [], acc, ρ, h => by
    unfold wpI
    show I (acc ++ []) [] ρ
    rw [List.append_nil]; exact h
  | d :: r, acc, ρ, h => by
    have s := step acc d r ρ h
    unfold wpS at s
    unfold wpI
    rw [cIter]
    cases e1 : t.m d (wipeE ρ own) with
    | nx ρ1 =>
      rw [e1] at s
      dsimp only at s ⊢
      unfold wpE at s
      cases e2 : cTest c ρ1 with
      | ok k ρ2 =>
        rw [e2] at s
        dsimp only at s
        rcases s with ⟨rfl, s⟩ | ⟨rfl, s⟩
        · dsimp only
          cases e3 : e ρ2 with
          | ok x ρ3 =>
            rw [e3] at s
            dsimp only at s ⊢
            have q := wp_cIter I step r (acc ++ [frz x]) ρ3 s
            unfold wpI at q
            cases e4 : cIter own t c e r ρ3 with
            | ok xs ρ4 =>
              rw [e4] at q
              dsimp only at q ⊢
              rw [List.append_assoc] at q
              exact q
            | exc _ _ _ => rw [e4] at q; exact q
            | bad => rw [e4] at q; exact q
          | exc _ _ _ => rw [e3] at s; exact s.elim
          | bad => rw [e3] at s; exact s.elim
        · have z := wp_cIter I step r acc ρ2 s
          unfold wpI at z
          exact z
      | exc _ _ _ => rw [e2] at s; exact s.elim
      | bad => rw [e2] at s; exact s.elim
    | rt d ρ2 => rw [e1] at s; exact s.elim
    | bk ρ2 => rw [e1] at s; exact s.elim
    | exc _ _ _ => rw [e1] at s; exact s.elim
    | bad => rw [e1] at s; exact s.elim
theorem wp_comp {own : List Nat} {it : ML} {t : Tgt} {c : Option M} {e : M} : wpE (eComp own it t c e) ρ Q ↔ wpI it ρ fun ds ρ0 => ds.length < sizeLine ∧ wpI (cIter own t c e ds) ρ0 fun xs ρ1 => Q (.lst true xs) (unwipe ρ0 own (wipeE ρ1 own)) := by
  unfold wpE wpI eComp
  cases it ρ with
  | ok ds ρ0 =>
    dsimp only
    by_cases h : ds.length < sizeLine
    · rw [if_pos h]
      cases e2 : cIter own t c e ds ρ0 <;> simp [h]
    · rw [if_neg h]; simp [h]
  | exc _ _ _ => rfl
  | bad => rfl
end
end VE
/-! VE23: running the calculus by simp. -/
namespace VE
open PySem PySem.Spec PyProof.Rows L2
theorem sget_0 {x : Option D} {ρ : Env} : sget (x :: ρ) 0 = x := by cases x <;> rfl
theorem sget_s {x : Option D} {ρ : Env} {n : Nat} : sget (x :: ρ) (n + 1) = sget ρ n := rfl
theorem ex_some {α : Type} {a : α} {P : α → Prop} : (∃ d, some a = some d ∧ P d) ↔ P a := ⟨fun ⟨_, h, q⟩ => by cases h; exact q, fun q => ⟨a, rfl, q⟩⟩
theorem ex_pair {α β : Type} {a : α} {b : β} {P : α → β → Prop} : (∃ x y, some (a, b) = some (x, y) ∧ P x y) ↔ P a b := ⟨fun ⟨_, _, h, q⟩ => by cases h; exact q, fun q => ⟨a, b, rfl, q⟩⟩
theorem ex_sbl {c : Bool} {P : Bool → Prop} : (∃ k, some (D.bl c) = some (D.bl k) ∧ P k) ↔ P c := ⟨fun ⟨_, h, q⟩ => by cases h; exact q, fun q => ⟨c, rfl, q⟩⟩
theorem ex_slst {c : List D} {P : List D → Prop} : (∃ k, some (D.lst true c) = some (D.lst true k) ∧ P k) ↔ P c := ⟨fun ⟨_, h, q⟩ => by cases h; exact q, fun q => ⟨c, rfl, q⟩⟩
theorem ex_2 {α β : Type} {a : α} {P : α → β → Prop} : (∃ t t', some a = some t ∧ P t t') ↔ ∃ t', P a t' := ⟨fun ⟨_, t', h, q⟩ => by cases h; exact ⟨t', q⟩, fun ⟨t', q⟩ => ⟨a, t', rfl, q⟩⟩
theorem frz_int {i : Int} : frz (.int i) = .int i := rfl
theorem frz_str {i : Str} : frz (.str i) = .str i := rfl
theorem frz_bl {i : Bool} : frz (.bl i) = .bl i := rfl
theorem frz_non : frz .non = .non := rfl
theorem frz_tup {xs : List D} : frz (.tup xs) = .tup xs := rfl
theorem frz_lst {o : Bool} {xs : List D} : frz (.lst o xs) = .lst false xs := rfl
theorem frz_rol {xs : List D} : frz (.rol xs) = .rol xs := rfl
theorem frz_dk {o : Bool} {ks : List Key} {xs : List D} : frz (.dk o ks xs) = .dk false ks (frzL xs) := rfl
theorem frz_ins {o : Bool} {c : Str} {ks : List Str} {xs : List D} : frz (.ins o c ks xs) = .ins false c ks (frzL xs) := rfl
theorem add_ii {a b : Int} : dAdd [.int a, .int b] = some (.int (a + b)) := rfl
theorem sub_ii {a b : Int} : dSub [.int a, .int b] = some (.int (a - b)) := rfl
theorem neg_i {a : Int} : dNeg [.int a] = some (.int (-a)) := rfl
theorem mul_ii {a b : Int} : dMul [.int a, .int b] = if a.natAbs.log2 + b.natAbs.log2 < 1000000 then some (.int (a * b)) else none := rfl
theorem div_ii {a b : Int} : dDiv [.int a, .int b] = if 0 < b then some (.int (a / b)) else none := rfl
theorem mod_ii {a b : Int} : dMod [.int a, .int b] = if 0 < b then some (.int (a % b)) else none := rfl
theorem cmp_ii {a b : Int} {p : Int → Int → Bool} : dCmp p [.int a, .int b] = some (.bl (p a b)) := rfl
theorem int_i {a : Int} : dInt [.int a] = some (.int a) := rfl
theorem eq_ii {a b : Int} : dEq [.int a, .int b] = some (.bl (a == b)) := rfl
theorem ne_ii {a b : Int} : dNe [.int a, .int b] = some (.bl (!(a == b))) := rfl
theorem if_true' {α : Type} {a b : α} : (if True then a else b) = a := if_pos trivial
theorem two_ii {d : D} {i : Int} : twoI [d, .int i] = if isFz d then some (d, i) else none := rfl
theorem fz_i {i : Int} : isFz (.int i) = true := rfl
theorem one_i {i : Int} : oneI [.int i] = some i := rfl
theorem log_small {a : Int} {k : Nat} (h : a.natAbs < 2 ^ k) : a.natAbs.log2 ≤ k := by
  by_cases h0 : a.natAbs = 0
  · rw [h0]; exact Nat.zero_le _
  · exact Nat.le_of_lt (Nat.log2_lt h0 |>.mpr h)
theorem mul_ok {a b : Int} (j k : Nat) (h1 : a.natAbs < 2 ^ j) (h2 : b.natAbs < 2 ^ k) (h : j + k < 1000000 := by decide) : dMul [.int a, .int b] = some (.int (a * b)) := by
  rw [mul_ii, if_pos]
  have := log_small h1
  have := log_small h2
  omega
theorem pb_nil {ρa ρ : Env} : putBack [] ρa ρ = ρ := by cases ρa <;> rfl
theorem pb_slot {i : Nat} {os : List Opd} {x : Option D} {ρa ρ : Env} : putBack (.slot i :: os) (x :: ρa) ρ = (putBack os ρa (ρ.set i none)).set i x := rfl
theorem pb_ex {m : M} {os : List Opd} {x : Option D} {ρa ρ : Env} : putBack (.ex m :: os) (x :: ρa) ρ = putBack os ρa ρ := rfl
theorem fin_nil {io : List Nat} {k : Nat} {ρ : Env} : fin io k [] ρ = [] := by cases ρ <;> rfl
theorem fin_c {io : List Nat} {k : Nat} {d : D} {y : Option D} {ρ ρ' : Env} : fin io k (some d :: ρ) (y :: ρ') = (if io.contains k = true then y else if isFz d = true then some d else none) :: fin io (k + 1) ρ ρ' := rfl
theorem fz_s {x : Str} : isFz (.str x) = true := rfl
theorem fz_b {x : Bool} : isFz (.bl x) = true := rfl
theorem fz_n : isFz .non = true := rfl
theorem fz_t {x : List D} : isFz (.tup x) = true := rfl
theorem fz_r {x : List D} : isFz (.rol x) = true := rfl
theorem fz_l {o : Bool} {x : List D} : isFz (.lst o x) = !o := by cases o <;> rfl
theorem fz_d {o : Bool} {k : List Key} {x : List D} : isFz (.dk o k x) = !o := by cases o <;> rfl
theorem fz_o {o : Bool} {c : Str} {k : List Str} {x : List D} : isFz (.ins o c k x) = !o := by cases o <;> rfl
theorem pow_18 : dPow [.int 10, .int 18] = some (.int 1000000000000000000) := rfl
theorem pow_9 : dPow [.int 10, .int 9] = some (.int 1000000000) := rfl
theorem pow_10 : dPow [.int 10, .int 10] = some (.int 10000000000) := rfl
theorem isi_ii {i : Int} : dIsi "int" [.int i] = some (.bl true) := rfl
theorem isi_ib {i : Int} : dIsi "bool" [.int i] = some (.bl false) := rfl
theorem isi_it {i : Int} : dIsi "tuple" [.int i] = some (.bl false) := rfl
theorem isi_tt {x : List D} : dIsi "tuple" [.tup x] = some (.bl true) := rfl
theorem isi_ss {x : Str} : dIsi "str" [.str x] = some (.bl true) := rfl
theorem len_t {x : List D} : dLen [.tup x] = some (.int x.length) := rfl
theorem len_l {o : Bool} {x : List D} : dLen [.lst o x] = some (.int x.length) := rfl
theorem idx_t {x : List D} {i : Int} : dIdx [.tup x, .int i] = atI x i := rfl
theorem idx_l {o : Bool} {x : List D} {i : Int} : dIdx [.lst o x, .int i] = atI x i := rfl
theorem small1k {n : Nat} (h : n ≤ 1000) : n ≤ sizeLine := Nat.le_trans h (by decide)
theorem tup_e {ds : List D} (hl : ds.length ≤ 1000) : dTup ds = if ds.all isFz = true then some (.tup ds) else none := by
  unfold dTup
  rw [decide_eq_true (small1k hl), Bool.and_true]
theorem lst_e {ds : List D} (hl : ds.length ≤ 1000) : dLst ds = if ds.all isFz = true then some (.lst true ds) else none := by
  unfold dLst
  rw [decide_eq_true (small1k hl), Bool.and_true]
theorem at_0 {α : Type} {a : α} {r : List α} : atI (a :: r) 0 = some a := by
  have : atI (a :: r) ((0 : Nat) : Int) = some a := atI_nat rfl
  exact this
theorem at_1 {α : Type} {a b : α} {r : List α} : atI (a :: b :: r) 1 = some b := by
  have : atI (a :: b :: r) ((1 : Nat) : Int) = some b := atI_nat rfl
  exact this
theorem at_2 {α : Type} {a b c : α} {r : List α} : atI (a :: b :: c :: r) 2 = some c := by
  have : atI (a :: b :: c :: r) ((2 : Nat) : Int) = some c := atI_nat rfl
  exact this
theorem tuple_l {o : Bool} {a : List D} : dTuple [.lst o a] = some (.tup a) := rfl
theorem tuple_t {a : List D} : dTuple [.tup a] = some (.tup a) := rfl
theorem list_l {o : Bool} {a : List D} : dList [.lst o a] = some (.lst true a) := rfl
theorem list_t {a : List D} : dList [.tup a] = some (.lst true a) := rfl
theorem wp_tup3 {i j k : Nat} {a b c : D} {ρ : Env} {N B : Env → Prop} {R : D → Env → Prop} : wpS (Tgt.m (.tup [.nm i, .nm j, .nm k]) (.tup [a, b, c])) ρ N R B ↔ i < ρ.length ∧ j < ρ.length ∧ k < ρ.length ∧ N (((ρ.set i (some a)).set j (some b)).set k (some c)) := by
  rw [Tgt.m]
  show wpS (sSeq (Tgt.m (.nm i) a) (sSeq (Tgt.m (.nm j) b) (sSeq (Tgt.m (.nm k) c) (Tgt.ms [] [])))) ρ N R B ↔ _
  rw [wp_seq, wp_nm, wp_seq, wp_nm, wp_seq, wp_nm]
  simp [wpS, Tgt.ms]
theorem items_l {o : Bool} {a : List D} : itemsOf (.lst o a) = some a := rfl
theorem items_t {a : List D} : itemsOf (.tup a) = some a := rfl
theorem items_r {a : List D} : itemsOf (.rol a) = some a := rfl
theorem ci_0 : ((0 : Nat) : Int) = 0 := rfl
theorem ci_1 : ((1 : Nat) : Int) = 1 := rfl
theorem ci_2 : ((2 : Nat) : Int) = 2 := rfl
theorem ci_3 : ((3 : Nat) : Int) = 3 := rfl
theorem ci_4 : ((4 : Nat) : Int) = 4 := rfl
theorem ci_5 : ((5 : Nat) : Int) = 5 := rfl
theorem ci_6 : ((6 : Nat) : Int) = 6 := rfl
theorem run_of {m : M} {ρ ρ' : Env} {d : D} (h : wpE m ρ fun d' ρ'' => d' = d ∧ ρ'' = ρ') : m ρ = .ok d ρ' := by
  obtain ⟨d1, ρ1, e, rfl, rfl⟩ := wpE_ok h
  exact e
theorem wp_run {m : M} {ρ ρ' : Env} {d : D} {Q : D → Env → Prop} (h : m ρ = .ok d ρ') : wpE m ρ Q ↔ Q d ρ' := by unfold wpE; rw [h]
end VE
/-! VE24: loops and comprehensions of usual shapes. -/
namespace VE
open PySem PySem.Spec PyProof.Rows L2
/-- what a name within a comprehension leaves of the outer one -/
def kept : Option D → Option D
  | some d => if isFz d = true then some d else none
  | none => none
theorem kept_none : kept none = none := rfl
theorem kept_int {i : Int} : kept (some (.int i)) = some (.int i) := rfl
/-- a comprehension that draws -/
theorem comp_hand2 {T : Type} {Ok : Nat → T → Prop} {v : Nat} {it : ML} {e : M} (E : T → Option D → Env) (P : D → Prop) (c m : Nat) {Q : D → Env → Prop} {ρ : Env} (hv : ∀ h y z, (E h y).set v z = E h z) (hl : ∀ h y, v < (E h y).length) (hg : ∀ h y, sget (E h y) v = y)
    (hit : wpI it ρ fun ds ρ0 => ∃ h y, ρ0 = E h y ∧ ds.length < sizeLine ∧ Ok (m + ds.length * c) h ∧ (∀ h d k, d ∈ ds → Ok (k + c) h → wpE e (E h (some d)) fun x ρ' => ∃ h' z, ρ' = E h' z ∧ Ok k h' ∧ P (frz x)) ∧
      ∀ h' xs, Ok m h' → xs.length = ds.length → (∀ x ∈ xs, P x) → Q (.lst true xs) (E h' (kept y))) : wpE (eComp [v] it (.nm v) none e) ρ Q := by
  rw [wp_comp]
  unfold wpI at hit ⊢
  cases e1 : it ρ with
  | exc _ _ _ => rw [e1] at hit; exact hit.elim
  | bad => rw [e1] at hit; exact hit.elim
  | ok ds' ρ0 =>
    rw [e1] at hit
    obtain ⟨h, y, rfl, hlen, ok, he, q⟩ := hit
    dsimp only
    refine ⟨hlen, ?_⟩
    have key := wp_cIter (own := [v]) (t := .nm v) (c := none) (e := e) (fun acc r ρ => ∃ h' y', ρ = E h' y' ∧ Ok (m + r.length * c) h' ∧ acc.length + r.length = ds'.length ∧ (∀ x ∈ acc, P x) ∧ ∀ x ∈ r, x ∈ ds') (fun acc d r ρ hI => by
      obtain ⟨h1, y1, rfl, ok1, hlen1, hP, hr⟩ := hI
      rw [show wipeE (E h1 y1) [v] = E h1 none from hv h1 y1 none, wp_nm]
      refine ⟨hl _ _, ?_⟩
      rw [hv]
      refine wpE_of (d := .bl true) (ρ' := E h1 (some d)) rfl (.inl ⟨rfl, ?_⟩)
      have ok2 : Ok ((m + r.length * c) + c) h1 := by
        have e : m + (d :: r).length * c = (m + r.length * c) + c := by rw [List.length_cons, Nat.add_mul, Nat.one_mul]; omega
        rw [← e]; exact ok1
      refine wpE_mono (he h1 d _ (hr d (by simp)) ok2) fun x ρ' ⟨h', z, hρ', ok', hp⟩ => ⟨h', z, hρ', ok', ?_, fun x' hx' => ?_, fun x' hx' => hr x' (by simp [hx'])⟩
      · rw [List.length_append, List.length_singleton]; rw [List.length_cons] at hlen1; omega
      · rcases List.mem_append.mp hx' with h2 | h2
        · exact hP x' h2
        · simp at h2; subst h2; exact hp) ds' [] (E h y) ⟨h, y, rfl, ok, by simp, fun x hx => (by cases hx), fun x hx => hx⟩
    unfold wpI at key
    cases e2 : cIter [v] (.nm v) none e ds' (E h y) with
    | exc _ _ _ => rw [e2] at key; exact key.elim
    | bad => rw [e2] at key; exact key.elim
    | ok xs ρ1 =>
      rw [e2] at key
      dsimp only at key ⊢
      obtain ⟨h', y', rfl, ok', hl', hP', _⟩ := key
      have eu : unwipe (E h y) [v] (wipeE (E h' y') [v]) = E h' (kept y) := by
        show ((E h' y').set v none).set v (keepD (E h y) v) = _
        rw [hv, hv]
        congr 1
        unfold keepD
        rw [hg]
        cases y <;> rfl
      rw [eu]
      refine q h' xs ?_ (by simpa using hl') (by simpa using hP')
      simpa using ok'
theorem comp_hand {T : Type} {Ok : Nat → T → Prop} {v : Nat} {it : ML} {e : M} (E : T → Option D → Env) (P : D → Prop) (c m : Nat) {h : T} {y : Option D} {ds : List D} {Q : D → Env → Prop} {ρ : Env} (hρ : ρ = E h y)
    (hit : wpI it ρ fun ds' ρ0 => ds' = ds ∧ ρ0 = E h y) (hlen : ds.length < sizeLine) (hv : ∀ h y z, (E h y).set v z = E h z) (hl : ∀ h y, v < (E h y).length) (hg : ∀ h y, sget (E h y) v = y) (ok : Ok (m + ds.length * c) h)
    (he : ∀ h d k, d ∈ ds → Ok (k + c) h → wpE e (E h (some d)) fun x ρ' => ∃ h' z, ρ' = E h' z ∧ Ok k h' ∧ P (frz x))
    (q : ∀ h' xs, Ok m h' → xs.length = ds.length → (∀ x ∈ xs, P x) → Q (.lst true xs) (E h' (kept y))) : wpE (eComp [v] it (.nm v) none e) ρ Q := by
  refine comp_hand2 (Ok := Ok) E P c m hv hl hg ?_
  unfold wpI at hit ⊢
  cases e1 : it ρ with
  | exc _ _ _ => rw [e1] at hit; exact hit
  | bad => rw [e1] at hit; exact hit
  | ok ds' ρ0 =>
    rw [e1] at hit
    obtain ⟨rfl, rfl⟩ := hit
    exact ⟨h, y, rfl, hlen, ok, he, q⟩
/-- a comprehension without drawing, item by item -/
theorem comp_map {v : Nat} {it : ML} {e : M} (E : Option D → Env) (f : D → D) {y : Option D} {ds : List D} {Q : D → Env → Prop} {ρ : Env} (hρ : ρ = E y)
    (hit : wpI it ρ fun ds' ρ0 => ds' = ds ∧ ρ0 = E y) (hlen : ds.length < sizeLine) (hv : ∀ y z, (E y).set v z = E z) (hl : ∀ y, v < (E y).length) (hg : ∀ y, sget (E y) v = y)
    (he : ∀ d, d ∈ ds → wpE e (E (some d)) fun x ρ' => ∃ z, ρ' = E z ∧ frz x = f d)
    (q : Q (.lst true (ds.map f)) (E (kept y))) : wpE (eComp [v] it (.nm v) none e) ρ Q := by
  subst hρ
  rw [wp_comp]
  unfold wpI at hit ⊢
  cases e1 : it (E y) with
  | exc _ _ _ => rw [e1] at hit; exact hit.elim
  | bad => rw [e1] at hit; exact hit.elim
  | ok ds' ρ0 =>
    rw [e1] at hit
    obtain ⟨rfl, rfl⟩ := hit
    dsimp only
    refine ⟨hlen, ?_⟩
    have key := wp_cIter (own := [v]) (t := .nm v) (c := none) (e := e) (fun acc r ρ => ∃ y' l, ρ = E y' ∧ ds' = l ++ r ∧ acc = l.map f) (fun acc d r ρ hI => by
      obtain ⟨y1, l, rfl, hd, rfl⟩ := hI
      rw [show wipeE (E y1) [v] = E none from hv y1 none, wp_nm]
      refine ⟨hl _, ?_⟩
      rw [hv]
      refine wpE_of (d := .bl true) (ρ' := E (some d)) rfl (.inl ⟨rfl, ?_⟩)
      refine wpE_mono (he d (by rw [hd]; simp)) fun x ρ' ⟨z, hρ', hx⟩ => ⟨z, l ++ [d], hρ', by rw [hd]; simp, by rw [List.map_append, hx]; rfl⟩) ds' [] (E y) ⟨y, [], rfl, rfl, rfl⟩
    unfold wpI at key
    cases e2 : cIter [v] (.nm v) none e ds' (E y) with
    | exc _ _ _ => rw [e2] at key; exact key.elim
    | bad => rw [e2] at key; exact key.elim
    | ok xs ρ1 =>
      rw [e2] at key
      dsimp only at key ⊢
      obtain ⟨y', l, rfl, hd, hx⟩ := key
      rw [List.append_nil] at hd
      rw [List.nil_append] at hx
      subst hd hx
      have eu : unwipe (E y) [v] (wipeE (E y') [v]) = E (kept y) := by
        show ((E y').set v none).set v (keepD (E y) v) = _
        rw [hv, hv]
        congr 1
        unfold keepD
        rw [hg]
        cases y <;> rfl
      rw [eu]
      exact q
/-- .. with a test -/
theorem comp_filter {v : Nat} {it : ML} {e c : M} (E : Option D → Env) (p : D → Bool) (f : D → D) {y : Option D} {ds : List D} {Q : D → Env → Prop} {ρ : Env} (hρ : ρ = E y)
    (hit : wpI it ρ fun ds' ρ0 => ds' = ds ∧ ρ0 = E y) (hlen : ds.length < sizeLine) (hv : ∀ y z, (E y).set v z = E z) (hl : ∀ y, v < (E y).length) (hg : ∀ y, sget (E y) v = y)
    (hc : ∀ d, d ∈ ds → wpE c (E (some d)) fun x ρ' => x = .bl (p d) ∧ ρ' = E (some d))
    (he : ∀ d, d ∈ ds → p d = true → wpE e (E (some d)) fun x ρ' => ∃ z, ρ' = E z ∧ frz x = f d)
    (q : Q (.lst true ((ds.filter p).map f)) (E (kept y))) : wpE (eComp [v] it (.nm v) (some c) e) ρ Q := by
  subst hρ
  rw [wp_comp]
  unfold wpI at hit ⊢
  cases e1 : it (E y) with
  | exc _ _ _ => rw [e1] at hit; exact hit.elim
  | bad => rw [e1] at hit; exact hit.elim
  | ok ds' ρ0 =>
    rw [e1] at hit
    obtain ⟨rfl, rfl⟩ := hit
    dsimp only
    refine ⟨hlen, ?_⟩
    have key := wp_cIter (own := [v]) (t := .nm v) (c := some c) (e := e) (fun acc r ρ => ∃ y' l, ρ = E y' ∧ ds' = l ++ r ∧ acc = (l.filter p).map f) (fun acc d r ρ hI => by
      obtain ⟨y1, l, rfl, hd, rfl⟩ := hI
      rw [show wipeE (E y1) [v] = E none from hv y1 none, wp_nm]
      refine ⟨hl _, ?_⟩
      rw [hv]
      have hm : d ∈ ds' := by rw [hd]; simp
      refine wpE_mono (m := cTest (some c)) (hc d hm) fun x ρ' ⟨hx, hρ'⟩ => ?_
      subst hx hρ'
      cases hp : p d with
      | true => exact .inl ⟨rfl, wpE_mono (he d hm hp) fun x ρ' ⟨z, hρ', hx⟩ => ⟨z, l ++ [d], hρ', by rw [hd]; simp, by rw [List.filter_append, List.map_append, hx]; simp [hp]⟩⟩
      | false => exact .inr ⟨rfl, _, l ++ [d], rfl, by rw [hd]; simp, by rw [List.filter_append]; simp [hp]⟩) ds' [] (E y) ⟨y, [], rfl, rfl, rfl⟩
    unfold wpI at key
    cases e2 : cIter [v] (.nm v) (some c) e ds' (E y) with
    | exc _ _ _ => rw [e2] at key; exact key.elim
    | bad => rw [e2] at key; exact key.elim
    | ok xs ρ1 =>
      rw [e2] at key
      dsimp only at key ⊢
      obtain ⟨y', l, rfl, hd, hx⟩ := key
      rw [List.append_nil] at hd
      rw [List.nil_append] at hx
      subst hd hx
      have eu : unwipe (E y) [v] (wipeE (E y') [v]) = E (kept y) := by
        show ((E y').set v none).set v (keepD (E y) v) = _
        rw [hv, hv]
        congr 1
        unfold keepD
        rw [hg]
        cases y <;> rfl
      rw [eu]
      exact q
/-! ### lists of naturals -/
def natL (l : List Nat) : List D := l.map fun n => .int (n : Nat)
theorem natL_length {l : List Nat} : (natL l).length = l.length := by simp [natL]
theorem natL_nil : natL [] = [] := rfl
theorem natL_cons {n : Nat} {l : List Nat} : natL (n :: l) = .int (n : Nat) :: natL l := rfl
theorem natL_app {l r : List Nat} : natL (l ++ r) = natL l ++ natL r := by simp [natL]
theorem natL_get {l : List Nat} {i : Nat} (h : i < l.length) : atI (natL l) (i : Int) = some (.int (l[i] : Nat)) := atI_nat (by simp [natL, h])
theorem nat_list {b : Nat} : ∀ {xs : List D}, (∀ x ∈ xs, ∃ k : Nat, x = .int (k : Nat) ∧ k < b) → ∃ l : List Nat, xs = natL l ∧ ∀ k ∈ l, k < b
  | [], _ => ⟨[], rfl, fun k hk => by cases hk⟩
  | x :: r, h => by
    obtain ⟨k, rfl, hk⟩ := h x (by simp)
    obtain ⟨l, rfl, hl⟩ := nat_list (xs := r) fun y hy => h y (by simp [hy])
    exact ⟨k :: l, rfl, fun j hj => by exact (List.mem_cons.mp hj).elim (fun e => by rw [e]; exact hk) (hl j)⟩
theorem rangeL_nat {n : Nat} : rangeL 0 n = natL (List.range n) := by
  unfold rangeL natL
  apply List.map_congr_left
  intro i _
  rw [Int.zero_add]
theorem mem_rangeL {n : Nat} {d : D} (h : d ∈ rangeL 0 n) : ∃ k : Nat, d = .int (k : Nat) ∧ k < n := by
  rw [rangeL_nat] at h
  obtain ⟨k, hk, rfl⟩ := List.mem_map.mp h
  exact ⟨k, rfl, List.mem_range.mp hk⟩
theorem rangeL_length {lo : Int} {n : Nat} : (rangeL lo n).length = n := by simp [rangeL]
theorem mul_lk {o : Bool} {a : List D} {k : Nat} (hk : k ≤ 1000) (h : a.length * k ≤ 1000) : dMul [.lst o a, .int (k : Nat)] = some (.lst true (List.replicate k a).flatten) := by
  have c : -(2 ^ 63) ≤ (k : Int) ∧ (k : Int) < 2 ^ 63 ∧ a.length * (k : Int).toNat ≤ sizeLine := ⟨by omega, by omega, by rw [Int.toNat_natCast]; exact small1k h⟩
  unfold dMul
  dsimp only
  rw [if_pos c, Int.toNat_natCast]
theorem mul_tk {a : List D} {k : Nat} (hk : k ≤ 1000) (h2 : 2 ≤ k) (h0 : a ≠ []) (h : a.length ≤ 1000) : dMul [.tup a, .int (k : Nat)] = some (.tup (List.replicate k a).flatten) := by
  have c : a ≠ [] ∧ 2 ≤ (k : Int) ∧ (k : Int) ≤ 1000 ∧ a.length ≤ 1000 := ⟨h0, by omega, by omega, h⟩
  unfold dMul
  dsimp only
  rw [if_pos c, Int.toNat_natCast]
theorem rep_nat {a : Nat} : ∀ k : Nat, (List.replicate k [D.int (a : Nat)]).flatten = natL (List.replicate k a)
  | 0 => rfl
  | k + 1 => by rw [List.replicate_succ, List.flatten_cons, rep_nat k, List.replicate_succ]; rfl
theorem rgD_nat {n : Nat} : rgD 0 (n : Int) = natL (List.range n) := by
  unfold rgD natL
  rw [show (((n : Int) - 0).toNat) = n by omega]
  apply List.map_congr_left
  intro i _
  rw [Int.zero_add]
theorem rgok_nat {n : Nat} (h : n ≤ 1000) : RgOk 0 (n : Int) := ⟨by omega, by omega, by omega, by omega, by omega⟩
theorem lstRg_nat {n : Nat} (h : n ≤ 1000) : dLstRg [.int (n : Nat)] = some (.lst true (natL (List.range n))) := by
  unfold dLstRg
  show ((some ((0 : Int), (n : Int))).bind fun p => if RgOk p.1 p.2 then some (D.lst true (rgD p.1 p.2)) else none) = _
  rw [Option.bind_some, if_pos (rgok_nat h), rgD_nat]
theorem tupRg_nat {n : Nat} (h : n ≤ 1000) : dTupRg [.int (n : Nat)] = some (.tup (natL (List.range n))) := by
  unfold dTupRg
  show ((some ((0 : Int), (n : Int))).bind fun p => if RgOk p.1 p.2 then some (D.tup (rgD p.1 p.2)) else none) = _
  rw [Option.bind_some, if_pos (rgok_nat h), rgD_nat]
end VE
/-! VE25: x op= e; is None. -/
namespace VE
open PySem PySem.Spec PyProof.Rows L2
section
variable {X : Cx} {S : Set_}
theorem ps_augD {i : Nat} {x : Str} {e : Expr} {op : Operator} {m : M} {g : List D → Option D} {r : R2} {pos pos' : Pos} (hN : X.N.Nodup) (hi : X.N[i]? = some x) (hx : Loc X.env.scope x) (he : PE X e (rE S m)) (ho : PIp X op r) (od : OpD S g (r2 r))
    (hf : X.fn x = true ∨ X.env.scope.names.lookup x = some .local) (hfx : ∀ q ∈ S.fx, q.1 ≠ i) : PS X (.AugAssign (.Name x pos') op e pos) (rS S (sSet i (ops [.slot i, .ex m] g))) :=
  ps_imp (ps_aug hN hi hx he ho hf) fun D σ H q => by
    have h1 := rS_with (Q := fun v H' => D.nx (σ.set i (some v)) H') q (fun G F d ρ' w v H' p => p.stores hfx w)
    obtain ⟨v, hv, h3⟩ := rO2 (ops_imp od σ H _ h1)
    exact ⟨v, hv, tO_mono (o := .ex m) (fun y H1 ⟨x', y', e, h⟩ => by cases e; exact h) h3⟩
def dAddI : List D → Option D
  | [.int a, .int b] => some (.int (a + b))
  | _ => none
theorem od_addI : OpD S dAddI (r2 (rI0 fun i j => .int (i + j))) := by
  intro G H ds vs d Q rd vl e k
  unfold dAddI at e
  split at e
  · cases (Option.some.inj e : _ = d)
    obtain ⟨v, w, F, F', rfl, a, b⟩ := vw2 vl
    obtain ⟨rfl, _⟩ := a.int_inv
    obtain ⟨rfl, _⟩ := b.int_inv
    exact ⟨_, _, rfl, _, _, rfl, rfl, give rd k (.int _)⟩
  · cases e
theorem pip_add : PIp X .Add (rI0 fun i j => .int (i + j)) := iop_add
theorem pip_sub : PIp X .Sub (rI0 fun i j => .int (i - j)) := iop_sub
def dMulI : List D → Option D
  | [.int a, .int b] => if (-(2 ^ 64) < a ∧ a < 2 ^ 64) ∨ (-(2 ^ 64) < b ∧ b < 2 ^ 64) then some (.int (a * b)) else none
  | _ => none
theorem od_mulI : OpD S dMulI (r2 (_root_.L2.rI CMul fun i j => .int (i * j))) := by
  intro G H ds vs d Q rd vl e k
  unfold dMulI at e
  split at e
  · split at e
    case isFalse => cases e
    case isTrue hc =>
    cases (Option.some.inj e : _ = d)
    obtain ⟨v, w, F, F', rfl, a, b⟩ := vw2 vl
    obtain ⟨rfl, _⟩ := a.int_inv
    obtain ⟨rfl, _⟩ := b.int_inv
    exact ⟨_, _, rfl, _, _, rfl, rfl, hc, give rd k (.int _)⟩
  · cases e
theorem pip_mul : PIp X .Mult (_root_.L2.rI CMul fun i j => .int (i * j)) := iop_mul
end
end VE
/-! VE26: methods of a slot's list that take a list: extend. -/
namespace VE
open PySem PySem.Spec PyProof.Rows L2
theorem meets_extend (l : Addr) (items : Array Value) (n : Nat) (b : Addr) (items2 : Array Value) (n2 : Nat) (sl : Array (Option Value)) (hc0 : ¬(!items.isEmpty && Builtin.List.listTooLong (items.size + items2.size)) = true) (hc1 : items.size ≤ sizeLine) (hs2 : items.size + items2.size ≤ sizeLine + 1) :
    Meets (Builtin.«list.extend» ⟨[.ref l, .ref b], []⟩) (fun _ R s => s.heap.get? l = some { cls := .type "list", dict := none, data := .seq items n, slots := #[] } ∧ s.heap.get? b = some { cls := .type "list", dict := none, data := .seq items2 n2, slots := sl } ∧ R (.ok (.ret Value.none)) { s with heap := s.heap.update l (Obj.mapSeq fun x => x ++ items2), toks := s.toks }) :=
  .of_wp fun prog w A R s h => by
    obtain ⟨hp, g, d, tk, os⟩ := s; obtain ⟨hl, hb, h⟩ := h
    have hz' : (items ++ items2).size ≤ sizeLine + 1 := by rw [Array.size_append]; exact hs2
    wp_walk using (wpAny_updateSeq hl rfl (hz := hc1) (_hz' := hz')), wpAny_loadPart' hl, wpAny_loadPart' hb
    exact ⟨_, rfl, h⟩
section
variable {X : Cx} {S : Set_}
def rExtendD (K : Frag) : V → List V → Hp → VK → Prop := fun x vs H Q => ∃ l b xs zs, x = .ref l ∧ vs = [.ref b] ∧ H l = some (.lst xs) ∧ SqL K H b zs ∧ xs.length + zs.length ≤ sizeLine ∧ Q .non (upd H l (.lst (xs ++ zs)))
theorem mt_extendD : MtR X "list.extend" (rExtendD X.K) := by
  intro pins s σ H x vs v us Q I rx rv h
  obtain ⟨l, b, xs, zs, rfl, rfl, hH, hB, hz, q⟩ := h
  cases rx
  obtain ⟨u, rfl, ru⟩ := rv.one
  cases ru
  obtain ⟨z, its, n, r, hl, e⟩ := I.lstM hH
  obtain ⟨its2, r2, ⟨o, n2, e2, o1, o2, o3⟩, hl2⟩ := I.list hB
  obtain ⟨oc, od, oo, os⟩ := o
  dsimp only at o1 o2 o3
  subst o1 o2 o3
  have hl3 := r2.length
  have hsz : its.toArray.size + its2.toArray.size ≤ sizeLine := by rw [List.size_toArray, List.size_toArray]; omega
  have hlong : ¬ (!its.toArray.isEmpty && Builtin.List.listTooLong (its.toArray.size + its2.toArray.size)) = true := by
    rw [notLongL hsz, Bool.and_false]
    exact Bool.false_ne_true
  refine call_meets F.slot_list_extend ⟨_, e, rfl⟩ F.entry_list_extend (F.args_list_extend_2 _ _)
    (meets_extend l its.toArray n b its2.toArray n2 _ hlong (by rw [List.size_toArray]; omega) (by omega)) ⟨e, e2, ?_⟩
  refine ⟨.non, _, I.lset (its' := its ++ its2) hH e (by simp) (r.append r2) ?_, rfl, q⟩
  rw [List.length_append]
  omega
def MutR (S : Set_) (g : List D → List D → Option (D × List D)) (r : V → List V → Hp → VK → Prop) : Prop :=
  ∀ (G H : Hp) (a : Addr) (xs ds : List D) (ys vs : List V) (d : D) (xs' : List D) (Q : VK), RdS G H → H a = some (.lst ys) → FzL S.K S.cm G xs ys → FzL S.K S.cm G ds vs → g xs ds = some (d, xs') →
    (∀ w ys', Fz S.K S.cm G d w → FzL S.K S.cm G xs' ys' → Q w (upd H a (.lst ys'))) → r (.ref a) vs H Q
theorem eMut_impR {i : Nat} {ms : List M} {g : List D → List D → Option (D × List D)} {r : V → List V → Hp → VK → Prop} (mu : MutR S g r) {σ : L2.St} {H : Hp} {Q : VK} (q : rE S (eMut i ms g) σ H Q) :
    ∃ v, σ[i]? = some (some v) ∧ tyV S.K "list" v H ∧ rO S (ms.map .ex) σ H fun xs H2 => r v xs H2 Q := by
  obtain ⟨G, ρ, F, s, q⟩ := q
  unfold eMut at q
  cases e0 : sget ρ i with
  | none => rw [e0] at q; exact q.elim
  | some t0 =>
    rw [e0] at q
    dsimp only at q
    by_cases hl : isLst t0 = true
    case neg => rw [if_neg hl] at q; exact q.elim
    rw [if_pos hl] at q
    obtain ⟨v, F1, hv, ow, _⟩ := s.wr (sget_some e0)
    have ty : tyV S.K "list" v H := by
      cases t0 with
      | lst o xs =>
        obtain ⟨a, vs, rfl, h1, _⟩ := ow.lst_inv s.rd
        exact .inl ⟨rfl, vs, .inl h1⟩
      | _ => cases hl
    refine ⟨v, hv, ty, G, ρ, F, s, ?_⟩
    cases e1 : evO (ms.map .ex) ρ with
    | bad => rw [e1] at q; exact q
    | exc c x ρ' => rw [e1] at q; exact q
    | ok ds ρ1 =>
      rw [e1] at q
      dsimp only at q ⊢
      intro vs H1 ⟨G1, F1, t1, s1, vo⟩
      cases e2' : (sget ρ1 i).bind lstT with
      | none => rw [e2'] at q; exact q.elim
      | some xs =>
        rw [e2'] at q
        dsimp only at q
        obtain ⟨t1', e2, e2l⟩ := Option.bind_eq_some_iff.mp e2'
        have := lstT_some e2l
        subst this
        cases e3 : g xs ds with
        | none => rw [e3] at q; exact q.elim
        | some p =>
          obtain ⟨d, xs'⟩ := p
          rw [e3] at q
          dsimp only at q
          obtain ⟨v2, F2, hv2, ow2, nd2, dj2, up2⟩ := s1.wr (sget_some e2)
          rw [hv] at hv2
          cases hv2
          cases ow2 with
          | fz z => cases z
          | @lst a ys _ eH l =>
            refine mu G1 H1 a xs ds ys vs d xs' Q s1.rd eH l (vwO_ex vo) e3 fun w ys' zw zl => ?_
            obtain ⟨F', t2, s2⟩ := up2 a (.lst ys') (.lst true xs') [a] (by simp) (.lst (upd_same ..) zl) (List.Sublist.refl _)
            exact q w _ (PostZ.post ⟨G1, F', t1.trans t2, s2, zw⟩)
theorem pe_mutRD {i : Nat} {g : List D → List D → Option (D × List D)} {r : V → List V → Hp → VK → Prop} {id : String} {name : Str} {o e : Expr} {es : List Expr} {m : M} {ms : List M} {apos cpos : Pos} (mu : MutR S g r) (hK : S.K = X.K)
    (slot : Slot "list" name id) (hty : typeOf (.builtin id) = pure (.type "method_descriptor")) (hm : MtR X id r) (ho : PE X o (tVar i)) (ha : PA X (e :: es) (rO S ((m :: ms).map .ex)))
    (hbase : attributeBase o name X.env (eval o X.env) = eval o X.env)
    (hfew : ((backTo cpos (starEach (e :: es) X.env)).all (fun x => !x.1) && (backToKw cpos (keywordEach [] X.env)).all (fun x => x.1.isSome)
      && decide ((e :: es).length + ([] : List Keyword).length + (if ([] : List Keyword).isEmpty then 0 else 1) < 30)) = true)
    (hline : (apos.endLine == cpos.line) = true) (hs : starEach (e :: es) X.env = (false, eval e X.env) :: starEach es X.env) (hplain : (backTo cpos (starEach es X.env)).any (·.1) = false) :
    PE X (.Call (.Attribute o name apos) (e :: es) [] cpos) (rE S (eMut i (m :: ms) g)) :=
  pe_imp (pe_bm PySem.F.plainAttrs_list slot hty hm ho ha hbase hfew hline hs hplain) fun σ H Q q => by
    obtain ⟨v, hv, ty, h⟩ := eMut_impR mu q
    exact ⟨v, hv, by rw [← hK]; exact ty, h⟩
def gExtend : List D → List D → Option (D × List D) := fun xs ds => match ds with
  | [.lst _ ys] => if xs.length + ys.length ≤ sizeLine then some (.non, xs ++ ys) else none
  | _ => none
theorem mu_extend : MutR S gExtend (rExtendD S.K) := by
  intro G H a xs ds ys vs d xs' Q rd eH l lv e k
  unfold gExtend at e
  split at e
  · split at e
    case isFalse => cases e
    case isTrue hz =>
    cases e
    cases lv with
    | cons z n =>
      cases n
      obtain ⟨b, zs, rfl, sq, lz⟩ := (Ow.fz z).lst_inv rd
      exact ⟨a, b, ys, zs, rfl, rfl, eH, .inl sq, by rw [← l.length, ← lz.length]; exact hz, k .non _ .non (l.append lz)⟩
  · cases e
end
end VE
/-! VE27: x[i], y[j] = e. -/
namespace VE
open PySem PySem.Spec PyProof.Rows L2
/-- a frozen value to a place of a slot's object -/
def putK (i : Nat) (k : M) (d : D) : Env → Option Env := fun ρ => match sget ρ i with
  | none => none
  | some _ => match k ρ with
    | .ok kd ρ2 => (match sget ρ2 i with
      | some t => (putD t (frz kd) d).map fun t1 => ρ2.set i (some t1)
      | none => none)
    | _ => none
def sSub2 (i : Nat) (k1 : M) (j : Nat) (k2 : M) (m : M) : MS := sWith m fun d ρ => match frz d with
  | .tup [d1, d2] => (match (putK i k1 d1 ρ).bind (putK j k2 d2) with
    | some ρ' => .nx ρ'
    | none => .bad)
  | _ => .bad
section
variable {X : Cx} {S : Set_}
theorem putK_imp {i : Nat} {k : M} {d : D} {v : V} {G H : Hp} {F : List Addr} {σ : L2.St} {ρ ρ1 : Env} {Q : L2.St → Hp → Prop} (s : SR S.K S.cm S.fx G H σ ρ F) (z : Fz S.K S.cm G d v) (w : putK i k d ρ = some ρ1)
    (hq : ∀ G1 F1 H1, Tr G H F G1 H1 F1 → SR S.K S.cm S.fx G1 H1 σ ρ1 F1 → Q σ H1) : gSub (tVar i) (rE S k) rSet v σ H Q := by
  unfold putK at w
  cases e1 : sget ρ i with
  | none => rw [e1] at w; cases w
  | some t0 =>
    rw [e1] at w
    dsimp only at w
    obtain ⟨v0, F0, hv0, _⟩ := s.wr (sget_some e1)
    refine ⟨v0, hv0, G, ρ, F, s, ?_⟩
    cases e2 : k ρ with
    | bad => rw [e2] at w; cases w
    | exc c x ρ2 => rw [e2] at w; cases w
    | ok kd ρ2 =>
      rw [e2] at w
      dsimp only at w ⊢
      intro kv H2 p2
      obtain ⟨G2, F2, t2, s2, z2⟩ := p2.freeze
      cases e3 : sget ρ2 i with
      | none => rw [e3] at w; cases w
      | some t =>
        rw [e3] at w
        dsimp only at w
        obtain ⟨t1, e4, rfl⟩ := Option.map_eq_some_iff.mp w
        obtain ⟨v1, hv1, r⟩ := put_ok s2 (sget_some e3) z2 (z.mono t2.g.rds) e4 (Q := fun H3 => Q σ H3) fun F3 H3 t3 s3 => hq G2 F3 H3 (t2.trans t3) s3
        rw [hv0] at hv1
        cases hv1
        exact r
theorem ps_sub2D {i j : Nat} {k1 k2 m : M} {o1 i1 o2 i2 e : Expr} {p1 p2 pt pos : Pos} {n : Nat} (hc : X.calm = true) (hu : X.A.units + 1 < cLine) (hK : S.K = X.K) (ho1 : PE X o1 (tVar i)) (hk1 : PE X i1 (rE S k1)) (ho2 : PE X o2 (tVar j)) (hk2 : PE X i2 (rE S k2)) (he : PE X e (rE S m))
    (h2 : PGs X [.Subscript o1 i1 p1, .Subscript o2 i2 p2] (gCons (gSub (tVar i) (rE S k1) rSet) (gCons (gSub (tVar j) (rE S k2) rSet) gNil)))
    (hn : (assignEach [.Subscript o1 i1 p1, .Subscript o2 i2 p2] X.env).length = 2) (hst : (assignEach [.Subscript o1 i1 p1, .Subscript o2 i2 p2] X.env).findIdx? (·.1) = none)
    (hs : swapsWithSole [.Tuple [.Subscript o1 i1 p1, .Subscript o2 i2 p2] n pt] e pos.line X.env = pure false) (hw : swappedStores [.Tuple [.Subscript o1 i1 p1, .Subscript o2 i2 p2] n pt] e X.env = pure none)
    (h1 : (assignEach [.Tuple [.Subscript o1 i1 p1, .Subscript o2 i2 p2] n pt] X.env).map (·.2) = [assign (.Tuple [.Subscript o1 i1 p1, .Subscript o2 i2 p2] n pt) X.env]) :
    PS X (.Assign [.Tuple [.Subscript o1 i1 p1, .Subscript o2 i2 p2] n pt] e pos) (rS S (sSub2 i k1 j k2 m)) := by
  refine ps_imp (ps_asg he (pg_tup hc h2 hn hst) hs hw h1) fun D σ H q => rS_with q fun G F d ρ' w v H' p => ?_
  obtain ⟨G', F', t', s, z⟩ := p.freeze
  split at w
  · rename_i d1 d2 ed
    rw [ed] at z
    cases z with
    | tup sq l =>
      cases l with
      | cons a l =>
        cases l with
        | cons b l =>
          cases l
          cases e1 : putK i k1 d1 ρ' with
          | none => rw [e1] at w; exact w.elim
          | some ρ1 =>
            rw [e1, Option.bind_some] at w
            cases e2 : putK j k2 d2 ρ1 with
            | none => rw [e2] at w; exact w.elim
            | some ρ2 =>
              rw [e2] at w
              dsimp only at w
              refine ⟨_, _, rfl, by rw [← hK]; exact s.rd.sqT sq, rfl, _, _, rfl, putK_imp s a e1 fun G1 F1 H1 t1 s1 => ?_⟩
              refine ⟨_, _, rfl, putK_imp s1 (b.mono t1.g.rds) e2 fun G2 F2 H2 t2 s2 => ?_⟩
              exact ⟨rfl, w σ H2 ⟨G2, F2, t'.trans (t1.trans t2), s2⟩⟩
  · exact w.elim
end
end VE
/-! VE28: {}. -/
namespace VE
open PySem PySem.Spec PyProof.Rows L2
theorem pe_disp0 {X : Cx} {S : Set_} {pos : Pos} : PE X (.Dict [] [] pos) (rE S (eDisp [] [])) := pe_imp pe_dnewK fun σ H Q q p hp => by
  have h := disp_imp (ks := []) (ms := []) rfl q p hp
  have h : upd H p (.dK []) p = some (.dK []) ∧ ∃ kvs : List (Key × V), ([] : List (V × V)) = kvs.map (fun kv => (kV kv.1, kv.2)) ∧ kvs.length ≤ 15 ∧ Q (.ref p) (upd (upd H p (.dK [])) p (.dK (mergeK [] kvs))) := h
  obtain ⟨_, kvs, e, _, q⟩ := h
  cases kvs with
  | nil => rw [upd_upd] at q; exact q
  | cons _ _ => cases e
end VE
/-! VE29: an owned list within an owned dict. -/
namespace VE
open PySem PySem.Spec PyProof.Rows L2
/-- the first child by a key, exchanged -/
def setK1 : List Key → List D → Key → D → List D
  | a :: ks, x :: xs, k, y => if a = k then y :: xs else x :: setK1 ks xs k y
  | _, xs, _, _ => xs
section
variable {K : Frag} {cm : Str → Addr} {G H : Hp}
theorem owl_setK1 {k : Key} {ys : List D} : ∀ {ks : List Key} {ds : List D} {vs : List V} {F : List Addr}, OwL K cm G H ds vs F → ks.length = vs.length → F.Nodup → dGetK ks ds k = some (.lst true ys) →
    ∃ a ws, valV (ks.zip vs) k = some (.ref a) ∧ a ∈ F ∧ H a = some (.lst ws) ∧ FzL K cm G ys ws ∧ ∀ ys' ws', FzL K cm G ys' ws' → OwL K cm G (upd H a (.lst ws')) (setK1 ks ds k (.lst true ys')) vs F
  | [], _, _, _, _, _, _, h => by simp [dGetK] at h
  | a :: ks, [], _, _, _, _, _, h => by simp [dGetK] at h
  | a :: ks, x :: xs, v :: vs, _, .cons (F1 := F1) (F2 := F2) o l, n, nd, h => by
    simp only [dGetK] at h
    have nd' := List.nodup_append.mp nd
    by_cases e : a = k
    · rw [if_pos e] at h
      cases (Option.some.inj h : x = _)
      cases o with
      | fz z => cases z
      | @lst b ws _ eH lz =>
        refine ⟨b, ws, by rw [List.zip_cons_cons]; exact valV_pos e, by simp, eH, lz, fun ys' ws' z => ?_⟩
        rw [setK1, if_pos e]
        refine .cons (.lst (upd_same ..) z) (l.mono (GLe.refl G) fun c hc u hu => ?_)
        rw [upd_ne (fun q => nd'.2.2 b (by simp) c hc q.symm)]; exact hu
    · rw [if_neg e] at h
      obtain ⟨b, ws, h1, h2, h3, h4, h5⟩ := owl_setK1 (k := k) (ys := ys) l (by simpa using n) nd'.2.1 h
      refine ⟨b, ws, by rw [List.zip_cons_cons, valV_neg e]; exact h1, by simp [h2], h3, h4, fun ys' ws' z => ?_⟩
      rw [setK1, if_neg e]
      refine .cons (o.mono (GLe.refl G) fun c hc u hu => ?_) (h5 ys' ws' z)
      rw [upd_ne (fun q => nd'.2.2 c hc b h2 q)]; exact hu
variable {fx : Fix} {F : List Addr} {σ : L2.St} {ρ : Env}
/-- a child's items, for others -/
theorem child_ok (s : SR K cm fx G H σ ρ F) {i : Nat} {ks : List Key} {xs ys : List D} {key : Key} (ht : ρ[i]? = some (some (.dk true ks xs))) (hc : dGetK ks xs key = some (.lst true ys)) :
    ∃ a b ws, σ[i]? = some (some (.ref a)) ∧ DGet H a (kV key) (some (.ref b)) ∧ H b = some (.lst ws) ∧ FzL K cm G ys ws ∧ ∀ ys' ws', FzL K cm G ys' ws' →
      ∃ F', Tr G H F G (upd H b (.lst ws')) F' ∧ SR K cm fx G (upd H b (.lst ws')) σ (ρ.set i (some (.dk true ks (setK1 ks xs key (.lst true ys'))))) F' := by
  obtain ⟨v, F1, hv, ow, nd, dj, up⟩ := s.wr ht
  cases ow with
  | fz z => cases z
  | @dk a _ vs _ F2 eH n l =>
    have nd2 := List.nodup_cons.mp nd
    obtain ⟨b, ws, h1, h2, h3, h4, h5⟩ := owl_setK1 l n nd2.2 hc
    refine ⟨a, b, ws, hv, ?_, h3, h4, fun ys' ws' z => ?_⟩
    · rw [← h1]; exact DGet.k eH
    · refine up b (.lst ws') _ (a :: F2) (by simp [h2]) (.dk ?_ n (h5 ys' ws' z)) (List.Sublist.refl _)
      rw [upd_ne (fun q => nd2.1 (by rw [q]; exact h2))]; exact eH
end
section
variable {X : Cx} {S : Set_}
def kidT (i : Nat) (key : Key) (ρ : Env) : Option (List Key × List D × List D) := match sget ρ i with
  | some (.dk true ks xs) => (match dGetK ks xs key with
    | some (.lst true ys) => some (ks, xs, ys)
    | _ => none)
  | _ => none
theorem kidT_some {i : Nat} {key : Key} {ρ : Env} {ks : List Key} {xs ys : List D} (h : kidT i key ρ = some (ks, xs, ys)) : sget ρ i = some (.dk true ks xs) ∧ dGetK ks xs key = some (.lst true ys) := by
  unfold kidT at h
  split at h
  · rename_i ks' xs' e
    split at h
    · rename_i ys' e2
      cases h
      exact ⟨e, e2⟩
    · cases h
  · cases h
/-- slot[key][j] = value -/
def sPutN (i : Nat) (key : Key) (j : Int) (m : M) : MS := sWith m fun d ρ => match kidT i key ρ with
  | some (ks, xs, ys) => (match putD (.lst true ys) (.int j) (frz d) with
    | some (.lst true ys') => .nx (ρ.set i (some (.dk true ks (setK1 ks xs key (.lst true ys')))))
    | _ => .bad)
  | none => .bad
theorem ps_putND {i : Nat} {key : Key} {j : Int} {m : M} {o ke je e : Expr} {p1 p2 pos : Pos} (hu : X.A.units + 1 < cLine) (ho : PE X o (tVar i)) (hke : PE X ke (tC (kV key))) (hje : PE X je (tC (.int j))) (hp : PlainIx ke) (he : PE X e (rE S m)) (hK : S.K = X.K)
    (ha : ∀ v, assign (.Subscript (.Subscript o ke p1) je p2) X.env v = (do
      let ov ← holding [v] (eval (.Subscript o ke p1) X.env)
      let iv ← holding [v, ov] (eval je X.env)
      standAt p2
      holding [v, ov, iv] (setItem ov iv v)
      release [v, ov, iv] []))
    (hs : swapsWithSole [.Subscript (.Subscript o ke p1) je p2] e pos.line X.env = pure false) (hw : swappedStores [.Subscript (.Subscript o ke p1) je p2] e X.env = pure none) (h1 : (assignEach [.Subscript (.Subscript o ke p1) je p2] X.env).map (·.2) = [assign (.Subscript (.Subscript o ke p1) je p2) X.env]) :
    PS X (.Assign [.Subscript (.Subscript o ke p1) je p2] e pos) (rS S (sPutN i key j m)) := by
  refine ps_imp (ps_asg he (pg_sub (pe_ix (ix_all hu) ho hke hp) hje (set_all hu) ha) hs hw h1) fun De σ H q => rS_with q fun G F d ρ' w v H' p => ?_
  obtain ⟨G', F', t', s, z⟩ := p.freeze
  cases e1 : kidT i key ρ' with
  | none => rw [e1] at w; exact w.elim
  | some t =>
    obtain ⟨ks, xs, ys⟩ := t
    rw [e1] at w
    dsimp only at w
    obtain ⟨e2, e3⟩ := kidT_some e1
    obtain ⟨a, b, ws, hv, hg, hb, l, up⟩ := child_ok s (sget_some e2) e3
    refine ⟨_, hv, .inr (.inr (.inr ⟨a, .ref b, rfl, hg, ?_⟩))⟩
    cases e4 : putD (.lst true ys) (.int j) (frz d) with
    | none => rw [e4] at w; exact w.elim
    | some c =>
      rw [e4] at w
      have e4 : (ixN ys.length j).map (fun n => D.lst true (ys.set n (frz d))) = some c := e4
      obtain ⟨n, hn, rfl⟩ := Option.map_eq_some_iff.mp e4
      dsimp only at w
      obtain ⟨F3, t3, s3⟩ := up (ys.set n (frz d)) (ws.set n v) (l.set n z)
      exact .inl ⟨b, ws, j, n, rfl, rfl, hb, by rw [← l.length]; exact hn, w σ _ ⟨G', F3, t'.trans t3, s3⟩⟩
/-- slot[key].method(j) -/
def eMutN (i : Nat) (key : Key) (j : Int) (g : List D → List D → Option (D × List D)) : M := fun ρ => match kidT i key ρ with
  | some (ks, xs, ys) => (match g ys [.int j] with
    | some (d, ys') => .ok d (ρ.set i (some (.dk true ks (setK1 ks xs key (.lst true ys')))))
    | none => .bad)
  | none => .bad
theorem pe_mutND {i : Nat} {key : Key} {j : Int} {g : List D → List D → Option (D × List D)} {r : V → List V → Hp → VK → Prop} {id : String} {name : Str} {o ke je : Expr} {p1 apos cpos : Pos} (mu : MutL S g r) (hu : X.A.units + 1 < cLine) (hK : S.K = X.K)
    (slot : Slot "list" name id) (hty : typeOf (.builtin id) = pure (.type "method_descriptor")) (hm : MtR X id r) (ho : PE X o (tVar i)) (hke : PE X ke (tC (kV key))) (hje : PE X je (tC (.int j))) (hp : PlainIx ke)
    (hsj : starEach [je] X.env = (false, eval je X.env) :: starEach [] X.env)
    (hbase : attributeBase (.Subscript o ke p1) name X.env (eval (.Subscript o ke p1) X.env) = eval (.Subscript o ke p1) X.env)
    (hfew : ((backTo cpos (starEach [je] X.env)).all (fun x => !x.1) && (backToKw cpos (keywordEach [] X.env)).all (fun x => x.1.isSome)
      && decide ([je].length + ([] : List Keyword).length + (if ([] : List Keyword).isEmpty then 0 else 1) < 30)) = true)
    (hline : (apos.endLine == cpos.line) = true) (hplain : (backTo cpos (starEach [] X.env)).any (·.1) = false) :
    PE X (.Call (.Attribute (.Subscript o ke p1) name apos) [je] [] cpos) (rE S (eMutN i key j g)) :=
  pe_imp (pe_bm PySem.F.plainAttrs_list slot hty hm (pe_ix (ix_all hu) ho hke hp) (pa_cons hje pa_nil hsj) hbase hfew hline hsj hplain) fun σ H Q q => by
    obtain ⟨G, ρ, F, s, q⟩ := q
    unfold eMutN at q
    cases e1 : kidT i key ρ with
    | none => rw [e1] at q; exact q.elim
    | some t =>
      obtain ⟨ks, xs, ys⟩ := t
      rw [e1] at q
      dsimp only at q
      obtain ⟨e2, e3⟩ := kidT_some e1
      obtain ⟨a, b, ws, hv, hg, hb, l, up⟩ := child_ok s (sget_some e2) e3
      refine ⟨_, hv, .inr (.inr (.inr ⟨a, .ref b, rfl, hg, .inl ⟨rfl, ws, .inl (.inl hb)⟩, ?_⟩))⟩
      cases e4 : g ys [.int j] with
      | none => rw [e4] at q; exact q.elim
      | some p =>
        obtain ⟨d, ys'⟩ := p
        rw [e4] at q
        dsimp only at q
        refine mu G H b ys [.int j] ws [.int j] d ys' Q hb l (.cons (.int j) .nil) e4 fun w ws' zw zl => ?_
        obtain ⟨F3, t3, s3⟩ := up ys' ws' zl
        exact q w _ (PostZ.post ⟨G, F3, t3, s3, zw⟩)
/-- an operation of slot[key] and constants -/
def opsN (i : Nat) (key : Key) (cs : List Int) (g : List D → Option D) : M := fun ρ => match kidT i key ρ with
  | some (_, _, ys) => (match g (.lst true ys :: cs.map .int) with
    | some d => .ok d ρ
    | none => .bad)
  | none => .bad
theorem vwl_ints {K : Frag} {cm : Str → Addr} {G H : Hp} : ∀ cs : List Int, VwL K cm G H (cs.map D.int) (cs.map V.int)
  | [] => .nil
  | c :: cs => .cons ⟨[], .fz (.int c)⟩ (vwl_ints cs)
theorem opsN_imp {i : Nat} {key : Key} {cs : List Int} {g : List D → Option D} {r : List V → Hp → VK → Prop} (od : OpD S g r) (σ : L2.St) (H : Hp) (Q : VK) (h : rE S (opsN i key cs g) σ H Q) :
    tOp (rIdx X.K) (tVar i) (tC (kV key)) σ H fun x H1 => r (x :: cs.map V.int) H1 Q := by
  obtain ⟨G, ρ, F, s, q⟩ := h
  unfold opsN at q
  cases e1 : kidT i key ρ with
  | none => rw [e1] at q; exact q.elim
  | some t =>
    obtain ⟨ks, xs, ys⟩ := t
    rw [e1] at q
    dsimp only at q
    obtain ⟨e2, e3⟩ := kidT_some e1
    obtain ⟨a, b, ws, hv, hg, hb, l, _⟩ := child_ok s (sget_some e2) e3
    refine ⟨_, hv, .inr (.inr (.inr ⟨a, .ref b, rfl, hg, ?_⟩))⟩
    cases e4 : g (.lst true ys :: cs.map .int) with
    | none => rw [e4] at q; exact q.elim
    | some d =>
      rw [e4] at q
      dsimp only at q
      exact od G H (.lst true ys :: cs.map .int) (.ref b :: cs.map V.int) d Q s.rd (.cons ⟨_, .lst hb l⟩ (vwl_ints cs)) e4 fun v G' H' Fv nw o => q v H' (nw.post s o)
theorem pe_lenN {i : Nat} {key : Key} {r : List V → Hp → VK → Prop} {g : List D → Option D} {id : String} {x : Str} {o ke : Expr} {p p1 pos : Pos} (hu : X.A.units + 1 < cLine) (hc : CallR X (.builtin id) r) (od : OpD S g r) (hg : Gl X x) (hm : X.mg x = none) (hv : bootBuiltins x = some (.builtin id)) (ho : PE X o (tVar i)) (hke : PE X ke (tC (kV key))) (hp : PlainIx ke)
    (hn : x ≠ "__name__") (hdb : (x == ("__debug__" : Str)) = false) (he : starEach [.Subscript o ke p1] X.env = (false, eval (.Subscript o ke p1) X.env) :: starEach [] X.env) (hpl : (backTo pos (starEach [] X.env)).any (·.1) = false) : PE X (.Call (.Name x p) [.Subscript o ke p1] [] pos) (rE S (opsN i key [] g)) :=
  pe_imp (pe_callB hc hg hm hv (pa_cons (pe_ix (ix_all hu) ho hke hp) pa_nil he) hn hdb he hpl) fun σ H Q q => opsN_imp od σ H Q q
theorem pe_idxN {i : Nat} {key : Key} {j : Int} {o ke je : Expr} {p1 pos : Pos} (hu : X.A.units + 1 < cLine) (hK : S.K = X.K) (ho : PE X o (tVar i)) (hke : PE X ke (tC (kV key))) (hp : PlainIx ke) (hje : PE X je (tC (.int j))) (hp2 : PlainIx je) : PE X (.Subscript (.Subscript o ke p1) je pos) (rE S (opsN i key [j] dIdx)) :=
  pe_imp (pe_ix (ix_all hu) (pe_ix (ix_all hu) ho hke hp) hje hp2) fun σ H Q q => by
    obtain ⟨v, hv, h⟩ := opsN_imp (X := X) (od_idx (S := S)) σ H Q q
    refine ⟨v, hv, ?_⟩
    have conv : ∀ (x : V) (H1 : Hp), r2 (rIdx S.K) (x :: [V.int j]) H1 Q → rIdx X.K x (.int j) H1 Q := fun x H1 ⟨x', y', e, h⟩ => by
      cases e; rw [← hK]; exact h
    rcases h with ⟨p, ys, k, w, h1, h2, h3, h4, h⟩ | ⟨p, ys, k, w, h1, h2, h3, h4, h⟩ | ⟨z, k, c, h1, h2, h3, h4, h⟩ | ⟨a, w, h1, h2, h⟩
    · exact .inl ⟨p, ys, k, w, h1, h2, h3, h4, conv _ _ h⟩
    · exact .inr (.inl ⟨p, ys, k, w, h1, h2, h3, h4, conv _ _ h⟩)
    · exact .inr (.inr (.inl ⟨z, k, c, h1, h2, h3, h4, conv _ _ h⟩))
    · exact .inr (.inr (.inr ⟨a, w, h1, h2, conv _ _ h⟩))
/-- a name's value, which leaves the slot -/
def eMove (i : Nat) : M := fun ρ => match sget ρ i with
  | some d => .ok d (ρ.set i none)
  | none => .bad
theorem pe_eMove {e : Expr} {i : Nat} (h : PE X e (tVar i)) : PE X e (rE S (eMove i)) := pe_imp h fun σ H Q q => by
  obtain ⟨G, ρ, F, s, q⟩ := q
  unfold eMove at q
  cases e1 : sget ρ i with
  | none => rw [e1] at q; exact q.elim
  | some d =>
    rw [e1] at q
    dsimp only at q
    obtain ⟨y, Fa, F1, Fb, h1, ⟨v, e, o⟩, eF, up⟩ := s.sl.split i (sget_some e1)
    subst e
    refine ⟨v, h1, q v H ⟨G, Fa ++ Fb, F1, ?_, ?_, o, ?_, fun a ha => s.dj a (by rw [eF]; simp [ha])⟩⟩
    · exact ⟨GLe.refl G, fun _ _ _ h => h, fun a ha => .inl (by rw [eF]; simp at ha ⊢; rcases ha with q | q | q <;> simp [q]), fun a h => .inl h, fun a h => h⟩
    · have sl := up G H none (some v) [] (GLe.refl G) (fun _ _ _ h => h) rfl
      rw [set_self σ i _ h1] at sl
      have nd : (Fa ++ (F1 ++ Fb)).Nodup := eF ▸ s.nd
      have n1 := List.nodup_append.mp nd
      have n2 := List.nodup_append.mp n1.2.1
      exact ⟨s.rd, List.nodup_append.mpr ⟨n1.1, n2.2.1, fun a ha b hb => n1.2.2 a ha b (by simp [hb])⟩, fun a ha => s.dj a (by rw [eF]; simp at ha ⊢; rcases ha with q | q <;> simp [q]), by simpa using sl, s.fx⟩
    · have nd : (Fa ++ (F1 ++ Fb)).Nodup := eF ▸ s.nd
      have n1 := List.nodup_append.mp nd
      have n2 := List.nodup_append.mp n1.2.1
      refine List.nodup_append.mpr ⟨List.nodup_append.mpr ⟨n1.1, n2.2.1, fun a ha b hb => n1.2.2 a ha b (by simp [hb])⟩, n2.1, fun a ha b hb e => ?_⟩
      subst e
      rcases List.mem_append.mp ha with q | q
      · exact n1.2.2 a q a (by simp [hb]) rfl
      · exact n2.2.2 a hb a q rfl
theorem mapK_none {α : Type} {k : Key} {y : α} : ∀ {ks : List Key} {xs : List α}, ks.length = xs.length → k ∉ ks → mapK ks xs k y = xs
  | [], [], _, _ => rfl
  | a :: ks, x :: xs, h, n => by
    rw [mapK, if_neg fun e => n (by rw [e]; simp), mapK_none (by simpa using h) fun z => n (by simp [z])]
  | [], _ :: _, h, _ => by simp at h
  | _ :: _, [], h, _ => by simp at h
theorem owl_mapKO {K : Frag} {cm : Str → Addr} {G H : Hp} {k : Key} {d : D} {v : V} {Fv : List Addr} (od : Ow K cm G H d v Fv) (nv : Fv.Nodup) : ∀ {ks : List Key} {ds : List D} {vs : List V} {F : List Addr}, OwL K cm G H ds vs F → ks.length = vs.length → ks.Nodup → hasK ks k = true → F.Nodup → (∀ a ∈ F, a ∉ Fv) →
    ∃ F', F'.Nodup ∧ (∀ a ∈ F', a ∈ F ∨ a ∈ Fv) ∧ OwL K cm G H (mapK ks ds k d) (mapK ks vs k v) F'
  | [], _, _, _, _, _, _, h, _, _ => by simp [hasK] at h
  | a :: ks, [], _, _, .nil, n, _, _, _, _ => by simp at n
  | a :: ks, x :: xs, v0 :: vs, _, .cons (F1 := F1) (F2 := F2) o l, n, nk, hh, nd, dj => by
    have nd' := List.nodup_append.mp nd
    have nk' := List.nodup_cons.mp nk
    have n' : ks.length = vs.length := by simpa using n
    by_cases e : a = k
    · subst e
      rw [mapK, if_pos rfl, mapK, if_pos rfl, mapK_none (by rw [n', l.length]) nk'.1, mapK_none n' nk'.1]
      exact ⟨Fv ++ F2, List.nodup_append.mpr ⟨nv, nd'.2.1, fun b hb c hc e => dj c (by simp [hc]) (by rw [← e]; exact hb)⟩, fun b hb => by
        rcases List.mem_append.mp hb with q | q
        · exact .inr q
        · exact .inl (by simp [q]), .cons od l⟩
    · have hh' : hasK ks k = true := by
        unfold hasK at hh ⊢
        rw [List.any_cons, decide_eq_false e, Bool.false_or] at hh
        exact hh
      obtain ⟨F', h1, h2, h3⟩ := owl_mapKO od nv (ks := ks) l n' nk'.2 hh' nd'.2.1 fun b hb => dj b (by simp [hb])
      rw [mapK, if_neg e, mapK, if_neg e]
      refine ⟨F1 ++ F', List.nodup_append.mpr ⟨nd'.1, h1, fun b hb c hc e => ?_⟩, fun b hb => ?_, .cons o h3⟩
      · subst e
        rcases h2 b hc with q | q
        · exact nd'.2.2 b hb b q rfl
        · exact dj b (by simp [hb]) q
      · rcases List.mem_append.mp hb with q | q
        · exact .inl (by simp [q])
        · rcases h2 b q with q | q
          · exact .inl (by simp [q])
          · exact .inr q
/-- slot[key] = value, whatever the value owns -/
def sPutO (i : Nat) (key : Key) (m : M) : MS := sWith m fun d ρ => match sget ρ i with
  | some (.dk true ks xs) => if hasK ks key = true ∧ ks.Nodup ∧ xs.length < sizeLine then .nx (ρ.set i (some (.dk true ks (mapK ks xs key d)))) else .bad
  | _ => .bad
theorem ps_putOD {i : Nat} {key : Key} {m : M} {o ke e : Expr} {p2 pos : Pos} (hu : X.A.units + 1 < cLine) (ho : PE X o (tVar i)) (hke : PE X ke (tC (kV key))) (he : PE X e (rE S m))
    (ha : ∀ v, assign (.Subscript o ke p2) X.env v = (do
      let ov ← holding [v] (eval o X.env)
      let iv ← holding [v, ov] (eval ke X.env)
      standAt p2
      holding [v, ov, iv] (setItem ov iv v)
      release [v, ov, iv] []))
    (hs : swapsWithSole [.Subscript o ke p2] e pos.line X.env = pure false) (hw : swappedStores [.Subscript o ke p2] e X.env = pure none) (h1 : (assignEach [.Subscript o ke p2] X.env).map (·.2) = [assign (.Subscript o ke p2) X.env]) :
    PS X (.Assign [.Subscript o ke p2] e pos) (rS S (sPutO i key m)) := by
  refine ps_imp (ps_asg he (pg_sub ho hke (set_all hu) ha) hs hw h1) fun De σ H q => rS_with q fun G F d ρ' w v H' p => ?_
  obtain ⟨G', F', Fv, t', s, od, ndv, djv⟩ := p
  cases e1 : sget ρ' i with
  | none => rw [e1] at w; exact w.elim
  | some t0 =>
    rw [e1] at w
    cases t0 with
    | dk oo ks xs =>
      cases oo with
      | false => exact w.elim
      | true =>
        dsimp only at w
        by_cases hc : hasK ks key = true ∧ ks.Nodup ∧ xs.length < sizeLine
        case neg => rw [if_neg hc] at w; exact w.elim
        rw [if_pos hc] at w
        obtain ⟨y, Fa, F1, Fb, h1, ⟨v0, e, ow⟩, eF, up⟩ := s.sl.split i (sget_some e1)
        subst e
        cases ow with
        | fz z => cases z
        | @dk a _ vs _ F2 eH n l =>
          refine ⟨_, h1, .inr ⟨a, _, rfl, DPut.k eH (by rw [List.length_zip, n, Nat.min_self, ← l.length]; exact hc.2.2), ?_⟩⟩
          rw [putK_zip n, if_pos hc.1]
          subst eF
          have ndv0 := ndv
          simp only [List.nodup_append, List.nodup_cons, List.mem_append, List.mem_cons] at ndv
          have keep : ∀ {F3 : List Addr}, a ∉ F3 → ∀ b ∈ F3, ∀ u, H' b = some u → upd H' a (.dK (ks.zip (mapK ks vs key v))) b = some u := fun {F3} hn b hb u hu => by
            rw [upd_ne (fun z => hn (by rw [← z]; exact hb))]; exact hu
          have aF2 : a ∉ F2 := by grind
          have aFv : a ∉ Fv := by grind
          have aFab : a ∉ Fa ++ Fb := by simp only [List.mem_append]; grind
          obtain ⟨F3, k1, k2, k3⟩ := owl_mapKO (od.mono (GLe.refl G') (keep aFv)) (by grind) (l.mono (GLe.refl G') (keep aF2)) n hc.2.1 hc.1 (by grind) (by grind)
          have sl := up G' _ (some (.dk true ks (mapK ks xs key d))) (some (.ref a)) (a :: F3) (GLe.refl G') (keep aFab) ⟨_, rfl, .dk (upd_same ..) (by rw [mapK_length _ _ _ _ n]; exact n) k3⟩
          rw [set_self σ i _ h1] at sl
          have dja := s.dj
          refine w σ _ ⟨G', _, t'.trans (F2 := Fa ++ ((a :: F3) ++ Fb)) ⟨GLe.refl _, fun b u hb e => ?_, fun b hb => .inl ?_, fun b hb => .inl hb, fun b hb => ?_⟩, ⟨fun b u hb => ?_, ?_, fun b hb => ?_, sl, s.fx⟩⟩
          · rw [upd_ne (fun z => hb (by rw [z]; simp))]; exact e
          · simp only [List.mem_append, List.mem_cons] at hb ⊢
            grind
          · by_cases z : b = a
            · subst z; rw [upd_same]; simp
            · rw [upd_ne z]; exact hb
          · have hne : b ≠ a := fun z => by
              have := dja a (by simp)
              subst z; rw [this] at hb; cases hb
            rw [upd_ne hne]
            exact s.rd b u hb
          · simp only [List.nodup_append, List.nodup_cons, List.mem_append, List.mem_cons]
            grind
          · simp only [List.mem_append, List.mem_cons] at hb
            rcases hb with q | (q | q) | q
            · exact dja b (by simp [q])
            · exact dja b (by simp [q])
            · rcases k2 b q with q | q
              · exact dja b (by simp [q])
              · exact djv b q
            · exact dja b (by simp [q])
    | _ => exact w.elim
end
end VE
/-! VE30: x += e of tuples and ints. -/
namespace HT
open PySem PyProof.Rows
section
variable {prog : Program} {w : World} {A : Around} {E : Value → Shared → Prop} {s : Shared}
theorem noI_tuple_addV : typeLookup (.type "tuple") (dunderI "add") = pure none := by rw [typeLookup_type, builtinLookup_eq_fast]; kernel_rfl
theorem iconcat_meetsV {T id : String} {B : Builtin} {a b : Value} {S : PySem.Spec} {Q : Value → Shared → Prop} (ha : s.TypeIs a T) (hb : s.TypeIs b T) (hno : typeLookup (.type T) (dunderI "add") = pure none)
    (hfill : fillsNumberSlot (.type T) "add" = pure false) (hseq : seqSlot? (.type T) "__add__" = pure (some (.builtin id))) (slot : Slot T "__add__" id)
    (entry : entryFor table id = some B) (args : argsOk id ⟨[a, b], []⟩) (g : Meets (B ⟨[a, b], []⟩) S) (h : S A (wants Q E) s) : wpAny (model prog w) A (inplaceOp .Add a b) Q E s :=
  wpAny_inplaceOp_concat ha hb hno hfill hseq (call_meets slot ha entry args g h)
theorem icat_tupV {t b : Addr} {vs ws : List Value} {Q : Value → Shared → Prop} (ht : IsTup s.heap t vs.toArray) (hb : IsTup s.heap b ws.toArray) (hv : vs ≠ [])
    (h1 : ws = [] → Q (.ref t) s) (h2 : ws ≠ [] → Q (.ref s.heap.objs.size) { s with heap := s.heap.push { cls := .type "tuple", data := .seq (vs ++ ws).toArray } })
    (hsz : vs.length + ws.length ≤ sizeLine) : wpAny (model prog w) A (inplaceOp .Add (.ref t) (.ref b)) Q E s := by
  obtain ⟨⟨cls, dd, data, sl⟩, ho, hc, n, hd⟩ := id ht
  obtain ⟨⟨cls2, dd2, data2, sl2⟩, ho2, hc2, n2, hd2⟩ := id hb
  simp only at hc hd hc2 hd2
  subst hc hd hc2 hd2
  have e : vs.toArray ++ ws.toArray = (vs ++ ws).toArray := by simp
  by_cases hw : ws = []
  · exact iconcat_meetsV ⟨_, ho, rfl⟩ ⟨_, ho2, rfl⟩ noI_tuple_addV noFill_tuple_add seq_tuple_add PySem.F.slot_tuple_add PySem.F.entry_tuple_add (PySem.F.args_tuple_add_2 _ _)
      (tuple_addW1 t b vs.toArray ws.toArray n n2 dd dd2 sl sl2 (by simpa using hv) (by simp [hw])) ⟨ho, ho2, h1 hw⟩
  · refine iconcat_meetsV ⟨_, ho, rfl⟩ ⟨_, ho2, rfl⟩ noI_tuple_addV noFill_tuple_add seq_tuple_add PySem.F.slot_tuple_add PySem.F.entry_tuple_add (PySem.F.args_tuple_add_2 _ _)
      (tuple_addW2 t b vs.toArray ws.toArray n n2 dd dd2 sl sl2 (by simpa using hv) (by simpa using hw) (by rw [List.size_toArray, List.size_toArray]; exact hsz)) ⟨ho, ho2, ?_⟩
    rw [e]
    exact h2 hw
theorem icat_tup0V {t b : Addr} {ws : List Value} {Q : Value → Shared → Prop} (ht : IsTup s.heap t ([] : List Value).toArray) (hb : IsTup s.heap b ws.toArray) (h : Q (.ref b) s) : wpAny (model prog w) A (inplaceOp .Add (.ref t) (.ref b)) Q E s := by
  obtain ⟨⟨cls, dd, data, sl⟩, ho, hc, n, hd⟩ := id ht
  obtain ⟨⟨cls2, dd2, data2, sl2⟩, ho2, hc2, n2, hd2⟩ := id hb
  simp only at hc hd hc2 hd2
  subst hc hd hc2 hd2
  exact iconcat_meetsV ⟨_, ho, rfl⟩ ⟨_, ho2, rfl⟩ noI_tuple_addV noFill_tuple_add seq_tuple_add PySem.F.slot_tuple_add PySem.F.entry_tuple_add (PySem.F.args_tuple_add_2 _ _)
    (tuple_addW0 t b ([] : List Value).toArray ws.toArray n n2 dd dd2 sl sl2 (by simp)) ⟨ho, ho2, h⟩
end
end HT
namespace VE
open PySem PySem.Spec PyProof.Rows L2
section
variable {X : Cx} {S : Set_}
theorem iop_catA : OpR X (inplaceOp .Add) (rCatA X.K) := by
  intro pins s σ H x y v u Q I rx ry h
  obtain ⟨a, b, xs, ys, rfl, rfl, ha, hb, hz, q0, q1, q2⟩ := h
  by_cases hx : xs = []
  · subst hx
    cases rx
    cases ry
    obtain ⟨its, r1, p1, _⟩ := I.tuple ha
    obtain ⟨its2, r2, p2, _⟩ := I.tuple hb
    cases r1
    exact HT.icat_tup0V p1 p2 ⟨.ref b, H, I, rfl, q0 rfl⟩
  · cases rx
    cases ry
    obtain ⟨its, r1, p1, _⟩ := I.tuple ha
    obtain ⟨its2, r2, p2, _⟩ := I.tuple hb
    refine HT.icat_tupV p1 p2 (fun z => hx (r1.nil_iff.mp z)) (fun z => ⟨.ref a, H, I, rfl, q1 hx (r2.nil_iff.mp z)⟩) (fun z => ?_) (by rw [← r1.length, ← r2.length]; exact hz)
    refine ⟨.ref s.heap.objs.size, _, I.laid (t' := s.toks) (o := .tup (xs ++ ys)) (fun b ob q => Heap.get?_push_of_some _ q) (Nat.le_refl _) ?_, rfl, q2 hx (fun w => z (r2.nil_iff.mpr w)) _ (I.hok.fresh (Nat.le_refl _))⟩
    exact ⟨by rw [List.length_append]; exact hz, _, r1.append r2, IsTup.new _ _⟩
def rAddA (K : Frag) : R2 := fun x y H Q => rI0 (fun i j => .int (i + j)) x y H Q ∨ rCatA K x y H Q
theorem pip_addA : PIp X .Add (rAddA X.K) := iop_add.or iop_catA
def dAddA : List D → Option D
  | [.int a, .int b] => some (.int (a + b))
  | [.tup a, .tup b] => if a.length + b.length ≤ sizeLine then some (.tup (a ++ b)) else none
  | _ => none
theorem od_addA : OpD S dAddA (r2 (rAddA S.K)) := by
  intro G H ds vs d Q rd vl e k
  unfold dAddA at e
  split at e
  · cases (Option.some.inj e : _ = d)
    obtain ⟨v, w, F, F', rfl, a, b⟩ := vw2 vl
    obtain ⟨rfl, _⟩ := a.int_inv
    obtain ⟨rfl, _⟩ := b.int_inv
    exact ⟨_, _, rfl, .inl ⟨_, _, rfl, rfl, give rd k (.int _)⟩⟩
  · split at e
    case isFalse => cases e
    case isTrue hc =>
    cases (Option.some.inj e : _ = d)
    obtain ⟨v, w, F, F', rfl, a, b⟩ := vw2 vl
    obtain ⟨p, xs, rfl, s1, l1, g1⟩ := a.tup_inv rd
    obtain ⟨q, ys, rfl, s2, l2, g2⟩ := b.tup_inv rd
    refine ⟨_, _, rfl, .inr ⟨p, q, xs, ys, rfl, rfl, s1, s2, by rw [← l1.length, ← l2.length]; exact hc, fun e => ?_, fun _ e => ?_, fun _ _ => give_tup rd k (l1.append l2)⟩⟩
    · subst e
      have := l1.length
      have : _ = [] := List.eq_nil_of_length_eq_zero this
      subst this
      exact give rd k (.tup g2 l2)
    · subst e
      have := l2.length
      have : _ = [] := List.eq_nil_of_length_eq_zero this
      subst this
      exact give rd k (by rw [List.append_nil]; exact .tup g1 l1)
  · cases e
end
end VE
/-! VE31: tuple * 0, tuple * 1. -/
namespace L2
open PySem PySem.Spec PyProof.Rows
theorem tuple_mulV1 (l : Addr) (items : Array Value) (n : Nat) (dd : Option Addr) (sl : Array (Option Value)) (x : Int) (u : Tok) (c0 : (decide (x < -(2 ^ 63)) || decide (x ≥ 2 ^ 63)) = false) (c1 : (items.isEmpty || x == 1) = true) :
    Meets (Builtin.«tuple.__mul__» ⟨[.ref l, .int x u], []⟩) (fun _ R s => s.heap.get? l = some { cls := .type "tuple", dict := dd, data := .seq items n, slots := sl } ∧
      R (.ok (.ret (Value.ref l))) s) :=
  .of_wp fun prog w A R s h => by
    obtain ⟨hp, g, d, tk, os⟩ := s
    obtain ⟨hl, h⟩ := h
    have f1 := AutoSeq1.idx_int
    wp_walk using wpAny_loadPart' hl
    repeat (first
      | (refine wpAny_ite_false (decide_eq_false (by rw [c0]; exact Bool.false_ne_true)) ?_; wp_walk using wpAny_loadPart' hl)
      | (refine wpAny_ite_true (decide_eq_true c1) ?_; wp_walk using wpAny_loadPart' hl))
    exact ⟨_, rfl, h⟩
theorem tuple_mulV0 (l : Addr) (items : Array Value) (n : Nat) (dd : Option Addr) (sl : Array (Option Value)) (x : Int) (u : Tok) (c0 : (decide (x < -(2 ^ 63)) || decide (x ≥ 2 ^ 63)) = false) (c1 : (items.isEmpty || x == 1) = false) (c2 : (decide (x ≤ 0) || items.isEmpty) = true) :
    Meets (Builtin.«tuple.__mul__» ⟨[.ref l, .int x u], []⟩) (fun _ R s => s.heap.get? l = some { cls := .type "tuple", dict := dd, data := .seq items n, slots := sl } ∧
      R (.ok (.ret (Value.ref s.heap.objs.size))) { s with heap := s.heap.push { cls := Value.type "tuple", data := Data.seq #[] }, toks := s.toks }) :=
  .of_wp fun prog w A R s h => by
    obtain ⟨hp, g, d, tk, os⟩ := s
    obtain ⟨hl, h⟩ := h
    have f1 := AutoSeq1.idx_int
    wp_walk using wpAny_loadPart' hl
    repeat (first
      | (refine wpAny_ite_false (decide_eq_false (by rw [c0]; exact Bool.false_ne_true)) ?_; wp_walk using wpAny_loadPart' hl)
      | (refine wpAny_ite_false (decide_eq_false (by rw [c1]; exact Bool.false_ne_true)) ?_; wp_walk using wpAny_loadPart' hl)
      | (refine wpAny_ite_true (decide_eq_true c2) ?_; wp_walk using wpAny_loadPart' hl))
    exact ⟨_, rfl, h⟩
end L2
namespace L2
open PySem PySem.Spec PyProof.Rows
def rRepV (K : PySem.W.Frag) : R2 := fun x y H Q => ∃ l k xs, x = .ref l ∧ y = .int k ∧ SqT K H l xs ∧ -(2 ^ 63) ≤ k ∧ k ≤ 1000 ∧ xs.length ≤ 1000 ∧ ((xs = [] ∨ k = 1) → Q (.ref l) H) ∧ (¬(xs = [] ∨ k = 1) → ∀ p, H p = none → Q (.ref p) (upd H p (.tup (List.replicate k.toNat xs).flatten)))
theorem op_repV {X : Cx} : OpR X (binaryOp .Mult) (rRepV X.K) := by
  intro pins s σ H x y v u Q I rx ry h
  obtain ⟨l, k, xs, rfl, rfl, hT, h1, h2, hz, q1, q2⟩ := h
  by_cases hc : xs = [] ∨ k = 1
  · have q := q1 hc
    cases rx
    obtain ⟨t, rfl⟩ := ry
    obtain ⟨its, r, ⟨⟨cls, dd, data, sl⟩, ho, hcc, n, hd⟩, hs⟩ := I.tuple hT
    simp only at hcc hd
    subst hcc hd
    have c0 : (decide (k < -(2 ^ 63)) || decide (k ≥ 2 ^ 63)) = false := by
      rw [decide_eq_false (by omega), decide_eq_false (by omega)] <;> rfl
    have c1 : (its.toArray.isEmpty || k == 1) = true := by
      rcases hc with hc | hc
      · subst hc
        cases r
        rfl
      · subst hc; simp
    exact wpAny_binaryOp_repeat_ref (T := "tuple") (U := "int") (by decide) ⟨_, ho, rfl⟩ (fun s' => typeIs_int s' k t) noFill_tuple_mul F.fills_int_mul F.slot_int_rmul repeat_tuple F.slot_int_index.lookup
      (call_meets F.slot_int_rmul (typeIs_int s k t) F.entry_int_rmul (F.args_int_rmul_2 _ _) (int_rmul_tuple k t l its.toArray n dd sl)
        ⟨ho, rfl, ⟨_, ho, rfl⟩, call_meets F.slot_tuple_mul ⟨_, ho, rfl⟩ F.entry_tuple_mul (F.args_tuple_mul_2 _ _) (tuple_mulV1 l its.toArray n dd sl k t c0 c1) ⟨ho, ⟨.ref l, H, I, rfl, q⟩⟩⟩)
  · have q := q2 hc
    have hne : xs ≠ [] := fun e => hc (.inl e)
    have hk1 : k ≠ 1 := fun e => hc (.inr e)
    by_cases hk : 2 ≤ k
    · exact op_repT pins s σ H _ _ v u Q I rx ry ⟨l, k, xs, rfl, rfl, hT, hne, hk, h2, hz, q⟩
    · have hk0 : k ≤ 0 := by omega
      cases rx
      obtain ⟨t, rfl⟩ := ry
      obtain ⟨its, r, ⟨⟨cls, dd, data, sl⟩, ho, hcc, n, hd⟩, hs⟩ := I.tuple hT
      simp only at hcc hd
      subst hcc hd
      have hi : its.toArray.isEmpty = false := by
        cases its with
        | nil => cases r; exact absurd rfl hne
        | cons a b => rfl
      have c0 : (decide (k < -(2 ^ 63)) || decide (k ≥ 2 ^ 63)) = false := by
        rw [decide_eq_false (by omega), decide_eq_false (by omega)] <;> rfl
      have c1 : (its.toArray.isEmpty || k == 1) = false := by
        rw [hi, Bool.false_or]
        exact beq_eq_false_iff_ne.mpr hk1
      have c2 : (decide (k ≤ 0) || its.toArray.isEmpty) = true := by
        rw [decide_eq_true hk0]; rfl
      have e0 : k.toNat = 0 := by omega
      rw [e0] at q
      refine wpAny_binaryOp_repeat_ref (T := "tuple") (U := "int") (by decide) ⟨_, ho, rfl⟩ (fun s' => typeIs_int s' k t) noFill_tuple_mul F.fills_int_mul F.slot_int_rmul repeat_tuple F.slot_int_index.lookup
        (call_meets F.slot_int_rmul (typeIs_int s k t) F.entry_int_rmul (F.args_int_rmul_2 _ _) (int_rmul_tuple k t l its.toArray n dd sl)
          ⟨ho, rfl, ⟨_, ho, rfl⟩, call_meets F.slot_tuple_mul ⟨_, ho, rfl⟩ F.entry_tuple_mul (F.args_tuple_mul_2 _ _) (tuple_mulV0 l its.toArray n dd sl k t c0 c1 c2) ⟨ho, ?_⟩⟩)
      refine ⟨.ref s.heap.objs.size, _, I.laid (t' := s.toks) (o := .tup []) (fun b ob q => Heap.get?_push_of_some _ q) (Nat.le_refl _) ?_, rfl, q _ (I.hok.fresh (Nat.le_refl _))⟩
      exact ⟨Nat.zero_le _, [], .nil, IsTup.new _ _⟩
end L2
namespace VE
open PySem PySem.Spec PyProof.Rows L2
def dMulT : List D → Option D
  | [.tup a, .int k] => if -(2 ^ 63) ≤ k ∧ k ≤ 1000 ∧ a.length ≤ 1000 then some (.tup (List.replicate k.toNat a).flatten) else none
  | _ => none
theorem od_mulT {S : Set_} : OpD S dMulT (r2 (rRepV S.K)) := by
  intro G H ds vs d Q rd vl e k
  unfold dMulT at e
  split at e
  · rename_i a n
    split at e
    case isFalse => cases e
    case isTrue hc =>
    cases (Option.some.inj e : _ = d)
    obtain ⟨v, w, F, F', rfl, x, y⟩ := vw2 vl
    obtain ⟨p, xs, rfl, s1, l1, g1⟩ := x.tup_inv rd
    obtain ⟨rfl, _⟩ := y.int_inv
    refine ⟨_, _, rfl, p, n, xs, rfl, rfl, s1, hc.1, hc.2.1, by rw [← l1.length]; exact hc.2.2, fun hk => ?_, fun _ => give_tup rd k (l1.rep _)⟩
    rcases hk with rfl | rfl
    · have := l1.length
      have : a = [] := List.eq_nil_of_length_eq_zero this
      subst this
      refine give rd k ?_
      have e : (List.replicate n.toNat ([] : List D)).flatten = [] := by simp
      rw [e]
      exact .tup g1 l1
    · refine give rd k ?_
      have e : (List.replicate (1 : Int).toNat a).flatten = a := by simp
      rw [e]
      exact .tup g1 l1
  · cases e
end VE
/-! VE32: tuples whose object is known: made, repeated, counted in. -/
namespace L2
open PySem PySem.Spec PyProof.Rows
/-- such a tuple -/
def KnT (H : Hp) (a : Addr) (xs : List V) : Prop := ∃ o, H a = some (.frz o (.tup xs)) ∧ o.dict = none
def NwT (xs : List V) (H : Hp) (Q : VK) : Prop := ∀ p o, H p = none → o.dict = none → Q (.ref p) (upd H p (.frz o (.tup xs)))
def rTupX : List V → Hp → VK → Prop := fun xs H Q => xs.length ≤ sizeLine ∧ NwT xs H Q
def tTupX (t : TA) : TE := fun σ H Q => t σ H fun xs H1 => rTupX xs H1 Q
section
variable {X : Cx}
theorem Inv.knT {pins : List (Addr × Obj)} {σ : St} {H : Hp} {s : Shared} (I : Inv X pins σ H s) {a : Addr} {xs : List V} (h : KnT H a xs) : ∃ (its : List Value) (n : Nat) (sl : Array (Option Value)),
    Vals xs its ∧ s.heap.get? a = some { cls := .type "tuple", dict := none, data := .seq its.toArray n, slots := sl } ∧ xs.length ≤ sizeLine := by
  obtain ⟨o, h, hd⟩ := h
  obtain ⟨e, z, its, r, ob, e2, hc, n, hdt⟩ := I.hok a _ h
  rw [e] at e2
  cases e2
  obtain ⟨cls, dd, data, sl⟩ := o
  simp only at hd hc hdt
  subst hd hc hdt
  exact ⟨its, n, sl, r, e, z⟩
theorem pe_tupX {es : List Expr} {t : TA} {x1} {pos : Pos} (h : PA X es t) : PE X (.Tuple es x1 pos) (tTupX t) := by
  refine ⟨fun pins s σ H Q I hq => ?_⟩
  refine wpAny_Tuple_spliced (thn (h.run pos pins s σ H _ I hq) fun us s1 ⟨xs, H1, I1, r, z, q⟩ => ⟨by rw [← r.length]; exact z, ?_⟩)
  have hf : H1 s1.heap.objs.size = none := I1.hok.fresh (Nat.le_refl _)
  refine ⟨.ref s1.heap.objs.size, upd H1 s1.heap.objs.size (.frz { cls := .type "tuple", data := .seq us.toArray } (.tup xs)), I1.laid (t' := s1.toks) (fun b u e => Heap.get?_push_of_some _ e) (Nat.le_refl _) ?_, rfl, q _ _ hf rfl⟩
  exact ⟨Heap.get?_push_size _ rfl, z, us, r, ⟨_, Heap.get?_push_size _ rfl, rfl, _, rfl⟩⟩
theorem call_tuple_ofX : CallR X (.type "tuple") (fun xs H Q => ∃ p ys, xs = [.ref p] ∧ SqL X.K H p ys ∧ NwT ys H Q) := by
  intro pins s σ H xs us Q I r h
  obtain ⟨p, ys, rfl, hq, q⟩ := h
  obtain ⟨u, rfl, rx⟩ := vals1 r
  cases rx
  obtain ⟨its, r', pl, hz⟩ := I.list hq
  have hlen := r'.length
  refine call_tuple_list pl.isList (fun h' kp => ?_) (by simp only [List.size_toArray] <;> omega)
  have I1 : Inv X pins σ H { s with heap := h' } := I.kept (t' := s.toks) kp
  have I2 : Inv X pins σ (upd H h'.objs.size (.frz { cls := .type "tuple", data := .seq its.toArray } (.tup ys))) { s with heap := h'.push { cls := .type "tuple", data := .seq its.toArray } } :=
    I1.laid (t' := s.toks) (fun b o e => Heap.get?_push_of_some _ e) (Nat.le_refl _) ⟨Heap.get?_push_size _ rfl, hz, its, r', IsTup.new _ _⟩
  exact ⟨.ref h'.objs.size, _, I2, rfl, q _ _ (I1.hok.fresh (Nat.le_refl _)) rfl⟩
def rRepX : R2 := fun x y H Q => ∃ l k xs, x = .ref l ∧ y = .int k ∧ KnT H l xs ∧ -(2 ^ 63) ≤ k ∧ k ≤ 1000 ∧ xs.length ≤ 1000 ∧ xs ≠ [] ∧ (k = 1 → Q (.ref l) H) ∧ (k ≠ 1 → NwT (List.replicate k.toNat xs).flatten H Q)
theorem op_repX : OpR X (binaryOp .Mult) rRepX := by
  intro pins s σ H x y v u Q I rx ry h
  obtain ⟨l, k, xs, rfl, rfl, hT, h1, h2, hz, hne, q1, q2⟩ := h
  cases rx
  obtain ⟨t, rfl⟩ := ry
  obtain ⟨its, n, sl, r, ho, hs⟩ := I.knT hT
  have hle : its.length = xs.length := r.length.symm
  have hn : its ≠ [] := fun e => hne (by
    rw [e] at hle
    exact List.eq_nil_of_length_eq_zero hle.symm)
  have hi : its.toArray.isEmpty = false := by
    cases its with
    | nil => exact absurd rfl hn
    | cons a b => rfl
  have hsz0 : its.toArray.size = xs.length := by rw [List.size_toArray, hle]
  have c0 : (decide (k < -(2 ^ 63)) || decide (k ≥ 2 ^ 63)) = false := by
    rw [decide_eq_false (by omega), decide_eq_false (by omega)] <;> rfl
  by_cases hk1 : k = 1
  · have c1 : (its.toArray.isEmpty || k == 1) = true := by subst hk1; simp
    exact wpAny_binaryOp_repeat_ref (T := "tuple") (U := "int") (by decide) ⟨_, ho, rfl⟩ (fun s' => typeIs_int s' k t) noFill_tuple_mul F.fills_int_mul F.slot_int_rmul repeat_tuple F.slot_int_index.lookup
      (call_meets F.slot_int_rmul (typeIs_int s k t) F.entry_int_rmul (F.args_int_rmul_2 _ _) (int_rmul_tuple k t l its.toArray n none sl)
        ⟨ho, rfl, ⟨_, ho, rfl⟩, call_meets F.slot_tuple_mul ⟨_, ho, rfl⟩ F.entry_tuple_mul (F.args_tuple_mul_2 _ _) (tuple_mulV1 l its.toArray n none sl k t c0 c1) ⟨ho, ⟨.ref l, H, I, rfl, q1 hk1⟩⟩⟩)
  · have c1 : (its.toArray.isEmpty || k == 1) = false := by
      rw [hi, Bool.false_or]
      exact beq_eq_false_iff_ne.mpr hk1
    have q := q2 hk1
    by_cases hk : 2 ≤ k
    · have hm : ((its.toArray.size : Nat) : Int) * k ≤ 1000000 := by
        rw [hsz0]
        have a1 : ((xs.length : Nat) : Int) * k ≤ 1000 * k := Int.mul_le_mul_of_nonneg_right (by omega) (by omega)
        omega
      have flen : (List.replicate k.toNat its).flatten.length ≤ sizeLine := by
        rw [PyProof.Rows.lm_len_rep_flat, hle, sizeLine_eq]
        have a1 : k.toNat * xs.length ≤ 1000 * 1000 := Nat.mul_le_mul (by omega) hz
        omega
      have c2 : (decide (k ≤ 0) || its.toArray.isEmpty) = false := by
        rw [hi, Bool.or_false]
        exact decide_eq_false (by omega)
      have c4 : Builtin.Tuple.tupleTooMany (((its.toArray.size : Nat) : Int) * k) = false := by
        unfold Builtin.Tuple.tupleTooMany
        rw [sizeLine_eq]
        exact decide_eq_false (by omega)
      refine wpAny_binaryOp_repeat_ref (T := "tuple") (U := "int") (by decide) ⟨_, ho, rfl⟩ (fun s' => typeIs_int s' k t) noFill_tuple_mul F.fills_int_mul F.slot_int_rmul repeat_tuple F.slot_int_index.lookup
        (call_meets F.slot_int_rmul (typeIs_int s k t) F.entry_int_rmul (F.args_int_rmul_2 _ _) (int_rmul_tuple k t l its.toArray n none sl)
          ⟨ho, rfl, ⟨_, ho, rfl⟩, call_meets F.slot_tuple_mul ⟨_, ho, rfl⟩ F.entry_tuple_mul (F.args_tuple_mul_2 _ _) (tuple_mulW l its.toArray n none sl k t c0 c1 c2 (by omega) c4 (by rw [size_rep, List.size_toArray]; exact flen)) ⟨ho, ?_⟩⟩)
      rw [size_rep]
      refine ⟨.ref s.heap.objs.size, _, I.laid (t' := s.toks) (o := .frz { cls := .type "tuple", data := .seq (List.replicate k.toNat its).flatten.toArray } (.tup (List.replicate k.toNat xs).flatten)) (fun b ob q => Heap.get?_push_of_some _ q) (Nat.le_refl _) ?_, rfl, q _ _ (I.hok.fresh (Nat.le_refl _)) rfl⟩
      exact ⟨Heap.get?_push_size _ rfl, by rw [PyProof.Rows.lm_len_rep_flat, sizeLine_eq]; have a1 : k.toNat * xs.length ≤ 1000 * 1000 := Nat.mul_le_mul (by omega) hz; omega, _, r.rep k.toNat, IsTup.new _ _⟩
    · have c2 : (decide (k ≤ 0) || its.toArray.isEmpty) = true := by
        rw [decide_eq_true (by omega)]; rfl
      have e0 : k.toNat = 0 := by omega
      rw [e0] at q
      refine wpAny_binaryOp_repeat_ref (T := "tuple") (U := "int") (by decide) ⟨_, ho, rfl⟩ (fun s' => typeIs_int s' k t) noFill_tuple_mul F.fills_int_mul F.slot_int_rmul repeat_tuple F.slot_int_index.lookup
        (call_meets F.slot_int_rmul (typeIs_int s k t) F.entry_int_rmul (F.args_int_rmul_2 _ _) (int_rmul_tuple k t l its.toArray n none sl)
          ⟨ho, rfl, ⟨_, ho, rfl⟩, call_meets F.slot_tuple_mul ⟨_, ho, rfl⟩ F.entry_tuple_mul (F.args_tuple_mul_2 _ _) (tuple_mulV0 l its.toArray n none sl k t c0 c1 c2) ⟨ho, ?_⟩⟩)
      refine ⟨.ref s.heap.objs.size, _, I.laid (t' := s.toks) (o := .frz { cls := .type "tuple", data := .seq #[] } (.tup [])) (fun b ob q => Heap.get?_push_of_some _ q) (Nat.le_refl _) ?_, rfl, q _ _ (I.hok.fresh (Nat.le_refl _)) rfl⟩
      exact ⟨Heap.get?_push_size _ rfl, Nat.zero_le _, [], .nil, IsTup.new _ _⟩
/-- t.count(i) -/
def rCount : V → List V → Hp → VK → Prop := fun x vs H Q => ∃ l xs i, x = .ref l ∧ vs = [.int i] ∧ KnT H l xs ∧ (∀ y ∈ xs, flatV y = true) ∧ Q (.int ((xs.countP fun y => eqV y (.int i) : Nat) : Int)) H
theorem count_vals {i : Int} : ∀ {xs : List V} {us : List Value} {e : Value → Bool}, Vals xs us → (∀ x u, RelV x u → x ∈ xs → e u = eqV x (.int i)) → us.countP e = xs.countP fun y => eqV y (.int i)
  | _, _, _, .nil, _ => rfl
  | _, _, e, .cons r t, h => by
    rw [List.countP_cons, List.countP_cons, count_vals t fun x u r m => h x u r (List.mem_cons_of_mem _ m), h _ _ r List.mem_cons_self]
open Classical in
theorem mt_countX : MtR X "tuple.count" rCount := by
  intro pins s σ H x xs v us Q I rx r h
  obtain ⟨l, ys, i, rfl, rfl, hT, hf, q⟩ := h
  cases rx
  obtain ⟨u, rfl, ru⟩ := vals1 r
  obtain ⟨its, n, sl, ry, ho, hs⟩ := I.knT hT
  let e : Value → Bool := fun w => match absV w with
    | some y => eqV y (.int i)
    | none => false
  have he : ∀ x u, RelV x u → e u = eqV x (.int i) := fun x u r => by show (match absV u with | some y => eqV y (.int i) | none => false) = _; rw [r.abs]
  have back : ∀ w, w ∈ its → ∃ y ∈ ys, RelV y w := by
    have : ∀ {ys : List V} {its : List Value}, Vals ys its → ∀ w, w ∈ its → ∃ y ∈ ys, RelV y w := by
      intro ys its h
      induction h with
      | nil => intro w hw; cases hw
      | cons r t ih =>
        intro w hw
        rcases List.mem_cons.mp hw with rfl | hw
        · exact ⟨_, List.mem_cons_self, r⟩
        · obtain ⟨y, hy, r2⟩ := ih w hw
          exact ⟨y, List.mem_cons_of_mem _ hy, r2⟩
    exact this ry
  refine call_meets F.slot_tuple_count ⟨_, ho, rfl⟩ F.entry_tuple_count (F.args_tuple_count_2 _ _) (PySem.SeqAt.tuple_countAt l its.toArray n none sl u e) ⟨ho, fun w hw => ?_, ?_⟩
  · obtain ⟨y, hy, r2⟩ := back w (by simpa using hw)
    rw [he y w r2]
    exact eqAt_V r2 ru (hf y hy) rfl
  · have hc : its.countP e = ys.countP fun y => eqV y (.int i) := count_vals ry fun x u r _ => he x u r
    refine ⟨.int ((ys.countP fun y => eqV y (.int i) : Nat) : Int), H, I.kept (t' := s.toks + 1) (fun _ _ q => q), ⟨s.toks, ?_⟩, q⟩
    simp only [List.toList_toArray, hc]
def tBMX (r : V → List V → Hp → VK → Prop) (to te : TE) : TE := fun σ H Q => to σ H fun x H1 => (∃ a xs, x = .ref a ∧ KnT H1 a xs) ∧ te σ H1 fun y H2 => r x [y] H2 Q
theorem pe_countX {o e : Expr} {to te : TE} {apos cpos : Pos} (ho : PE X o to) (he : PE X e te)
    (hbase : attributeBase o "count" X.env (eval o X.env) = eval o X.env)
    (hfew : ((backTo cpos (starEach [e] X.env)).all (fun x => !x.1) && (backToKw cpos (keywordEach [] X.env)).all (fun x => x.1.isSome)
      && decide ([e].length + ([] : List Keyword).length + (if ([] : List Keyword).isEmpty then 0 else 1) < 30)) = true)
    (hline : (apos.endLine == cpos.line) = true) (hs : starEach [e] X.env = (false, eval e X.env) :: starEach [] X.env) (hplain : (backTo cpos (starEach [] X.env)).any (·.1) = false) :
    PE X (.Call (.Attribute o "count" apos) [e] [] cpos) (tBMX rCount to te) := by
  refine ⟨fun pins s σ H Q I h => ?_⟩
  refine wpAny_Call_method_late hbase hfew hline rfl (thn (ho.run pins s σ H _ I h) fun v s1 ⟨x, H1, I1, r1, ⟨a, xs, ex, kn⟩, q1⟩ => ?_)
  subst ex
  cases r1
  obtain ⟨its, n, sl, _, hob, _⟩ := I1.knT kn
  refine ⟨"tuple", "tuple.count", PySem.F.plainAttrs_tuple, PySem.F.slot_tuple_count, PySem.F.type_tuple_count, ⟨_, hob, rfl⟩, fun b e => (by cases e; exact ⟨_, hob, rfl⟩), ?_⟩
  have hA := (pa_cons he pa_nil hs).run cpos pins s1 σ H1 (fun vs H2 => rCount (.ref a) vs H2 Q) I1 (by exact q1)
  rw [hs] at hA ⊢
  refine Calls.callWith_builtin (by show (false || (backTo cpos (starEach [] X.env)).any (·.1)) = false; rw [hplain] <;> rfl) (Calls.evalArgs_plain ?_)
  exact thn hA fun us s2 ⟨vs, H2, I2, r2, q2⟩ => mt_countX pins s2 σ H2 (.ref a) vs (.ref a) us Q I2 rfl r2 q2
end
end L2
namespace VE
open PySem PySem.Spec PyProof.Rows L2
section
variable {S : Set_} {G H : Hp} {X : Cx}
theorem give_tux {ds : List D} {vs : List V} {Q : VK} (rd : RdS G H) (k : ∀ v G' H' Fv, New G H G' H' Fv → Ow S.K S.cm G' H' (.tux ds) v Fv → Q v H') (z : FzL S.K S.cm G ds vs) : NwT vs H Q := fun p o hp ho =>
  k _ _ _ _ (.frozen rd hp) (.fz (.tux ⟨o, upd_same, ho⟩ (z.mono (gle_upd (rd.fresh hp)).rds)))
theorem Ow.tux_inv {K : Frag} {cm : Str → Addr} {ds : List D} {v : V} {F : List Addr} (h : Ow K cm G H (.tux ds) v F) (r : RdS G H) : ∃ a vs, v = .ref a ∧ KnT H a vs ∧ FzL K cm G ds vs ∧ KnT G a vs := by
  cases h with
  | fz x => cases x with | tux s l => obtain ⟨o, s, z⟩ := s; exact ⟨_, _, rfl, ⟨o, r.ex s rfl, z⟩, l, ⟨o, s, z⟩⟩
def dTupX : List D → Option D := fun ds => if ds.all isFz && decide (ds.length ≤ sizeLine) then some (.tux ds) else none
theorem od_tupX : OpD S dTupX rTupX := by
  intro G H ds vs d Q rd vl e k
  unfold dTupX at e
  split at e
  case isFalse => cases e
  case isTrue hc =>
  cases (Option.some.inj e : _ = d)
  simp only [Bool.and_eq_true, decide_eq_true_eq] at hc
  exact ⟨by rw [← vl.length]; exact hc.2, give_tux rd k (vwl_fz vl hc.1)⟩
theorem pe_tupXD {es : List Expr} {os : List Opd} {k : Nat} {pos : Pos} (h : PA X es (rO S os)) : PE X (.Tuple es k pos) (rE S (ops os dTupX)) :=
  pe_imp (pe_tupX h) fun σ H Q q => ops_imp od_tupX σ H Q q
def dTupleX : List D → Option D
  | [.lst _ a] => some (.tux a)
  | _ => none
theorem od_tupleX : OpD S dTupleX (fun xs H Q => ∃ p ys, xs = [.ref p] ∧ SqL S.K H p ys ∧ NwT ys H Q) := by
  intro G H ds vs d Q rd vl e k
  unfold dTupleX at e
  split at e
  · cases (Option.some.inj e : _ = d)
    obtain ⟨v, F, rfl, a⟩ := vw1 vl
    obtain ⟨p, xs, rfl, s, l⟩ := a.lst_inv rd
    exact ⟨_, _, rfl, .inl s, give_tux rd k l⟩
  · cases e
def dMulX : List D → Option D
  | [.tux a, .int k] => if -(2 ^ 63) ≤ k ∧ k ≤ 1000 ∧ a.length ≤ 1000 ∧ a ≠ [] then some (.tux (List.replicate k.toNat a).flatten) else none
  | _ => none
theorem od_mulX : OpD S dMulX (r2 rRepX) := by
  intro G H ds vs d Q rd vl e k
  unfold dMulX at e
  split at e
  · rename_i a n
    split at e
    case isFalse => cases e
    case isTrue hc =>
    cases (Option.some.inj e : _ = d)
    obtain ⟨v, w, F, F', rfl, x, y⟩ := vw2 vl
    obtain ⟨p, xs, rfl, s1, l1, g1⟩ := x.tux_inv rd
    obtain ⟨rfl, _⟩ := y.int_inv
    refine ⟨_, _, rfl, p, n, xs, rfl, rfl, s1, hc.1, hc.2.1, by rw [← l1.length]; exact hc.2.2.1, fun hx => hc.2.2.2 ?_, fun hk => ?_, fun _ => give_tux rd k (l1.rep _)⟩
    · subst hx; exact List.eq_nil_of_length_eq_zero l1.length
    · subst hk
      refine give rd k ?_
      have e : (List.replicate (1 : Int).toNat a).flatten = a := by simp
      rw [e]
      exact .tux g1 l1
  · cases e
/-- a known tuple as any -/
def eWk (m : M) : M := fun ρ => match m ρ with
  | .ok d ρ' => .ok (match d with | .tux ds => .tup ds | d => d) ρ'
  | o => o
theorem Ow.wk {K : Frag} {cm : Str → Addr} {ds : List D} {v : V} {F : List Addr} (h : Ow K cm G H (.tux ds) v F) : Ow K cm G H (.tup ds) v F := by
  cases h with
  | fz x => cases x with | tux s l => obtain ⟨o, s, z⟩ := s; exact .fz (.tup (.inl (.inr ⟨o, s⟩)) l)
theorem pe_wk {e : Expr} {m : M} (h : PE X e (rE S m)) : PE X e (rE S (eWk m)) := pe_imp h fun σ H Q ⟨G, ρ, F, s, q⟩ => ⟨G, ρ, F, s, by
  unfold eWk at q
  cases e : m ρ with
  | ok d ρ' =>
    rw [e] at q
    cases d with
    | tux ds => exact fun v H' ⟨G', F', Fv, t, s', o, r⟩ => q v H' ⟨G', F', Fv, t, s', o.wk, r⟩
    | _ => exact q
  | exc c x ρ' => rw [e] at q; exact q
  | bad => rw [e] at q; exact q⟩
/-- how often an int stands there -/
def cntD : List D → Int → Option Nat
  | [], _ => some 0
  | .int j :: r, k => (cntD r k).map fun n => if j = k then n + 1 else n
  | _, _ => none
def dCount : List D → Option D
  | [.tux a, .int k] => (cntD a k).map fun (n : Nat) => D.int (n : Int)
  | _ => none
theorem cntD_v {K : Frag} {cm : Str → Addr} {k : Int} : ∀ {ds : List D} {vs : List V} {n : Nat}, FzL K cm G ds vs → cntD ds k = some n → (∀ y ∈ vs, flatV y = true) ∧ (vs.countP fun y => eqV y (.int k)) = n
  | _, _, n, .nil, h => by cases h; exact ⟨fun y hy => (by cases hy), rfl⟩
  | d :: ds, _, n, .cons z l, h => by
    cases d with
    | int j =>
      cases z
      obtain ⟨m, hm, e⟩ := Option.map_eq_some_iff.mp (show (cntD ds k).map _ = some n from h)
      obtain ⟨h1, h2⟩ := cntD_v l hm
      refine ⟨fun y hy => ?_, ?_⟩
      · rcases List.mem_cons.mp hy with rfl | hy
        · rfl
        · exact h1 y hy
      · rw [List.countP_cons, h2, ← e]
        show m + (if (j == k) = true then 1 else 0) = _
        by_cases hj : j = k
        · subst hj; simp
        · rw [if_neg (by simpa using hj), if_neg hj]; rfl
    | _ => cases h
def eCount (i : Nat) (oa : Opd) : M := fun ρ => match sget ρ i with
  | some (.tux _) => ops [.slot i, oa] dCount ρ
  | _ => .bad
theorem od_count : OpD S dCount (fun vs H Q => ∃ x y, vs = [x, y] ∧ rCount x [y] H Q) := by
  intro G H ds vs d Q rd vl e k
  unfold dCount at e
  split at e
  · rename_i a i
    obtain ⟨n, hn, rfl⟩ := Option.map_eq_some_iff.mp e
    obtain ⟨v, w, F, F', rfl, x, y⟩ := vw2 vl
    obtain ⟨p, xs, rfl, s1, l1, g1⟩ := x.tux_inv rd
    obtain ⟨rfl, _⟩ := y.int_inv
    obtain ⟨h1, h2⟩ := cntD_v l1 hn
    refine ⟨_, _, rfl, p, xs, i, rfl, rfl, s1, h1, ?_⟩
    rw [h2]
    exact give rd k (.int _)
  · cases e
theorem pe_countD {i : Nat} {o e : Expr} {oa : Opd} {apos cpos : Pos} (ho : PE X o (tVar i)) (he : PE X e (tO S oa))
    (hbase : attributeBase o "count" X.env (eval o X.env) = eval o X.env)
    (hfew : ((backTo cpos (starEach [e] X.env)).all (fun x => !x.1) && (backToKw cpos (keywordEach [] X.env)).all (fun x => x.1.isSome)
      && decide ([e].length + ([] : List Keyword).length + (if ([] : List Keyword).isEmpty then 0 else 1) < 30)) = true)
    (hline : (apos.endLine == cpos.line) = true) (hs : starEach [e] X.env = (false, eval e X.env) :: starEach [] X.env) (hplain : (backTo cpos (starEach [] X.env)).any (·.1) = false) :
    PE X (.Call (.Attribute o "count" apos) [e] [] cpos) (rE S (eCount i oa)) :=
  pe_imp (pe_countX ho he hbase hfew hline hs hplain) fun σ H Q q => by
    obtain ⟨G, ρ, F, sr, q⟩ := q
    unfold eCount at q
    cases e1 : sget ρ i with
    | none => rw [e1] at q; exact q.elim
    | some d =>
      rw [e1] at q
      cases d with
      | tux ds =>
        obtain ⟨y, Fa, F1, Fb, h1, ⟨v, ey, ow⟩, eF, up⟩ := sr.sl.split i (sget_some e1)
        subst ey
        obtain ⟨a, xs, ev, kn, _⟩ := ow.tux_inv sr.rd
        have q2 := rO2 (ops_imp od_count σ H Q ⟨G, ρ, F, sr, q⟩)
        obtain ⟨w, hw, q3⟩ := q2
        rw [h1] at hw
        cases hw
        exact ⟨v, h1, ⟨a, xs, ev, kn⟩, tO_mono (fun y H2 ⟨x', y', e', z⟩ => by cases e'; exact z) q3⟩
      | _ => exact q.elim
end
end VE
/-! VE33: == by an own __eq__; isinstance of an own class. -/
namespace L2
open PySem PySem.Spec PyProof.Rows
/-- x == y, x an instance with an own __eq__, y one of the same class or a tuple -/
def rOwnEq (K : PySem.W.Frag) (C : Addr) (sp : Sp) : R2 := fun x y H Q => ∃ a dx fs b, x = .ref a ∧ y = .ref b ∧ H a = some (.ins C dx fs) ∧ ((∃ dy gs, H b = some (.ins C dy gs)) ∨ ∃ ys, SqT K H b ys) ∧
  sp [x, y] H (fun v H' => (∃ k, v = .bl k) ∧ Q v H') (fun _ _ _ => False)
theorem mro_tuple : PySem.fastBuiltinMro "tuple" = some [.type "tuple", .type "object"] := by decide +kernel
theorem sub_tuple {K : PySem.W.Frag} {C : Addr} : PySem.W.subIn K (.type "tuple") (.ref C) = some false := by
  unfold PySem.W.subIn
  simp only [mro_tuple]
  rfl
theorem notFirst_tuple {K : PySem.W.Frag} {C : Addr} : PySem.W.notFirst K C (.type "tuple") = true := by
  unfold PySem.W.notFirst
  rw [sub_tuple]
  rfl
theorem passes_no {X : Cx} : Passes (L2.CX X.prog X.w) X (fun _ _ _ => False) := by
  rintro _ _ _ _ _ _ _ ⟨_, _, _, _, _, _, _, _, _, _, _, _, z⟩
  exact z.elim
theorem op_ownEq {X : Cx} {C f : Addr} {k : Nat} {fd : FuncData} {ps : List Str} {sp : Sp} (F : FnOk X.prog X.w X.K X.mg X.base (L2.CX X.prog X.w) k f fd ps sp) (hr : Room k X.A)
    (hs : PySem.W.findIn X.K (.ref C) "__eq__" = some (some (.ref f))) (hf : PySem.W.isFn X.K (.ref f) = true) (hb : Binds X.K fd ps []) : OpR X (compareOp .Eq) (rOwnEq X.K C sp) := by
  intro pins s σ H x y v u Q I rx ry h
  obtain ⟨a, dx, fs, b, rfl, rfl, ha, hy, hsp⟩ := h
  cases rx
  cases ry
  obtain ⟨mA, J, _⟩ := ins_get I.hok ha
  obtain ⟨od, J, _⟩ := J.look
  obtain ⟨m, hF⟩ := I.fr
  obtain ⟨tb, hlook, hnot⟩ : ∃ tb, PySem.W.Looks (model X.prog X.w) s.heap (typeOf (.ref b)) tb ∧ PySem.W.notFirst X.K C tb = true := by
    rcases hy with ⟨dy, gs, hb'⟩ | ⟨ys, hT⟩
    · obtain ⟨mB, J', _⟩ := ins_get I.hok hb'
      obtain ⟨od', J', _⟩ := J'.look
      exact ⟨_, J'.type, by simp [PySem.W.notFirst]⟩
    · obtain ⟨its, _, ⟨o, ho, hc, _⟩, _⟩ := I.tuple hT
      exact ⟨.type "tuple", by rw [← hc]; exact (PySem.W.Looks.ld ho).andThen .now, notFirst_tuple⟩
  show wpAny (model X.prog X.w) X.A (richCompare .Eq (.ref a) (.ref b)) (EP X pins σ Q) X.xe s
  refine PySem.W.cmp_K (op := .Eq) (tb := tb) hr.units0 hF I.ok.mod.kin J hlook hnot hs hf ?_
  have r2 : Vals [V.ref a, V.ref b] [Value.ref a, Value.ref b] := .cons rfl (.cons rfl .nil)
  refine wpAny_mono (run_fn F hr hb .nil passes_no I r2 hsp) (fun r s' z => ?_) fun _ _ x => x
  obtain ⟨w, H', I', rw, ⟨kk, rfl⟩, q⟩ := z
  cases rw
  exact ⟨.bl kk, H', I', rfl, q⟩
end L2
namespace VE
open PySem PySem.Spec PyProof.Rows L2
/-- the right operand of such a comparison -/
def okR (c : Str) : D → Bool
  | .ins _ c' _ _ => decide (c' = c)
  | .tup _ => true
  | _ => false
def eOwnEq (c : Str) (m : M) (os : List Opd) : M := fun ρ => match evO os ρ with
  | .ok [.ins o c' ns xs, d] ρ1 => if c' = c ∧ okR c d = true then (match m [some (.ins o c' ns xs), some d] with
    | .ok (.bl b) ρa => .ok (.bl b) (putBack os ρa ρ1)
    | _ => .bad) else .bad
  | _ => .bad
section
variable {X : Cx} {S : Set_}
theorem ins_at {K : Frag} {cm : Str → Addr} {G H : Hp} {o : Bool} {c : Str} {ns : List Str} {xs : List D} {v : V} {F : List Addr} (h : Ow K cm G H (.ins o c ns xs) v F) (rd : RdS G H) : ∃ a dx fs, v = .ref a ∧ H a = some (.ins (cm c) dx fs) := by
  cases h with
  | fz z => cases z with | ins e n l => exact ⟨_, _, _, rfl, rd.ex e rfl⟩
  | ins e n l => exact ⟨_, _, _, rfl, e⟩
theorem ownEq_imp {c : Str} {m : M} {os : List Opd} {σ : L2.St} {H : Hp} {Q : VK} (hnd : (slotsOf os).Nodup) (q : rE S (eOwnEq c m os) σ H Q) :
    rO S os σ H fun vs H1 => r2 (rOwnEq S.K (S.cm c) (spD S.K S.cm 2 m)) vs H1 Q := by
  obtain ⟨G, ρ, F, s, q⟩ := q
  refine ⟨G, ρ, F, s, ?_⟩
  unfold eOwnEq at q
  cases e : evO os ρ with
  | bad => rw [e] at q; exact q
  | exc cc x ρ' => rw [e] at q; exact q.elim
  | ok ds ρ1 =>
    rw [e] at q
    rcases ds with _ | ⟨d1, _ | ⟨d, _ | ⟨d3, dr⟩⟩⟩
    · exact q.elim
    · cases d1 <;> exact q.elim
    case cons.cons.cons => cases d1 <;> exact q.elim
    cases d1 with
    | ins o c' ns xs =>
      dsimp only at q ⊢
      intro vs H1 ⟨G1, F1, t1, s1, vo⟩
      by_cases hc : c' = c ∧ okR c d = true
      case neg => rw [if_neg hc] at q; exact q.elim
      case pos =>
      rw [if_pos hc] at q
      obtain ⟨hc, hok⟩ := hc
      subst hc
      obtain ⟨v, w, Fv, Fw, rfl, ov, ow⟩ := vw2 vo.l
      obtain ⟨a, dx, fs, rfl, ha⟩ := ins_at ov s1.rd
      obtain ⟨b, rfl, hb⟩ : ∃ b, w = .ref b ∧ ((∃ dy gs, H1 b = some (.ins (S.cm c') dy gs)) ∨ ∃ ys, SqT S.K H1 b ys) := by
        cases d with
        | ins o2 c2 ns2 xs2 =>
          obtain ⟨b, dy, gs, e1, e2⟩ := ins_at ow s1.rd
          have : c2 = c' := of_decide_eq_true hok
          subst this
          exact ⟨b, e1, .inl ⟨dy, gs, e2⟩⟩
        | tup ys =>
          obtain ⟨b, xs, e1, e2, _⟩ := ow.tup_inv s1.rd
          exact ⟨b, e1, .inr ⟨xs, e2⟩⟩
        | _ => cases hok
      obtain ⟨Fa, sa, back⟩ := back_sr (ρa := []) (Fc := []) (Fv := []) s1 vo hnd
      refine ⟨_, _, rfl, a, dx, fs, b, rfl, rfl, ha, hb, rfl, G1, _, Fa, sa, ?_⟩
      cases e2 : m [some (.ins o c' ns xs), some d] with
      | bad => rw [e2] at q; exact q.elim
      | exc cc x ρa => rw [e2] at q; exact q.elim
      | ok d' ρa =>
        rw [e2] at q
        show match m [some (.ins o c' ns xs), some d] with
          | .ok d ρ' => _
          | .exc c x ρ' => _
          | .bad => False
        rw [e2]
        cases d' with
        | bl k =>
          dsimp only at q ⊢
          intro v H2 ⟨G2, F2, Fv2, t2, s2, o2, nd, dj⟩
          obtain ⟨F3, t3, s3, nd3⟩ := back G2 H2 ρa F2 Fv2 t2 s2 nd dj
          exact ⟨⟨k, o2.bl_inv.1⟩, q v H2 ⟨G2, F3, Fv2, t1.trans t3, s3, o2, nd3, dj⟩⟩
        | _ => exact q.elim
    | _ => exact q.elim
/-- a class's __eq__, as others see it -/
def EntQ (P : Program) (w : World) (K : Frag) (mg : Str → Option Value) (base : Heap) (cm : Str → Addr) (k : Nat) (c : Str) (m : M) : Prop := ∃ (f : Addr) (fd : FuncData) (ps : List Str),
  FnOk P w K mg base (L2.CX P w) k f fd ps (spD K cm 2 m) ∧ PySem.W.findIn K (.ref (cm c)) "__eq__" = some (some (.ref f)) ∧ PySem.W.isFn K (.ref f) = true ∧ Binds K fd ps []
theorem pe_ownEqD {k : Nat} {c : Str} {m : M} {a b : Expr} {oa ob : Opd} {pos : Pos} (E : EntQ X.prog X.w X.K X.mg X.base S.cm k c m) (hK : S.K = X.K) (hr : Room k X.A) (ha : PE X a (tO S oa)) (hb : PE X b (tO S ob)) (hnd : (slotsOf [oa, ob]).Nodup)
    (hm : behindInMarks .Eq b = false) : PE X (.Compare a [.Eq] [b] pos) (rE S (eOwnEq c m [oa, ob])) := by
  obtain ⟨f, fd, ps, F, h1, h2, h3⟩ := E
  refine pe_imp (pe_cmpR (op_ownEq F hr h1 h2 h3) ha hb hm) fun σ H Q q => tO_mono (fun _ _ q => tO_mono (fun _ _ ⟨x', y', e, h⟩ => by cases e; rw [← hK]; exact h) q) (rO2 (ownEq_imp hnd q))
theorem pt_ownEqD {k : Nat} {c : Str} {m : M} {a b : Expr} {oa ob : Opd} {pos : Pos} (E : EntQ X.prog X.w X.K X.mg X.base S.cm k c m) (hK : S.K = X.K) (hr : Room k X.A) (ha : PE X a (tO S oa)) (hb : PE X b (tO S ob)) (hnd : (slotsOf [oa, ob]).Nodup)
    (hm : behindInMarks .Eq b = false) : PT X (.Compare a [.Eq] [b] pos) (tB (rE S (eOwnEq c m [oa, ob]))) := by
  obtain ⟨f, fd, ps, F, h1, h2, h3⟩ := E
  refine pt_imp (pt_cmpR (op_ownEq F hr h1 h2 h3) ha hb hm) fun σ H Q q => tO_mono (fun _ _ q => tO_mono (fun _ _ ⟨x', y', e, h⟩ => by cases e; rw [← hK]; exact h) q) (rO2 (ownEq_imp hnd q))
/-! ### isinstance(x, C), C an own class -/
/-- what stands of an own class -/
structure ClsT (K : Frag) (C : Addr) : Prop where
  cl : Cls K C
  ty : PySem.W.typeIn K (.ref C) = some (.type "type")
  ca : PySem.W.findIn K (.ref C) "__class__" = some (some (.builtin "object.__class__"))
  sg : PySem.W.specialIn K (.builtin "object.__class__") "__get__" = some (some (.builtin "getset_descriptor.__get__"))
  tk : PySem.W.takesIn K (.builtin "object.__class__") = some true
  mo : PySem.W.mroIn K C (.type "object") = some true
theorem kit_ins {K : Frag} {C : Addr} : PySem.W.kitOne K (.ref C) (.ref C) = some true := by
  unfold PySem.W.kitOne
  rw [if_pos (by simp)]
theorem kit_tup {K : Frag} {C : Addr} (h : ClsT K C) : PySem.W.kitOne K (.type "tuple") (.ref C) = some false := by
  unfold PySem.W.kitOne
  rw [if_neg (by simp)]
  unfold PySem.W.kitCls
  have h1 : (PySem.W.clsIn K C).isSome = true := by
    have := h.cl.hd
    unfold PySem.W.hasDictIn at this
    cases e : PySem.W.clsIn K C with
    | none => rw [e] at this; cases this
    | some _ => rfl
  dsimp only
  rw [if_pos (by rw [h1, h.ty]; rfl)]
  exact sub_tuple
def dIsC (c : Str) : List D → Option D
  | [.ins _ c' _ _] => if c' = c then some (.bl true) else none
  | [.tup _] => some (.bl false)
  | _ => none
theorem pe_isiC {c : Str} {a : Expr} {oa : Opd} {p p2 pos : Pos} (hg : Gl X "isinstance") (hm : X.mg "isinstance" = none) (hgT : Gl X c) (hmT : X.mg c = some (.ref (S.cm c))) (ct : ClsT S.K (S.cm c)) (hdT : (c == ("__debug__" : Str)) = false)
    (ha : PE X a (tO S oa)) (hK : S.K = X.K) (he : starEach [a, .Name c p2] X.env = (false, eval a X.env) :: starEach [.Name c p2] X.env) (he2 : starEach [.Name c p2] X.env = (false, eval (.Name c p2) X.env) :: starEach [] X.env)
    (hpl : (backTo pos (starEach [.Name c p2] X.env)).any (·.1) = false) :
    PE X (.Call (.Name "isinstance" p) [a, .Name c p2] [] pos) (rE S (ops [oa] (dIsC c))) := by
  have od : OpD S (dIsC c) (fun vs H Q => ∃ x, vs = [x] ∧ rIsi S.K [x, .ref (S.cm c)] H Q) := by
    intro G H ds vs d Q rd vl e k
    unfold dIsC at e
    split at e
    · split at e
      case isFalse => cases e
      case isTrue hc =>
      subst hc
      cases (Option.some.inj e : _ = d)
      obtain ⟨v, F, rfl, o⟩ := vw1 vl
      obtain ⟨b, dx, fs, rfl, hb⟩ := ins_at o rd
      exact ⟨_, rfl, _, _, .ref (S.cm _), .ref (S.cm _), true, rfl, .own _, .base (.ins hb ct.cl ct.ca ct.sg ct.tk ct.mo), kit_ins, give rd k (.bl true)⟩
    · cases (Option.some.inj e : _ = d)
      obtain ⟨v, F, rfl, o⟩ := vw1 vl
      obtain ⟨b, xs, rfl, hb, _⟩ := o.tup_inv rd
      exact ⟨_, rfl, _, _, .type "tuple", .ref (S.cm c), false, rfl, .own _, sqT_ty hb, kit_tup ct, give rd k (.bl false)⟩
    · cases e
  refine pe_imp (pe_callB call_isi hg hm (by decide +kernel) (pa_cons ha (pa_cons (pe_glob (v := V.ref (S.cm c)) hgT hmT rfl hdT) pa_nil he2) he) (by decide) (by decide) he hpl) fun σ H Q q => ?_
  exact tO_mono (fun x H1 ⟨x', e, h⟩ => by cases e; rw [← hK]; exact h) (rO1 (ops_imp od σ H Q q))
end
end VE
/-! what the defs do (printed by gen.py) -/
namespace VE
open PySem PySem.Spec PyProof.Rows L2

noncomputable def b_is_integer : MS :=
  sSeq (sRet (eAnd (ops [.slot 0] (dIsi "int")) (eNot (ops [.slot 0] (dIsi "bool"))))) sNil
noncomputable def m_is_integer : M := mDef 0 [] b_is_integer

noncomputable def b_is_within : MS :=
  sSeq (sRet (eAnd (eCall m_is_integer [.ex (eVar 0)]) (eChain (dCmp fun i j => decide (i ≤ j)) (dCmp fun i j => decide (i ≤ j)) (.slot 1) (.slot 0) (.slot 2)))) sNil
noncomputable def m_is_within : M := mDef 0 [] b_is_within

noncomputable def b_are_numbers_1 : MS := sSeq (sRet (ops [.ex (eComp [3] (iOf (eVar 0)) (.nm 3) (none) (eCall m_is_within [.ex (eVar 3), .ex (eC (.int (0))), .ex (eVar 2)]))] dAll)) sNil
noncomputable def b_are_numbers : MS :=
  sSeq (sIf (eOr (eNot (ops [.slot 0] (dIsi "tuple"))) (ops [.ex (ops [.slot 0] dLen), .slot 1] (dCmp fun i j => decide (j < i)))) (sSeq (sRet (eC (.bl false))) sNil) (sNil)) b_are_numbers_1
noncomputable def m_are_numbers : M := mDef 1 [] b_are_numbers

noncomputable def b_divisor_of_1 : MS := sSeq (sRet (eVar 0)) sNil
noncomputable def b_divisor_of_2 : MS := sSeq (sPar [0, 1] [eVar 1, ops [.slot 0, .slot 1] dMod]) sNil
noncomputable def b_divisor_of_3 : MS := sSeq (sWhile (ops [.slot 1, .ex (eC (.int (0)))] (dCmp fun i j => decide (j < i))) (b_divisor_of_2)) b_divisor_of_1
noncomputable def b_divisor_of : MS :=
  sSeq (sPar [0, 1] [ops [.slot 0] dAbs, ops [.slot 1] dAbs]) b_divisor_of_3
noncomputable def m_divisor_of : M := mDef 0 [] b_divisor_of

noncomputable def b_is_fraction_1 : MS := sSeq (sRet (eAnd (ops [.ex (ops [.slot 0, .ex (eC (.int (1)))] dIdx), .ex (eC (.int (0)))] (dCmp fun i j => decide (j < i))) (ops [.ex (eCall m_divisor_of [.ex (ops [.slot 0, .ex (eC (.int (0)))] dIdx), .ex (ops [.slot 0, .ex (eC (.int (1)))] dIdx)]), .ex (eC (.int (1)))] (dEq)))) sNil
noncomputable def b_is_fraction : MS :=
  sSeq (sIf (eOr (eNot (ops [.slot 0] (dIsi "tuple"))) (eOr (ops [.ex (ops [.slot 0] dLen), .ex (eC (.int (2)))] (dNe)) (eOr (eNot (eCall m_is_integer [.ex (ops [.slot 0, .ex (eC (.int (0)))] dIdx)])) (eNot (eCall m_is_integer [.ex (ops [.slot 0, .ex (eC (.int (1)))] dIdx)]))))) (sSeq (sRet (eC (.bl false))) sNil) (sNil)) b_is_fraction_1
noncomputable def m_is_fraction : M := mDef 0 [] b_is_fraction

noncomputable def b_is_share : MS :=
  sSeq (sRet (eAnd (eCall m_is_fraction [.ex (eVar 0)]) (ops [.ex (ops [.slot 0, .ex (eC (.int (0)))] dIdx), .ex (eC (.int (0)))] (dCmp fun i j => decide (j < i))))) sNil
noncomputable def m_is_share : M := mDef 0 [] b_is_share

noncomputable def b_is_move_1 : MS := sSeq (sRet (eAnd (eCall m_are_numbers [.ex (ops [.slot 0, .ex (eC (.int (1)))] dIdx), .ex (eVar 1), .ex (ops [.slot 1, .ex (eC (.int (1)))] dSub)]) (ops [.ex (ops [.ex (ops [.slot 0, .ex (eC (.int (1)))] dIdx)] dLen), .slot 1] (dEq)))) sNil
noncomputable def b_is_move : MS :=
  sSeq (sIf (eOr (eNot (ops [.slot 0] (dIsi "tuple"))) (eOr (ops [.ex (ops [.slot 0] dLen), .ex (eC (.int (2)))] (dNe)) (eNot (eCall m_is_share [.ex (ops [.slot 0, .ex (eC (.int (0)))] dIdx)])))) (sSeq (sRet (eC (.bl false))) sNil) (sNil)) b_is_move_1
noncomputable def m_is_move : M := mDef 0 [] b_is_move

noncomputable def b_fraction_1 : MS := sSeq (sRet (ops [.ex (ops [.slot 0, .slot 2] dDiv), .ex (ops [.slot 1, .slot 2] dDiv)] dTup)) sNil
noncomputable def b_fraction_2 : MS := sSeq (sSet 2 (eCall m_divisor_of [.ex (eVar 0), .ex (eVar 1)])) b_fraction_1
noncomputable def b_fraction_3 : MS := sSeq (sPar [0, 1] [ops [.slot 0] dNeg, ops [.slot 1] dNeg]) sNil
noncomputable def b_fraction : MS :=
  sSeq (sIf (ops [.slot 1, .ex (eC (.int (0)))] (dCmp fun i j => decide (i < j))) (b_fraction_3) (sNil)) b_fraction_2
noncomputable def m_fraction : M := mDef 1 [] b_fraction

noncomputable def b_plus : MS :=
  sSeq (sRet (eCall m_fraction [.ex (ops [.ex (ops [.ex (ops [.slot 0, .ex (eC (.int (0)))] dIdx), .ex (ops [.slot 1, .ex (eC (.int (1)))] dIdx)] dMul), .ex (ops [.ex (ops [.slot 1, .ex (eC (.int (0)))] dIdx), .ex (ops [.slot 0, .ex (eC (.int (1)))] dIdx)] dMul)] dAdd), .ex (ops [.ex (ops [.slot 0, .ex (eC (.int (1)))] dIdx), .ex (ops [.slot 1, .ex (eC (.int (1)))] dIdx)] dMul)])) sNil
noncomputable def m_plus : M := mDef 0 [] b_plus

noncomputable def b_sum_of_1 : MS := sSeq (sRet (eVar 1)) sNil
noncomputable def b_sum_of_2 : MS := sSeq (sSet 1 (eCall m_plus [.ex (eVar 1), .ex (eVar 2)])) sNil
noncomputable def b_sum_of_3 : MS := sSeq (sFor (iOf (eVar 0)) (.nm 2) (b_sum_of_2)) b_sum_of_1
noncomputable def b_sum_of : MS :=
  sSeq (sSet 1 (eC (.tup [.int (0), .int (1)]))) b_sum_of_3
noncomputable def m_sum_of : M := mDef 2 [] b_sum_of

noncomputable def b_System__init__1 : MS := sSeq (sFldP 0 "System" "moves" (eVar 2)) sNil
noncomputable def b_System__init__2 : MS := sSeq (sFldP 0 "System" "many" (eVar 1)) b_System__init__1
noncomputable def b_System__init__3 : MS := sSeq (sIf (ops [.ex (eCall m_sum_of [.ex (eComp [5, 6] (iOf (eVar 2)) (.tup [.nm 5, .nm 6]) (none) (eVar 5))]), .ex (eC (.tup [.int (1), .int (1)]))] (dNe)) (sSeq (sBad) sNil) (sNil)) b_System__init__2
noncomputable def b_System__init__4 : MS := sSeq (sIf (eNot (eCall m_is_move [.ex (eVar 4), .ex (eVar 1)])) (sSeq (sBad) sNil) (sNil)) sNil
noncomputable def b_System__init__5 : MS := sSeq (sFor (iEnum (eVar 2)) (.tup [.nm 3, .nm 4]) (b_System__init__4)) b_System__init__3
noncomputable def b_System__init__6 : MS := sSeq (sIf (eOr (eNot (ops [.slot 2] (dIsi "tuple"))) (eNot (eChain (dCmp fun i j => decide (i ≤ j)) (dCmp fun i j => decide (i ≤ j)) (.ex (eC (.int (1)))) (.ex (ops [.slot 2] dLen)) (.ex (eC (.int (24))))))) (sSeq (sBad) sNil) (sNil)) b_System__init__5
noncomputable def b_System__init_ : MS :=
  sSeq (sIf (eNot (eCall m_is_within [.ex (eVar 1), .ex (eC (.int (1))), .ex (eC (.int (12)))])) (sSeq (sBad) sNil) (sNil)) b_System__init__6
noncomputable def m_System__init_ : M := mDef 4 [0] b_System__init_

noncomputable def b_System__eq_ : MS :=
  sSeq (sRet (eAnd (ops [.slot 1] (dIsC "System")) (eAnd (ops [.ex (ops [.slot 0] (dFld "System" "many")), .ex (ops [.slot 1] (dFld "System" "many"))] (dEq)) (ops [.ex (ops [.slot 0] (dFld "System" "moves")), .ex (ops [.slot 1] (dFld "System" "moves"))] (dEq))))) sNil
noncomputable def m_System__eq_ : M := mDef 0 [] b_System__eq_

noncomputable def b__law_draw_1 : MS := sSeq (sRet (ops [.ex (ops [.ex (ops [.slot 4, .ex (eC (.int (16)))] dDiv)] dInt), .slot 1] dMod)) sNil
noncomputable def b__law_draw_2 : MS := sSeq (sSet 4 (ops [.ex (ops [.ex (ops [.slot 4, .ex (ops [.ex (ops [.slot 4, .ex (eC (.int (2003)))] dDiv), .ex (eC (.int (40692)))] dAdd)] dMul)] dInt), .ex (eC (.int (2147483399)))] dMod)) b__law_draw_1
noncomputable def b__law_draw_3 : MS := sSeq (sSet 4 (ops [.ex (ops [.ex (ops [.slot 4, .ex (ops [.ex (ops [.slot 4, .ex (eC (.int (1009)))] dDiv), .ex (eC (.int (48271)))] dAdd)] dMul)] dInt), .ex (eC (.int (2147483647)))] dMod)) b__law_draw_2
noncomputable def b__law_draw_4 : MS := sSeq (sSet 4 (ops [.ex (ops [.ex (ops [.ex (ops [.ex (ops [.ex (ops [.ex (ops [.slot 0, .ex (eC (.str "seed"))] dIdx), .ex (eC (.int (1)))] dAdd), .ex (ops [.ex (eC (.int (7919))), .ex (ops [.slot 0, .ex (eC (.str "turn"))] dIdx)] dMul)] dAdd)] dInt), .ex (eC (.int (69621)))] dMul)] dInt), .ex (eC (.int (2147483647)))] dMod)) b__law_draw_3
noncomputable def b__law_draw_5 : MS := sSeq (sPut 0 (eC (.str "turn")) (ops [.ex (ops [.slot 0, .ex (eC (.str "turn"))] dIdx), .ex (eC (.int (1)))] dAdd)) b__law_draw_4
noncomputable def b__law_draw_6 : MS := sSeq (sRet (eVar 3)) sNil
noncomputable def b__law_draw_7 : MS := sSeq (sPut 0 (eC (.str "great")) (ops [.ex (ops [.slot 0, .ex (eC (.str "great"))] dIdx), .slot 1] dDiv)) b__law_draw_6
noncomputable def b__law_draw_8 : MS := sSeq (sSet 3 (ops [.ex (ops [.ex (ops [.slot 0, .ex (eC (.str "great"))] dIdx)] dInt), .slot 1] dMod)) b__law_draw_7
noncomputable def b__law_draw_9 : MS := sSeq (sIf (ops [.ex (ops [.slot 0, .ex (eC (.str "great"))] dIdx), .ex (eC (.int (0)))] (dCmp fun i j => decide (j < i))) (b__law_draw_8) (sNil)) b__law_draw_5
noncomputable def b__law_draw_10 : MS := sSeq (sPut 0 (eC (.str "great")) (eVar 2)) sNil
noncomputable def b__law_draw_11 : MS := sSeq (sIf (ops [.slot 2, .ex (ops [.ex (eC (.int (10))), .ex (eC (.int (18)))] dPow)] (dCmp fun i j => decide (j ≤ i))) (b__law_draw_10) (sNil)) sNil
noncomputable def b__law_draw_12 : MS := sSeq (sPut 0 (eC (.str "seed")) (ops [.ex (ops [.ex (ops [.ex (ops [.ex (ops [.ex (ops [.slot 0, .ex (eC (.str "seed"))] dIdx), .ex (eC (.int (48271)))] dMul), .slot 2] dAdd), .ex (eC (.int (7)))] dAdd)] dInt), .ex (eC (.int (2147483629)))] dMod)) b__law_draw_11
noncomputable def b__law_draw_13 : MS := sSeq (sPut 0 (eC (.str "at")) (ops [.ex (ops [.slot 0, .ex (eC (.str "at"))] dIdx), .ex (eC (.int (1)))] dAdd)) b__law_draw_12
noncomputable def b__law_draw_14 : MS := sSeq (sSet 2 (ops [.ex (ops [.slot 0, .ex (eC (.str "cells"))] dIdx), .ex (ops [.slot 0, .ex (eC (.str "at"))] dIdx)] dIdx)) b__law_draw_13
noncomputable def b__law_draw : MS :=
  sSeq (sIf (eAnd (ops [.ex (ops [.slot 0, .ex (eC (.str "great"))] dIdx), .ex (eC (.int (0)))] (dEq)) (ops [.ex (ops [.slot 0, .ex (eC (.str "at"))] dIdx), .ex (ops [.ex (ops [.slot 0, .ex (eC (.str "cells"))] dIdx)] dLen)] (dCmp fun i j => decide (i < j)))) (b__law_draw_14) (sNil)) b__law_draw_9
noncomputable def m__law_draw : M := mDef 3 [0] b__law_draw

noncomputable def b__law_hand_1 : MS := sSeq (sRet (eDisp [.inr "cells", .inr "at", .inr "great", .inr "seed", .inr "turn"] [eVar 1, eC (.int (0)), eC (.int (0)), ops [.ex (eC (.int (977))), .ex (ops [.slot 1] dLen)] dAdd, eC (.int (0))])) sNil
noncomputable def b__law_hand : MS :=
  sSeq (sSet 1 (eComp [2] (iOf (ops [.slot 0, .ex (eC (.int (63)))] (dSlice false true))) (.nm 2) (none) (ops [.ex (ops [.slot 2] dInt)] dAbs))) b__law_hand_1
noncomputable def m__law_hand : M := mDef 2 [] b__law_hand

noncomputable def b__law_gone_1 : MS := sSeq (sRet (eVar 2)) sNil
noncomputable def b__law_gone_2 : MS := sSeq (sSet 2 (ops [.ex (ops [.ex (ops [.slot 0, .slot 3] dIdx), .ex (eC (.int (1)))] dIdx), .slot 2] dIdx)) sNil
noncomputable def b__law_gone : MS :=
  sSeq (sFor (iOf (eVar 1)) (.nm 3) (b__law_gone_2)) b__law_gone_1
noncomputable def m__law_gone : M := mDef 1 [] b__law_gone

noncomputable def b__law_any : MS :=
  sSeq (sRet (ops [.slot 1, .ex (eCall m__law_draw [.slot 0, .ex (ops [.slot 1] dLen)])] dIdx)) sNil
noncomputable def m__law_any : M := mDef 0 [0] b__law_any

noncomputable def b__law_row_1 : MS := sSeq (sRet (ops [.ex (eComp [4] (iRange1 (.slot 2)) (.nm 4) (none) (eCall m__law_draw [.slot 0, .ex (ops [.slot 1] dLen)]))] dTupleX)) sNil
noncomputable def b__law_row_2 : MS := sSeq (sIf (ops [.slot 3, .ex (eC (.int (1)))] (dEq)) (sSeq (sRet (ops [.ex (eComp [4] (iRange1 (.slot 2)) (.nm 4) (none) (ops [.ex (ops [.slot 4] dInt), .ex (ops [.slot 1] dLen)] dMod))] dTupleX)) sNil) (sNil)) b__law_row_1
noncomputable def b__law_row_3 : MS := sSeq (sIf (ops [.slot 3, .ex (eC (.int (0)))] (dEq)) (sSeq (sRet (ops [.ex (ops [.ex (eCall m__law_draw [.slot 0, .ex (ops [.slot 1] dLen)])] dTupX), .slot 2] dMulX)) sNil) (sNil)) b__law_row_2
noncomputable def b__law_row_4 : MS := sSeq (sSet 3 (eCall m__law_draw [.slot 0, .ex (eC (.int (6)))])) b__law_row_3
noncomputable def b__law_row : MS :=
  sSeq (sSet 2 (eCall m__law_any [.slot 0, .ex (ops [.ex (eC (.int (0))), .ex (eC (.int (1))), .ex (eC (.int (2))), .ex (eC (.int (3))), .ex (eC (.int (5))), .ex (eC (.int (9))), .ex (eCall m__law_draw [.slot 0, .ex (eC (.int (40)))]), .ex (eIf (ops [.ex (eCall m__law_draw [.slot 0, .ex (eC (.int (6)))]), .ex (eC (.int (0)))] (dEq)) (eC (.int (400))) (eC (.int (7))))] dLst)])) b__law_row_4
noncomputable def m__law_row : M := mDef 3 [0] b__law_row

noncomputable def b__law_low_1 : MS := sSeq (sRet (ops [.ex (ops [.slot 0, .slot 2] dDiv), .ex (ops [.slot 1, .slot 2] dDiv)] dTup)) sNil
noncomputable def b__law_low_2 : MS := sSeq (sPar [2, 3] [eVar 3, ops [.ex (ops [.slot 2] dInt), .slot 3] dMod]) sNil
noncomputable def b__law_low_3 : MS := sSeq (sWhile (ops [.slot 3, .ex (eC (.int (0)))] (dCmp fun i j => decide (j < i))) (b__law_low_2)) b__law_low_1
noncomputable def b__law_low : MS :=
  sSeq (sPar [2, 3] [ops [.slot 0] dAbs, eVar 1]) b__law_low_3
noncomputable def m__law_low : M := mDef 2 [] b__law_low

noncomputable def b__law_share_1 : MS := sSeq (sRet (eCall m__law_low [.ex (eVar 2), .ex (eVar 3)])) sNil
noncomputable def b__law_share_2 : MS := sSeq (sPar [2, 3] [ops [.slot 2, .ex (ops [.ex (ops [.ex (ops [.slot 0, .slot 4] dIdx), .ex (eC (.int (0)))] dIdx), .ex (eC (.int (0)))] dIdx)] dMul, ops [.slot 3, .ex (ops [.ex (ops [.ex (ops [.slot 0, .slot 4] dIdx), .ex (eC (.int (0)))] dIdx), .ex (eC (.int (1)))] dIdx)] dMul]) sNil
noncomputable def b__law_share_3 : MS := sSeq (sFor (iRange1 (.ex (eCount 1 (.slot 4)))) (.nm 5) (b__law_share_2)) sNil
noncomputable def b__law_share_4 : MS := sSeq (sFor (iRange1 (.ex (ops [.slot 0] dLen))) (.nm 4) (b__law_share_3)) b__law_share_1
noncomputable def b__law_share : MS :=
  sSeq (sAsg (.tup [.nm 2, .nm 3]) (ops [.ex (eC (.int (1))), .ex (eC (.int (1)))] dTup)) b__law_share_4
noncomputable def m__law_share : M := mDef 4 [] b__law_share

noncomputable def b__law_times : MS :=
  sSeq (sRet (eCall m__law_low [.ex (ops [.ex (ops [.slot 0, .ex (eC (.int (0)))] dIdx), .ex (ops [.slot 1, .ex (eC (.int (0)))] dIdx)] dMul), .ex (ops [.ex (ops [.slot 0, .ex (eC (.int (1)))] dIdx), .ex (ops [.slot 1, .ex (eC (.int (1)))] dIdx)] dMul)])) sNil
noncomputable def m__law_times : M := mDef 0 [] b__law_times

noncomputable def b_all_behind_1 : MS := sSeq (sRet (eVar 2)) sNil
noncomputable def b_all_behind_2 : MS := sSeq (sSet 2 (ops [.ex (eComp [5] (iOf (eVar 2)) (.nm 5) (none) (ops [.slot 4, .slot 5] dIdx))] dTuple)) sNil
noncomputable def b_all_behind_3 : MS := sSeq (sSet 4 (ops [.ex (ops [.ex (ops [.slot 0] (dFld "System" "moves")), .slot 3] dIdx), .ex (eC (.int (1)))] dIdx)) b_all_behind_2
noncomputable def b_all_behind_4 : MS := sSeq (sFor (iOf (eVar 1)) (.nm 3) (b_all_behind_3)) b_all_behind_1
noncomputable def b_all_behind : MS :=
  sSeq (sSet 2 (ops [.ex (ops [.slot 0] (dFld "System" "many"))] dTupRg)) b_all_behind_4
noncomputable def m_all_behind : M := mDef 4 [] b_all_behind

noncomputable def b_check_row : MS :=
  sSeq (sIf (eNot (eCall m_are_numbers [.ex (eVar 1), .ex (eC (.int (400))), .ex (ops [.ex (ops [.ex (ops [.slot 0] (dFld "System" "moves"))] dLen), .ex (eC (.int (1)))] dSub)])) (sSeq (sBad) sNil) (sNil)) sNil
noncomputable def m_check_row : M := mDef 0 [] b_check_row

noncomputable def b_check_state : MS :=
  sSeq (sIf (eNot (eCall m_is_within [.ex (eVar 1), .ex (eC (.int (0))), .ex (ops [.ex (ops [.slot 0] (dFld "System" "many")), .ex (eC (.int (1)))] dSub)])) (sSeq (sBad) sNil) (sNil)) sNil
noncomputable def m_check_state : M := mDef 0 [] b_check_state

noncomputable def b_led_1 : MS := sSeq (sRet (ops [.ex (eCall m_all_behind [.ex (eVar 0), .ex (eVar 1)]), .slot 2] dIdx)) sNil
noncomputable def b_led_2 : MS := sSeq (sExpr (eCall m_check_state [.ex (eVar 0), .ex (eVar 2)])) b_led_1
noncomputable def b_led : MS :=
  sSeq (sExpr (eCall m_check_row [.ex (eVar 0), .ex (eVar 1)])) b_led_2
noncomputable def m_led : M := mDef 0 [] b_led

noncomputable def b_led_all_1 : MS := sSeq (sRet (eCall m_all_behind [.ex (eVar 0), .ex (eVar 1)])) sNil
noncomputable def b_led_all : MS :=
  sSeq (sExpr (eCall m_check_row [.ex (eVar 0), .ex (eVar 1)])) b_led_all_1
noncomputable def m_led_all : M := mDef 0 [] b_led_all

noncomputable def b_lot_of : MS :=
  sSeq (sRet (ops [.ex (ops [.slot 0] dSortSet)] dTuple)) sNil
noncomputable def m_lot_of : M := mDef 0 [] b_lot_of

noncomputable def b_lot_behind_1 : MS := sSeq (sRet (eCall m_lot_of [.ex (eCall m_all_behind [.ex (eVar 0), .ex (eVar 1)])])) sNil
noncomputable def b_lot_behind : MS :=
  sSeq (sExpr (eCall m_check_row [.ex (eVar 0), .ex (eVar 1)])) b_lot_behind_1
noncomputable def m_lot_behind : M := mDef 0 [] b_lot_behind

noncomputable def b_times : MS :=
  sSeq (sRet (eCall m_fraction [.ex (ops [.ex (ops [.slot 0, .ex (eC (.int (0)))] dIdx), .ex (ops [.slot 1, .ex (eC (.int (0)))] dIdx)] dMul), .ex (ops [.ex (ops [.slot 0, .ex (eC (.int (1)))] dIdx), .ex (ops [.slot 1, .ex (eC (.int (1)))] dIdx)] dMul)])) sNil
noncomputable def m_times : M := mDef 0 [] b_times

noncomputable def b_share_of_1 : MS := sSeq (sRet (eVar 2)) sNil
noncomputable def b_share_of_2 : MS := sSeq (sSet 2 (eCall m_times [.ex (eVar 2), .ex (ops [.ex (ops [.ex (ops [.slot 0] (dFld "System" "moves")), .slot 3] dIdx), .ex (eC (.int (0)))] dIdx)])) sNil
noncomputable def b_share_of_3 : MS := sSeq (sFor (iOf (eVar 1)) (.nm 3) (b_share_of_2)) b_share_of_1
noncomputable def b_share_of_4 : MS := sSeq (sSet 2 (eC (.tup [.int (1), .int (1)]))) b_share_of_3
noncomputable def b_share_of : MS :=
  sSeq (sExpr (eCall m_check_row [.ex (eVar 0), .ex (eVar 1)])) b_share_of_4
noncomputable def m_share_of : M := mDef 2 [] b_share_of

noncomputable def b__law_is_right_1 : MS := sSeq (sRet (ops [.ex (eCall m_share_of [.ex (eVar 3), .ex (ops [.ex (eWk (eVar 4)), .ex (eWk (eVar 5))] dAdd)]), .ex (eCall m__law_times [.ex (eCall m__law_share [.ex (eVar 2), .ex (eVar 4)]), .ex (eCall m__law_share [.ex (eVar 2), .ex (eVar 5)])])] (dEq))) sNil
noncomputable def b__law_is_right_2 : MS := sSeq (sIf (ops [.ex (eCall m_led_all [.ex (eVar 3), .ex (ops [.ex (eWk (eVar 4)), .ex (eWk (eVar 5))] dAdd)]), .ex (ops [.ex (eComp [9] (iOf (eVar 6)) (.nm 9) (none) (ops [.slot 8, .slot 9] dIdx))] dTuple)] (dNe)) (sSeq (sRet (eC (.bl false))) sNil) (sNil)) b__law_is_right_1
noncomputable def b__law_is_right_3 : MS := sSeq (sSet 8 (eCall m_led_all [.ex (eVar 3), .ex (eWk (eVar 5))])) b__law_is_right_2
noncomputable def b__law_is_right_4 : MS := sSeq (sIf (ops [.ex (ops [.ex (ops [.ex (eWk (eVar 4))] dLen), .ex (ops [.ex (eWk (eVar 5))] dLen)] dAdd), .ex (eC (.int (400)))] (dCmp fun i j => decide (j < i))) (sSeq (sRet (eC (.bl true))) sNil) (sNil)) b__law_is_right_3
noncomputable def b__law_is_right_5 : MS := sSeq (sIf (ops [.ex (eCall m_share_of [.ex (eVar 3), .ex (eWk (eVar 4))]), .ex (eCall m__law_share [.ex (eVar 2), .ex (eVar 4)])] (dNe)) (sSeq (sRet (eC (.bl false))) sNil) (sNil)) b__law_is_right_4
noncomputable def b__law_is_right_6 : MS := sSeq (sIf (eOr (ops [.slot 7, .ex (ops [.slot 6] dList)] (dNe)) (ops [.ex (eComp [9] (iOf (eVar 7)) (.nm 9) (none) (ops [.slot 9] (dIsi "bool")))] dAny)) (sSeq (sRet (eC (.bl false))) sNil) (sNil)) b__law_is_right_5
noncomputable def b__law_is_right_7 : MS := sSeq (sSet 7 (eComp [9] (iRange1 (.slot 1)) (.nm 9) (none) (eCall m_led [.ex (eVar 3), .ex (eWk (eVar 4)), .ex (eVar 9)]))) b__law_is_right_6
noncomputable def b__law_is_right_8 : MS := sSeq (sIf (eOr (ops [.ex (eCall m_led_all [.ex (eVar 3), .ex (eWk (eVar 4))]), .slot 6] (dNe)) (ops [.ex (eCall m_lot_behind [.ex (eVar 3), .ex (eWk (eVar 4))]), .ex (ops [.ex (ops [.slot 6] dSortSet)] dTuple)] (dNe))) (sSeq (sRet (eC (.bl false))) sNil) (sNil)) b__law_is_right_7
noncomputable def b__law_is_right_9 : MS := sSeq (sSet 6 (ops [.ex (eComp [9] (iRange1 (.slot 1)) (.nm 9) (none) (eCall m__law_gone [.ex (eVar 2), .ex (eWk (eVar 4)), .ex (eVar 9)]))] dTuple)) b__law_is_right_8
noncomputable def b__law_is_right : MS :=
  sSeq (sAsg (.tup [.nm 4, .nm 5]) (ops [.ex (eCall m__law_row [.slot 0, .ex (eVar 2)]), .ex (eCall m__law_row [.slot 0, .ex (eVar 2)])] dTup)) b__law_is_right_9
noncomputable def m__law_is_right : M := mDef 6 [0] b__law_is_right

noncomputable def b__law_leads_1 : MS := sSeq (sRet (ops [.ex (eComp [5] (iRange1 (.slot 1)) (.nm 5) (none) (eCall m__law_draw [.slot 0, .ex (eVar 1)]))] dTuple)) sNil
noncomputable def b__law_leads_2 : MS := sSeq (sRet (ops [.ex (eComp [5] (iRange1 (.slot 1)) (.nm 5) (none) (ops [.ex (ops [.ex (ops [.slot 5, .slot 8] dAdd)] dInt), .slot 1] dMod))] dTuple)) sNil
noncomputable def b__law_leads_3 : MS := sSeq (sSet 8 (ops [.ex (eC (.int (1))), .ex (eCall m__law_draw [.slot 0, .ex (eVar 1)])] dAdd)) b__law_leads_2
noncomputable def b__law_leads_4 : MS := sSeq (sIf (ops [.slot 2, .ex (eC (.int (4)))] (dEq)) (b__law_leads_3) (sNil)) b__law_leads_1
noncomputable def b__law_leads_5 : MS := sSeq (sRet (ops [.ex (eComp [5] (iRange1 (.slot 1)) (.nm 5) (none) (eIf (ops [.slot 5, .slot 7] (dCmp fun i j => decide (i < j))) (eCall m__law_draw [.slot 0, .ex (eVar 7)]) (ops [.slot 7, .ex (eCall m__law_draw [.slot 0, .ex (ops [.slot 1, .slot 7] dSub)])] dAdd)))] dTuple)) sNil
noncomputable def b__law_leads_6 : MS := sSeq (sSet 7 (ops [.slot 1, .ex (eC (.int (2)))] dDiv)) b__law_leads_5
noncomputable def b__law_leads_7 : MS := sSeq (sIf (ops [.slot 2, .ex (eC (.int (3)))] (dEq)) (b__law_leads_6) (sNil)) b__law_leads_4
noncomputable def b__law_leads_8 : MS := sSeq (sIf (ops [.slot 2, .ex (eC (.int (2)))] (dEq)) (sSeq (sRet (ops [.ex (eComp [5] (iRange1 (.slot 1)) (.nm 5) (none) (eIf (ops [.ex (eCall m__law_draw [.slot 0, .ex (eC (.int (3)))]), .ex (eC (.int (0)))] (dEq)) (eCall m__law_draw [.slot 0, .ex (eVar 1)]) (eVar 5)))] dTuple)) sNil) (sNil)) b__law_leads_7
noncomputable def b__law_leads_9 : MS := sSeq (sRet (ops [.ex (eComp [5] (iRange1 (.slot 1)) (.nm 5) (none) (eCall m__law_any [.slot 0, .ex (eVar 6)]))] dTuple)) sNil
noncomputable def b__law_leads_10 : MS := sSeq (sSet 6 (ops [.ex (eCall m__law_draw [.slot 0, .ex (eVar 1)]), .ex (eCall m__law_draw [.slot 0, .ex (eVar 1)])] dLst)) b__law_leads_9
noncomputable def b__law_leads_11 : MS := sSeq (sIf (ops [.slot 2, .ex (eC (.int (1)))] (dEq)) (b__law_leads_10) (sNil)) b__law_leads_8
noncomputable def b__law_leads_12 : MS := sSeq (sRet (ops [.slot 4] dTuple)) sNil
noncomputable def b__law_leads_13 : MS := sSeq (sExpr (eMut 4 [eMut 3 [eCall m__law_draw [.slot 0, .ex (ops [.slot 3] dLen)]] gPopAt] gAppend)) sNil
noncomputable def b__law_leads_14 : MS := sSeq (sFor (iRange1 (.slot 1)) (.nm 5) (b__law_leads_13)) b__law_leads_12
noncomputable def b__law_leads_15 : MS := sSeq (sPar [3, 4] [ops [.slot 1] dLstRg, ops [] dLst]) b__law_leads_14
noncomputable def b__law_leads_16 : MS := sSeq (sIf (ops [.slot 2, .ex (eC (.int (0)))] (dEq)) (b__law_leads_15) (sNil)) b__law_leads_11
noncomputable def b__law_leads : MS :=
  sSeq (sSet 2 (eCall m__law_draw [.slot 0, .ex (eC (.int (7)))])) b__law_leads_16
noncomputable def m__law_leads : M := mDef 7 [0] b__law_leads

noncomputable def b__law_shares_1 : MS := sSeq (sRet (eComp [5] (iOf (eVar 3)) (.nm 5) (none) (eCall m__law_low [.ex (eVar 5), .ex (ops [.slot 3] dSum)]))) sNil
noncomputable def b__law_shares_2 : MS := sSeq (sExpr (eMut 3 [eIf (eVar 2) (ops [.ex (ops [.slot 5, .ex (ops [.ex (eC (.int (10))), .ex (eC (.int (9)))] dPow)] dMul), .ex (eCall m__law_draw [.slot 0, .ex (ops [.ex (eC (.int (10))), .ex (eC (.int (9)))] dPow)])] dAdd) (eVar 5)] gAppend)) sNil
noncomputable def b__law_shares_3 : MS := sSeq (sSet 5 (ops [.ex (eC (.int (1))), .ex (eCall m__law_draw [.slot 0, .ex (eCall m__law_any [.slot 0, .ex (ops [.ex (eC (.int (1))), .ex (eC (.int (3))), .ex (eC (.int (6)))] dLst)])])] dAdd)) b__law_shares_2
noncomputable def b__law_shares_4 : MS := sSeq (sFor (iRange1 (.slot 1)) (.nm 4) (b__law_shares_3)) b__law_shares_1
noncomputable def b__law_shares_5 : MS := sSeq (sSet 3 (ops [] dLst)) b__law_shares_4
noncomputable def b__law_shares : MS :=
  sSeq (sSet 2 (ops [.ex (eCall m__law_draw [.slot 0, .ex (eC (.int (16)))]), .ex (eC (.int (0)))] (dEq))) b__law_shares_5
noncomputable def m__law_shares : M := mDef 4 [0] b__law_shares

noncomputable def b__law_moves_1 : MS := sSeq (sRet (ops [.slot 5] dTuple)) sNil
noncomputable def b__law_moves_2 : MS := sSeq (sExpr (eMut 5 [ops [.ex (eVar 6), .ex (eVar 7)] dTup] gAppend)) sNil
noncomputable def b__law_moves_3 : MS := sSeq (sSet 7 (ops [.ex (eComp [8] (iOf (ops [.ex (ops [.slot 5, .ex (eC (.int (0)))] dIdx), .ex (eC (.int (1)))] dIdx)) (.nm 8) (none) (ops [.ex (ops [.ex (ops [.slot 8, .ex (ops [.slot 7, .ex (eC (.int (0)))] dIdx)] dAdd)] dInt), .slot 1] dMod))] dTuple)) sNil
noncomputable def b__law_moves_4 : MS := sSeq (sIf (eAnd (ops [.slot 4, .ex (eC (.int (0)))] (dEq)) (ops [.ex (ops [.slot 5] dLen), .ex (eC (.int (0)))] (dCmp fun i j => decide (j < i)))) (b__law_moves_3) (sNil)) b__law_moves_2
noncomputable def b__law_moves_5 : MS := sSeq (sSet 7 (eCall m__law_leads [.slot 0, .ex (eVar 1)])) b__law_moves_4
noncomputable def b__law_moves_6 : MS := sSeq (sFor (iOf (eCall m__law_shares [.slot 0, .ex (eVar 3)])) (.nm 6) (b__law_moves_5)) b__law_moves_1
noncomputable def b__law_moves_7 : MS := sSeq (sSet 5 (ops [] dLst)) b__law_moves_6
noncomputable def b__law_moves_8 : MS := sSeq (sSet 4 (eCall m__law_draw [.slot 0, .ex (eC (.int (5)))])) b__law_moves_7
noncomputable def b__law_moves : MS :=
  sSeq (sSet 3 (ops [.ex (eC (.int (1))), .ex (eCall m__law_draw [.slot 0, .ex (eVar 2)])] dAdd)) b__law_moves_8
noncomputable def m__law_moves : M := mDef 6 [0] b__law_moves

noncomputable def b__law_size : MS :=
  sSeq (sRet (eIf (ops [.ex (eCall m__law_draw [.slot 0, .ex (eC (.int (12)))]), .ex (eC (.int (0)))] (dCmp fun i j => decide (j < i))) (eCall m__law_any [.slot 0, .ex (ops [.ex (eC (.int (1))), .ex (eC (.int (2))), .ex (eC (.int (2))), .ex (eC (.int (3))), .ex (eC (.int (3))), .ex (eC (.int (4))), .ex (eC (.int (4))), .ex (eC (.int (5))), .ex (eC (.int (5))), .ex (eC (.int (6)))] dLst)]) (ops [.ex (eC (.int (7))), .ex (eCall m__law_draw [.slot 0, .ex (eC (.int (6)))])] dAdd))) sNil
noncomputable def m__law_size : M := mDef 0 [0] b__law_size

noncomputable def b_law_1 : MS := sSeq (sRet (eC (.bl true))) sNil
noncomputable def b_law_2 : MS := sSeq (sIf (eNot (eCall m__law_is_right [.slot 1, .ex (eVar 3), .ex (eVar 4), .ex (eVar 5)])) (sSeq (sRet (eC (.bl false))) sNil) (sNil)) sNil
noncomputable def b_law_3 : MS := sSeq (sFor (iRange1 (.ex (eC (.int (3))))) (.nm 7) (b_law_2)) sNil
noncomputable def b_law_4 : MS := sSeq (sIf (eOr (ops [.ex (eOwnEq "System" m_System__eq_ [.ex (eMake "System" m_System__init_ [.ex (eVar 3), .ex (eVar 6)]), .ex (eVar 5)]), .ex (ops [.slot 6, .slot 4] (dEq))] (dNe)) (eOr (eOwnEq "System" m_System__eq_ [.ex (eVar 5), .ex (ops [.ex (eVar 3), .ex (eVar 4)] dTup)]) (eOwnEq "System" m_System__eq_ [.ex (eVar 5), .ex (eVar 4)]))) (sSeq (sRet (eC (.bl false))) sNil) (sNil)) b_law_3
noncomputable def b_law_5 : MS := sSeq (sSet 6 (eCall m__law_moves [.slot 1, .ex (eVar 3), .ex (eC (.int (3)))])) b_law_4
noncomputable def b_law_6 : MS := sSeq (sIf (eOr (ops [.ex (ops [.slot 5] (dFld "System" "many")), .slot 3] (dNe)) (eOr (ops [.ex (ops [.slot 5] (dFld "System" "moves")), .slot 4] (dNe)) (eNot (eOwnEq "System" m_System__eq_ [.ex (eVar 5), .ex (eMake "System" m_System__init_ [.ex (eVar 3), .ex (eVar 4)])])))) (sSeq (sRet (eC (.bl false))) sNil) (sNil)) b_law_5
noncomputable def b_law_7 : MS := sSeq (sSet 5 (eMake "System" m_System__init_ [.ex (eVar 3), .ex (eVar 4)])) b_law_6
noncomputable def b_law_8 : MS := sSeq (sSet 4 (eCall m__law_moves [.slot 1, .ex (eVar 3), .ex (eIf (ops [.ex (eCall m__law_draw [.slot 1, .ex (eC (.int (12)))]), .ex (eC (.int (0)))] (dCmp fun i j => decide (j < i))) (eC (.int (6))) (eC (.int (24))))])) b_law_7
noncomputable def b_law_9 : MS := sSeq (sSet 3 (eCall m__law_size [.slot 1])) b_law_8
noncomputable def b_law_10 : MS := sSeq (sFor (iRange1 (.ex (eC (.int (3))))) (.nm 2) (b_law_9)) b_law_1
noncomputable def b_law : MS :=
  sSeq (sSet 1 (eCall m__law_hand [.ex (eVar 0)])) b_law_10
noncomputable def m_law : M := mDef 7 [] b_law

end VE
/-! each def keeps its term (printed by gen.py) -/
namespace VE
open PySem PySem.Spec PyProof.Rows L2

def top (i : Nat) : Stmt := PySem.Challenge.pw_asifforever_k01_whole_rows_led.main.body.getD i (.Pass ⟨0, 0, 0, 0⟩)
def cls (st : Stmt) (j : Nat) : Stmt := match st with
  | .ClassDef _ _ _ body _ _ _ _ _ _ _ => body.getD j (.Pass ⟨0, 0, 0, 0⟩)
  | _ => .Pass ⟨0, 0, 0, 0⟩

structure Fx (K : Frag) (mg : Str → Option Value) (cm : Str → Addr) : Prop where
  n_abs : mg "abs" = none
  n_all : mg "all" = none
  n_any : mg "any" = none
  n_bool : mg "bool" = none
  n_enumerate : mg "enumerate" = none
  n_int : mg "int" = none
  n_isinstance : mg "isinstance" = none
  n_len : mg "len" = none
  n_list : mg "list" = none
  n_range : mg "range" = none
  n_set : mg "set" = none
  n_sorted : mg "sorted" = none
  n_sum : mg "sum" = none
  n_tuple : mg "tuple" = none
  c_MOST_MOVES : IntC mg "MOST_MOVES" (24)
  c_MOST_ROW : IntC mg "MOST_ROW" (400)
  c_MOST_STATES : IntC mg "MOST_STATES" (12)
  c_ONE : TupC K mg "ONE" [.int (1), .int (1)]
  c_ZERO : TupC K mg "ZERO" [.int (0), .int (1)]
  g_System : mg "System" = some (.ref (cm "System"))
  t_System : ClsT K (cm "System")
  k_System : Cls K (cm "System")
  f_System_many : NoAttr K (cm "System") "many"
  f_System_moves : NoAttr K (cm "System") "moves"
section
variable {P : Program} {w : World} {K : Frag} {mg : Str → Option Value} {base : Heap} {cm : Str → Addr} {f : Addr} {fd : FuncData}
theorem sc_is_integer : FnScope ["thing"] ["thing"] (defScope (top 6)) := ⟨rfl, rfl, rfl, by decide +kernel, rfl, by decide +kernel, by decide +kernel⟩
theorem ok_is_integer (Wh : Whole P base) (F : FunD K "is_integer" "is_integer" (defArgs (top 6)) (defBody (top 6)) (defScope (top 6)) [] [] f fd) (fx : Fx K mg cm) (hmg : mg "is_integer" = some (.ref f)) : Ent P w K mg base cm 37 "is_integer" 1 m_is_integer := by
  refine ⟨f, fd, ["thing"], ?_, hmg, F.kp, F.bindsN fun _ _ _ _ _ _ us hl => match us, hl with | [_], _ => rfl⟩
  · refine ok_def (b := b_is_integer) (io := []) (np := 1) (nl := 0) (k := 36) Wh (by decide) F sc_is_integer rfl rfl fun cdv A outer s H vs E hl hr g => ?_
    exact (pss_consD (ps_retD (pe_andD (pe_isiD rfl fx.n_isinstance rfl fx.n_int boot_int (by decide) rfl (so (pv 0 rfl (.inl rfl) rfl rfl)) rfl rfl rfl rfl) (pe_one (pe_notD (pe_isiD rfl fx.n_isinstance rfl fx.n_bool boot_bool (by decide) rfl (so (pv 0 rfl (.inl rfl) rfl rfl)) rfl rfl rfl rfl)))))
    pss_nilD)
theorem sc_is_within : FnScope ["thing", "least", "most"] ["thing", "least", "most"] (defScope (top 7)) := ⟨rfl, rfl, rfl, by decide +kernel, rfl, by decide +kernel, by decide +kernel⟩
theorem ok_is_within (Wh : Whole P base) (F : FunD K "is_within" "is_within" (defArgs (top 7)) (defBody (top 7)) (defScope (top 7)) [] [] f fd) (fx : Fx K mg cm) (hmg : mg "is_within" = some (.ref f)) (E_is_integer : Ent P w K mg base cm 37 "is_integer" 1 m_is_integer) : Ent P w K mg base cm 38 "is_within" 3 m_is_within := by
  refine ⟨f, fd, ["thing", "least", "most"], ?_, hmg, F.kp, F.bindsN fun _ _ _ _ _ _ us hl => match us, hl with | [_, _, _], _ => rfl⟩
  · refine ok_def (b := b_is_within) (io := []) (np := 3) (nl := 0) (k := 37) Wh (by decide) F sc_is_within rfl rfl fun cdv A outer s H vs E hl hr g => ?_
    exact (pss_consD (ps_retD (pe_andD (pe_callN E_is_integer rfl (hr.mono (by decide)) rfl g.tk (pa_o_cons (xo (pe_eVar (pv 0 rfl (.inl rfl) rfl rfl))) pa_o_nil rfl) (by decide) rfl rfl rfl rfl) (pe_one (pe_chainD op_le op_le od_cmp od_cmp (so (pv 1 rfl (.inl rfl) rfl rfl)) (so (pv 0 rfl (.inl rfl) rfl rfl)) (so (pv 2 rfl (.inl rfl) rfl rfl)) rfl))))
    pss_nilD)
theorem sc_are_numbers : FnScope ["thing", "most_many", "most", "number"] ["thing", "most_many", "most"] (defScope (top 8)) := ⟨rfl, rfl, rfl, by decide +kernel, rfl, by decide +kernel, by decide +kernel⟩
theorem ok_are_numbers (Wh : Whole P base) (F : FunD K "are_numbers" "are_numbers" (defArgs (top 8)) (defBody (top 8)) (defScope (top 8)) [] [] f fd) (fx : Fx K mg cm) (hmg : mg "are_numbers" = some (.ref f)) (E_is_within : Ent P w K mg base cm 38 "is_within" 3 m_is_within) : Ent P w K mg base cm 39 "are_numbers" 3 m_are_numbers := by
  refine ⟨f, fd, ["thing", "most_many", "most"], ?_, hmg, F.kp, F.bindsN fun _ _ _ _ _ _ us hl => match us, hl with | [_, _, _], _ => rfl⟩
  · refine ok_def (b := b_are_numbers) (io := []) (np := 3) (nl := 1) (k := 38) Wh (by decide) F sc_are_numbers rfl rfl fun cdv A outer s H vs E hl hr g => ?_
    exact (pss_consD (ps_ifD (PW.pt (pw_orD (pt_notD (pt_val (pe_isiD rfl fx.n_isinstance rfl fx.n_tuple boot_tuple (by decide) rfl (so (pv 0 rfl (.inl rfl) rfl rfl)) rfl rfl rfl rfl) fun _ => rfl)) (pw_or1 (pt_cmp2 op_gt od_cmp (xo (pe_callBD call_len od_len rfl fx.n_len boot_len (pa_o_cons (so (pv 0 rfl (.inl rfl) rfl rfl)) pa_o_nil rfl) (by decide) rfl rfl rfl)) (so (pv 1 rfl (.inl rfl) rfl rfl)) (nomark _))))) (pss_consD (ps_retD pe_cBl)
    pss_nilD) pss_nilD)
    (pss_consD (ps_retD (pe_callBD (cr_all rfl) od_all rfl fx.n_all boot_all (pa_o_cons (xo (pe_lcE (own := [("number", 3)]) (t := .nm 3) (c := none) rfl sc_are_numbers.nd (pi_seqD rfl (pe_eVar (pv 0 rfl (.inl rfl) rfl rfl))) rfl (fun _ _ _ _ _ => (pg_name sc_are_numbers.nd rfl (.inl rfl) (.inr rfl))) (fun _ _ _ _ _ => pts_nil) (fun _ _ _ _ _ => (pe_callN E_is_within rfl (hr.mono (by decide)) rfl takes0 (pa_o_cons (xo (pe_eVar (pv 3 rfl (.inl rfl) rfl rfl))) (pa_o_cons (xo pe_cInt) (pa_o_cons (xo (pe_eVar (pv 2 rfl (.inr (.inl rfl)) rfl rfl))) pa_o_nil rfl) rfl) rfl) (by decide) rfl rfl rfl rfl)) (fun _ => rfl) (by decide) (by decide) (fxs_io rfl))) pa_o_nil rfl) (by decide) rfl rfl rfl))
    pss_nilD))
theorem sc_divisor_of : FnScope ["one", "other"] ["one", "other"] (defScope (top 12)) := ⟨rfl, rfl, rfl, by decide +kernel, rfl, by decide +kernel, by decide +kernel⟩
theorem ok_divisor_of (Wh : Whole P base) (F : FunD K "divisor_of" "divisor_of" (defArgs (top 12)) (defBody (top 12)) (defScope (top 12)) [] [] f fd) (fx : Fx K mg cm) (hmg : mg "divisor_of" = some (.ref f)) : Ent P w K mg base cm 37 "divisor_of" 2 m_divisor_of := by
  refine ⟨f, fd, ["one", "other"], ?_, hmg, F.kp, F.bindsN fun _ _ _ _ _ _ us hl => match us, hl with | [_, _], _ => rfl⟩
  · refine ok_def (b := b_divisor_of) (io := []) (np := 2) (nl := 0) (k := 36) Wh (by decide) F sc_divisor_of rfl rfl fun cdv A outer s H vs E hl hr g => ?_
    exact (pss_consD (ps_par2D rfl sc_divisor_of.nd rfl rfl (by decide) rfl rfl (pe_callBD call_abs od_abs rfl fx.n_abs boot_abs (pa_o_cons (so (pv 0 rfl (.inl rfl) rfl rfl)) pa_o_nil rfl) (by decide) rfl rfl rfl) (pe_callBD call_abs od_abs rfl fx.n_abs boot_abs (pa_o_cons (so (pv 1 rfl (.inl rfl) rfl rfl)) pa_o_nil rfl) (by decide) rfl rfl rfl) rfl rfl rfl rfl (fxl_io rfl))
    (pss_consD (ps_whileD g.po (pt_cmp2 op_gt od_cmp (so (pv 1 rfl (.inl rfl) rfl rfl)) (xo pe_cInt) (nomark _)) (pss_consD (ps_par2D rfl sc_divisor_of.nd rfl rfl (by decide) rfl rfl (pe_eVar (pv 1 rfl (.inl rfl) rfl rfl)) (pe_bin op_mod od_mod (so (pv 0 rfl (.inl rfl) rfl rfl)) (so (pv 1 rfl (.inl rfl) rfl rfl))) rfl rfl rfl rfl (fxl_io rfl))
    pss_nilD))
    (pss_consD (ps_retD (pe_eVar (pv 0 rfl (.inl rfl) rfl rfl)))
    pss_nilD)))
theorem sc_is_fraction : FnScope ["thing"] ["thing"] (defScope (top 14)) := ⟨rfl, rfl, rfl, by decide +kernel, rfl, by decide +kernel, by decide +kernel⟩
theorem ok_is_fraction (Wh : Whole P base) (F : FunD K "is_fraction" "is_fraction" (defArgs (top 14)) (defBody (top 14)) (defScope (top 14)) [] [] f fd) (fx : Fx K mg cm) (hmg : mg "is_fraction" = some (.ref f)) (E_divisor_of : Ent P w K mg base cm 37 "divisor_of" 2 m_divisor_of) (E_is_integer : Ent P w K mg base cm 37 "is_integer" 1 m_is_integer) : Ent P w K mg base cm 38 "is_fraction" 1 m_is_fraction := by
  refine ⟨f, fd, ["thing"], ?_, hmg, F.kp, F.bindsN fun _ _ _ _ _ _ us hl => match us, hl with | [_], _ => rfl⟩
  · refine ok_def (b := b_is_fraction) (io := []) (np := 1) (nl := 0) (k := 37) Wh (by decide) F sc_is_fraction rfl rfl fun cdv A outer s H vs E hl hr g => ?_
    exact (pss_consD (ps_ifD (PW.pt (pw_orD (pt_notD (pt_val (pe_isiD rfl fx.n_isinstance rfl fx.n_tuple boot_tuple (by decide) rfl (so (pv 0 rfl (.inl rfl) rfl rfl)) rfl rfl rfl rfl) fun _ => rfl)) (pw_orD (pt_cmp2 (op_neD hr.units) od_ne (xo (pe_callBD call_len od_len rfl fx.n_len boot_len (pa_o_cons (so (pv 0 rfl (.inl rfl) rfl rfl)) pa_o_nil rfl) (by decide) rfl rfl rfl)) (xo pe_cInt) (nomark _)) (pw_orD (pt_notD (pt_val (pe_callN E_is_integer rfl (hr.mono (by decide)) rfl g.tk (pa_o_cons (xo (pe_idx (ix_all (hu_of hr)) od_idx (so (pv 0 rfl (.inl rfl) rfl rfl)) (xo pe_cInt) fun _ _ => rfl)) pa_o_nil rfl) (by decide) rfl rfl rfl rfl) fun _ => rfl)) (pw_or1 (pt_notD (pt_val (pe_callN E_is_integer rfl (hr.mono (by decide)) rfl g.tk (pa_o_cons (xo (pe_idx (ix_all (hu_of hr)) od_idx (so (pv 0 rfl (.inl rfl) rfl rfl)) (xo pe_cInt) fun _ _ => rfl)) pa_o_nil rfl) (by decide) rfl rfl rfl rfl) fun _ => rfl))))))) (pss_consD (ps_retD pe_cBl)
    pss_nilD) pss_nilD)
    (pss_consD (ps_retD (pe_andD (pe_cmp2 op_gt od_cmp (xo (pe_idx (ix_all (hu_of hr)) od_idx (so (pv 0 rfl (.inl rfl) rfl rfl)) (xo pe_cInt) fun _ _ => rfl)) (xo pe_cInt) (nomark _)) (pe_one (pe_cmp2 (op_eqD hr.units) od_eq (xo (pe_callN E_divisor_of rfl (hr.mono (by decide)) rfl g.tk (pa_o_cons (xo (pe_idx (ix_all (hu_of hr)) od_idx (so (pv 0 rfl (.inl rfl) rfl rfl)) (xo pe_cInt) fun _ _ => rfl)) (pa_o_cons (xo (pe_idx (ix_all (hu_of hr)) od_idx (so (pv 0 rfl (.inl rfl) rfl rfl)) (xo pe_cInt) fun _ _ => rfl)) pa_o_nil rfl) rfl) (by decide) rfl rfl rfl rfl)) (xo pe_cInt) (nomark _)))))
    pss_nilD))
theorem sc_is_share : FnScope ["thing"] ["thing"] (defScope (top 18)) := ⟨rfl, rfl, rfl, by decide +kernel, rfl, by decide +kernel, by decide +kernel⟩
theorem ok_is_share (Wh : Whole P base) (F : FunD K "is_share" "is_share" (defArgs (top 18)) (defBody (top 18)) (defScope (top 18)) [] [] f fd) (fx : Fx K mg cm) (hmg : mg "is_share" = some (.ref f)) (E_is_fraction : Ent P w K mg base cm 38 "is_fraction" 1 m_is_fraction) : Ent P w K mg base cm 39 "is_share" 1 m_is_share := by
  refine ⟨f, fd, ["thing"], ?_, hmg, F.kp, F.bindsN fun _ _ _ _ _ _ us hl => match us, hl with | [_], _ => rfl⟩
  · refine ok_def (b := b_is_share) (io := []) (np := 1) (nl := 0) (k := 38) Wh (by decide) F sc_is_share rfl rfl fun cdv A outer s H vs E hl hr g => ?_
    exact (pss_consD (ps_retD (pe_andD (pe_callN E_is_fraction rfl (hr.mono (by decide)) rfl g.tk (pa_o_cons (xo (pe_eVar (pv 0 rfl (.inl rfl) rfl rfl))) pa_o_nil rfl) (by decide) rfl rfl rfl rfl) (pe_one (pe_cmp2 op_gt od_cmp (xo (pe_idx (ix_all (hu_of hr)) od_idx (so (pv 0 rfl (.inl rfl) rfl rfl)) (xo pe_cInt) fun _ _ => rfl)) (xo pe_cInt) (nomark _)))))
    pss_nilD)
theorem sc_is_move : FnScope ["thing", "many"] ["thing", "many"] (defScope (top 23)) := ⟨rfl, rfl, rfl, by decide +kernel, rfl, by decide +kernel, by decide +kernel⟩
theorem ok_is_move (Wh : Whole P base) (F : FunD K "is_move" "is_move" (defArgs (top 23)) (defBody (top 23)) (defScope (top 23)) [] [] f fd) (fx : Fx K mg cm) (hmg : mg "is_move" = some (.ref f)) (E_are_numbers : Ent P w K mg base cm 39 "are_numbers" 3 m_are_numbers) (E_is_share : Ent P w K mg base cm 39 "is_share" 1 m_is_share) : Ent P w K mg base cm 40 "is_move" 2 m_is_move := by
  refine ⟨f, fd, ["thing", "many"], ?_, hmg, F.kp, F.bindsN fun _ _ _ _ _ _ us hl => match us, hl with | [_, _], _ => rfl⟩
  · refine ok_def (b := b_is_move) (io := []) (np := 2) (nl := 0) (k := 39) Wh (by decide) F sc_is_move rfl rfl fun cdv A outer s H vs E hl hr g => ?_
    exact (pss_consD (ps_ifD (PW.pt (pw_orD (pt_notD (pt_val (pe_isiD rfl fx.n_isinstance rfl fx.n_tuple boot_tuple (by decide) rfl (so (pv 0 rfl (.inl rfl) rfl rfl)) rfl rfl rfl rfl) fun _ => rfl)) (pw_orD (pt_cmp2 (op_neD hr.units) od_ne (xo (pe_callBD call_len od_len rfl fx.n_len boot_len (pa_o_cons (so (pv 0 rfl (.inl rfl) rfl rfl)) pa_o_nil rfl) (by decide) rfl rfl rfl)) (xo pe_cInt) (nomark _)) (pw_or1 (pt_notD (pt_val (pe_callN E_is_share rfl (hr.mono (by decide)) rfl g.tk (pa_o_cons (xo (pe_idx (ix_all (hu_of hr)) od_idx (so (pv 0 rfl (.inl rfl) rfl rfl)) (xo pe_cInt) fun _ _ => rfl)) pa_o_nil rfl) (by decide) rfl rfl rfl rfl) fun _ => rfl)))))) (pss_consD (ps_retD pe_cBl)
    pss_nilD) pss_nilD)
    (pss_consD (ps_retD (pe_andD (pe_callN E_are_numbers rfl (hr.mono (by decide)) rfl g.tk (pa_o_cons (xo (pe_idx (ix_all (hu_of hr)) od_idx (so (pv 0 rfl (.inl rfl) rfl rfl)) (xo pe_cInt) fun _ _ => rfl)) (pa_o_cons (xo (pe_eVar (pv 1 rfl (.inl rfl) rfl rfl))) (pa_o_cons (xo (pe_bin op_sub od_sub (so (pv 1 rfl (.inl rfl) rfl rfl)) (xo pe_cInt))) pa_o_nil rfl) rfl) rfl) (by decide) rfl rfl rfl rfl) (pe_one (pe_cmp2 (op_eqD hr.units) od_eq (xo (pe_callBD call_len od_len rfl fx.n_len boot_len (pa_o_cons (xo (pe_idx (ix_all (hu_of hr)) od_idx (so (pv 0 rfl (.inl rfl) rfl rfl)) (xo pe_cInt) fun _ _ => rfl)) pa_o_nil rfl) (by decide) rfl rfl rfl)) (so (pv 1 rfl (.inl rfl) rfl rfl)) (nomark _)))))
    pss_nilD))
theorem sc_fraction : FnScope ["top", "bottom", "by"] ["top", "bottom"] (defScope (top 13)) := ⟨rfl, rfl, rfl, by decide +kernel, rfl, by decide +kernel, by decide +kernel⟩
theorem ok_fraction (Wh : Whole P base) (F : FunD K "fraction" "fraction" (defArgs (top 13)) (defBody (top 13)) (defScope (top 13)) [] [] f fd) (fx : Fx K mg cm) (hmg : mg "fraction" = some (.ref f)) (E_divisor_of : Ent P w K mg base cm 37 "divisor_of" 2 m_divisor_of) : Ent P w K mg base cm 38 "fraction" 2 m_fraction := by
  refine ⟨f, fd, ["top", "bottom"], ?_, hmg, F.kp, F.bindsN fun _ _ _ _ _ _ us hl => match us, hl with | [_, _], _ => rfl⟩
  · refine ok_def (b := b_fraction) (io := []) (np := 2) (nl := 1) (k := 37) Wh (by decide) F sc_fraction rfl rfl fun cdv A outer s H vs E hl hr g => ?_
    exact (pss_consD (ps_ifD (pt_cmp2 op_lt od_cmp (so (pv 1 rfl (.inl rfl) rfl rfl)) (xo pe_cInt) (nomark _)) (pss_consD (ps_par2D rfl sc_fraction.nd rfl rfl (by decide) rfl rfl (pe_un1 un_neg od_neg (so (pv 0 rfl (.inl rfl) rfl rfl))) (pe_un1 un_neg od_neg (so (pv 1 rfl (.inl rfl) rfl rfl))) rfl rfl rfl rfl (fxl_io rfl))
    pss_nilD) pss_nilD)
    (pss_consD (ps_setD sc_fraction.nd rfl (.inl rfl) (pe_callN E_divisor_of rfl (hr.mono (by decide)) rfl g.tk (pa_o_cons (xo (pe_eVar (pv 0 rfl (.inl rfl) rfl rfl))) (pa_o_cons (xo (pe_eVar (pv 1 rfl (.inl rfl) rfl rfl))) pa_o_nil rfl) rfl) (by decide) rfl rfl rfl rfl) rfl (.inl rfl) (fx_io rfl))
    (pss_consD (ps_retD (pe_tupD (pa_o_cons (xo (pe_bin (op_fdivS g.hard) od_div (so (pv 0 rfl (.inl rfl) rfl rfl)) (so (pv 2 rfl (.inl rfl) rfl rfl)))) (pa_o_cons (xo (pe_bin (op_fdivS g.hard) od_div (so (pv 1 rfl (.inl rfl) rfl rfl)) (so (pv 2 rfl (.inl rfl) rfl rfl)))) pa_o_nil rfl) rfl)))
    pss_nilD)))
theorem sc_plus : FnScope ["one", "other"] ["one", "other"] (defScope (top 15)) := ⟨rfl, rfl, rfl, by decide +kernel, rfl, by decide +kernel, by decide +kernel⟩
theorem ok_plus (Wh : Whole P base) (F : FunD K "plus" "plus" (defArgs (top 15)) (defBody (top 15)) (defScope (top 15)) [] [] f fd) (fx : Fx K mg cm) (hmg : mg "plus" = some (.ref f)) (E_fraction : Ent P w K mg base cm 38 "fraction" 2 m_fraction) : Ent P w K mg base cm 39 "plus" 2 m_plus := by
  refine ⟨f, fd, ["one", "other"], ?_, hmg, F.kp, F.bindsN fun _ _ _ _ _ _ us hl => match us, hl with | [_, _], _ => rfl⟩
  · refine ok_def (b := b_plus) (io := []) (np := 2) (nl := 0) (k := 38) Wh (by decide) F sc_plus rfl rfl fun cdv A outer s H vs E hl hr g => ?_
    exact (pss_consD (ps_retD (pe_callN E_fraction rfl (hr.mono (by decide)) rfl g.tk (pa_o_cons (xo (pe_bin op_add4 od_add (xo (pe_bin op_mul3 od_mul (xo (pe_idx (ix_all (hu_of hr)) od_idx (so (pv 0 rfl (.inl rfl) rfl rfl)) (xo pe_cInt) fun _ _ => rfl)) (xo (pe_idx (ix_all (hu_of hr)) od_idx (so (pv 1 rfl (.inl rfl) rfl rfl)) (xo pe_cInt) fun _ _ => rfl)))) (xo (pe_bin op_mul3 od_mul (xo (pe_idx (ix_all (hu_of hr)) od_idx (so (pv 1 rfl (.inl rfl) rfl rfl)) (xo pe_cInt) fun _ _ => rfl)) (xo (pe_idx (ix_all (hu_of hr)) od_idx (so (pv 0 rfl (.inl rfl) rfl rfl)) (xo pe_cInt) fun _ _ => rfl)))))) (pa_o_cons (xo (pe_bin op_mul3 od_mul (xo (pe_idx (ix_all (hu_of hr)) od_idx (so (pv 0 rfl (.inl rfl) rfl rfl)) (xo pe_cInt) fun _ _ => rfl)) (xo (pe_idx (ix_all (hu_of hr)) od_idx (so (pv 1 rfl (.inl rfl) rfl rfl)) (xo pe_cInt) fun _ _ => rfl)))) pa_o_nil rfl) rfl) (by decide) rfl rfl rfl rfl))
    pss_nilD)
theorem sc_sum_of : FnScope ["numbers", "found", "number"] ["numbers"] (defScope (top 17)) := ⟨rfl, rfl, rfl, by decide +kernel, rfl, by decide +kernel, by decide +kernel⟩
theorem ok_sum_of (Wh : Whole P base) (F : FunD K "sum_of" "sum_of" (defArgs (top 17)) (defBody (top 17)) (defScope (top 17)) [] [] f fd) (fx : Fx K mg cm) (hmg : mg "sum_of" = some (.ref f)) (E_plus : Ent P w K mg base cm 39 "plus" 2 m_plus) : Ent P w K mg base cm 40 "sum_of" 1 m_sum_of := by
  refine ⟨f, fd, ["numbers"], ?_, hmg, F.kp, F.bindsN fun _ _ _ _ _ _ us hl => match us, hl with | [_], _ => rfl⟩
  · refine ok_def (b := b_sum_of) (io := []) (np := 1) (nl := 2) (k := 39) Wh (by decide) F sc_sum_of rfl rfl fun cdv A outer s H vs E hl hr g => ?_
    exact (pss_consD (ps_setD sc_sum_of.nd rfl (.inl rfl) (pe_tupC fx.c_ZERO rfl rfl rfl) rfl (.inl rfl) (fx_io rfl))
    (pss_consD (ps_forD (t := .nm 2) g.po rfl (pi_seqD rfl (pe_eVar (pv 0 rfl (.inl rfl) rfl rfl))) (pg_name sc_sum_of.nd rfl (.inl rfl) (.inl rfl)) (free_io rfl) (pss_consD (ps_setD sc_sum_of.nd rfl (.inl rfl) (pe_callN E_plus rfl (hr.mono (by decide)) rfl g.tk (pa_o_cons (xo (pe_eVar (pv 1 rfl (.inl rfl) rfl rfl))) (pa_o_cons (xo (pe_eVar (pv 2 rfl (.inl rfl) rfl rfl))) pa_o_nil rfl) rfl) (by decide) rfl rfl rfl rfl) rfl (.inl rfl) (fx_io rfl))
    pss_nilD) fun _ => rfl)
    (pss_consD (ps_retD (pe_eVar (pv 1 rfl (.inl rfl) rfl rfl)))
    pss_nilD)))
theorem sc_System__init_ : FnScope ["self", "many", "moves", "number", "move", "share", "leads"] ["self", "many", "moves"] (defScope (cls (top 24) 0)) := ⟨rfl, rfl, rfl, by decide +kernel, rfl, by decide +kernel, by decide +kernel⟩
theorem ok_System__init_ (Wh : Whole P base) (F : FunD K "__init__" "System.__init__" (defArgs (cls (top 24) 0)) (defBody (cls (top 24) 0)) (defScope (cls (top 24) 0)) [] [] f fd) (fx : Fx K mg cm) (hM : Mk K (cm "System") f) (hmg : mg "System" = some (.ref (cm "System"))) (E_is_move : Ent P w K mg base cm 40 "is_move" 2 m_is_move) (E_is_within : Ent P w K mg base cm 38 "is_within" 3 m_is_within) (E_sum_of : Ent P w K mg base cm 40 "sum_of" 1 m_sum_of) : EntI P w K mg base cm 41 "System" 3 m_System__init_ := by
  refine ⟨f, fd, ["self", "many", "moves"], ?_, hM, hmg, F.bindsN fun _ _ _ _ _ _ us hl => match us, hl with | [_, _, _], _ => rfl⟩
  · refine ok_def (b := b_System__init_) (io := [0]) (np := 3) (nl := 4) (k := 40) Wh (by decide) F sc_System__init_ rfl rfl fun cdv A outer s H vs E hl hr g => ?_
    exact (pss_consD (ps_ifD (pt_notD (pt_val (pe_callN E_is_within rfl (hr.mono (by decide)) rfl g.tk (pa_o_cons (xo (pe_eVar (pv 1 rfl (.inl rfl) rfl rfl))) (pa_o_cons (xo pe_cInt) (pa_o_cons (xo (pe_intC fx.c_MOST_STATES rfl rfl)) pa_o_nil rfl) rfl) rfl) (by decide) rfl rfl rfl rfl) fun _ => rfl)) (pss_consD ps_badD
    pss_nilD) pss_nilD)
    (pss_consD (ps_ifD (PW.pt (pw_orD (pt_notD (pt_val (pe_isiD rfl fx.n_isinstance rfl fx.n_tuple boot_tuple (by decide) rfl (so (pv 2 rfl (.inl rfl) rfl rfl)) rfl rfl rfl rfl) fun _ => rfl)) (pw_or1 (pt_notD (pt_chainD op_le op_le od_cmp od_cmp (xo pe_cInt) (xo (pe_callBD call_len od_len rfl fx.n_len boot_len (pa_o_cons (so (pv 2 rfl (.inl rfl) rfl rfl)) pa_o_nil rfl) (by decide) rfl rfl rfl)) (xo (pe_intC fx.c_MOST_MOVES rfl rfl)) rfl))))) (pss_consD ps_badD
    pss_nilD) pss_nilD)
    (pss_consD (ps_forD (t := .tup [.nm 3, .nm 4]) g.po rfl (pi_enumD rfl rfl fx.n_enumerate (pe_eVar (pv 2 rfl (.inl rfl) rfl rfl)) rfl) (pg_tup rfl (pgs_cons (pg_name sc_System__init_.nd rfl (.inl rfl) (.inl rfl)) (pgs_cons (pg_name sc_System__init_.nd rfl (.inl rfl) (.inl rfl)) pgs_nil rfl) rfl) rfl rfl) (free_io rfl) (pss_consD (ps_ifD (pt_notD (pt_val (pe_callN E_is_move rfl (hr.mono (by decide)) rfl g.tk (pa_o_cons (xo (pe_eVar (pv 4 rfl (.inl rfl) rfl rfl))) (pa_o_cons (xo (pe_eVar (pv 1 rfl (.inl rfl) rfl rfl))) pa_o_nil rfl) rfl) (by decide) rfl rfl rfl rfl) fun _ => rfl)) (pss_consD ps_badD
    pss_nilD) pss_nilD)
    pss_nilD) fun _ => rfl)
    (pss_consD (ps_ifD (pt_cmp2 (op_neD hr.units) od_ne (xo (pe_callN E_sum_of rfl (hr.mono (by decide)) rfl g.tk (pa_o_cons (xo (pe_lcE (own := [("share", 5), ("leads", 6)]) (t := .tup [.nm 5, .nm 6]) (c := none) rfl sc_System__init_.nd (pi_seqD rfl (pe_eVar (pv 2 rfl (.inl rfl) rfl rfl))) rfl (fun _ _ _ _ _ => (pg_tup rfl (pgs_cons (pg_name sc_System__init_.nd rfl (.inl rfl) (.inr rfl)) (pgs_cons (pg_name sc_System__init_.nd rfl (.inl rfl) (.inr rfl)) pgs_nil rfl) rfl) rfl rfl)) (fun _ _ _ _ _ => pts_nil) (fun _ _ _ _ _ => (pe_eVar (pv 5 rfl (.inl rfl) rfl rfl))) (fun _ => rfl) (by decide) (by decide) (fxs_io rfl))) pa_o_nil rfl) (by decide) rfl rfl rfl rfl)) (xo (pe_tupC fx.c_ONE rfl rfl rfl)) (nomark _)) (pss_consD ps_badD
    pss_nilD) pss_nilD)
    (pss_consD (ps_fldD rfl fx.k_System fx.f_System_many (pv 0 rfl (.inl rfl) rfl rfl) (pe_eVar (pv 1 rfl (.inl rfl) rfl rfl)) rfl)
    (pss_consD (ps_fldD rfl fx.k_System fx.f_System_moves (pv 0 rfl (.inl rfl) rfl rfl) (pe_eVar (pv 2 rfl (.inl rfl) rfl rfl)) rfl)
    pss_nilD))))))
theorem sc_System__eq_ : FnScope ["self", "other"] ["self", "other"] (defScope (cls (top 24) 1)) := ⟨rfl, rfl, rfl, by decide +kernel, rfl, by decide +kernel, by decide +kernel⟩
theorem ok_System__eq_ (Wh : Whole P base) (F : FunD K "__eq__" "System.__eq__" (defArgs (cls (top 24) 1)) (defBody (cls (top 24) 1)) (defScope (cls (top 24) 1)) [] [] f fd) (fx : Fx K mg cm) (hM : Meth K (cm "System") "__eq__" f) : EntQ P w K mg base cm 37 "System" m_System__eq_ := by
  refine ⟨f, fd, ["self", "other"], ?_, hM.at_, hM.fn, F.bindsN fun _ _ _ _ _ _ us hl => match us, hl with | [_, _], _ => rfl⟩
  · refine ok_def (b := b_System__eq_) (io := []) (np := 2) (nl := 0) (k := 36) Wh (by decide) F sc_System__eq_ rfl rfl fun cdv A outer s H vs E hl hr g => ?_
    exact (pss_consD (ps_retD (pe_andD (pe_isiC rfl fx.n_isinstance rfl fx.g_System fx.t_System rfl (so (pv 1 rfl (.inl rfl) rfl rfl)) rfl rfl rfl rfl) (pe_andD (pe_cmp2 (op_eqD hr.units) od_eq (xo (pe_fldD rfl fx.k_System fx.f_System_many (so (pv 0 rfl (.inl rfl) rfl rfl)) rfl)) (xo (pe_fldD rfl fx.k_System fx.f_System_many (so (pv 1 rfl (.inl rfl) rfl rfl)) rfl)) (nomark _)) (pe_one (pe_cmp2 (op_eqD hr.units) od_eq (xo (pe_fldD rfl fx.k_System fx.f_System_moves (so (pv 0 rfl (.inl rfl) rfl rfl)) rfl)) (xo (pe_fldD rfl fx.k_System fx.f_System_moves (so (pv 1 rfl (.inl rfl) rfl rfl)) rfl)) (nomark _))))))
    pss_nilD)
theorem sc__law_draw : FnScope ["_law_hand_here", "_law_many", "_law_cell", "_law_digit", "_law_number"] ["_law_hand_here", "_law_many"] (defScope (top 35)) := ⟨rfl, rfl, rfl, by decide +kernel, rfl, by decide +kernel, by decide +kernel⟩
theorem ok__law_draw (Wh : Whole P base) (F : FunD K "_law_draw" "_law_draw" (defArgs (top 35)) (defBody (top 35)) (defScope (top 35)) [] [] f fd) (fx : Fx K mg cm) (hmg : mg "_law_draw" = some (.ref f)) : Ent P w K mg base cm 37 "_law_draw" 2 m__law_draw := by
  refine ⟨f, fd, ["_law_hand_here", "_law_many"], ?_, hmg, F.kp, F.bindsN fun _ _ _ _ _ _ us hl => match us, hl with | [_, _], _ => rfl⟩
  · refine ok_def (b := b__law_draw) (io := [0]) (np := 2) (nl := 3) (k := 36) Wh (by decide) F sc__law_draw rfl rfl fun cdv A outer s H vs E hl hr g => ?_
    exact (pss_consD (ps_ifD (PW.pt (pw_andD (pt_cmp2 (op_eqD hr.units) od_eq (xo (pe_idx (ix_all (hu_of hr)) od_idx (so (pv 0 rfl (.inl rfl) rfl rfl)) (xo pe_cStr) fun _ _ => rfl)) (xo pe_cInt) (nomark _)) (pw_and1 (pt_cmp2 op_lt od_cmp (xo (pe_idx (ix_all (hu_of hr)) od_idx (so (pv 0 rfl (.inl rfl) rfl rfl)) (xo pe_cStr) fun _ _ => rfl)) (xo (pe_callBD call_len od_len rfl fx.n_len boot_len (pa_o_cons (xo (pe_idx (ix_all (hu_of hr)) od_idx (so (pv 0 rfl (.inl rfl) rfl rfl)) (xo pe_cStr) fun _ _ => rfl)) pa_o_nil rfl) (by decide) rfl rfl rfl)) (nomark _))))) (pss_consD (ps_setD sc__law_draw.nd rfl (.inl rfl) (pe_idx (ix_all (hu_of hr)) od_idx (xo (pe_idx (ix_all (hu_of hr)) od_idx (so (pv 0 rfl (.inl rfl) rfl rfl)) (xo pe_cStr) fun _ _ => rfl)) (xo (pe_idx (ix_all (hu_of hr)) od_idx (so (pv 0 rfl (.inl rfl) rfl rfl)) (xo pe_cStr) fun _ _ => rfl)) fun _ _ => rfl) rfl (.inl rfl) (fx_io rfl))
    (pss_consD (ps_putD (hu_of hr) (pv 0 rfl (.inl rfl) rfl rfl) pe_cStr (pe_bin op_add4 od_add (xo (pe_idx (ix_all (hu_of hr)) od_idx (so (pv 0 rfl (.inl rfl) rfl rfl)) (xo pe_cStr) fun _ _ => rfl)) (xo pe_cInt)) (fun _ => rfl) rfl rfl rfl)
    (pss_consD (ps_putD (hu_of hr) (pv 0 rfl (.inl rfl) rfl rfl) pe_cStr (pe_bin op_mod od_mod (xo (pe_callTD call_int1 od_int rfl fx.n_int boot_int (pa_o_cons (xo (pe_bin op_add4 od_add (xo (pe_bin op_add4 od_add (xo (pe_bin op_mul3 od_mul (xo (pe_idx (ix_all (hu_of hr)) od_idx (so (pv 0 rfl (.inl rfl) rfl rfl)) (xo pe_cStr) fun _ _ => rfl)) (xo pe_cInt))) (so (pv 2 rfl (.inl rfl) rfl rfl)))) (xo pe_cInt))) pa_o_nil rfl) (by decide) rfl rfl rfl)) (xo pe_cInt)) (fun _ => rfl) rfl rfl rfl)
    (pss_consD (ps_ifD (pt_cmp2 op_ge od_cmp (so (pv 2 rfl (.inl rfl) rfl rfl)) (xo (pe_bin op_pow od_pow (xo pe_cInt) (xo pe_cInt))) (nomark _)) (pss_consD (ps_putD (hu_of hr) (pv 0 rfl (.inl rfl) rfl rfl) pe_cStr (pe_eVar (pv 2 rfl (.inl rfl) rfl rfl)) (fun _ => rfl) rfl rfl rfl)
    pss_nilD) pss_nilD)
    pss_nilD)))) pss_nilD)
    (pss_consD (ps_ifD (pt_cmp2 op_gt od_cmp (xo (pe_idx (ix_all (hu_of hr)) od_idx (so (pv 0 rfl (.inl rfl) rfl rfl)) (xo pe_cStr) fun _ _ => rfl)) (xo pe_cInt) (nomark _)) (pss_consD (ps_setD sc__law_draw.nd rfl (.inl rfl) (pe_bin op_mod od_mod (xo (pe_callTD call_int1 od_int rfl fx.n_int boot_int (pa_o_cons (xo (pe_idx (ix_all (hu_of hr)) od_idx (so (pv 0 rfl (.inl rfl) rfl rfl)) (xo pe_cStr) fun _ _ => rfl)) pa_o_nil rfl) (by decide) rfl rfl rfl)) (so (pv 1 rfl (.inl rfl) rfl rfl))) rfl (.inl rfl) (fx_io rfl))
    (pss_consD (ps_putD (hu_of hr) (pv 0 rfl (.inl rfl) rfl rfl) pe_cStr (pe_bin (op_fdivS g.hard) od_div (xo (pe_idx (ix_all (hu_of hr)) od_idx (so (pv 0 rfl (.inl rfl) rfl rfl)) (xo pe_cStr) fun _ _ => rfl)) (so (pv 1 rfl (.inl rfl) rfl rfl))) (fun _ => rfl) rfl rfl rfl)
    (pss_consD (ps_retD (pe_eVar (pv 3 rfl (.inl rfl) rfl rfl)))
    pss_nilD))) pss_nilD)
    (pss_consD (ps_putD (hu_of hr) (pv 0 rfl (.inl rfl) rfl rfl) pe_cStr (pe_bin op_add4 od_add (xo (pe_idx (ix_all (hu_of hr)) od_idx (so (pv 0 rfl (.inl rfl) rfl rfl)) (xo pe_cStr) fun _ _ => rfl)) (xo pe_cInt)) (fun _ => rfl) rfl rfl rfl)
    (pss_consD (ps_setD sc__law_draw.nd rfl (.inl rfl) (pe_bin op_mod od_mod (xo (pe_callTD call_int1 od_int rfl fx.n_int boot_int (pa_o_cons (xo (pe_bin op_mul3 od_mul (xo (pe_callTD call_int1 od_int rfl fx.n_int boot_int (pa_o_cons (xo (pe_bin op_add4 od_add (xo (pe_bin op_add4 od_add (xo (pe_idx (ix_all (hu_of hr)) od_idx (so (pv 0 rfl (.inl rfl) rfl rfl)) (xo pe_cStr) fun _ _ => rfl)) (xo pe_cInt))) (xo (pe_bin op_mul3 od_mul (xo pe_cInt) (xo (pe_idx (ix_all (hu_of hr)) od_idx (so (pv 0 rfl (.inl rfl) rfl rfl)) (xo pe_cStr) fun _ _ => rfl)))))) pa_o_nil rfl) (by decide) rfl rfl rfl)) (xo pe_cInt))) pa_o_nil rfl) (by decide) rfl rfl rfl)) (xo pe_cInt)) rfl (.inl rfl) (fx_io rfl))
    (pss_consD (ps_setD sc__law_draw.nd rfl (.inl rfl) (pe_bin op_mod od_mod (xo (pe_callTD call_int1 od_int rfl fx.n_int boot_int (pa_o_cons (xo (pe_bin op_mul3 od_mul (so (pv 4 rfl (.inl rfl) rfl rfl)) (xo (pe_bin op_add4 od_add (xo (pe_bin (op_fdivS g.hard) od_div (so (pv 4 rfl (.inl rfl) rfl rfl)) (xo pe_cInt))) (xo pe_cInt))))) pa_o_nil rfl) (by decide) rfl rfl rfl)) (xo pe_cInt)) rfl (.inl rfl) (fx_io rfl))
    (pss_consD (ps_setD sc__law_draw.nd rfl (.inl rfl) (pe_bin op_mod od_mod (xo (pe_callTD call_int1 od_int rfl fx.n_int boot_int (pa_o_cons (xo (pe_bin op_mul3 od_mul (so (pv 4 rfl (.inl rfl) rfl rfl)) (xo (pe_bin op_add4 od_add (xo (pe_bin (op_fdivS g.hard) od_div (so (pv 4 rfl (.inl rfl) rfl rfl)) (xo pe_cInt))) (xo pe_cInt))))) pa_o_nil rfl) (by decide) rfl rfl rfl)) (xo pe_cInt)) rfl (.inl rfl) (fx_io rfl))
    (pss_consD (ps_retD (pe_bin op_mod od_mod (xo (pe_callTD call_int1 od_int rfl fx.n_int boot_int (pa_o_cons (xo (pe_bin (op_fdivS g.hard) od_div (so (pv 4 rfl (.inl rfl) rfl rfl)) (xo pe_cInt))) pa_o_nil rfl) (by decide) rfl rfl rfl)) (so (pv 1 rfl (.inl rfl) rfl rfl))))
    pss_nilD)))))))
theorem sc__law_hand : FnScope ["_law_script", "_law_cells", "_law_cell"] ["_law_script"] (defScope (top 34)) := ⟨rfl, rfl, rfl, by decide +kernel, rfl, by decide +kernel, by decide +kernel⟩
theorem ok__law_hand (Wh : Whole P base) (F : FunD K "_law_hand" "_law_hand" (defArgs (top 34)) (defBody (top 34)) (defScope (top 34)) [] [] f fd) (fx : Fx K mg cm) (hmg : mg "_law_hand" = some (.ref f)) : Ent P w K mg base cm 37 "_law_hand" 1 m__law_hand := by
  refine ⟨f, fd, ["_law_script"], ?_, hmg, F.kp, F.bindsN fun _ _ _ _ _ _ us hl => match us, hl with | [_], _ => rfl⟩
  · refine ok_def (b := b__law_hand) (io := []) (np := 1) (nl := 2) (k := 36) Wh (by decide) F sc__law_hand rfl rfl fun cdv A outer s H vs E hl hr g => ?_
    exact (pss_consD (ps_setLcD (own := [("_law_cell", 2)]) (t := .nm 2) (c := none) rfl sc__law_hand.nd rfl rfl rfl (pi_seqD rfl (pe_slU rfl (so (pv 0 rfl (.inl rfl) rfl rfl)) (xo pe_cInt))) rfl (fun _ _ _ _ _ => (pg_name sc__law_hand.nd rfl (.inl rfl) (.inr rfl))) (fun _ _ _ _ _ => pts_nil) (fun _ _ _ _ _ => (pe_callBD call_abs od_abs rfl fx.n_abs boot_abs (pa_o_cons (xo (pe_callTD call_int1 od_int rfl fx.n_int boot_int (pa_o_cons (so (pv 2 rfl (.inl rfl) rfl rfl)) pa_o_nil rfl) (by decide) rfl rfl rfl)) pa_o_nil rfl) (by decide) rfl rfl rfl)) (fun _ => rfl) (by decide) (by decide) (fxs_io rfl) (fx_io rfl))
    (pss_consD (ps_retD (pe_dispE (pp_s (pe_eVar (pv 1 rfl (.inl rfl) rfl rfl)) (pp_s pe_cInt (pp_s pe_cInt (pp_s (pe_bin op_add4 od_add (xo pe_cInt) (xo (pe_callBD call_len od_len rfl fx.n_len boot_len (pa_o_cons (so (pv 1 rfl (.inl rfl) rfl rfl)) pa_o_nil rfl) (by decide) rfl rfl rfl))) (pp_s pe_cInt pp_nil))))) rfl rfl rfl (by decide) (by decide)))
    pss_nilD))
theorem sc__law_gone : FnScope ["_law_moves_here", "_law_row_here", "_law_state", "_law_move"] ["_law_moves_here", "_law_row_here", "_law_state"] (defScope (top 43)) := ⟨rfl, rfl, rfl, by decide +kernel, rfl, by decide +kernel, by decide +kernel⟩
theorem ok__law_gone (Wh : Whole P base) (F : FunD K "_law_gone" "_law_gone" (defArgs (top 43)) (defBody (top 43)) (defScope (top 43)) [] [] f fd) (fx : Fx K mg cm) (hmg : mg "_law_gone" = some (.ref f)) : Ent P w K mg base cm 37 "_law_gone" 3 m__law_gone := by
  refine ⟨f, fd, ["_law_moves_here", "_law_row_here", "_law_state"], ?_, hmg, F.kp, F.bindsN fun _ _ _ _ _ _ us hl => match us, hl with | [_, _, _], _ => rfl⟩
  · refine ok_def (b := b__law_gone) (io := []) (np := 3) (nl := 1) (k := 36) Wh (by decide) F sc__law_gone rfl rfl fun cdv A outer s H vs E hl hr g => ?_
    exact (pss_consD (ps_forD (t := .nm 3) g.po rfl (pi_seqD rfl (pe_eVar (pv 1 rfl (.inl rfl) rfl rfl))) (pg_name sc__law_gone.nd rfl (.inl rfl) (.inl rfl)) (free_io rfl) (pss_consD (ps_setD sc__law_gone.nd rfl (.inl rfl) (pe_idx (ix_all (hu_of hr)) od_idx (xo (pe_idx (ix_all (hu_of hr)) od_idx (xo (pe_idx (ix_all (hu_of hr)) od_idx (so (pv 0 rfl (.inl rfl) rfl rfl)) (so (pv 3 rfl (.inl rfl) rfl rfl)) fun _ _ => rfl)) (xo pe_cInt) fun _ _ => rfl)) (so (pv 2 rfl (.inl rfl) rfl rfl)) fun _ _ => rfl) rfl (.inl rfl) (fx_io rfl))
    pss_nilD) fun _ => rfl)
    (pss_consD (ps_retD (pe_eVar (pv 2 rfl (.inl rfl) rfl rfl)))
    pss_nilD))
theorem sc__law_any : FnScope ["_law_hand_here", "_law_things"] ["_law_hand_here", "_law_things"] (defScope (top 36)) := ⟨rfl, rfl, rfl, by decide +kernel, rfl, by decide +kernel, by decide +kernel⟩
theorem ok__law_any (Wh : Whole P base) (F : FunD K "_law_any" "_law_any" (defArgs (top 36)) (defBody (top 36)) (defScope (top 36)) [] [] f fd) (fx : Fx K mg cm) (hmg : mg "_law_any" = some (.ref f)) (E__law_draw : Ent P w K mg base cm 37 "_law_draw" 2 m__law_draw) : Ent P w K mg base cm 38 "_law_any" 2 m__law_any := by
  refine ⟨f, fd, ["_law_hand_here", "_law_things"], ?_, hmg, F.kp, F.bindsN fun _ _ _ _ _ _ us hl => match us, hl with | [_, _], _ => rfl⟩
  · refine ok_def (b := b__law_any) (io := [0]) (np := 2) (nl := 0) (k := 37) Wh (by decide) F sc__law_any rfl rfl fun cdv A outer s H vs E hl hr g => ?_
    exact (pss_consD (ps_retD (pe_idx (ix_all (hu_of hr)) od_idx (so (pv 1 rfl (.inl rfl) rfl rfl)) (xo (pe_callN E__law_draw rfl (hr.mono (by decide)) rfl g.tk (pa_o_cons (so (pv 0 rfl (.inl rfl) rfl rfl)) (pa_o_cons (xo (pe_callBD call_len od_len rfl fx.n_len boot_len (pa_o_cons (so (pv 1 rfl (.inl rfl) rfl rfl)) pa_o_nil rfl) (by decide) rfl rfl rfl)) pa_o_nil rfl) rfl) (by decide) rfl rfl rfl rfl)) fun _ _ => rfl))
    pss_nilD)
theorem sc__law_row : FnScope ["_law_hand_here", "_law_moves_here", "_law_size_here", "_law_kind", "_law_k"] ["_law_hand_here", "_law_moves_here"] (defScope (top 44)) := ⟨rfl, rfl, rfl, by decide +kernel, rfl, by decide +kernel, by decide +kernel⟩
theorem ok__law_row (Wh : Whole P base) (F : FunD K "_law_row" "_law_row" (defArgs (top 44)) (defBody (top 44)) (defScope (top 44)) [] [] f fd) (fx : Fx K mg cm) (hmg : mg "_law_row" = some (.ref f)) (E__law_any : Ent P w K mg base cm 38 "_law_any" 2 m__law_any) (E__law_draw : Ent P w K mg base cm 37 "_law_draw" 2 m__law_draw) : Ent P w K mg base cm 39 "_law_row" 2 m__law_row := by
  refine ⟨f, fd, ["_law_hand_here", "_law_moves_here"], ?_, hmg, F.kp, F.bindsN fun _ _ _ _ _ _ us hl => match us, hl with | [_, _], _ => rfl⟩
  · refine ok_def (b := b__law_row) (io := [0]) (np := 2) (nl := 3) (k := 38) Wh (by decide) F sc__law_row rfl rfl fun cdv A outer s H vs E hl hr g => ?_
    exact (pss_consD (ps_setD sc__law_row.nd rfl (.inl rfl) (pe_callN E__law_any rfl (hr.mono (by decide)) rfl g.tk (pa_o_cons (so (pv 0 rfl (.inr (.inl rfl)) rfl rfl)) (pa_o_cons (xo (pe_lstD (pa_o_cons (xo pe_cInt) (pa_o_cons (xo pe_cInt) (pa_o_cons (xo pe_cInt) (pa_o_cons (xo pe_cInt) (pa_o_cons (xo pe_cInt) (pa_o_cons (xo pe_cInt) (pa_o_cons (xo (pe_callN E__law_draw rfl (hr.mono (by decide)) rfl g.tk (pa_o_cons (so (pv 0 rfl (.inr (.inl rfl)) rfl rfl)) (pa_o_cons (xo pe_cInt) pa_o_nil rfl) rfl) (by decide) rfl rfl rfl rfl)) (pa_o_cons (xo (pe_ifD (pt_cmp2 (op_eqD hr.units) od_eq (xo (pe_callN E__law_draw rfl (hr.mono (by decide)) rfl g.tk (pa_o_cons (so (pv 0 rfl (.inr (.inl rfl)) rfl rfl)) (pa_o_cons (xo pe_cInt) pa_o_nil rfl) rfl) (by decide) rfl rfl rfl rfl)) (xo pe_cInt) (nomark _)) pe_cInt pe_cInt)) pa_o_nil rfl) rfl) rfl) rfl) rfl) rfl) rfl) rfl))) pa_o_nil rfl) rfl) (by decide) rfl rfl rfl rfl) rfl (.inl rfl) (fx_io rfl))
    (pss_consD (ps_setD sc__law_row.nd rfl (.inl rfl) (pe_callN E__law_draw rfl (hr.mono (by decide)) rfl g.tk (pa_o_cons (so (pv 0 rfl (.inr (.inl rfl)) rfl rfl)) (pa_o_cons (xo pe_cInt) pa_o_nil rfl) rfl) (by decide) rfl rfl rfl rfl) rfl (.inl rfl) (fx_io rfl))
    (pss_consD (ps_ifD (pt_cmp2 (op_eqD hr.units) od_eq (so (pv 3 rfl (.inl rfl) rfl rfl)) (xo pe_cInt) (nomark _)) (pss_consD (ps_retD (pe_bin op_repX od_mulX (xo (pe_tupXD (pa_o_cons (xo (pe_callN E__law_draw rfl (hr.mono (by decide)) rfl g.tk (pa_o_cons (so (pv 0 rfl (.inr (.inl rfl)) rfl rfl)) (pa_o_cons (xo (pe_callBD call_len od_len rfl fx.n_len boot_len (pa_o_cons (so (pv 1 rfl (.inr (.inl rfl)) rfl rfl)) pa_o_nil rfl) (by decide) rfl rfl rfl)) pa_o_nil rfl) rfl) (by decide) rfl rfl rfl rfl)) pa_o_nil rfl))) (so (pv 2 rfl (.inl rfl) rfl rfl))))
    pss_nilD) pss_nilD)
    (pss_consD (ps_ifD (pt_cmp2 (op_eqD hr.units) od_eq (so (pv 3 rfl (.inl rfl) rfl rfl)) (xo pe_cInt) (nomark _)) (pss_consD (ps_retD (pe_callTD call_tuple_ofX od_tupleX rfl fx.n_tuple boot_tuple (pa_o_cons (xo (pe_lcE (own := [("_law_k", 4)]) (t := .nm 4) (c := none) rfl sc__law_row.nd (pi_range1D rfl fx.n_range (pa_o_cons (so (pv 2 rfl (.inl rfl) rfl rfl)) pa_o_nil rfl) rfl) rfl (fun _ _ _ _ _ => (pg_name sc__law_row.nd rfl (.inl rfl) (.inr rfl))) (fun _ _ _ _ _ => pts_nil) (fun _ _ _ _ _ => (pe_bin op_mod od_mod (xo (pe_callTD call_int1 od_int rfl fx.n_int boot_int (pa_o_cons (so (pv 4 rfl (.inl rfl) rfl rfl)) pa_o_nil rfl) (by decide) rfl rfl rfl)) (xo (pe_callBD call_len od_len rfl fx.n_len boot_len (pa_o_cons (so (pv 1 rfl (.inr (.inl rfl)) rfl rfl)) pa_o_nil rfl) (by decide) rfl rfl rfl)))) (fun _ => rfl) (by decide) (by decide) (fxs_io rfl))) pa_o_nil rfl) (by decide) rfl rfl rfl))
    pss_nilD) pss_nilD)
    (pss_consD (ps_retD (pe_callTD call_tuple_ofX od_tupleX rfl fx.n_tuple boot_tuple (pa_o_cons (xo (pe_lcE (own := [("_law_k", 4)]) (t := .nm 4) (c := none) rfl sc__law_row.nd (pi_range1D rfl fx.n_range (pa_o_cons (so (pv 2 rfl (.inl rfl) rfl rfl)) pa_o_nil rfl) rfl) rfl (fun _ _ _ _ _ => (pg_name sc__law_row.nd rfl (.inl rfl) (.inr rfl))) (fun _ _ _ _ _ => pts_nil) (fun _ _ _ _ _ => (pe_callN E__law_draw rfl (hr.mono (by decide)) rfl takes0 (pa_o_cons (so (pv 0 rfl (.inr (.inl rfl)) rfl rfl)) (pa_o_cons (xo (pe_callBD call_len od_len rfl fx.n_len boot_len (pa_o_cons (so (pv 1 rfl (.inr (.inl rfl)) rfl rfl)) pa_o_nil rfl) (by decide) rfl rfl rfl)) pa_o_nil rfl) rfl) (by decide) rfl rfl rfl rfl)) (fun _ => rfl) (by decide) (by decide) (fxs_io rfl))) pa_o_nil rfl) (by decide) rfl rfl rfl))
    pss_nilD)))))
theorem sc__law_low : FnScope ["_law_top", "_law_bottom", "_law_one", "_law_other"] ["_law_top", "_law_bottom"] (defScope (top 37)) := ⟨rfl, rfl, rfl, by decide +kernel, rfl, by decide +kernel, by decide +kernel⟩
theorem ok__law_low (Wh : Whole P base) (F : FunD K "_law_low" "_law_low" (defArgs (top 37)) (defBody (top 37)) (defScope (top 37)) [] [] f fd) (fx : Fx K mg cm) (hmg : mg "_law_low" = some (.ref f)) : Ent P w K mg base cm 37 "_law_low" 2 m__law_low := by
  refine ⟨f, fd, ["_law_top", "_law_bottom"], ?_, hmg, F.kp, F.bindsN fun _ _ _ _ _ _ us hl => match us, hl with | [_, _], _ => rfl⟩
  · refine ok_def (b := b__law_low) (io := []) (np := 2) (nl := 2) (k := 36) Wh (by decide) F sc__law_low rfl rfl fun cdv A outer s H vs E hl hr g => ?_
    exact (pss_consD (ps_par2D rfl sc__law_low.nd rfl rfl (by decide) rfl rfl (pe_callBD call_abs od_abs rfl fx.n_abs boot_abs (pa_o_cons (so (pv 0 rfl (.inl rfl) rfl rfl)) pa_o_nil rfl) (by decide) rfl rfl rfl) (pe_eVar (pv 1 rfl (.inl rfl) rfl rfl)) rfl rfl rfl rfl (fxl_io rfl))
    (pss_consD (ps_whileD g.po (pt_cmp2 op_gt od_cmp (so (pv 3 rfl (.inl rfl) rfl rfl)) (xo pe_cInt) (nomark _)) (pss_consD (ps_par2D rfl sc__law_low.nd rfl rfl (by decide) rfl rfl (pe_eVar (pv 3 rfl (.inl rfl) rfl rfl)) (pe_bin op_mod od_mod (xo (pe_callTD call_int1 od_int rfl fx.n_int boot_int (pa_o_cons (so (pv 2 rfl (.inl rfl) rfl rfl)) pa_o_nil rfl) (by decide) rfl rfl rfl)) (so (pv 3 rfl (.inl rfl) rfl rfl))) rfl rfl rfl rfl (fxl_io rfl))
    pss_nilD))
    (pss_consD (ps_retD (pe_tupD (pa_o_cons (xo (pe_bin (op_fdivS g.hard) od_div (so (pv 0 rfl (.inl rfl) rfl rfl)) (so (pv 2 rfl (.inl rfl) rfl rfl)))) (pa_o_cons (xo (pe_bin (op_fdivS g.hard) od_div (so (pv 1 rfl (.inl rfl) rfl rfl)) (so (pv 2 rfl (.inl rfl) rfl rfl)))) pa_o_nil rfl) rfl)))
    pss_nilD)))
theorem sc__law_share : FnScope ["_law_moves_here", "_law_row_here", "_law_top", "_law_bottom", "_law_number", "_law_turn"] ["_law_moves_here", "_law_row_here"] (defScope (top 45)) := ⟨rfl, rfl, rfl, by decide +kernel, rfl, by decide +kernel, by decide +kernel⟩
theorem ok__law_share (Wh : Whole P base) (F : FunD K "_law_share" "_law_share" (defArgs (top 45)) (defBody (top 45)) (defScope (top 45)) [] [] f fd) (fx : Fx K mg cm) (hmg : mg "_law_share" = some (.ref f)) (E__law_low : Ent P w K mg base cm 37 "_law_low" 2 m__law_low) : Ent P w K mg base cm 38 "_law_share" 2 m__law_share := by
  refine ⟨f, fd, ["_law_moves_here", "_law_row_here"], ?_, hmg, F.kp, F.bindsN fun _ _ _ _ _ _ us hl => match us, hl with | [_, _], _ => rfl⟩
  · refine ok_def (b := b__law_share) (io := []) (np := 2) (nl := 4) (k := 37) Wh (by decide) F sc__law_share rfl rfl fun cdv A outer s H vs E hl hr g => ?_
    exact (pss_consD (ps_asgD (t := .tup [.nm 2, .nm 3]) (pe_tupD (pa_o_cons (xo pe_cInt) (pa_o_cons (xo pe_cInt) pa_o_nil rfl) rfl)) (pg_tup rfl (pgs_cons (pg_name sc__law_share.nd rfl (.inl rfl) (.inl rfl)) (pgs_cons (pg_name sc__law_share.nd rfl (.inl rfl) (.inl rfl)) pgs_nil rfl) rfl) rfl rfl) (free_io rfl) rfl rfl rfl)
    (pss_consD (ps_forD (t := .nm 4) g.po rfl (pi_range1D rfl fx.n_range (pa_o_cons (xo (pe_callBD call_len od_len rfl fx.n_len boot_len (pa_o_cons (so (pv 0 rfl (.inl rfl) rfl rfl)) pa_o_nil rfl) (by decide) rfl rfl rfl)) pa_o_nil rfl) rfl) (pg_name sc__law_share.nd rfl (.inl rfl) (.inl rfl)) (free_io rfl) (pss_consD (ps_forD (t := .nm 5) g.po rfl (pi_range1D rfl fx.n_range (pa_o_cons (xo (pe_countD (pv 1 rfl (.inl rfl) rfl rfl) (so (pv 4 rfl (.inl rfl) rfl rfl)) rfl rfl rfl rfl rfl)) pa_o_nil rfl) rfl) (pg_name sc__law_share.nd rfl (.inl rfl) (.inl rfl)) (free_io rfl) (pss_consD (ps_par2D rfl sc__law_share.nd rfl rfl (by decide) rfl rfl (pe_bin op_mul3 od_mul (so (pv 2 rfl (.inl rfl) rfl rfl)) (xo (pe_idx (ix_all (hu_of hr)) od_idx (xo (pe_idx (ix_all (hu_of hr)) od_idx (xo (pe_idx (ix_all (hu_of hr)) od_idx (so (pv 0 rfl (.inl rfl) rfl rfl)) (so (pv 4 rfl (.inl rfl) rfl rfl)) fun _ _ => rfl)) (xo pe_cInt) fun _ _ => rfl)) (xo pe_cInt) fun _ _ => rfl))) (pe_bin op_mul3 od_mul (so (pv 3 rfl (.inl rfl) rfl rfl)) (xo (pe_idx (ix_all (hu_of hr)) od_idx (xo (pe_idx (ix_all (hu_of hr)) od_idx (xo (pe_idx (ix_all (hu_of hr)) od_idx (so (pv 0 rfl (.inl rfl) rfl rfl)) (so (pv 4 rfl (.inl rfl) rfl rfl)) fun _ _ => rfl)) (xo pe_cInt) fun _ _ => rfl)) (xo pe_cInt) fun _ _ => rfl))) rfl rfl rfl rfl (fxl_io rfl))
    pss_nilD) fun _ => rfl)
    pss_nilD) fun _ => rfl)
    (pss_consD (ps_retD (pe_callN E__law_low rfl (hr.mono (by decide)) rfl g.tk (pa_o_cons (xo (pe_eVar (pv 2 rfl (.inl rfl) rfl rfl))) (pa_o_cons (xo (pe_eVar (pv 3 rfl (.inl rfl) rfl rfl))) pa_o_nil rfl) rfl) (by decide) rfl rfl rfl rfl))
    pss_nilD)))
theorem sc__law_times : FnScope ["_law_one", "_law_other"] ["_law_one", "_law_other"] (defScope (top 38)) := ⟨rfl, rfl, rfl, by decide +kernel, rfl, by decide +kernel, by decide +kernel⟩
theorem ok__law_times (Wh : Whole P base) (F : FunD K "_law_times" "_law_times" (defArgs (top 38)) (defBody (top 38)) (defScope (top 38)) [] [] f fd) (fx : Fx K mg cm) (hmg : mg "_law_times" = some (.ref f)) (E__law_low : Ent P w K mg base cm 37 "_law_low" 2 m__law_low) : Ent P w K mg base cm 38 "_law_times" 2 m__law_times := by
  refine ⟨f, fd, ["_law_one", "_law_other"], ?_, hmg, F.kp, F.bindsN fun _ _ _ _ _ _ us hl => match us, hl with | [_, _], _ => rfl⟩
  · refine ok_def (b := b__law_times) (io := []) (np := 2) (nl := 0) (k := 37) Wh (by decide) F sc__law_times rfl rfl fun cdv A outer s H vs E hl hr g => ?_
    exact (pss_consD (ps_retD (pe_callN E__law_low rfl (hr.mono (by decide)) rfl g.tk (pa_o_cons (xo (pe_bin op_mul3 od_mul (xo (pe_idx (ix_all (hu_of hr)) od_idx (so (pv 0 rfl (.inl rfl) rfl rfl)) (xo pe_cInt) fun _ _ => rfl)) (xo (pe_idx (ix_all (hu_of hr)) od_idx (so (pv 1 rfl (.inl rfl) rfl rfl)) (xo pe_cInt) fun _ _ => rfl)))) (pa_o_cons (xo (pe_bin op_mul3 od_mul (xo (pe_idx (ix_all (hu_of hr)) od_idx (so (pv 0 rfl (.inl rfl) rfl rfl)) (xo pe_cInt) fun _ _ => rfl)) (xo (pe_idx (ix_all (hu_of hr)) od_idx (so (pv 1 rfl (.inl rfl) rfl rfl)) (xo pe_cInt) fun _ _ => rfl)))) pa_o_nil rfl) rfl) (by decide) rfl rfl rfl rfl))
    pss_nilD)
theorem sc_all_behind : FnScope ["system", "row", "found", "move", "leads", "state"] ["system", "row"] (defScope (top 27)) := ⟨rfl, rfl, rfl, by decide +kernel, rfl, by decide +kernel, by decide +kernel⟩
theorem ok_all_behind (Wh : Whole P base) (F : FunD K "all_behind" "all_behind" (defArgs (top 27)) (defBody (top 27)) (defScope (top 27)) [] [] f fd) (fx : Fx K mg cm) (hmg : mg "all_behind" = some (.ref f)) : Ent P w K mg base cm 37 "all_behind" 2 m_all_behind := by
  refine ⟨f, fd, ["system", "row"], ?_, hmg, F.kp, F.bindsN fun _ _ _ _ _ _ us hl => match us, hl with | [_, _], _ => rfl⟩
  · refine ok_def (b := b_all_behind) (io := []) (np := 2) (nl := 4) (k := 36) Wh (by decide) F sc_all_behind rfl rfl fun cdv A outer s H vs E hl hr g => ?_
    exact (pss_consD (ps_setD sc_all_behind.nd rfl (.inl rfl) (pe_tupRg1 rfl rfl fx.n_tuple rfl fx.n_range (xo (pe_fldD rfl fx.k_System fx.f_System_many (so (pv 0 rfl (.inl rfl) rfl rfl)) rfl)) rfl rfl) rfl (.inl rfl) (fx_io rfl))
    (pss_consD (ps_forD (t := .nm 3) g.po rfl (pi_seqD rfl (pe_eVar (pv 1 rfl (.inl rfl) rfl rfl))) (pg_name sc_all_behind.nd rfl (.inl rfl) (.inl rfl)) (free_io rfl) (pss_consD (ps_setD sc_all_behind.nd rfl (.inr rfl) (pe_idx (ix_all (hu_of hr)) od_idx (xo (pe_idx (ix_all (hu_of hr)) od_idx (xo (pe_fldD rfl fx.k_System fx.f_System_moves (so (pv 0 rfl (.inl rfl) rfl rfl)) rfl)) (so (pv 3 rfl (.inl rfl) rfl rfl)) fun _ _ => rfl)) (xo pe_cInt) fun _ _ => rfl) rfl (.inl rfl) (fx_io rfl))
    (pss_consD (ps_setD sc_all_behind.nd rfl (.inl rfl) (pe_callTD call_tuple_of od_tuple rfl fx.n_tuple boot_tuple (pa_o_cons (xo (pe_lcE (own := [("state", 5)]) (t := .nm 5) (c := none) rfl sc_all_behind.nd (pi_seqD rfl (pe_eVar (pv 2 rfl (.inl rfl) rfl rfl))) rfl (fun _ _ _ _ _ => (pg_name sc_all_behind.nd rfl (.inl rfl) (.inr rfl))) (fun _ _ _ _ _ => pts_nil) (fun _ _ _ _ _ => (pe_idx (ix_all (hu_of hr)) od_idx (so (pv 4 rfl (.inr (.inl rfl)) rfl rfl)) (so (pv 5 rfl (.inl rfl) rfl rfl)) fun _ _ => rfl)) (fun _ => rfl) (by decide) (by decide) (fxs_io rfl))) pa_o_nil rfl) (by decide) rfl rfl rfl) rfl (.inl rfl) (fx_io rfl))
    pss_nilD)) fun _ => rfl)
    (pss_consD (ps_retD (pe_eVar (pv 2 rfl (.inl rfl) rfl rfl)))
    pss_nilD)))
theorem sc_check_row : FnScope ["system", "row"] ["system", "row"] (defScope (top 25)) := ⟨rfl, rfl, rfl, by decide +kernel, rfl, by decide +kernel, by decide +kernel⟩
theorem ok_check_row (Wh : Whole P base) (F : FunD K "check_row" "check_row" (defArgs (top 25)) (defBody (top 25)) (defScope (top 25)) [] [] f fd) (fx : Fx K mg cm) (hmg : mg "check_row" = some (.ref f)) (E_are_numbers : Ent P w K mg base cm 39 "are_numbers" 3 m_are_numbers) : Ent P w K mg base cm 40 "check_row" 2 m_check_row := by
  refine ⟨f, fd, ["system", "row"], ?_, hmg, F.kp, F.bindsN fun _ _ _ _ _ _ us hl => match us, hl with | [_, _], _ => rfl⟩
  · refine ok_def (b := b_check_row) (io := []) (np := 2) (nl := 0) (k := 39) Wh (by decide) F sc_check_row rfl rfl fun cdv A outer s H vs E hl hr g => ?_
    exact (pss_consD (ps_ifD (pt_notD (pt_val (pe_callN E_are_numbers rfl (hr.mono (by decide)) rfl g.tk (pa_o_cons (xo (pe_eVar (pv 1 rfl (.inl rfl) rfl rfl))) (pa_o_cons (xo (pe_intC fx.c_MOST_ROW rfl rfl)) (pa_o_cons (xo (pe_bin op_sub od_sub (xo (pe_callBD call_len od_len rfl fx.n_len boot_len (pa_o_cons (xo (pe_fldD rfl fx.k_System fx.f_System_moves (so (pv 0 rfl (.inl rfl) rfl rfl)) rfl)) pa_o_nil rfl) (by decide) rfl rfl rfl)) (xo pe_cInt))) pa_o_nil rfl) rfl) rfl) (by decide) rfl rfl rfl rfl) fun _ => rfl)) (pss_consD ps_badD
    pss_nilD) pss_nilD)
    pss_nilD)
theorem sc_check_state : FnScope ["system", "state"] ["system", "state"] (defScope (top 26)) := ⟨rfl, rfl, rfl, by decide +kernel, rfl, by decide +kernel, by decide +kernel⟩
theorem ok_check_state (Wh : Whole P base) (F : FunD K "check_state" "check_state" (defArgs (top 26)) (defBody (top 26)) (defScope (top 26)) [] [] f fd) (fx : Fx K mg cm) (hmg : mg "check_state" = some (.ref f)) (E_is_within : Ent P w K mg base cm 38 "is_within" 3 m_is_within) : Ent P w K mg base cm 39 "check_state" 2 m_check_state := by
  refine ⟨f, fd, ["system", "state"], ?_, hmg, F.kp, F.bindsN fun _ _ _ _ _ _ us hl => match us, hl with | [_, _], _ => rfl⟩
  · refine ok_def (b := b_check_state) (io := []) (np := 2) (nl := 0) (k := 38) Wh (by decide) F sc_check_state rfl rfl fun cdv A outer s H vs E hl hr g => ?_
    exact (pss_consD (ps_ifD (pt_notD (pt_val (pe_callN E_is_within rfl (hr.mono (by decide)) rfl g.tk (pa_o_cons (xo (pe_eVar (pv 1 rfl (.inl rfl) rfl rfl))) (pa_o_cons (xo pe_cInt) (pa_o_cons (xo (pe_bin op_sub od_sub (xo (pe_fldD rfl fx.k_System fx.f_System_many (so (pv 0 rfl (.inl rfl) rfl rfl)) rfl)) (xo pe_cInt))) pa_o_nil rfl) rfl) rfl) (by decide) rfl rfl rfl rfl) fun _ => rfl)) (pss_consD ps_badD
    pss_nilD) pss_nilD)
    pss_nilD)
theorem sc_led : FnScope ["system", "row", "state"] ["system", "row", "state"] (defScope (top 29)) := ⟨rfl, rfl, rfl, by decide +kernel, rfl, by decide +kernel, by decide +kernel⟩
theorem ok_led (Wh : Whole P base) (F : FunD K "led" "led" (defArgs (top 29)) (defBody (top 29)) (defScope (top 29)) [] [] f fd) (fx : Fx K mg cm) (hmg : mg "led" = some (.ref f)) (E_all_behind : Ent P w K mg base cm 37 "all_behind" 2 m_all_behind) (E_check_row : Ent P w K mg base cm 40 "check_row" 2 m_check_row) (E_check_state : Ent P w K mg base cm 39 "check_state" 2 m_check_state) : Ent P w K mg base cm 41 "led" 3 m_led := by
  refine ⟨f, fd, ["system", "row", "state"], ?_, hmg, F.kp, F.bindsN fun _ _ _ _ _ _ us hl => match us, hl with | [_, _, _], _ => rfl⟩
  · refine ok_def (b := b_led) (io := []) (np := 3) (nl := 0) (k := 40) Wh (by decide) F sc_led rfl rfl fun cdv A outer s H vs E hl hr g => ?_
    exact (pss_consD (ps_exprD (pe_callN E_check_row rfl (hr.mono (by decide)) rfl g.tk (pa_o_cons (xo (pe_eVar (pv 0 rfl (.inl rfl) rfl rfl))) (pa_o_cons (xo (pe_eVar (pv 1 rfl (.inl rfl) rfl rfl))) pa_o_nil rfl) rfl) (by decide) rfl rfl rfl rfl) rfl)
    (pss_consD (ps_exprD (pe_callN E_check_state rfl (hr.mono (by decide)) rfl g.tk (pa_o_cons (xo (pe_eVar (pv 0 rfl (.inl rfl) rfl rfl))) (pa_o_cons (xo (pe_eVar (pv 2 rfl (.inl rfl) rfl rfl))) pa_o_nil rfl) rfl) (by decide) rfl rfl rfl rfl) rfl)
    (pss_consD (ps_retD (pe_idx (ix_all (hu_of hr)) od_idx (xo (pe_callN E_all_behind rfl (hr.mono (by decide)) rfl g.tk (pa_o_cons (xo (pe_eVar (pv 0 rfl (.inl rfl) rfl rfl))) (pa_o_cons (xo (pe_eVar (pv 1 rfl (.inl rfl) rfl rfl))) pa_o_nil rfl) rfl) (by decide) rfl rfl rfl rfl)) (so (pv 2 rfl (.inl rfl) rfl rfl)) fun _ _ => rfl))
    pss_nilD)))
theorem sc_led_all : FnScope ["system", "row"] ["system", "row"] (defScope (top 28)) := ⟨rfl, rfl, rfl, by decide +kernel, rfl, by decide +kernel, by decide +kernel⟩
theorem ok_led_all (Wh : Whole P base) (F : FunD K "led_all" "led_all" (defArgs (top 28)) (defBody (top 28)) (defScope (top 28)) [] [] f fd) (fx : Fx K mg cm) (hmg : mg "led_all" = some (.ref f)) (E_all_behind : Ent P w K mg base cm 37 "all_behind" 2 m_all_behind) (E_check_row : Ent P w K mg base cm 40 "check_row" 2 m_check_row) : Ent P w K mg base cm 41 "led_all" 2 m_led_all := by
  refine ⟨f, fd, ["system", "row"], ?_, hmg, F.kp, F.bindsN fun _ _ _ _ _ _ us hl => match us, hl with | [_, _], _ => rfl⟩
  · refine ok_def (b := b_led_all) (io := []) (np := 2) (nl := 0) (k := 40) Wh (by decide) F sc_led_all rfl rfl fun cdv A outer s H vs E hl hr g => ?_
    exact (pss_consD (ps_exprD (pe_callN E_check_row rfl (hr.mono (by decide)) rfl g.tk (pa_o_cons (xo (pe_eVar (pv 0 rfl (.inl rfl) rfl rfl))) (pa_o_cons (xo (pe_eVar (pv 1 rfl (.inl rfl) rfl rfl))) pa_o_nil rfl) rfl) (by decide) rfl rfl rfl rfl) rfl)
    (pss_consD (ps_retD (pe_callN E_all_behind rfl (hr.mono (by decide)) rfl g.tk (pa_o_cons (xo (pe_eVar (pv 0 rfl (.inl rfl) rfl rfl))) (pa_o_cons (xo (pe_eVar (pv 1 rfl (.inl rfl) rfl rfl))) pa_o_nil rfl) rfl) (by decide) rfl rfl rfl rfl))
    pss_nilD))
theorem sc_lot_of : FnScope ["states"] ["states"] (defScope (top 30)) := ⟨rfl, rfl, rfl, by decide +kernel, rfl, by decide +kernel, by decide +kernel⟩
theorem ok_lot_of (Wh : Whole P base) (F : FunD K "lot_of" "lot_of" (defArgs (top 30)) (defBody (top 30)) (defScope (top 30)) [] [] f fd) (fx : Fx K mg cm) (hmg : mg "lot_of" = some (.ref f)) : Ent P w K mg base cm 37 "lot_of" 1 m_lot_of := by
  refine ⟨f, fd, ["states"], ?_, hmg, F.kp, F.bindsN fun _ _ _ _ _ _ us hl => match us, hl with | [_], _ => rfl⟩
  · refine ok_def (b := b_lot_of) (io := []) (np := 1) (nl := 0) (k := 36) Wh (by decide) F sc_lot_of rfl rfl fun cdv A outer s H vs E hl hr g => ?_
    exact (pss_consD (ps_retD (pe_callTD call_tuple_of od_tuple rfl fx.n_tuple boot_tuple (pa_o_cons (xo (pe_setD rfl rfl (cr_sortedSet rfl) od_sortSet rfl fx.n_sorted boot_sorted rfl fx.n_set (pa_o_cons (so (pv 0 rfl (.inl rfl) rfl rfl)) pa_o_nil rfl) (by decide) rfl rfl rfl)) pa_o_nil rfl) (by decide) rfl rfl rfl))
    pss_nilD)
theorem sc_lot_behind : FnScope ["system", "row"] ["system", "row"] (defScope (top 31)) := ⟨rfl, rfl, rfl, by decide +kernel, rfl, by decide +kernel, by decide +kernel⟩
theorem ok_lot_behind (Wh : Whole P base) (F : FunD K "lot_behind" "lot_behind" (defArgs (top 31)) (defBody (top 31)) (defScope (top 31)) [] [] f fd) (fx : Fx K mg cm) (hmg : mg "lot_behind" = some (.ref f)) (E_all_behind : Ent P w K mg base cm 37 "all_behind" 2 m_all_behind) (E_check_row : Ent P w K mg base cm 40 "check_row" 2 m_check_row) (E_lot_of : Ent P w K mg base cm 37 "lot_of" 1 m_lot_of) : Ent P w K mg base cm 41 "lot_behind" 2 m_lot_behind := by
  refine ⟨f, fd, ["system", "row"], ?_, hmg, F.kp, F.bindsN fun _ _ _ _ _ _ us hl => match us, hl with | [_, _], _ => rfl⟩
  · refine ok_def (b := b_lot_behind) (io := []) (np := 2) (nl := 0) (k := 40) Wh (by decide) F sc_lot_behind rfl rfl fun cdv A outer s H vs E hl hr g => ?_
    exact (pss_consD (ps_exprD (pe_callN E_check_row rfl (hr.mono (by decide)) rfl g.tk (pa_o_cons (xo (pe_eVar (pv 0 rfl (.inl rfl) rfl rfl))) (pa_o_cons (xo (pe_eVar (pv 1 rfl (.inl rfl) rfl rfl))) pa_o_nil rfl) rfl) (by decide) rfl rfl rfl rfl) rfl)
    (pss_consD (ps_retD (pe_callN E_lot_of rfl (hr.mono (by decide)) rfl g.tk (pa_o_cons (xo (pe_callN E_all_behind rfl (hr.mono (by decide)) rfl g.tk (pa_o_cons (xo (pe_eVar (pv 0 rfl (.inl rfl) rfl rfl))) (pa_o_cons (xo (pe_eVar (pv 1 rfl (.inl rfl) rfl rfl))) pa_o_nil rfl) rfl) (by decide) rfl rfl rfl rfl)) pa_o_nil rfl) (by decide) rfl rfl rfl rfl))
    pss_nilD))
theorem sc_times : FnScope ["one", "other"] ["one", "other"] (defScope (top 16)) := ⟨rfl, rfl, rfl, by decide +kernel, rfl, by decide +kernel, by decide +kernel⟩
theorem ok_times (Wh : Whole P base) (F : FunD K "times" "times" (defArgs (top 16)) (defBody (top 16)) (defScope (top 16)) [] [] f fd) (fx : Fx K mg cm) (hmg : mg "times" = some (.ref f)) (E_fraction : Ent P w K mg base cm 38 "fraction" 2 m_fraction) : Ent P w K mg base cm 39 "times" 2 m_times := by
  refine ⟨f, fd, ["one", "other"], ?_, hmg, F.kp, F.bindsN fun _ _ _ _ _ _ us hl => match us, hl with | [_, _], _ => rfl⟩
  · refine ok_def (b := b_times) (io := []) (np := 2) (nl := 0) (k := 38) Wh (by decide) F sc_times rfl rfl fun cdv A outer s H vs E hl hr g => ?_
    exact (pss_consD (ps_retD (pe_callN E_fraction rfl (hr.mono (by decide)) rfl g.tk (pa_o_cons (xo (pe_bin op_mul3 od_mul (xo (pe_idx (ix_all (hu_of hr)) od_idx (so (pv 0 rfl (.inl rfl) rfl rfl)) (xo pe_cInt) fun _ _ => rfl)) (xo (pe_idx (ix_all (hu_of hr)) od_idx (so (pv 1 rfl (.inl rfl) rfl rfl)) (xo pe_cInt) fun _ _ => rfl)))) (pa_o_cons (xo (pe_bin op_mul3 od_mul (xo (pe_idx (ix_all (hu_of hr)) od_idx (so (pv 0 rfl (.inl rfl) rfl rfl)) (xo pe_cInt) fun _ _ => rfl)) (xo (pe_idx (ix_all (hu_of hr)) od_idx (so (pv 1 rfl (.inl rfl) rfl rfl)) (xo pe_cInt) fun _ _ => rfl)))) pa_o_nil rfl) rfl) (by decide) rfl rfl rfl rfl))
    pss_nilD)
theorem sc_share_of : FnScope ["system", "row", "found", "move"] ["system", "row"] (defScope (top 32)) := ⟨rfl, rfl, rfl, by decide +kernel, rfl, by decide +kernel, by decide +kernel⟩
theorem ok_share_of (Wh : Whole P base) (F : FunD K "share_of" "share_of" (defArgs (top 32)) (defBody (top 32)) (defScope (top 32)) [] [] f fd) (fx : Fx K mg cm) (hmg : mg "share_of" = some (.ref f)) (E_check_row : Ent P w K mg base cm 40 "check_row" 2 m_check_row) (E_times : Ent P w K mg base cm 39 "times" 2 m_times) : Ent P w K mg base cm 41 "share_of" 2 m_share_of := by
  refine ⟨f, fd, ["system", "row"], ?_, hmg, F.kp, F.bindsN fun _ _ _ _ _ _ us hl => match us, hl with | [_, _], _ => rfl⟩
  · refine ok_def (b := b_share_of) (io := []) (np := 2) (nl := 2) (k := 40) Wh (by decide) F sc_share_of rfl rfl fun cdv A outer s H vs E hl hr g => ?_
    exact (pss_consD (ps_exprD (pe_callN E_check_row rfl (hr.mono (by decide)) rfl g.tk (pa_o_cons (xo (pe_eVar (pv 0 rfl (.inl rfl) rfl rfl))) (pa_o_cons (xo (pe_eVar (pv 1 rfl (.inl rfl) rfl rfl))) pa_o_nil rfl) rfl) (by decide) rfl rfl rfl rfl) rfl)
    (pss_consD (ps_setD sc_share_of.nd rfl (.inl rfl) (pe_tupC fx.c_ONE rfl rfl rfl) rfl (.inl rfl) (fx_io rfl))
    (pss_consD (ps_forD (t := .nm 3) g.po rfl (pi_seqD rfl (pe_eVar (pv 1 rfl (.inl rfl) rfl rfl))) (pg_name sc_share_of.nd rfl (.inl rfl) (.inl rfl)) (free_io rfl) (pss_consD (ps_setD sc_share_of.nd rfl (.inl rfl) (pe_callN E_times rfl (hr.mono (by decide)) rfl g.tk (pa_o_cons (xo (pe_eVar (pv 2 rfl (.inl rfl) rfl rfl))) (pa_o_cons (xo (pe_idx (ix_all (hu_of hr)) od_idx (xo (pe_idx (ix_all (hu_of hr)) od_idx (xo (pe_fldD rfl fx.k_System fx.f_System_moves (so (pv 0 rfl (.inl rfl) rfl rfl)) rfl)) (so (pv 3 rfl (.inl rfl) rfl rfl)) fun _ _ => rfl)) (xo pe_cInt) fun _ _ => rfl)) pa_o_nil rfl) rfl) (by decide) rfl rfl rfl rfl) rfl (.inl rfl) (fx_io rfl))
    pss_nilD) fun _ => rfl)
    (pss_consD (ps_retD (pe_eVar (pv 2 rfl (.inl rfl) rfl rfl)))
    pss_nilD))))
theorem sc__law_is_right : FnScope ["_law_hand_here", "_law_many", "_law_moves_here", "_law_system", "_law_row_here", "_law_other", "_law_due", "_law_told", "_law_far", "_law_state"] ["_law_hand_here", "_law_many", "_law_moves_here", "_law_system"] (defScope (top 46)) := ⟨rfl, rfl, rfl, by decide +kernel, rfl, by decide +kernel, by decide +kernel⟩
theorem ok__law_is_right (Wh : Whole P base) (F : FunD K "_law_is_right" "_law_is_right" (defArgs (top 46)) (defBody (top 46)) (defScope (top 46)) [] [] f fd) (fx : Fx K mg cm) (hmg : mg "_law_is_right" = some (.ref f)) (E__law_gone : Ent P w K mg base cm 37 "_law_gone" 3 m__law_gone) (E__law_row : Ent P w K mg base cm 39 "_law_row" 2 m__law_row) (E__law_share : Ent P w K mg base cm 38 "_law_share" 2 m__law_share) (E__law_times : Ent P w K mg base cm 38 "_law_times" 2 m__law_times) (E_led : Ent P w K mg base cm 41 "led" 3 m_led) (E_led_all : Ent P w K mg base cm 41 "led_all" 2 m_led_all) (E_lot_behind : Ent P w K mg base cm 41 "lot_behind" 2 m_lot_behind) (E_share_of : Ent P w K mg base cm 41 "share_of" 2 m_share_of) : Ent P w K mg base cm 42 "_law_is_right" 4 m__law_is_right := by
  refine ⟨f, fd, ["_law_hand_here", "_law_many", "_law_moves_here", "_law_system"], ?_, hmg, F.kp, F.bindsN fun _ _ _ _ _ _ us hl => match us, hl with | [_, _, _, _], _ => rfl⟩
  · refine ok_def (b := b__law_is_right) (io := [0]) (np := 4) (nl := 6) (k := 41) Wh (by decide) F sc__law_is_right rfl rfl fun cdv A outer s H vs E hl hr g => ?_
    exact (pss_consD (ps_asgD (t := .tup [.nm 4, .nm 5]) (pe_tupD (pa_o_cons (xo (pe_callN E__law_row rfl (hr.mono (by decide)) rfl g.tk (pa_o_cons (so (pv 0 rfl (.inl rfl) rfl rfl)) (pa_o_cons (xo (pe_eVar (pv 2 rfl (.inr (.inl rfl)) rfl rfl))) pa_o_nil rfl) rfl) (by decide) rfl rfl rfl rfl)) (pa_o_cons (xo (pe_callN E__law_row rfl (hr.mono (by decide)) rfl g.tk (pa_o_cons (so (pv 0 rfl (.inl rfl) rfl rfl)) (pa_o_cons (xo (pe_eVar (pv 2 rfl (.inr (.inl rfl)) rfl rfl))) pa_o_nil rfl) rfl) (by decide) rfl rfl rfl rfl)) pa_o_nil rfl) rfl)) (pg_tup rfl (pgs_cons (pg_name sc__law_is_right.nd rfl (.inr rfl) (.inl rfl)) (pgs_cons (pg_name sc__law_is_right.nd rfl (.inl rfl) (.inl rfl)) pgs_nil rfl) rfl) rfl rfl) (free_io rfl) rfl rfl rfl)
    (pss_consD (ps_setD sc__law_is_right.nd rfl (.inl rfl) (pe_callTD call_tuple_of od_tuple rfl fx.n_tuple boot_tuple (pa_o_cons (xo (pe_lcE (own := [("_law_state", 9)]) (t := .nm 9) (c := none) rfl sc__law_is_right.nd (pi_range1D rfl fx.n_range (pa_o_cons (so (pv 1 rfl (.inl rfl) rfl rfl)) pa_o_nil rfl) rfl) rfl (fun _ _ _ _ _ => (pg_name sc__law_is_right.nd rfl (.inl rfl) (.inr rfl))) (fun _ _ _ _ _ => pts_nil) (fun _ _ _ _ _ => (pe_callN E__law_gone rfl (hr.mono (by decide)) rfl takes0 (pa_o_cons (xo (pe_eVar (pv 2 rfl (.inr (.inl rfl)) rfl rfl))) (pa_o_cons (xo (pe_wk (pe_eVar (pv 4 rfl (.inr (.inl rfl)) rfl rfl)))) (pa_o_cons (xo (pe_eVar (pv 9 rfl (.inl rfl) rfl rfl))) pa_o_nil rfl) rfl) rfl) (by decide) rfl rfl rfl rfl)) (fun _ => rfl) (by decide) (by decide) (fxs_io rfl))) pa_o_nil rfl) (by decide) rfl rfl rfl) rfl (.inl rfl) (fx_io rfl))
    (pss_consD (ps_ifD (PW.pt (pw_orD (pt_cmp2 (op_neD hr.units) od_ne (xo (pe_callN E_led_all rfl (hr.mono (by decide)) rfl g.tk (pa_o_cons (xo (pe_eVar (pv 3 rfl (.inr (.inl rfl)) rfl rfl))) (pa_o_cons (xo (pe_wk (pe_eVar (pv 4 rfl (.inr (.inl rfl)) rfl rfl)))) pa_o_nil rfl) rfl) (by decide) rfl rfl rfl rfl)) (so (pv 6 rfl (.inl rfl) rfl rfl)) (nomark _)) (pw_or1 (pt_cmp2 (op_neD hr.units) od_ne (xo (pe_callN E_lot_behind rfl (hr.mono (by decide)) rfl g.tk (pa_o_cons (xo (pe_eVar (pv 3 rfl (.inr (.inl rfl)) rfl rfl))) (pa_o_cons (xo (pe_wk (pe_eVar (pv 4 rfl (.inr (.inl rfl)) rfl rfl)))) pa_o_nil rfl) rfl) (by decide) rfl rfl rfl rfl)) (xo (pe_callTD call_tuple_of od_tuple rfl fx.n_tuple boot_tuple (pa_o_cons (xo (pe_setD rfl rfl (cr_sortedSet rfl) od_sortSet rfl fx.n_sorted boot_sorted rfl fx.n_set (pa_o_cons (so (pv 6 rfl (.inl rfl) rfl rfl)) pa_o_nil rfl) (by decide) rfl rfl rfl)) pa_o_nil rfl) (by decide) rfl rfl rfl)) (nomark _))))) (pss_consD (ps_retD pe_cBl)
    pss_nilD) pss_nilD)
    (pss_consD (ps_setLcD (own := [("_law_state", 9)]) (t := .nm 9) (c := none) rfl sc__law_is_right.nd rfl rfl rfl (pi_range1D rfl fx.n_range (pa_o_cons (so (pv 1 rfl (.inl rfl) rfl rfl)) pa_o_nil rfl) rfl) rfl (fun _ _ _ _ _ => (pg_name sc__law_is_right.nd rfl (.inl rfl) (.inr rfl))) (fun _ _ _ _ _ => pts_nil) (fun _ _ _ _ _ => (pe_callN E_led rfl (hr.mono (by decide)) rfl takes0 (pa_o_cons (xo (pe_eVar (pv 3 rfl (.inr (.inl rfl)) rfl rfl))) (pa_o_cons (xo (pe_wk (pe_eVar (pv 4 rfl (.inr (.inl rfl)) rfl rfl)))) (pa_o_cons (xo (pe_eVar (pv 9 rfl (.inl rfl) rfl rfl))) pa_o_nil rfl) rfl) rfl) (by decide) rfl rfl rfl rfl)) (fun _ => rfl) (by decide) (by decide) (fxs_io rfl) (fx_io rfl))
    (pss_consD (ps_ifD (PW.pt (pw_orD (pt_cmp2 (op_neD hr.units) od_ne (so (pv 7 rfl (.inl rfl) rfl rfl)) (xo (pe_callTD call_list_of od_list rfl fx.n_list boot_list (pa_o_cons (so (pv 6 rfl (.inl rfl) rfl rfl)) pa_o_nil rfl) (by decide) rfl rfl rfl)) (nomark _)) (pw_or1 (pt_val (pe_callBD (cr_any rfl) od_any rfl fx.n_any boot_any (pa_o_cons (xo (pe_lcE (own := [("_law_state", 9)]) (t := .nm 9) (c := none) rfl sc__law_is_right.nd (pi_seqD rfl (pe_eVar (pv 7 rfl (.inl rfl) rfl rfl))) rfl (fun _ _ _ _ _ => (pg_name sc__law_is_right.nd rfl (.inl rfl) (.inr rfl))) (fun _ _ _ _ _ => pts_nil) (fun _ _ _ _ _ => (pe_isiD rfl fx.n_isinstance rfl fx.n_bool boot_bool (by decide) rfl (so (pv 9 rfl (.inl rfl) rfl rfl)) rfl rfl rfl rfl)) (fun _ => rfl) (by decide) (by decide) (fxs_io rfl))) pa_o_nil rfl) (by decide) rfl rfl rfl) fun _ => rfl)))) (pss_consD (ps_retD pe_cBl)
    pss_nilD) pss_nilD)
    (pss_consD (ps_ifD (pt_cmp2 (op_neD hr.units) od_ne (xo (pe_callN E_share_of rfl (hr.mono (by decide)) rfl g.tk (pa_o_cons (xo (pe_eVar (pv 3 rfl (.inr (.inl rfl)) rfl rfl))) (pa_o_cons (xo (pe_wk (pe_eVar (pv 4 rfl (.inr (.inl rfl)) rfl rfl)))) pa_o_nil rfl) rfl) (by decide) rfl rfl rfl rfl)) (xo (pe_callN E__law_share rfl (hr.mono (by decide)) rfl g.tk (pa_o_cons (xo (pe_eVar (pv 2 rfl (.inr (.inl rfl)) rfl rfl))) (pa_o_cons (xo (pe_eVar (pv 4 rfl (.inr (.inl rfl)) rfl rfl))) pa_o_nil rfl) rfl) (by decide) rfl rfl rfl rfl)) (nomark _)) (pss_consD (ps_retD pe_cBl)
    pss_nilD) pss_nilD)
    (pss_consD (ps_ifD (pt_cmp2 op_gt od_cmp (xo (pe_bin op_add4 od_add (xo (pe_callBD call_len od_len rfl fx.n_len boot_len (pa_o_cons (xo (pe_wk (pe_eVar (pv 4 rfl (.inr (.inl rfl)) rfl rfl)))) pa_o_nil rfl) (by decide) rfl rfl rfl)) (xo (pe_callBD call_len od_len rfl fx.n_len boot_len (pa_o_cons (xo (pe_wk (pe_eVar (pv 5 rfl (.inl rfl) rfl rfl)))) pa_o_nil rfl) (by decide) rfl rfl rfl)))) (xo pe_cInt) (nomark _)) (pss_consD (ps_retD pe_cBl)
    pss_nilD) pss_nilD)
    (pss_consD (ps_setD sc__law_is_right.nd rfl (.inr rfl) (pe_callN E_led_all rfl (hr.mono (by decide)) rfl g.tk (pa_o_cons (xo (pe_eVar (pv 3 rfl (.inr (.inl rfl)) rfl rfl))) (pa_o_cons (xo (pe_wk (pe_eVar (pv 5 rfl (.inl rfl) rfl rfl)))) pa_o_nil rfl) rfl) (by decide) rfl rfl rfl rfl) rfl (.inl rfl) (fx_io rfl))
    (pss_consD (ps_ifD (pt_cmp2 (op_neD hr.units) od_ne (xo (pe_callN E_led_all rfl (hr.mono (by decide)) rfl g.tk (pa_o_cons (xo (pe_eVar (pv 3 rfl (.inr (.inl rfl)) rfl rfl))) (pa_o_cons (xo (pe_bin op_add4 od_add (xo (pe_wk (pe_eVar (pv 4 rfl (.inr (.inl rfl)) rfl rfl)))) (xo (pe_wk (pe_eVar (pv 5 rfl (.inl rfl) rfl rfl)))))) pa_o_nil rfl) rfl) (by decide) rfl rfl rfl rfl)) (xo (pe_callTD call_tuple_of od_tuple rfl fx.n_tuple boot_tuple (pa_o_cons (xo (pe_lcE (own := [("_law_state", 9)]) (t := .nm 9) (c := none) rfl sc__law_is_right.nd (pi_seqD rfl (pe_eVar (pv 6 rfl (.inl rfl) rfl rfl))) rfl (fun _ _ _ _ _ => (pg_name sc__law_is_right.nd rfl (.inl rfl) (.inr rfl))) (fun _ _ _ _ _ => pts_nil) (fun _ _ _ _ _ => (pe_idx (ix_all (hu_of hr)) od_idx (so (pv 8 rfl (.inr (.inl rfl)) rfl rfl)) (so (pv 9 rfl (.inl rfl) rfl rfl)) fun _ _ => rfl)) (fun _ => rfl) (by decide) (by decide) (fxs_io rfl))) pa_o_nil rfl) (by decide) rfl rfl rfl)) (nomark _)) (pss_consD (ps_retD pe_cBl)
    pss_nilD) pss_nilD)
    (pss_consD (ps_retD (pe_cmp2 (op_eqD hr.units) od_eq (xo (pe_callN E_share_of rfl (hr.mono (by decide)) rfl g.tk (pa_o_cons (xo (pe_eVar (pv 3 rfl (.inr (.inl rfl)) rfl rfl))) (pa_o_cons (xo (pe_bin op_add4 od_add (xo (pe_wk (pe_eVar (pv 4 rfl (.inr (.inl rfl)) rfl rfl)))) (xo (pe_wk (pe_eVar (pv 5 rfl (.inl rfl) rfl rfl)))))) pa_o_nil rfl) rfl) (by decide) rfl rfl rfl rfl)) (xo (pe_callN E__law_times rfl (hr.mono (by decide)) rfl g.tk (pa_o_cons (xo (pe_callN E__law_share rfl (hr.mono (by decide)) rfl g.tk (pa_o_cons (xo (pe_eVar (pv 2 rfl (.inr (.inl rfl)) rfl rfl))) (pa_o_cons (xo (pe_eVar (pv 4 rfl (.inr (.inl rfl)) rfl rfl))) pa_o_nil rfl) rfl) (by decide) rfl rfl rfl rfl)) (pa_o_cons (xo (pe_callN E__law_share rfl (hr.mono (by decide)) rfl g.tk (pa_o_cons (xo (pe_eVar (pv 2 rfl (.inr (.inl rfl)) rfl rfl))) (pa_o_cons (xo (pe_eVar (pv 5 rfl (.inl rfl) rfl rfl))) pa_o_nil rfl) rfl) (by decide) rfl rfl rfl rfl)) pa_o_nil rfl) rfl) (by decide) rfl rfl rfl rfl)) (nomark _)))
    pss_nilD))))))))))
theorem sc__law_leads : FnScope ["_law_hand_here", "_law_many", "_law_kind", "_law_left", "_law_found", "_law_k", "_law_two", "_law_half", "_law_by"] ["_law_hand_here", "_law_many"] (defScope (top 40)) := ⟨rfl, rfl, rfl, by decide +kernel, rfl, by decide +kernel, by decide +kernel⟩
theorem ok__law_leads (Wh : Whole P base) (F : FunD K "_law_leads" "_law_leads" (defArgs (top 40)) (defBody (top 40)) (defScope (top 40)) [] [] f fd) (fx : Fx K mg cm) (hmg : mg "_law_leads" = some (.ref f)) (E__law_any : Ent P w K mg base cm 38 "_law_any" 2 m__law_any) (E__law_draw : Ent P w K mg base cm 37 "_law_draw" 2 m__law_draw) : Ent P w K mg base cm 39 "_law_leads" 2 m__law_leads := by
  refine ⟨f, fd, ["_law_hand_here", "_law_many"], ?_, hmg, F.kp, F.bindsN fun _ _ _ _ _ _ us hl => match us, hl with | [_, _], _ => rfl⟩
  · refine ok_def (b := b__law_leads) (io := [0]) (np := 2) (nl := 7) (k := 38) Wh (by decide) F sc__law_leads rfl rfl fun cdv A outer s H vs E hl hr g => ?_
    exact (pss_consD (ps_setD sc__law_leads.nd rfl (.inl rfl) (pe_callN E__law_draw rfl (hr.mono (by decide)) rfl g.tk (pa_o_cons (so (pv 0 rfl (.inr (.inl rfl)) rfl rfl)) (pa_o_cons (xo pe_cInt) pa_o_nil rfl) rfl) (by decide) rfl rfl rfl rfl) rfl (.inl rfl) (fx_io rfl))
    (pss_consD (ps_ifD (pt_cmp2 (op_eqD hr.units) od_eq (so (pv 2 rfl (.inl rfl) rfl rfl)) (xo pe_cInt) (nomark _)) (pss_consD (ps_par2D rfl sc__law_leads.nd rfl rfl (by decide) rfl rfl (pe_lstRg1 rfl rfl fx.n_list rfl fx.n_range (so (pv 1 rfl (.inr (.inl rfl)) rfl rfl)) rfl rfl) (pe_lstD pa_o_nil) rfl rfl rfl rfl (fxl_io rfl))
    (pss_consD (ps_forD (t := .nm 5) g.po rfl (pi_range1D rfl fx.n_range (pa_o_cons (so (pv 1 rfl (.inr (.inl rfl)) rfl rfl)) pa_o_nil rfl) rfl) (pg_name sc__law_leads.nd rfl (.inl rfl) (.inl rfl)) (free_io rfl) (pss_consD (ps_exprD (pe_mutD (ms := []) mu_append rfl PySem.F.slot_list_append PySem.F.type_list_append mt_append (pv 4 rfl (.inl rfl) rfl rfl) (pa_o_cons (xo (pe_mutD (ms := []) mu_popAt rfl PySem.F.slot_list_pop PySem.F.type_list_pop mt_popAt (pv 3 rfl (.inl rfl) rfl rfl) (pa_o_cons (xo (pe_callN E__law_draw rfl (hr.mono (by decide)) rfl g.tk (pa_o_cons (so (pv 0 rfl (.inr (.inl rfl)) rfl rfl)) (pa_o_cons (xo (pe_callBD call_len od_len rfl fx.n_len boot_len (pa_o_cons (so (pv 3 rfl (.inl rfl) rfl rfl)) pa_o_nil rfl) (by decide) rfl rfl rfl)) pa_o_nil rfl) rfl) (by decide) rfl rfl rfl rfl)) pa_o_nil rfl) rfl rfl rfl rfl rfl)) pa_o_nil rfl) rfl rfl rfl rfl rfl) rfl)
    pss_nilD) fun _ => rfl)
    (pss_consD (ps_retD (pe_callTD call_tuple_of od_tuple rfl fx.n_tuple boot_tuple (pa_o_cons (so (pv 4 rfl (.inl rfl) rfl rfl)) pa_o_nil rfl) (by decide) rfl rfl rfl))
    pss_nilD))) pss_nilD)
    (pss_consD (ps_ifD (pt_cmp2 (op_eqD hr.units) od_eq (so (pv 2 rfl (.inl rfl) rfl rfl)) (xo pe_cInt) (nomark _)) (pss_consD (ps_setD sc__law_leads.nd rfl (.inr rfl) (pe_lstD (pa_o_cons (xo (pe_callN E__law_draw rfl (hr.mono (by decide)) rfl g.tk (pa_o_cons (so (pv 0 rfl (.inr (.inl rfl)) rfl rfl)) (pa_o_cons (xo (pe_eVar (pv 1 rfl (.inr (.inl rfl)) rfl rfl))) pa_o_nil rfl) rfl) (by decide) rfl rfl rfl rfl)) (pa_o_cons (xo (pe_callN E__law_draw rfl (hr.mono (by decide)) rfl g.tk (pa_o_cons (so (pv 0 rfl (.inr (.inl rfl)) rfl rfl)) (pa_o_cons (xo (pe_eVar (pv 1 rfl (.inr (.inl rfl)) rfl rfl))) pa_o_nil rfl) rfl) (by decide) rfl rfl rfl rfl)) pa_o_nil rfl) rfl)) rfl (.inl rfl) (fx_io rfl))
    (pss_consD (ps_retD (pe_callTD call_tuple_of od_tuple rfl fx.n_tuple boot_tuple (pa_o_cons (xo (pe_lcE (own := [("_law_k", 5)]) (t := .nm 5) (c := none) rfl sc__law_leads.nd (pi_range1D rfl fx.n_range (pa_o_cons (so (pv 1 rfl (.inr (.inl rfl)) rfl rfl)) pa_o_nil rfl) rfl) rfl (fun _ _ _ _ _ => (pg_name sc__law_leads.nd rfl (.inl rfl) (.inr rfl))) (fun _ _ _ _ _ => pts_nil) (fun _ _ _ _ _ => (pe_callN E__law_any rfl (hr.mono (by decide)) rfl takes0 (pa_o_cons (so (pv 0 rfl (.inr (.inl rfl)) rfl rfl)) (pa_o_cons (xo (pe_eVar (pv 6 rfl (.inr (.inl rfl)) rfl rfl))) pa_o_nil rfl) rfl) (by decide) rfl rfl rfl rfl)) (fun _ => rfl) (by decide) (by decide) (fxs_io rfl))) pa_o_nil rfl) (by decide) rfl rfl rfl))
    pss_nilD)) pss_nilD)
    (pss_consD (ps_ifD (pt_cmp2 (op_eqD hr.units) od_eq (so (pv 2 rfl (.inl rfl) rfl rfl)) (xo pe_cInt) (nomark _)) (pss_consD (ps_retD (pe_callTD call_tuple_of od_tuple rfl fx.n_tuple boot_tuple (pa_o_cons (xo (pe_lcE (own := [("_law_k", 5)]) (t := .nm 5) (c := none) rfl sc__law_leads.nd (pi_range1D rfl fx.n_range (pa_o_cons (so (pv 1 rfl (.inr (.inl rfl)) rfl rfl)) pa_o_nil rfl) rfl) rfl (fun _ _ _ _ _ => (pg_name sc__law_leads.nd rfl (.inl rfl) (.inr rfl))) (fun _ _ _ _ _ => pts_nil) (fun _ _ _ _ _ => (pe_ifD (pt_cmp2 (op_eqD hr.units) od_eq (xo (pe_callN E__law_draw rfl (hr.mono (by decide)) rfl takes0 (pa_o_cons (so (pv 0 rfl (.inr (.inl rfl)) rfl rfl)) (pa_o_cons (xo pe_cInt) pa_o_nil rfl) rfl) (by decide) rfl rfl rfl rfl)) (xo pe_cInt) (nomark _)) (pe_callN E__law_draw rfl (hr.mono (by decide)) rfl takes0 (pa_o_cons (so (pv 0 rfl (.inr (.inl rfl)) rfl rfl)) (pa_o_cons (xo (pe_eVar (pv 1 rfl (.inr (.inl rfl)) rfl rfl))) pa_o_nil rfl) rfl) (by decide) rfl rfl rfl rfl) (pe_eVar (pv 5 rfl (.inl rfl) rfl rfl)))) (fun _ => rfl) (by decide) (by decide) (fxs_io rfl))) pa_o_nil rfl) (by decide) rfl rfl rfl))
    pss_nilD) pss_nilD)
    (pss_consD (ps_ifD (pt_cmp2 (op_eqD hr.units) od_eq (so (pv 2 rfl (.inl rfl) rfl rfl)) (xo pe_cInt) (nomark _)) (pss_consD (ps_setD sc__law_leads.nd rfl (.inr rfl) (pe_bin (op_fdivS g.hard) od_div (so (pv 1 rfl (.inr (.inl rfl)) rfl rfl)) (xo pe_cInt)) rfl (.inl rfl) (fx_io rfl))
    (pss_consD (ps_retD (pe_callTD call_tuple_of od_tuple rfl fx.n_tuple boot_tuple (pa_o_cons (xo (pe_lcE (own := [("_law_k", 5)]) (t := .nm 5) (c := none) rfl sc__law_leads.nd (pi_range1D rfl fx.n_range (pa_o_cons (so (pv 1 rfl (.inr (.inl rfl)) rfl rfl)) pa_o_nil rfl) rfl) rfl (fun _ _ _ _ _ => (pg_name sc__law_leads.nd rfl (.inl rfl) (.inr rfl))) (fun _ _ _ _ _ => pts_nil) (fun _ _ _ _ _ => (pe_ifD (pt_cmp2 op_lt od_cmp (so (pv 5 rfl (.inl rfl) rfl rfl)) (so (pv 7 rfl (.inr (.inl rfl)) rfl rfl)) (nomark _)) (pe_callN E__law_draw rfl (hr.mono (by decide)) rfl takes0 (pa_o_cons (so (pv 0 rfl (.inr (.inl rfl)) rfl rfl)) (pa_o_cons (xo (pe_eVar (pv 7 rfl (.inr (.inl rfl)) rfl rfl))) pa_o_nil rfl) rfl) (by decide) rfl rfl rfl rfl) (pe_bin op_add4 od_add (so (pv 7 rfl (.inr (.inl rfl)) rfl rfl)) (xo (pe_callN E__law_draw rfl (hr.mono (by decide)) rfl takes0 (pa_o_cons (so (pv 0 rfl (.inr (.inl rfl)) rfl rfl)) (pa_o_cons (xo (pe_bin op_sub od_sub (so (pv 1 rfl (.inr (.inl rfl)) rfl rfl)) (so (pv 7 rfl (.inr (.inl rfl)) rfl rfl)))) pa_o_nil rfl) rfl) (by decide) rfl rfl rfl rfl))))) (fun _ => rfl) (by decide) (by decide) (fxs_io rfl))) pa_o_nil rfl) (by decide) rfl rfl rfl))
    pss_nilD)) pss_nilD)
    (pss_consD (ps_ifD (pt_cmp2 (op_eqD hr.units) od_eq (so (pv 2 rfl (.inl rfl) rfl rfl)) (xo pe_cInt) (nomark _)) (pss_consD (ps_setD sc__law_leads.nd rfl (.inr rfl) (pe_bin op_add4 od_add (xo pe_cInt) (xo (pe_callN E__law_draw rfl (hr.mono (by decide)) rfl g.tk (pa_o_cons (so (pv 0 rfl (.inr (.inl rfl)) rfl rfl)) (pa_o_cons (xo (pe_eVar (pv 1 rfl (.inr (.inl rfl)) rfl rfl))) pa_o_nil rfl) rfl) (by decide) rfl rfl rfl rfl))) rfl (.inl rfl) (fx_io rfl))
    (pss_consD (ps_retD (pe_callTD call_tuple_of od_tuple rfl fx.n_tuple boot_tuple (pa_o_cons (xo (pe_lcE (own := [("_law_k", 5)]) (t := .nm 5) (c := none) rfl sc__law_leads.nd (pi_range1D rfl fx.n_range (pa_o_cons (so (pv 1 rfl (.inr (.inl rfl)) rfl rfl)) pa_o_nil rfl) rfl) rfl (fun _ _ _ _ _ => (pg_name sc__law_leads.nd rfl (.inl rfl) (.inr rfl))) (fun _ _ _ _ _ => pts_nil) (fun _ _ _ _ _ => (pe_bin op_mod od_mod (xo (pe_callTD call_int1 od_int rfl fx.n_int boot_int (pa_o_cons (xo (pe_bin op_add4 od_add (so (pv 5 rfl (.inl rfl) rfl rfl)) (so (pv 8 rfl (.inr (.inl rfl)) rfl rfl)))) pa_o_nil rfl) (by decide) rfl rfl rfl)) (so (pv 1 rfl (.inr (.inl rfl)) rfl rfl)))) (fun _ => rfl) (by decide) (by decide) (fxs_io rfl))) pa_o_nil rfl) (by decide) rfl rfl rfl))
    pss_nilD)) pss_nilD)
    (pss_consD (ps_retD (pe_callTD call_tuple_of od_tuple rfl fx.n_tuple boot_tuple (pa_o_cons (xo (pe_lcE (own := [("_law_k", 5)]) (t := .nm 5) (c := none) rfl sc__law_leads.nd (pi_range1D rfl fx.n_range (pa_o_cons (so (pv 1 rfl (.inr (.inl rfl)) rfl rfl)) pa_o_nil rfl) rfl) rfl (fun _ _ _ _ _ => (pg_name sc__law_leads.nd rfl (.inl rfl) (.inr rfl))) (fun _ _ _ _ _ => pts_nil) (fun _ _ _ _ _ => (pe_callN E__law_draw rfl (hr.mono (by decide)) rfl takes0 (pa_o_cons (so (pv 0 rfl (.inr (.inl rfl)) rfl rfl)) (pa_o_cons (xo (pe_eVar (pv 1 rfl (.inr (.inl rfl)) rfl rfl))) pa_o_nil rfl) rfl) (by decide) rfl rfl rfl rfl)) (fun _ => rfl) (by decide) (by decide) (fxs_io rfl))) pa_o_nil rfl) (by decide) rfl rfl rfl))
    pss_nilD)))))))
theorem sc__law_shares : FnScope ["_law_hand_here", "_law_many", "_law_great", "_law_weights", "_law_k", "_law_weight"] ["_law_hand_here", "_law_many"] (defScope (top 39)) := ⟨rfl, rfl, rfl, by decide +kernel, rfl, by decide +kernel, by decide +kernel⟩
theorem ok__law_shares (Wh : Whole P base) (F : FunD K "_law_shares" "_law_shares" (defArgs (top 39)) (defBody (top 39)) (defScope (top 39)) [] [] f fd) (fx : Fx K mg cm) (hmg : mg "_law_shares" = some (.ref f)) (E__law_any : Ent P w K mg base cm 38 "_law_any" 2 m__law_any) (E__law_draw : Ent P w K mg base cm 37 "_law_draw" 2 m__law_draw) (E__law_low : Ent P w K mg base cm 37 "_law_low" 2 m__law_low) : Ent P w K mg base cm 39 "_law_shares" 2 m__law_shares := by
  refine ⟨f, fd, ["_law_hand_here", "_law_many"], ?_, hmg, F.kp, F.bindsN fun _ _ _ _ _ _ us hl => match us, hl with | [_, _], _ => rfl⟩
  · refine ok_def (b := b__law_shares) (io := [0]) (np := 2) (nl := 4) (k := 38) Wh (by decide) F sc__law_shares rfl rfl fun cdv A outer s H vs E hl hr g => ?_
    exact (pss_consD (ps_setD sc__law_shares.nd rfl (.inl rfl) (pe_cmp2 (op_eqD hr.units) od_eq (xo (pe_callN E__law_draw rfl (hr.mono (by decide)) rfl g.tk (pa_o_cons (so (pv 0 rfl (.inl rfl) rfl rfl)) (pa_o_cons (xo pe_cInt) pa_o_nil rfl) rfl) (by decide) rfl rfl rfl rfl)) (xo pe_cInt) (nomark _)) rfl (.inl rfl) (fx_io rfl))
    (pss_consD (ps_setD sc__law_shares.nd rfl (.inr rfl) (pe_lstD pa_o_nil) rfl (.inl rfl) (fx_io rfl))
    (pss_consD (ps_forD (t := .nm 4) g.po rfl (pi_range1D rfl fx.n_range (pa_o_cons (so (pv 1 rfl (.inl rfl) rfl rfl)) pa_o_nil rfl) rfl) (pg_name sc__law_shares.nd rfl (.inl rfl) (.inl rfl)) (free_io rfl) (pss_consD (ps_setD sc__law_shares.nd rfl (.inl rfl) (pe_bin op_add4 od_add (xo pe_cInt) (xo (pe_callN E__law_draw rfl (hr.mono (by decide)) rfl g.tk (pa_o_cons (so (pv 0 rfl (.inl rfl) rfl rfl)) (pa_o_cons (xo (pe_callN E__law_any rfl (hr.mono (by decide)) rfl g.tk (pa_o_cons (so (pv 0 rfl (.inl rfl) rfl rfl)) (pa_o_cons (xo (pe_lstD (pa_o_cons (xo pe_cInt) (pa_o_cons (xo pe_cInt) (pa_o_cons (xo pe_cInt) pa_o_nil rfl) rfl) rfl))) pa_o_nil rfl) rfl) (by decide) rfl rfl rfl rfl)) pa_o_nil rfl) rfl) (by decide) rfl rfl rfl rfl))) rfl (.inl rfl) (fx_io rfl))
    (pss_consD (ps_exprD (pe_mutD (ms := []) mu_append rfl PySem.F.slot_list_append PySem.F.type_list_append mt_append (pv 3 rfl (.inr (.inl rfl)) rfl rfl) (pa_o_cons (xo (pe_ifD (pt_val (pe_eVar (pv 2 rfl (.inl rfl) rfl rfl)) fun _ => rfl) (pe_bin op_add4 od_add (xo (pe_bin op_mul3 od_mul (so (pv 5 rfl (.inl rfl) rfl rfl)) (xo (pe_bin op_pow od_pow (xo pe_cInt) (xo pe_cInt))))) (xo (pe_callN E__law_draw rfl (hr.mono (by decide)) rfl g.tk (pa_o_cons (so (pv 0 rfl (.inl rfl) rfl rfl)) (pa_o_cons (xo (pe_bin op_pow od_pow (xo pe_cInt) (xo pe_cInt))) pa_o_nil rfl) rfl) (by decide) rfl rfl rfl rfl))) (pe_eVar (pv 5 rfl (.inl rfl) rfl rfl)))) pa_o_nil rfl) rfl rfl rfl rfl rfl) rfl)
    pss_nilD)) fun _ => rfl)
    (pss_consD (ps_retD (pe_lcE (own := [("_law_weight", 5)]) (t := .nm 5) (c := none) rfl sc__law_shares.nd (pi_seqD rfl (pe_eVar (pv 3 rfl (.inr (.inl rfl)) rfl rfl))) rfl (fun _ _ _ _ _ => (pg_name sc__law_shares.nd rfl (.inl rfl) (.inr rfl))) (fun _ _ _ _ _ => pts_nil) (fun _ _ _ _ _ => (pe_callN E__law_low rfl (hr.mono (by decide)) rfl takes0 (pa_o_cons (xo (pe_eVar (pv 5 rfl (.inl rfl) rfl rfl))) (pa_o_cons (xo (pe_callBD (cr_sum rfl) od_sum rfl fx.n_sum boot_sum (pa_o_cons (so (pv 3 rfl (.inr (.inl rfl)) rfl rfl)) pa_o_nil rfl) (by decide) rfl rfl rfl)) pa_o_nil rfl) rfl) (by decide) rfl rfl rfl rfl)) (fun _ => rfl) (by decide) (by decide) (fxs_io rfl)))
    pss_nilD))))
theorem sc__law_moves : FnScope ["_law_hand_here", "_law_many", "_law_most", "_law_count", "_law_one", "_law_found", "_law_share_here", "_law_leads_here", "_law_k"] ["_law_hand_here", "_law_many", "_law_most"] (defScope (top 41)) := ⟨rfl, rfl, rfl, by decide +kernel, rfl, by decide +kernel, by decide +kernel⟩
theorem ok__law_moves (Wh : Whole P base) (F : FunD K "_law_moves" "_law_moves" (defArgs (top 41)) (defBody (top 41)) (defScope (top 41)) [] [] f fd) (fx : Fx K mg cm) (hmg : mg "_law_moves" = some (.ref f)) (E__law_draw : Ent P w K mg base cm 37 "_law_draw" 2 m__law_draw) (E__law_leads : Ent P w K mg base cm 39 "_law_leads" 2 m__law_leads) (E__law_shares : Ent P w K mg base cm 39 "_law_shares" 2 m__law_shares) : Ent P w K mg base cm 40 "_law_moves" 3 m__law_moves := by
  refine ⟨f, fd, ["_law_hand_here", "_law_many", "_law_most"], ?_, hmg, F.kp, F.bindsN fun _ _ _ _ _ _ us hl => match us, hl with | [_, _, _], _ => rfl⟩
  · refine ok_def (b := b__law_moves) (io := [0]) (np := 3) (nl := 6) (k := 39) Wh (by decide) F sc__law_moves rfl rfl fun cdv A outer s H vs E hl hr g => ?_
    exact (pss_consD (ps_setD sc__law_moves.nd rfl (.inl rfl) (pe_bin op_add4 od_add (xo pe_cInt) (xo (pe_callN E__law_draw rfl (hr.mono (by decide)) rfl g.tk (pa_o_cons (so (pv 0 rfl (.inl rfl) rfl rfl)) (pa_o_cons (xo (pe_eVar (pv 2 rfl (.inl rfl) rfl rfl))) pa_o_nil rfl) rfl) (by decide) rfl rfl rfl rfl))) rfl (.inl rfl) (fx_io rfl))
    (pss_consD (ps_setD sc__law_moves.nd rfl (.inl rfl) (pe_callN E__law_draw rfl (hr.mono (by decide)) rfl g.tk (pa_o_cons (so (pv 0 rfl (.inl rfl) rfl rfl)) (pa_o_cons (xo pe_cInt) pa_o_nil rfl) rfl) (by decide) rfl rfl rfl rfl) rfl (.inl rfl) (fx_io rfl))
    (pss_consD (ps_setD sc__law_moves.nd rfl (.inl rfl) (pe_lstD pa_o_nil) rfl (.inl rfl) (fx_io rfl))
    (pss_consD (ps_forD (t := .nm 6) g.po rfl (pi_seqD rfl (pe_callN E__law_shares rfl (hr.mono (by decide)) rfl g.tk (pa_o_cons (so (pv 0 rfl (.inl rfl) rfl rfl)) (pa_o_cons (xo (pe_eVar (pv 3 rfl (.inl rfl) rfl rfl))) pa_o_nil rfl) rfl) (by decide) rfl rfl rfl rfl)) (pg_name sc__law_moves.nd rfl (.inl rfl) (.inl rfl)) (free_io rfl) (pss_consD (ps_setD sc__law_moves.nd rfl (.inr rfl) (pe_callN E__law_leads rfl (hr.mono (by decide)) rfl g.tk (pa_o_cons (so (pv 0 rfl (.inl rfl) rfl rfl)) (pa_o_cons (xo (pe_eVar (pv 1 rfl (.inr (.inl rfl)) rfl rfl))) pa_o_nil rfl) rfl) (by decide) rfl rfl rfl rfl) rfl (.inl rfl) (fx_io rfl))
    (pss_consD (ps_ifD (PW.pt (pw_andD (pt_cmp2 (op_eqD hr.units) od_eq (so (pv 4 rfl (.inl rfl) rfl rfl)) (xo pe_cInt) (nomark _)) (pw_and1 (pt_cmp2 op_gt od_cmp (xo (pe_callBD call_len od_len rfl fx.n_len boot_len (pa_o_cons (so (pv 5 rfl (.inl rfl) rfl rfl)) pa_o_nil rfl) (by decide) rfl rfl rfl)) (xo pe_cInt) (nomark _))))) (pss_consD (ps_setD sc__law_moves.nd rfl (.inr rfl) (pe_callTD call_tuple_of od_tuple rfl fx.n_tuple boot_tuple (pa_o_cons (xo (pe_lcE (own := [("_law_k", 8)]) (t := .nm 8) (c := none) rfl sc__law_moves.nd (pi_seqD rfl (pe_idx (ix_all (hu_of hr)) od_idx (xo (pe_idx (ix_all (hu_of hr)) od_idx (so (pv 5 rfl (.inl rfl) rfl rfl)) (xo pe_cInt) fun _ _ => rfl)) (xo pe_cInt) fun _ _ => rfl)) rfl (fun _ _ _ _ _ => (pg_name sc__law_moves.nd rfl (.inl rfl) (.inr rfl))) (fun _ _ _ _ _ => pts_nil) (fun _ _ _ _ _ => (pe_bin op_mod od_mod (xo (pe_callTD call_int1 od_int rfl fx.n_int boot_int (pa_o_cons (xo (pe_bin op_add4 od_add (so (pv 8 rfl (.inl rfl) rfl rfl)) (xo (pe_idx (ix_all (hu_of hr)) od_idx (so (pv 7 rfl (.inr (.inl rfl)) rfl rfl)) (xo pe_cInt) fun _ _ => rfl)))) pa_o_nil rfl) (by decide) rfl rfl rfl)) (so (pv 1 rfl (.inr (.inl rfl)) rfl rfl)))) (fun _ => rfl) (by decide) (by decide) (fxs_io rfl))) pa_o_nil rfl) (by decide) rfl rfl rfl) rfl (.inl rfl) (fx_io rfl))
    pss_nilD) pss_nilD)
    (pss_consD (ps_exprD (pe_mutD (ms := []) mu_append rfl PySem.F.slot_list_append PySem.F.type_list_append mt_append (pv 5 rfl (.inl rfl) rfl rfl) (pa_o_cons (xo (pe_tupD (pa_o_cons (xo (pe_eVar (pv 6 rfl (.inl rfl) rfl rfl))) (pa_o_cons (xo (pe_eVar (pv 7 rfl (.inr (.inl rfl)) rfl rfl))) pa_o_nil rfl) rfl))) pa_o_nil rfl) rfl rfl rfl rfl rfl) rfl)
    pss_nilD))) fun _ => rfl)
    (pss_consD (ps_retD (pe_callTD call_tuple_of od_tuple rfl fx.n_tuple boot_tuple (pa_o_cons (so (pv 5 rfl (.inl rfl) rfl rfl)) pa_o_nil rfl) (by decide) rfl rfl rfl))
    pss_nilD)))))
theorem sc__law_size : FnScope ["_law_hand_here"] ["_law_hand_here"] (defScope (top 42)) := ⟨rfl, rfl, rfl, by decide +kernel, rfl, by decide +kernel, by decide +kernel⟩
theorem ok__law_size (Wh : Whole P base) (F : FunD K "_law_size" "_law_size" (defArgs (top 42)) (defBody (top 42)) (defScope (top 42)) [] [] f fd) (fx : Fx K mg cm) (hmg : mg "_law_size" = some (.ref f)) (E__law_any : Ent P w K mg base cm 38 "_law_any" 2 m__law_any) (E__law_draw : Ent P w K mg base cm 37 "_law_draw" 2 m__law_draw) : Ent P w K mg base cm 39 "_law_size" 1 m__law_size := by
  refine ⟨f, fd, ["_law_hand_here"], ?_, hmg, F.kp, F.bindsN fun _ _ _ _ _ _ us hl => match us, hl with | [_], _ => rfl⟩
  · refine ok_def (b := b__law_size) (io := [0]) (np := 1) (nl := 0) (k := 38) Wh (by decide) F sc__law_size rfl rfl fun cdv A outer s H vs E hl hr g => ?_
    exact (pss_consD (ps_retD (pe_ifD (pt_cmp2 op_gt od_cmp (xo (pe_callN E__law_draw rfl (hr.mono (by decide)) rfl g.tk (pa_o_cons (so (pv 0 rfl (.inl rfl) rfl rfl)) (pa_o_cons (xo pe_cInt) pa_o_nil rfl) rfl) (by decide) rfl rfl rfl rfl)) (xo pe_cInt) (nomark _)) (pe_callN E__law_any rfl (hr.mono (by decide)) rfl g.tk (pa_o_cons (so (pv 0 rfl (.inl rfl) rfl rfl)) (pa_o_cons (xo (pe_lstD (pa_o_cons (xo pe_cInt) (pa_o_cons (xo pe_cInt) (pa_o_cons (xo pe_cInt) (pa_o_cons (xo pe_cInt) (pa_o_cons (xo pe_cInt) (pa_o_cons (xo pe_cInt) (pa_o_cons (xo pe_cInt) (pa_o_cons (xo pe_cInt) (pa_o_cons (xo pe_cInt) (pa_o_cons (xo pe_cInt) pa_o_nil rfl) rfl) rfl) rfl) rfl) rfl) rfl) rfl) rfl) rfl))) pa_o_nil rfl) rfl) (by decide) rfl rfl rfl rfl) (pe_bin op_add4 od_add (xo pe_cInt) (xo (pe_callN E__law_draw rfl (hr.mono (by decide)) rfl g.tk (pa_o_cons (so (pv 0 rfl (.inl rfl) rfl rfl)) (pa_o_cons (xo pe_cInt) pa_o_nil rfl) rfl) (by decide) rfl rfl rfl rfl)))))
    pss_nilD)
theorem sc_law : FnScope ["_law_script", "_law_hand_here", "_law_turn", "_law_many", "_law_moves_here", "_law_system", "_law_other", "_law_again"] ["_law_script"] (defScope (top 47)) := ⟨rfl, rfl, rfl, by decide +kernel, rfl, by decide +kernel, by decide +kernel⟩
theorem ok_law (Wh : Whole P base) (F : FunD K "law" "law" (defArgs (top 47)) (defBody (top 47)) (defScope (top 47)) [] [] f fd) (fx : Fx K mg cm) (E_System__eq_ : EntQ P w K mg base cm 37 "System" m_System__eq_) (E_System__init_ : EntI P w K mg base cm 41 "System" 3 m_System__init_) (E__law_draw : Ent P w K mg base cm 37 "_law_draw" 2 m__law_draw) (E__law_hand : Ent P w K mg base cm 37 "_law_hand" 1 m__law_hand) (E__law_is_right : Ent P w K mg base cm 42 "_law_is_right" 4 m__law_is_right) (E__law_moves : Ent P w K mg base cm 40 "_law_moves" 3 m__law_moves) (E__law_size : Ent P w K mg base cm 39 "_law_size" 1 m__law_size) : FnOk P w K mg base (L2.CX P w) 43 f fd ["_law_script"] (spD K cm 1 m_law) := by
  refine ok_def (b := b_law) (io := []) (np := 1) (nl := 7) (k := 42) Wh (by decide) F sc_law rfl rfl fun cdv A outer s H vs E hl hr g => ?_
  exact (pss_consD (ps_setD sc_law.nd rfl (.inl rfl) (pe_callN E__law_hand rfl (hr.mono (by decide)) rfl g.tk (pa_o_cons (xo (pe_eVar (pv 0 rfl (.inl rfl) rfl rfl))) pa_o_nil rfl) (by decide) rfl rfl rfl rfl) rfl (.inl rfl) (fx_io rfl))
    (pss_consD (ps_forD (t := .nm 2) g.po rfl (pi_range1D rfl fx.n_range (pa_o_cons (xo pe_cInt) pa_o_nil rfl) rfl) (pg_name sc_law.nd rfl (.inl rfl) (.inl rfl)) (free_io rfl) (pss_consD (ps_setD sc_law.nd rfl (.inl rfl) (pe_callN E__law_size rfl (hr.mono (by decide)) rfl g.tk (pa_o_cons (so (pv 1 rfl (.inl rfl) rfl rfl)) pa_o_nil rfl) (by decide) rfl rfl rfl rfl) rfl (.inl rfl) (fx_io rfl))
    (pss_consD (ps_setD sc_law.nd rfl (.inl rfl) (pe_callN E__law_moves rfl (hr.mono (by decide)) rfl g.tk (pa_o_cons (so (pv 1 rfl (.inl rfl) rfl rfl)) (pa_o_cons (xo (pe_eVar (pv 3 rfl (.inl rfl) rfl rfl))) (pa_o_cons (xo (pe_ifD (pt_cmp2 op_gt od_cmp (xo (pe_callN E__law_draw rfl (hr.mono (by decide)) rfl g.tk (pa_o_cons (so (pv 1 rfl (.inl rfl) rfl rfl)) (pa_o_cons (xo pe_cInt) pa_o_nil rfl) rfl) (by decide) rfl rfl rfl rfl)) (xo pe_cInt) (nomark _)) pe_cInt pe_cInt)) pa_o_nil rfl) rfl) rfl) (by decide) rfl rfl rfl rfl) rfl (.inl rfl) (fx_io rfl))
    (pss_consD (ps_setD sc_law.nd rfl (.inl rfl) (pe_makeN E_System__init_ rfl (hr.mono (by decide)) rfl g.tk (pa_o_cons (xo (pe_eVar (pv 3 rfl (.inl rfl) rfl rfl))) (pa_o_cons (xo (pe_eVar (pv 4 rfl (.inl rfl) rfl rfl))) pa_o_nil rfl) rfl) (by decide) rfl rfl rfl rfl) rfl (.inl rfl) (fx_io rfl))
    (pss_consD (ps_ifD (PW.pt (pw_orD (pt_cmp2 (op_neD hr.units) od_ne (xo (pe_fldD rfl fx.k_System fx.f_System_many (so (pv 5 rfl (.inl rfl) rfl rfl)) rfl)) (so (pv 3 rfl (.inl rfl) rfl rfl)) (nomark _)) (pw_orD (pt_cmp2 (op_neD hr.units) od_ne (xo (pe_fldD rfl fx.k_System fx.f_System_moves (so (pv 5 rfl (.inl rfl) rfl rfl)) rfl)) (so (pv 4 rfl (.inl rfl) rfl rfl)) (nomark _)) (pw_or1 (pt_notD (pt_ownEqD E_System__eq_ rfl (hr.mono (by decide)) (xo (pe_eVar (pv 5 rfl (.inl rfl) rfl rfl))) (xo (pe_makeN E_System__init_ rfl (hr.mono (by decide)) rfl g.tk (pa_o_cons (xo (pe_eVar (pv 3 rfl (.inl rfl) rfl rfl))) (pa_o_cons (xo (pe_eVar (pv 4 rfl (.inl rfl) rfl rfl))) pa_o_nil rfl) rfl) (by decide) rfl rfl rfl rfl)) (by decide) (nomark _))))))) (pss_consD (ps_retD pe_cBl)
    pss_nilD) pss_nilD)
    (pss_consD (ps_setD sc_law.nd rfl (.inl rfl) (pe_callN E__law_moves rfl (hr.mono (by decide)) rfl g.tk (pa_o_cons (so (pv 1 rfl (.inl rfl) rfl rfl)) (pa_o_cons (xo (pe_eVar (pv 3 rfl (.inl rfl) rfl rfl))) (pa_o_cons (xo pe_cInt) pa_o_nil rfl) rfl) rfl) (by decide) rfl rfl rfl rfl) rfl (.inl rfl) (fx_io rfl))
    (pss_consD (ps_ifD (PW.pt (pw_orD (pt_cmp2 (op_neD hr.units) od_ne (xo (pe_ownEqD E_System__eq_ rfl (hr.mono (by decide)) (xo (pe_makeN E_System__init_ rfl (hr.mono (by decide)) rfl g.tk (pa_o_cons (xo (pe_eVar (pv 3 rfl (.inl rfl) rfl rfl))) (pa_o_cons (xo (pe_eVar (pv 6 rfl (.inl rfl) rfl rfl))) pa_o_nil rfl) rfl) (by decide) rfl rfl rfl rfl)) (xo (pe_eVar (pv 5 rfl (.inl rfl) rfl rfl))) (by decide) (nomark _))) (xo (pe_cmp2 (op_eqD hr.units) od_eq (so (pv 6 rfl (.inl rfl) rfl rfl)) (so (pv 4 rfl (.inl rfl) rfl rfl)) (nomark _))) (nomark _)) (pw_orD (pt_ownEqD E_System__eq_ rfl (hr.mono (by decide)) (xo (pe_eVar (pv 5 rfl (.inl rfl) rfl rfl))) (xo (pe_tupD (pa_o_cons (xo (pe_eVar (pv 3 rfl (.inl rfl) rfl rfl))) (pa_o_cons (xo (pe_eVar (pv 4 rfl (.inl rfl) rfl rfl))) pa_o_nil rfl) rfl))) (by decide) (nomark _)) (pw_or1 (pt_ownEqD E_System__eq_ rfl (hr.mono (by decide)) (xo (pe_eVar (pv 5 rfl (.inl rfl) rfl rfl))) (xo (pe_eVar (pv 4 rfl (.inl rfl) rfl rfl))) (by decide) (nomark _)))))) (pss_consD (ps_retD pe_cBl)
    pss_nilD) pss_nilD)
    (pss_consD (ps_forD (t := .nm 7) g.po rfl (pi_range1D rfl fx.n_range (pa_o_cons (xo pe_cInt) pa_o_nil rfl) rfl) (pg_name sc_law.nd rfl (.inl rfl) (.inl rfl)) (free_io rfl) (pss_consD (ps_ifD (pt_notD (pt_val (pe_callN E__law_is_right rfl (hr.mono (by decide)) rfl g.tk (pa_o_cons (so (pv 1 rfl (.inl rfl) rfl rfl)) (pa_o_cons (xo (pe_eVar (pv 3 rfl (.inl rfl) rfl rfl))) (pa_o_cons (xo (pe_eVar (pv 4 rfl (.inl rfl) rfl rfl))) (pa_o_cons (xo (pe_eVar (pv 5 rfl (.inl rfl) rfl rfl))) pa_o_nil rfl) rfl) rfl) rfl) (by decide) rfl rfl rfl rfl) fun _ => rfl)) (pss_consD (ps_retD pe_cBl)
    pss_nilD) pss_nilD)
    pss_nilD) fun _ => rfl)
    pss_nilD))))))) fun _ => rfl)
    (pss_consD (ps_retD pe_cBl)
    pss_nilD)))
end
end VE
/-! VE21: the head: what the top leaves, the way into the law. -/
namespace VE
open PySem PySem.Spec PyProof.Rows L2 He
abbrev Tb : Type := List (Str × List Dv)
def asV (g : Addr → Option Obj) (n : Nat) : List Addr := asD g n ++ [cStatics, sysModules]
def hasB (K : PySem.W.Frag) : Bool := (K.lookup cStatics).isSome && ((K.lookup sysModules).isSome && ((K.lookup builtinsNs).isSome && ((K.lookup mainGlobals).isSome && (K.lookup (ga K "__builtins__")).isSome)))
/-- each own class whose instances are met: its type, the way to its instances' class -/
def clsX (K : PySem.W.Frag) (C : Addr) : Bool := decide (PySem.W.typeIn K (.ref C) = some (.type "type")) && (eqO (PySem.W.findIn K (.ref C) "__class__") (some (some (.builtin "object.__class__"))) &&
  (eqO (PySem.W.specialIn K (.builtin "object.__class__") "__get__") (some (some (.builtin "getset_descriptor.__get__"))) && (decide (PySem.W.takesIn K (.builtin "object.__class__") = some true) && decide (PySem.W.mroIn K C (.type "object") = some true))))
def clsB (fa : List Fa) (K : PySem.W.Frag) : Bool := fa.all fun
  | .cls x => clsX K (ga K x)
  | _ => true
def obsV (fa : List Fa) (fn : List DefD) (tb : Tb) (K : PySem.W.Frag) : AlD × Bool := (obsD fa fn K, (tb.all fun p => tupB K p.1 p.2) && (hasB K && clsB fa K))
def valV (fn : List DefD) : AlD × Bool := (valD fn, true)
def SaysV (fa : List Fa) (fn : List DefD) (tb : Tb) (K : PySem.W.Frag) : Prop := obsV fa fn tb K = valV fn
def obsVG (n : Nat) (fa : List Fa) (fn : List DefD) (tb : Tb) (g : Addr → Option Obj) : AlD × Bool := obsV fa fn tb (frG g (asV g n))
def hookV (n : Nat) (fa : List Fa) (fn : List DefD) (tb : Tb) : PySem.W.Hook where
  α := AlD × Bool
  obs := fun s => obsVG n fa fn tb s.heap.get?
  val := fun _ => valV fn
  says := fun _ h => ∃ K : PySem.W.Frag, K.In h ∧ SaysV fa fn tb K
  of := fun _ _ e => ⟨_, frG_in, e⟩
  keeps := fun _ _ _ ⟨K, hK, c⟩ k => ⟨K, PySem.W.Frag.In.keeps hK k, c⟩
theorem obsVG_eq {n : Nat} {fa : List Fa} {fn : List DefD} {tb : Tb} {g : Addr → Option Obj} {s : Shared} (h : ∀ a, g a = s.heap.get? a) : obsVG n fa fn tb g = (hookV n fa fn tb).obs s := by
  have e : g = s.heap.get? := funext h
  rw [e]
  rfl
section
variable {fa : List Fa} {fn : List DefD} {tb : Tb} {K : PySem.W.Frag}
theorem SaysV.d (c : SaysV fa fn tb K) : SaysD fa fn K := congrArg (fun z : AlD × Bool => z.1) c
theorem SaysV.t (c : SaysV fa fn tb K) : ((tb.all fun p => tupB K p.1 p.2) && (hasB K && clsB fa K)) = true := congrArg (fun z : AlD × Bool => z.2) c
theorem SaysV.tup (c : SaysV fa fn tb K) (i : Nat) {p : Str × List Dv} (h : tb[i]? = some p) : tupB K p.1 p.2 = true :=
  List.all_eq_true.mp (ba c.t).1 p (List.mem_of_getElem? h)
/-- what was seen stands in each base -/
theorem ns_in {h base : Heap} {a : Addr} {m : Str → Option Value} (X : K.In h) (Y : K.In base) (s : (K.lookup a).isSome = true) (n : h.Ns a m) : base.Ns a m := by
  obtain ⟨o, e⟩ := Option.isSome_iff_exists.mp s
  obtain ⟨o', es, ep, e1, r⟩ := n
  obtain rfl : o' = o := Option.some.inj (e1.symm.trans (X a o e))
  exact ⟨o', es, ep, Y a o' e, r⟩
theorem SaysV.seer (c : SaysV fa fn tb K) {h base : Heap} (X : K.In h) (Y : K.In base) {mg : Str → Option Value} (G : h.Ns mainGlobals mg) (hg : (Fa.glo "__builtins__").ok K = true) (s : h.NoSeer) : base.NoSeer := by
  obtain ⟨s1, s2⟩ := ba (ba (ba c.t).2).1
  obtain ⟨s2, s3⟩ := ba s2
  obtain ⟨s3, s4⟩ := ba s3
  obtain ⟨s4, s5⟩ := ba s4
  obtain ⟨mc, h1, h2, h3⟩ := s.statics
  obtain ⟨mm, h4, h5⟩ := s.mods
  obtain ⟨mb, h6, h7⟩ := s.imp
  obtain ⟨mg', bm, ob, h8, h9, h10, h11, h12⟩ := s.main
  refine ⟨⟨mc, ns_in X Y s1 h1, h2, h3⟩, ⟨mm, ns_in X Y s2 h4, h5⟩, ⟨mb, ns_in X Y s3 h6, h7⟩, ⟨mg', bm, ob, ns_in X Y s4 h8, h9, ?_, h11, h12⟩⟩
  have e1 := glo_ok X h8 hg
  rw [h9] at e1
  cases e1
  obtain ⟨o, e⟩ := Option.isSome_iff_exists.mp s5
  have := X _ o e
  rw [h10] at this
  cases this
  exact Y _ ob e
theorem clsT_of (c : SaysV fa fn tb K) (i : Nat) {x : Str} (e : fa[i]? = some (.cls x)) : ClsT K (ga K x) := by
  have h := List.all_eq_true.mp (ba (ba c.t).2).2 _ (List.mem_of_getElem? e)
  obtain ⟨h1, h⟩ := ba (show clsX K (ga K x) = true from h)
  obtain ⟨h2, h⟩ := ba h
  obtain ⟨h3, h⟩ := ba h
  obtain ⟨h4, h5⟩ := ba h
  exact ⟨cls_ok (c.d.fact i e), of_decide_eq_true h1, eqO_ok h2, eqO_ok h3, of_decide_eq_true h4, of_decide_eq_true h5⟩
theorem intC_of {mg : Str → Option Value} {h : Heap} (c : SaysV fa fn tb K) (X : K.In h) (G : h.Ns mainGlobals mg) (i : Nat) {x : Str} {z : Int} (e : fa[i]? = some (.int x z)) : IntC mg x z := int_ok X G (c.d.fact i e)
theorem strC_of {mg : Str → Option Value} {h : Heap} (c : SaysV fa fn tb K) (X : K.In h) (G : h.Ns mainGlobals mg) (i : Nat) {x z : Str} (e : fa[i]? = some (.str x z)) : StrC mg x z := str_ok X G (c.d.fact i e)
def dvD : Dv → Option D
  | .int i => some (.int i)
  | .str x => some (.str x)
  | .non => some .non
  | .bl b => some (.bl b)
  | _ => none
def dvL : List Dv → Option (List D)
  | [] => some []
  | d :: r => match dvD d, dvL r with
    | some x, some xs => some (x :: xs)
    | _, _ => none
theorem dv_fz {K K' : PySem.W.Frag} {cm : Str → Addr} {G : Hp} : ∀ {vs : List Dv} {ds : List D}, dvL vs = some ds → FzL K' cm G ds (vs.map (Dv.v K))
  | [], _, h => by cases h; exact .nil
  | d :: r, _, h => by
    simp only [dvL] at h
    split at h
    · rename_i x xs h1 h2
      cases h
      refine .cons ?_ (dv_fz h2)
      cases d <;> cases h1
      · exact .non
      · exact .bl _
      · exact .int _
      · exact .str _
    · cases h
theorem tupC_of {mg : Str → Option Value} {h : Heap} (c : SaysV fa fn tb K) (X : K.In h) (G : h.Ns mainGlobals mg) (i j : Nat) {x : Str} {vs : List Dv} {ds : List D} (e : fa[i]? = some (.glo x)) (e2 : tb[j]? = some (x, vs)) (e3 : dvL vs = some ds) : TupC K mg x ds := by
  have g := glo_ok X G (c.d.fact i e)
  have t := tupB_ok (c.tup j e2) (fun _ => none)
  rcases t with (t | ⟨o, t⟩) | ⟨o, its, n, t1, t2, t3, t4, t5⟩
  · cases t
  · cases t
  · exact ⟨_, o, its, n, _, g, t1, t2, t3, t4, t5, fun cm G => dv_fz e3⟩
end
/-- the law's def, called with the script -/
theorem walk_V {l : PySem.W.OpenLaw} {n k : Nat} {q : Program} {loose : List Str} {XP : (Str → Option Value) → Heap → Prop} {YP : World → Heap → Prop} {d : DefRec} {CX : World → CXT} {x : Str}
    (hn : l.most = some n) (hn2 : n ≤ sizeLine) (hdf : d.params.defaults = []) (hr : Room k callerA) (him : importsNone q = true)
    (F : ∀ (w : World) (mg : Str → Option Value) (fa : Addr) (h : Heap), YP w h → h.NoSeer → h.Ns mainGlobals mg → mg d.name = some (.ref fa) →
      ∃ (K : PySem.W.Frag) (fd : FuncData) (sp : Sp), K.In h ∧ (∀ (s : Shared) (u : Value), BindsTo s fd ⟨[u], []⟩ [(x, u)]) ∧
        (∀ (H : Hp) (a : Addr) (ns : List Int), ns.length ≤ n → (∀ z ∈ ns, Builtin.Int.intBits z ≤ 1048576) → Only H → SqL K H a (ns.map V.int) → sp [.ref a] H (fun v _ => v = .bl true) fun _ _ _ => False) ∧
        ∀ base : Heap, K.In base → base.Ns mainGlobals mg → FnOk l.prog w K mg base (CX w) k fa fd [x] sp)
    (hCX : ∀ (w : World) (H : Hp) (s : Shared) (e : Value) (s' : Shared), CX w [] H s (fun _ _ _ => False) e s' → False) :
    PySem.W.WalkO q loose XP YP l.row.toRowW d [] (fun f vs => PySem.call f vs) := by
  refine Att.attach_callB hn hdf fun w s₀ s₁ mg mb fa o pm cd doc a vs ns G Y ho hd hcd hmg hobj hints hlen hbits hg => ?_
  obtain ⟨K, fd, sp, KX, hb, hsp, hF⟩ := F w mg fa _ Y (G.T.seer him) G.T.g hmg
  exact law_call KX G.T.g G.T.b G.T.builtins G.T.nolimit hg hobj hints (Nat.le_trans hlen hn2) hr hF hb (fun H hO hS => hsp H a ns hlen hbits hO hS) fun H e s' => hCX w H s₁ e s'
/-- the law's end from its term -/
theorem law_end {K : Frag} {cm : Str → Addr} {m : M} {H : Hp} {a : Addr} {ns : List Int} {E : XK} (hS : SqL K H a (ns.map V.int)) (h : ∃ ρ', m [some (.rol (ns.map D.int))] = .ok (.bl true) ρ') : spD K cm 1 m [.ref a] H (fun v _ => v = .bl true) E := by
  obtain ⟨ρ', h⟩ := h
  refine ⟨rfl, H, [some (.rol (ns.map D.int))], [], ⟨.refl H, .nil, fun a ha => (by cases ha), ?_, fun q hq => (by cases hq)⟩, ?_⟩
  · show OwS K cm H H [some (.rol (ns.map D.int))] [some (.ref a)] []
    exact OwS.cons (F1 := []) (F2 := []) ⟨_, rfl, .fz (.rol hS (fz_ints ns))⟩ .nil
  · show match m [some (.rol (ns.map D.int))] with
      | .ok d ρ' => _
      | .exc c x ρ' => _
      | .bad => False
    rw [h]
    exact fun v H' p => p.bl.1
theorem cx_no {P : Program} {w : World} (H : Hp) (s : Shared) (e : Value) (s' : Shared) : L2.CX P w [] H s (fun _ _ _ => False) e s' → False := by
  rintro ⟨_, _, _, _, _, _, _, _, _, _, _, _, z⟩
  exact z
end VE
/-! the head (printed by gen.py) -/
namespace VE
open PySem PySem.Spec PyProof.Rows L2 He

def fa : List Fa := [.glo "__builtins__",
  .glo "is_integer",
  .glo "is_within",
  .glo "are_numbers",
  .glo "divisor_of",
  .glo "is_fraction",
  .glo "is_share",
  .glo "is_move",
  .glo "fraction",
  .glo "plus",
  .glo "sum_of",
  .glo "System",
  .glo "_law_draw",
  .glo "_law_hand",
  .glo "_law_gone",
  .glo "_law_any",
  .glo "_law_row",
  .glo "_law_low",
  .glo "_law_share",
  .glo "_law_times",
  .glo "all_behind",
  .glo "check_row",
  .glo "check_state",
  .glo "led",
  .glo "led_all",
  .glo "lot_of",
  .glo "lot_behind",
  .glo "times",
  .glo "share_of",
  .glo "_law_is_right",
  .glo "_law_leads",
  .glo "_law_shares",
  .glo "_law_moves",
  .glo "_law_size",
  .glo "law",
  .free "abs",
  .free "all",
  .free "any",
  .free "bool",
  .free "enumerate",
  .free "int",
  .free "isinstance",
  .free "len",
  .free "list",
  .free "range",
  .free "set",
  .free "sorted",
  .free "sum",
  .free "tuple",
  .int "MOST_MOVES" (24),
  .int "MOST_ROW" (400),
  .int "MOST_STATES" (12),
  .glo "ONE",
  .glo "ZERO",
  .cls "System",
  .noat "System" "many",
  .noat "System" "moves",
  .mkr "System",
  .meth "System" "__eq__"]
def tb : Tb := [("ONE", [.int (1), .int (1)]),
  ("ZERO", [.int (0), .int (1)])]
def d_is_integer : DefD := ⟨("is_integer", none), "is_integer", "is_integer", defArgs (top 6), defBody (top 6), defScope (top 6), [], []⟩
def d_is_within : DefD := ⟨("is_within", none), "is_within", "is_within", defArgs (top 7), defBody (top 7), defScope (top 7), [], []⟩
def d_are_numbers : DefD := ⟨("are_numbers", none), "are_numbers", "are_numbers", defArgs (top 8), defBody (top 8), defScope (top 8), [], []⟩
def d_divisor_of : DefD := ⟨("divisor_of", none), "divisor_of", "divisor_of", defArgs (top 12), defBody (top 12), defScope (top 12), [], []⟩
def d_is_fraction : DefD := ⟨("is_fraction", none), "is_fraction", "is_fraction", defArgs (top 14), defBody (top 14), defScope (top 14), [], []⟩
def d_is_share : DefD := ⟨("is_share", none), "is_share", "is_share", defArgs (top 18), defBody (top 18), defScope (top 18), [], []⟩
def d_is_move : DefD := ⟨("is_move", none), "is_move", "is_move", defArgs (top 23), defBody (top 23), defScope (top 23), [], []⟩
def d_fraction : DefD := ⟨("fraction", none), "fraction", "fraction", defArgs (top 13), defBody (top 13), defScope (top 13), [], []⟩
def d_plus : DefD := ⟨("plus", none), "plus", "plus", defArgs (top 15), defBody (top 15), defScope (top 15), [], []⟩
def d_sum_of : DefD := ⟨("sum_of", none), "sum_of", "sum_of", defArgs (top 17), defBody (top 17), defScope (top 17), [], []⟩
def d_System__init_ : DefD := ⟨("System", some "__init__"), "__init__", "System.__init__", defArgs (cls (top 24) 0), defBody (cls (top 24) 0), defScope (cls (top 24) 0), [], []⟩
def d_System__eq_ : DefD := ⟨("System", some "__eq__"), "__eq__", "System.__eq__", defArgs (cls (top 24) 1), defBody (cls (top 24) 1), defScope (cls (top 24) 1), [], []⟩
def d__law_draw : DefD := ⟨("_law_draw", none), "_law_draw", "_law_draw", defArgs (top 35), defBody (top 35), defScope (top 35), [], []⟩
def d__law_hand : DefD := ⟨("_law_hand", none), "_law_hand", "_law_hand", defArgs (top 34), defBody (top 34), defScope (top 34), [], []⟩
def d__law_gone : DefD := ⟨("_law_gone", none), "_law_gone", "_law_gone", defArgs (top 43), defBody (top 43), defScope (top 43), [], []⟩
def d__law_any : DefD := ⟨("_law_any", none), "_law_any", "_law_any", defArgs (top 36), defBody (top 36), defScope (top 36), [], []⟩
def d__law_row : DefD := ⟨("_law_row", none), "_law_row", "_law_row", defArgs (top 44), defBody (top 44), defScope (top 44), [], []⟩
def d__law_low : DefD := ⟨("_law_low", none), "_law_low", "_law_low", defArgs (top 37), defBody (top 37), defScope (top 37), [], []⟩
def d__law_share : DefD := ⟨("_law_share", none), "_law_share", "_law_share", defArgs (top 45), defBody (top 45), defScope (top 45), [], []⟩
def d__law_times : DefD := ⟨("_law_times", none), "_law_times", "_law_times", defArgs (top 38), defBody (top 38), defScope (top 38), [], []⟩
def d_all_behind : DefD := ⟨("all_behind", none), "all_behind", "all_behind", defArgs (top 27), defBody (top 27), defScope (top 27), [], []⟩
def d_check_row : DefD := ⟨("check_row", none), "check_row", "check_row", defArgs (top 25), defBody (top 25), defScope (top 25), [], []⟩
def d_check_state : DefD := ⟨("check_state", none), "check_state", "check_state", defArgs (top 26), defBody (top 26), defScope (top 26), [], []⟩
def d_led : DefD := ⟨("led", none), "led", "led", defArgs (top 29), defBody (top 29), defScope (top 29), [], []⟩
def d_led_all : DefD := ⟨("led_all", none), "led_all", "led_all", defArgs (top 28), defBody (top 28), defScope (top 28), [], []⟩
def d_lot_of : DefD := ⟨("lot_of", none), "lot_of", "lot_of", defArgs (top 30), defBody (top 30), defScope (top 30), [], []⟩
def d_lot_behind : DefD := ⟨("lot_behind", none), "lot_behind", "lot_behind", defArgs (top 31), defBody (top 31), defScope (top 31), [], []⟩
def d_times : DefD := ⟨("times", none), "times", "times", defArgs (top 16), defBody (top 16), defScope (top 16), [], []⟩
def d_share_of : DefD := ⟨("share_of", none), "share_of", "share_of", defArgs (top 32), defBody (top 32), defScope (top 32), [], []⟩
def d__law_is_right : DefD := ⟨("_law_is_right", none), "_law_is_right", "_law_is_right", defArgs (top 46), defBody (top 46), defScope (top 46), [], []⟩
def d__law_leads : DefD := ⟨("_law_leads", none), "_law_leads", "_law_leads", defArgs (top 40), defBody (top 40), defScope (top 40), [], []⟩
def d__law_shares : DefD := ⟨("_law_shares", none), "_law_shares", "_law_shares", defArgs (top 39), defBody (top 39), defScope (top 39), [], []⟩
def d__law_moves : DefD := ⟨("_law_moves", none), "_law_moves", "_law_moves", defArgs (top 41), defBody (top 41), defScope (top 41), [], []⟩
def d__law_size : DefD := ⟨("_law_size", none), "_law_size", "_law_size", defArgs (top 42), defBody (top 42), defScope (top 42), [], []⟩
def d_law : DefD := ⟨("law", none), "law", "law", defArgs (top 47), defBody (top 47), defScope (top 47), [], []⟩
def fn : List DefD := [d_is_integer,
  d_is_within,
  d_are_numbers,
  d_divisor_of,
  d_is_fraction,
  d_is_share,
  d_is_move,
  d_fraction,
  d_plus,
  d_sum_of,
  d_System__init_,
  d_System__eq_,
  d__law_draw,
  d__law_hand,
  d__law_gone,
  d__law_any,
  d__law_row,
  d__law_low,
  d__law_share,
  d__law_times,
  d_all_behind,
  d_check_row,
  d_check_state,
  d_led,
  d_led_all,
  d_lot_of,
  d_lot_behind,
  d_times,
  d_share_of,
  d__law_is_right,
  d__law_leads,
  d__law_shares,
  d__law_moves,
  d__law_size,
  d_law]
abbrev R : PySem.W.OpenRow := PySem.W.OpenLaw.row PySem.Challenge.rw_asifforever_k01_whole_rows_led
abbrev hk : PySem.W.Hook := hookV 6 fa fn tb
def ob (s : PySem.W.SharedT) : AlD × Bool := obsVG 6 fa fn tb (HandSHeadRun.getT s)
theorem ob_eq (s : PySem.W.SharedT) : ob s = hk.obs s.abs := obsVG_eq (HandSHeadRun.getT_eq s)
def nm0 : List PySem.Str := ["DrawError", "BadSystem", "NoRow", "NoState", "is_integer", "is_within", "are_numbers", "ZERO", "ONE", "divisor_of", "fraction", "is_fraction", "plus", "times", "sum_of", "is_share", "MOST_STATES", "MOST_MOVES", "MOST_ROW", "is_move", "System", "check_row", "check_state", "all_behind", "led_all", "led", "lot_of", "lot_behind", "share_of", "_law_hand"]
def nm1 : List PySem.Str := ["_law_draw", "_law_any", "_law_low", "_law_times", "_law_shares", "_law_leads", "_law_moves", "_law_size", "_law_gone", "_law_row", "_law_share", "_law_is_right"]
def nms : List PySem.Str := nm0 ++ nm1
theorem run (w : World) : HandSHeadRun.RunEq R (PySem.W.view R.prog [47]) hk ob 3000 nms w := by
  intro os
  kernel_rfl
theorem facts {P : Program} {w : World} {K : PySem.W.Frag} {h : Heap} {mg : Str → Option Value} {f : Addr} (X : K.In h) (G : h.Ns mainGlobals mg) (hfa : mg ("law" : Str) = some (.ref f)) (c : SaysV fa fn tb K) (sr : h.NoSeer) (ht : P.given.tree = none) :
    ∃ fd : FuncData, (∀ (s : Shared) (v : Value), BindsTo s fd ⟨[v], []⟩ [("_law_script", v)]) ∧ ∀ base : Heap, K.In base → base.Ns mainGlobals mg → FnOk P w K mg base (L2.CX P w) 43 f fd ["_law_script"] (spD K (ga K) 1 m_law) := by
  have fx : Fx K mg (ga K) := ⟨free_ok X G (c.d.fact 35 rfl),
    free_ok X G (c.d.fact 36 rfl),
    free_ok X G (c.d.fact 37 rfl),
    free_ok X G (c.d.fact 38 rfl),
    free_ok X G (c.d.fact 39 rfl),
    free_ok X G (c.d.fact 40 rfl),
    free_ok X G (c.d.fact 41 rfl),
    free_ok X G (c.d.fact 42 rfl),
    free_ok X G (c.d.fact 43 rfl),
    free_ok X G (c.d.fact 44 rfl),
    free_ok X G (c.d.fact 45 rfl),
    free_ok X G (c.d.fact 46 rfl),
    free_ok X G (c.d.fact 47 rfl),
    free_ok X G (c.d.fact 48 rfl),
    intC_of c X G 49 rfl,
    intC_of c X G 50 rfl,
    intC_of c X G 51 rfl,
    tupC_of c X G 52 0 rfl rfl rfl,
    tupC_of c X G 53 1 rfl rfl rfl,
    glo_ok X G (c.d.fact 11 rfl),
    clsT_of c 54 rfl,
    cls_ok (c.d.fact 54 rfl),
    noat_ok (c.d.fact 55 rfl),
    noat_ok (c.d.fact 56 rfl)⟩
  obtain ⟨fd0, F0⟩ := c.d.def_ 0 (d := d_is_integer) rfl
  obtain ⟨fd1, F1⟩ := c.d.def_ 1 (d := d_is_within) rfl
  obtain ⟨fd2, F2⟩ := c.d.def_ 2 (d := d_are_numbers) rfl
  obtain ⟨fd3, F3⟩ := c.d.def_ 3 (d := d_divisor_of) rfl
  obtain ⟨fd4, F4⟩ := c.d.def_ 4 (d := d_is_fraction) rfl
  obtain ⟨fd5, F5⟩ := c.d.def_ 5 (d := d_is_share) rfl
  obtain ⟨fd6, F6⟩ := c.d.def_ 6 (d := d_is_move) rfl
  obtain ⟨fd7, F7⟩ := c.d.def_ 7 (d := d_fraction) rfl
  obtain ⟨fd8, F8⟩ := c.d.def_ 8 (d := d_plus) rfl
  obtain ⟨fd9, F9⟩ := c.d.def_ 9 (d := d_sum_of) rfl
  obtain ⟨fd10, F10⟩ := c.d.def_ 10 (d := d_System__init_) rfl
  obtain ⟨fd11, F11⟩ := c.d.def_ 11 (d := d_System__eq_) rfl
  obtain ⟨fd12, F12⟩ := c.d.def_ 12 (d := d__law_draw) rfl
  obtain ⟨fd13, F13⟩ := c.d.def_ 13 (d := d__law_hand) rfl
  obtain ⟨fd14, F14⟩ := c.d.def_ 14 (d := d__law_gone) rfl
  obtain ⟨fd15, F15⟩ := c.d.def_ 15 (d := d__law_any) rfl
  obtain ⟨fd16, F16⟩ := c.d.def_ 16 (d := d__law_row) rfl
  obtain ⟨fd17, F17⟩ := c.d.def_ 17 (d := d__law_low) rfl
  obtain ⟨fd18, F18⟩ := c.d.def_ 18 (d := d__law_share) rfl
  obtain ⟨fd19, F19⟩ := c.d.def_ 19 (d := d__law_times) rfl
  obtain ⟨fd20, F20⟩ := c.d.def_ 20 (d := d_all_behind) rfl
  obtain ⟨fd21, F21⟩ := c.d.def_ 21 (d := d_check_row) rfl
  obtain ⟨fd22, F22⟩ := c.d.def_ 22 (d := d_check_state) rfl
  obtain ⟨fd23, F23⟩ := c.d.def_ 23 (d := d_led) rfl
  obtain ⟨fd24, F24⟩ := c.d.def_ 24 (d := d_led_all) rfl
  obtain ⟨fd25, F25⟩ := c.d.def_ 25 (d := d_lot_of) rfl
  obtain ⟨fd26, F26⟩ := c.d.def_ 26 (d := d_lot_behind) rfl
  obtain ⟨fd27, F27⟩ := c.d.def_ 27 (d := d_times) rfl
  obtain ⟨fd28, F28⟩ := c.d.def_ 28 (d := d_share_of) rfl
  obtain ⟨fd29, F29⟩ := c.d.def_ 29 (d := d__law_is_right) rfl
  obtain ⟨fd30, F30⟩ := c.d.def_ 30 (d := d__law_leads) rfl
  obtain ⟨fd31, F31⟩ := c.d.def_ 31 (d := d__law_shares) rfl
  obtain ⟨fd32, F32⟩ := c.d.def_ 32 (d := d__law_moves) rfl
  obtain ⟨fd33, F33⟩ := c.d.def_ 33 (d := d__law_size) rfl
  obtain ⟨fd34, F34⟩ := c.d.def_ 34 (d := d_law) rfl
  have e := hfa.symm.trans (glo_ok X G (c.d.fact 34 (f := .glo "law") rfl))
  cases e
  have b := FunD.bindsA (ps := ["_law_script"]) F34 fun _ _ _ _ _ _ us hl => match us, hl with | [_], _ => rfl
  refine ⟨fd34, fun s v => b s [v] rfl, fun base hK hN => ?_⟩
  have Wh : Whole P base := ⟨c.seer X hK G (c.d.fact 0 rfl) sr, ht⟩
  have E_is_integer := ok_is_integer (P := P) (w := w) Wh F0 fx (glo_ok X G (c.d.fact 1 rfl)) 
  have E_is_within := ok_is_within (P := P) (w := w) Wh F1 fx (glo_ok X G (c.d.fact 2 rfl)) E_is_integer
  have E_are_numbers := ok_are_numbers (P := P) (w := w) Wh F2 fx (glo_ok X G (c.d.fact 3 rfl)) E_is_within
  have E_divisor_of := ok_divisor_of (P := P) (w := w) Wh F3 fx (glo_ok X G (c.d.fact 4 rfl)) 
  have E_is_fraction := ok_is_fraction (P := P) (w := w) Wh F4 fx (glo_ok X G (c.d.fact 5 rfl)) E_divisor_of E_is_integer
  have E_is_share := ok_is_share (P := P) (w := w) Wh F5 fx (glo_ok X G (c.d.fact 6 rfl)) E_is_fraction
  have E_is_move := ok_is_move (P := P) (w := w) Wh F6 fx (glo_ok X G (c.d.fact 7 rfl)) E_are_numbers E_is_share
  have E_fraction := ok_fraction (P := P) (w := w) Wh F7 fx (glo_ok X G (c.d.fact 8 rfl)) E_divisor_of
  have E_plus := ok_plus (P := P) (w := w) Wh F8 fx (glo_ok X G (c.d.fact 9 rfl)) E_fraction
  have E_sum_of := ok_sum_of (P := P) (w := w) Wh F9 fx (glo_ok X G (c.d.fact 10 rfl)) E_plus
  have E_System__init_ := ok_System__init_ (P := P) (w := w) Wh F10 fx (mkr_ok (c.d.fact 57 rfl)) (glo_ok X G (c.d.fact 11 rfl)) E_is_move E_is_within E_sum_of
  have E_System__eq_ := ok_System__eq_ (P := P) (w := w) Wh F11 fx (meth_ok (c.d.fact 58 rfl)) 
  have E__law_draw := ok__law_draw (P := P) (w := w) Wh F12 fx (glo_ok X G (c.d.fact 12 rfl)) 
  have E__law_hand := ok__law_hand (P := P) (w := w) Wh F13 fx (glo_ok X G (c.d.fact 13 rfl)) 
  have E__law_gone := ok__law_gone (P := P) (w := w) Wh F14 fx (glo_ok X G (c.d.fact 14 rfl)) 
  have E__law_any := ok__law_any (P := P) (w := w) Wh F15 fx (glo_ok X G (c.d.fact 15 rfl)) E__law_draw
  have E__law_row := ok__law_row (P := P) (w := w) Wh F16 fx (glo_ok X G (c.d.fact 16 rfl)) E__law_any E__law_draw
  have E__law_low := ok__law_low (P := P) (w := w) Wh F17 fx (glo_ok X G (c.d.fact 17 rfl)) 
  have E__law_share := ok__law_share (P := P) (w := w) Wh F18 fx (glo_ok X G (c.d.fact 18 rfl)) E__law_low
  have E__law_times := ok__law_times (P := P) (w := w) Wh F19 fx (glo_ok X G (c.d.fact 19 rfl)) E__law_low
  have E_all_behind := ok_all_behind (P := P) (w := w) Wh F20 fx (glo_ok X G (c.d.fact 20 rfl)) 
  have E_check_row := ok_check_row (P := P) (w := w) Wh F21 fx (glo_ok X G (c.d.fact 21 rfl)) E_are_numbers
  have E_check_state := ok_check_state (P := P) (w := w) Wh F22 fx (glo_ok X G (c.d.fact 22 rfl)) E_is_within
  have E_led := ok_led (P := P) (w := w) Wh F23 fx (glo_ok X G (c.d.fact 23 rfl)) E_all_behind E_check_row E_check_state
  have E_led_all := ok_led_all (P := P) (w := w) Wh F24 fx (glo_ok X G (c.d.fact 24 rfl)) E_all_behind E_check_row
  have E_lot_of := ok_lot_of (P := P) (w := w) Wh F25 fx (glo_ok X G (c.d.fact 25 rfl)) 
  have E_lot_behind := ok_lot_behind (P := P) (w := w) Wh F26 fx (glo_ok X G (c.d.fact 26 rfl)) E_all_behind E_check_row E_lot_of
  have E_times := ok_times (P := P) (w := w) Wh F27 fx (glo_ok X G (c.d.fact 27 rfl)) E_fraction
  have E_share_of := ok_share_of (P := P) (w := w) Wh F28 fx (glo_ok X G (c.d.fact 28 rfl)) E_check_row E_times
  have E__law_is_right := ok__law_is_right (P := P) (w := w) Wh F29 fx (glo_ok X G (c.d.fact 29 rfl)) E__law_gone E__law_row E__law_share E__law_times E_led E_led_all E_lot_behind E_share_of
  have E__law_leads := ok__law_leads (P := P) (w := w) Wh F30 fx (glo_ok X G (c.d.fact 30 rfl)) E__law_any E__law_draw
  have E__law_shares := ok__law_shares (P := P) (w := w) Wh F31 fx (glo_ok X G (c.d.fact 31 rfl)) E__law_any E__law_draw E__law_low
  have E__law_moves := ok__law_moves (P := P) (w := w) Wh F32 fx (glo_ok X G (c.d.fact 32 rfl)) E__law_draw E__law_leads E__law_shares
  have E__law_size := ok__law_size (P := P) (w := w) Wh F33 fx (glo_ok X G (c.d.fact 33 rfl)) E__law_any E__law_draw
  exact ok_law Wh F34 fx E_System__eq_ E_System__init_ E__law_draw E__law_hand E__law_is_right E__law_moves E__law_size
end VE
/-! VF1: fractions, plainly. -/
namespace VE
def sumR : Nat → (Nat → Rat) → Rat
  | 0, _ => 0
  | n + 1, f => sumR n f + f n
theorem sumR_congr {f g : Nat → Rat} : ∀ {n : Nat}, (∀ i, i < n → f i = g i) → sumR n f = sumR n g
  | 0, _ => rfl
  | n + 1, h => by rw [sumR, sumR, sumR_congr fun i hi => h i (by omega), h n (by omega)]
theorem sumR_zero : ∀ {n : Nat}, sumR n (fun _ => 0) = 0
  | 0 => rfl
  | n + 1 => by rw [sumR, sumR_zero, Rat.add_zero]
theorem sumR_add {f g : Nat → Rat} : ∀ {n : Nat}, sumR n (fun i => f i + g i) = sumR n f + sumR n g
  | 0 => by simp [sumR, Rat.add_zero]
  | n + 1 => by rw [sumR, sumR, sumR, sumR_add]; grind
theorem sumR_mul {c : Rat} {f : Nat → Rat} : ∀ {n : Nat}, sumR n (fun i => c * f i) = c * sumR n f
  | 0 => by simp [sumR]
  | n + 1 => by rw [sumR, sumR, sumR_mul]; grind
theorem sumR_swap {f : Nat → Nat → Rat} {m : Nat} : ∀ {n : Nat}, sumR n (fun i => sumR m (f i)) = sumR m (fun j => sumR n (fun i => f i j))
  | 0 => by rw [sumR, show (fun j => sumR 0 fun i => f i j) = fun _ => 0 from rfl, sumR_zero]
  | n + 1 => by
    rw [sumR, sumR_swap (n := n), ← sumR_add]
    rfl
theorem sumR_nonneg {f : Nat → Rat} : ∀ {n : Nat}, (∀ i, i < n → 0 ≤ f i) → 0 ≤ sumR n f
  | 0, _ => by simp [sumR]
  | n + 1, h => by
    have h1 := sumR_nonneg (n := n) fun i hi => h i (by omega)
    have h2 := h n (by omega)
    rw [sumR]; grind
theorem sumR_le {f g : Nat → Rat} : ∀ {n : Nat}, (∀ i, i < n → f i ≤ g i) → sumR n f ≤ sumR n g
  | 0, _ => by simp [sumR]
  | n + 1, h => by
    have h1 := sumR_le (n := n) fun i hi => h i (by omega)
    have h2 := h n (by omega)
    rw [sumR, sumR]; grind
theorem sumR_const {c : Rat} : ∀ {n : Nat}, sumR n (fun _ => c) = (n : Nat) * c
  | 0 => by simp [sumR]
  | n + 1 => by rw [sumR, sumR_const]; push_cast; grind
theorem sumR_mem {f : Nat → Rat} : ∀ {n j : Nat}, (∀ i, i < n → 0 ≤ f i) → j < n → f j ≤ sumR n f
  | 0, _, _, h => by omega
  | n + 1, j, h, hj => by
    have h1 := sumR_nonneg (n := n) fun i hi => h i (by omega)
    have h2 := h n (by omega)
    rw [sumR]
    by_cases e : j = n
    · subst e; grind
    · have := sumR_mem (n := n) (j := j) (fun i hi => h i (by omega)) (by omega)
      grind
theorem sumR_single {f : Nat → Rat} {j : Nat} : ∀ {n : Nat}, sumR n (fun i => if i = j then f i else 0) = if j < n then f j else 0
  | 0 => by simp [sumR]
  | n + 1 => by
    rw [sumR, sumR_single (n := n)]
    by_cases e : n = j
    · subst e; simp [Rat.zero_add]
    · by_cases h : j < n
      · rw [if_pos h, if_neg e, if_pos (by omega)]; grind
      · rw [if_neg h, if_neg e, if_neg (by omega)]; grind
/-- with this bottom -/
def isIn (N : Nat) (q : Rat) : Prop := ∃ z : Int, q * (N : Rat) = z
theorem isIn.add {N : Nat} {p q : Rat} (h : isIn N p) (k : isIn N q) : isIn N (p + q) := by
  obtain ⟨a, ha⟩ := h
  obtain ⟨b, hb⟩ := k
  refine ⟨a + b, ?_⟩
  rw [Rat.intCast_add]; grind
theorem isIn.mul {N M : Nat} {p q : Rat} (h : isIn N p) (k : isIn M q) : isIn (N * M) (p * q) := by
  obtain ⟨a, ha⟩ := h
  obtain ⟨b, hb⟩ := k
  refine ⟨a * b, ?_⟩
  rw [Rat.intCast_mul, Rat.natCast_mul]; grind
theorem isIn.zero {N : Nat} : isIn N 0 := ⟨0, by simp⟩
theorem isIn.one {N : Nat} : isIn N 1 := ⟨N, by rw [Rat.one_mul, Rat.intCast_natCast]⟩
theorem isIn.more {N M : Nat} {q : Rat} (h : isIn N q) : isIn (N * M) q := by
  have := h.mul (isIn.one (N := M))
  rwa [Rat.mul_one] at this
theorem isIn.sum {N : Nat} {f : Nat → Rat} : ∀ {n : Nat}, (∀ i, i < n → isIn N (f i)) → isIn N (sumR n f)
  | 0, _ => isIn.zero
  | n + 1, h => (isIn.sum (n := n) fun i hi => h i (by omega)).add (h n (by omega))
theorem num_eq {q : Rat} : q * (q.den : Rat) = (q.num : Rat) := by
  have h := Rat.mkRat_self q
  rw [Rat.mkRat_eq_div] at h
  have : (q.den : Rat) ≠ 0 := fun z => q.den_nz (Rat.natCast_eq_zero_iff.mp z)
  calc q * (q.den : Rat) = (q.num : Rat) / (q.den : Rat) * (q.den : Rat) := by rw [h]
    _ = _ := Rat.div_mul_cancel this
theorem isIn.den {N : Nat} {q : Rat} (h : isIn N q) : q.den ∣ N := by
  obtain ⟨z, hz⟩ := h
  have e : q.num * N = z * q.den := by
    have : ((q.num * N : Int) : Rat) = ((z * q.den : Int) : Rat) := by
      rw [Rat.intCast_mul, Rat.intCast_mul, ← num_eq, ← hz, Rat.intCast_natCast, Rat.intCast_natCast]; grind
    exact Rat.intCast_inj.mp this
  have h2 : q.den ∣ q.num.natAbs * N := by
    have := congrArg Int.natAbs e
    rw [Int.natAbs_mul, Int.natAbs_mul, Int.natAbs_natCast, Int.natAbs_natCast] at this
    exact ⟨z.natAbs, by rw [this, Nat.mul_comm]⟩
  exact (Nat.Coprime.symm q.reduced).dvd_of_dvd_mul_left h2
/-- small enough to be reckoned with -/
structure fitQ (q : Rat) : Prop where
  n : q.num.natAbs < 2 ^ 5000
  d : q.den < 2 ^ 5000
theorem isIn.fit {N : Nat} {q : Rat} (h : isIn N q) (h0 : 0 ≤ q) (h1 : q ≤ 1000) (n0 : 0 < N) (n1 : N ≤ 2 ^ 4000) : fitQ q := by
  have hd : q.den ≤ N := Nat.le_of_dvd n0 h.den
  have e0 : 0 ≤ q.num := Rat.num_nonneg.mpr h0
  have e1 : q.num ≤ 1000 * q.den := by
    have t : ((q.num : Int) : Rat) ≤ ((1000 * q.den : Int) : Rat) := by
      rw [← num_eq, Rat.intCast_mul, Rat.intCast_natCast]
      have t1 : (0 : Rat) ≤ (q.den : Rat) := Rat.natCast_nonneg
      exact Rat.mul_le_mul_of_nonneg_right h1 t1
    exact Rat.intCast_le_intCast.mp t
  refine ⟨?_, ?_⟩
  · have h2 : q.num.natAbs ≤ 1000 * N := by clear n1; omega
    have h3 : 1000 * N ≤ 2 ^ 10 * 2 ^ 4000 := Nat.mul_le_mul (by decide) n1
    rw [← Nat.pow_add] at h3
    exact Nat.lt_of_le_of_lt (Nat.le_trans h2 h3) (Nat.pow_lt_pow_right (by decide) (by decide))
  · exact Nat.lt_of_le_of_lt (Nat.le_trans hd n1) (Nat.pow_lt_pow_right (by decide) (by decide))
/-! ### systems -/
structure Sy where
  many : Nat
  K : Nat
  sh : Nat → Rat
  ld : Nat → Nat → Nat
structure SyOk (s : Sy) (S : Nat) : Prop where
  m1 : 1 ≤ s.many
  m12 : s.many ≤ 12
  k1 : 1 ≤ s.K
  k24 : s.K ≤ 24
  s0 : ∀ k, k < s.K → 0 < s.sh k
  sI : ∀ k, k < s.K → isIn S (s.sh k)
  s1 : sumR s.K s.sh = 1
  ll : ∀ k, k < s.K → ∀ i, i < s.many → s.ld k i < s.many
structure SpOk (m N : Nat) (p : Nat → Rat) : Prop where
  p0 : ∀ i, i < m → 0 ≤ p i
  pI : ∀ i, i < m → isIn N (p i)
  p1 : sumR m p = 1
theorem SpOk.le {m N : Nat} {p : Nat → Rat} (h : SpOk m N p) {i : Nat} (hi : i < m) : p i ≤ 1 := by
  rw [← h.p1]; exact sumR_mem h.p0 hi
theorem SyOk.le {s : Sy} {S : Nat} (h : SyOk s S) {k : Nat} (hk : k < s.K) : s.sh k ≤ 1 := by
  rw [← h.s1]; exact sumR_mem (fun i hi => Rat.le_of_lt (h.s0 i hi)) hk
def nx (s : Sy) (p : Nat → Rat) (t : Nat) : Rat := sumR s.K fun k => sumR s.many fun i => if s.ld k i = t then s.sh k * p i else 0
def stR (s : Sy) (i t : Nat) : Rat := sumR s.K fun k => if s.ld k i = t then s.sh k else 0
theorem nx_st {s : Sy} {p : Nat → Rat} {t : Nat} : sumR s.many (fun o => p o * stR s o t) = nx s p t := by
  unfold nx stR
  rw [sumR_swap]
  apply sumR_congr
  intro o _
  rw [← sumR_mul]
  apply sumR_congr
  intro k _
  split
  · exact Rat.mul_comm _ _
  · exact Rat.mul_zero _
theorem nx_delta {s : Sy} {i t : Nat} (hi : i < s.many) : nx s (fun j => if j = i then 1 else 0) t = stR s i t := by
  unfold nx stR
  apply sumR_congr
  intro k _
  have e := sumR_single (f := fun j => if s.ld k j = t then s.sh k else 0) (j := i) (n := s.many)
  rw [if_pos hi] at e
  rw [← e]
  apply sumR_congr
  intro j _
  dsimp only
  by_cases h1 : j = i
  · rw [if_pos h1, if_pos h1, Rat.mul_one]
  · rw [if_neg h1, if_neg h1, Rat.mul_zero]
    split <;> rfl
theorem nx_congr {s : Sy} {p q : Nat → Rat} (h : ∀ i, i < s.many → p i = q i) {t : Nat} : nx s p t = nx s q t := by
  unfold nx
  apply sumR_congr
  intro k _
  apply sumR_congr
  intro i hi
  rw [h i hi]
theorem nx_ok {s : Sy} {S N : Nat} {p : Nat → Rat} (hs : SyOk s S) (hp : SpOk s.many N p) : SpOk s.many (S * N) (nx s p) where
  p0 := fun t _ => sumR_nonneg fun k hk => sumR_nonneg fun i hi => by
    split
    · exact Rat.mul_nonneg (Rat.le_of_lt (hs.s0 k hk)) (hp.p0 i hi)
    · exact Rat.le_refl
  pI := fun t _ => isIn.sum fun k hk => isIn.sum fun i hi => by
    split
    · exact (hs.sI k hk).mul (hp.pI i hi)
    · exact isIn.zero
  p1 := by
    unfold nx
    rw [sumR_swap (f := fun t k => sumR s.many fun i => if s.ld k i = t then s.sh k * p i else 0)]
    rw [← hs.s1]
    apply sumR_congr
    intro k hk
    rw [sumR_swap (f := fun t i => if s.ld k i = t then s.sh k * p i else 0)]
    have e : sumR s.many (fun i => s.sh k * p i) = s.sh k := by rw [sumR_mul, hp.p1, Rat.mul_one]
    rw [show (sumR s.many fun i => sumR s.many fun t => if s.ld k i = t then s.sh k * p i else 0) = sumR s.many (fun i => s.sh k * p i) from ?_, e]
    apply sumR_congr
    intro i hi
    have := sumR_single (f := fun _ => s.sh k * p i) (j := s.ld k i) (n := s.many)
    rw [if_pos (hs.ll k hk i hi)] at this
    refine Eq.trans ?_ this
    apply sumR_congr
    intro t _
    by_cases h : s.ld k i = t
    · rw [if_pos h, if_pos h.symm]
    · rw [if_neg h, if_neg fun z => h z.symm]
def itn (s : Sy) : Nat → (Nat → Rat) → Nat → Rat
  | 0, p => p
  | n + 1, p => nx s (itn s n p)
theorem itn_ok {s : Sy} {S N : Nat} {p : Nat → Rat} (hs : SyOk s S) (hp : SpOk s.many N p) : ∀ n, SpOk s.many (S ^ n * N) (itn s n p)
  | 0 => by rw [Nat.pow_zero, Nat.one_mul]; exact hp
  | n + 1 => by
    have := nx_ok hs (itn_ok hs hp n)
    rw [Nat.pow_succ, Nat.mul_comm (S ^ n) S, Nat.mul_assoc]
    exact this
theorem itn_add {s : Sy} {p : Nat → Rat} (a : Nat) : ∀ b, itn s (a + b) p = itn s b (itn s a p)
  | 0 => rfl
  | b + 1 => by show nx s (itn s (a + b) p) = nx s (itn s b (itn s a p)); rw [itn_add a b]
theorem itn_congr {s : Sy} {p q : Nat → Rat} (h : ∀ i, i < s.many → p i = q i) : ∀ n i, i < s.many → itn s n p i = itn s n q i
  | 0 => h
  | n + 1 => fun i hi => nx_congr (itn_congr h n)
/-! ### by rows -/
def sumL {α : Type} (f : α → Rat) : List α → Rat
  | [] => 0
  | x :: r => f x + sumL f r
theorem sumL_app {α : Type} {f : α → Rat} {b : List α} : ∀ {a : List α}, sumL f (a ++ b) = sumL f a + sumL f b
  | [] => by show _ = 0 + _; rw [Rat.zero_add]; rfl
  | x :: r => by show f x + sumL f (r ++ b) = f x + sumL f r + _; rw [sumL_app, Rat.add_assoc]
theorem sumL_congr {α : Type} {f g : α → Rat} : ∀ {a : List α}, (∀ x ∈ a, f x = g x) → sumL f a = sumL g a
  | [], _ => rfl
  | x :: r, h => by
    show f x + sumL f r = g x + sumL g r
    rw [h x (by simp), sumL_congr fun y hy => h y (by simp [hy])]
theorem sumL_swap {α : Type} {f : α → Nat → Rat} {n : Nat} : ∀ {a : List α}, sumL (fun x => sumR n (f x)) a = sumR n fun i => sumL (fun x => f x i) a
  | [] => sumR_zero.symm
  | x :: r => by
    show sumR n (f x) + sumL (fun x => sumR n (f x)) r = sumR n fun i => f x i + sumL (fun x => f x i) r
    rw [sumR_add, sumL_swap]
theorem sumL_mul {α : Type} {c : Rat} {f : α → Rat} : ∀ {a : List α}, sumL (fun x => c * f x) a = c * sumL f a
  | [] => (Rat.mul_zero _).symm
  | x :: r => by
    show c * f x + sumL (fun x => c * f x) r = c * (f x + sumL f r)
    rw [sumL_mul]; grind
theorem sumL_le {α : Type} {c : Rat} {f : α → Rat} : ∀ {a : List α}, (∀ x ∈ a, f x ≤ c) → sumL f a ≤ (a.length : Nat) * c
  | [], _ => by show (0 : Rat) ≤ ((0 : Nat) : Rat) * c; grind
  | x :: r, h => by
    have h1 := sumL_le (a := r) fun y hy => h y (by simp [hy])
    have h2 := h x (by simp)
    show f x + sumL f r ≤ ((r.length + 1 : Nat) : Rat) * c
    rw [Rat.natCast_add]; grind
theorem sumL_nonneg {α : Type} {f : α → Rat} : ∀ {a : List α}, (∀ x ∈ a, 0 ≤ f x) → 0 ≤ sumL f a
  | [], _ => Rat.le_refl
  | x :: r, h => by
    have h1 := sumL_nonneg (a := r) fun y hy => h y (by simp [hy])
    have h2 := h x (by simp)
    show 0 ≤ f x + sumL f r
    grind
theorem sumL_in {α : Type} {N : Nat} {f : α → Rat} : ∀ {a : List α}, (∀ x ∈ a, isIn N (f x)) → isIn N (sumL f a)
  | [], _ => isIn.zero
  | x :: r, h => (h x (by simp)).add (sumL_in fun y hy => h y (by simp [hy]))
def lead (s : Sy) : List Nat → Nat → Nat
  | [], i => i
  | k :: r, i => lead s r (s.ld k i)
theorem lead_app {s : Sy} {b : List Nat} : ∀ {a : List Nat} {i : Nat}, lead s (a ++ b) i = lead s b (lead s a i)
  | [], _ => rfl
  | k :: r, i => by show lead s (r ++ b) _ = lead s b (lead s r _); rw [lead_app]
theorem lead_lt {s : Sy} {S : Nat} (hs : SyOk s S) : ∀ {r : List Nat} {i : Nat}, (∀ k ∈ r, k < s.K) → i < s.many → lead s r i < s.many
  | [], _, _, h => h
  | k :: r, i, hr, h => lead_lt hs (r := r) (fun j hj => hr j (by simp [hj])) (hs.ll k (hr k (by simp)) i h)
abbrev Row := List Nat × Rat
def longer1 (s : Sy) (r : Row) : List Row := (List.range s.K).map fun k => (r.1 ++ [k], r.2 * s.sh k)
def longer (s : Sy) (rows : List Row) : List Row := rows.flatMap (longer1 s)
def rowsN (s : Sy) : Nat → List Row
  | 0 => [([], 1)]
  | n + 1 => longer s (rowsN s n)
structure RowOk (s : Sy) (N : Nat) (r : Row) : Prop where
  k : ∀ k ∈ r.1, k < s.K
  n : r.1.length ≤ 1000
  i : isIn N r.2
  p0 : 0 ≤ r.2
  p1 : r.2 ≤ 1
theorem mul_le1 {a b : Rat} (a0 : 0 ≤ a) (a1 : a ≤ 1) (b1 : b ≤ 1) : a * b ≤ 1 := by
  have := Rat.mul_le_mul_of_nonneg_left b1 a0
  rw [Rat.mul_one] at this
  grind
theorem longer1_ok {s : Sy} {S N : Nat} (hs : SyOk s S) {r : Row} (h : RowOk s N r) (hn : r.1.length < 1000) : ∀ q ∈ longer1 s r, RowOk s (N * S) q := by
  intro q hq
  obtain ⟨k, hk, rfl⟩ := List.mem_map.mp hq
  have hk := List.mem_range.mp hk
  exact ⟨fun j hj => by
    rcases List.mem_append.mp hj with h1 | h1
    · exact h.k j h1
    · rw [List.mem_singleton.mp h1]; exact hk, by rw [List.length_append, List.length_singleton]; omega, h.i.mul (hs.sI k hk), Rat.mul_nonneg h.p0 (Rat.le_of_lt (hs.s0 k hk)), mul_le1 h.p0 h.p1 (hs.le hk)⟩
theorem longer1_len {s : Sy} {r : Row} : (longer1 s r).length = s.K := by simp [longer1]
theorem rowsN_ok {s : Sy} {S : Nat} (hs : SyOk s S) : ∀ n, n ≤ 500 → (∀ r ∈ rowsN s n, RowOk s (S ^ n) r ∧ r.1.length = n) ∧ (rowsN s n).length = s.K ^ n
  | 0, _ => ⟨fun r hr => by
    rw [List.mem_singleton.mp hr]
    exact ⟨⟨(fun k hk => absurd hk List.not_mem_nil), Nat.zero_le _, isIn.one, by decide, by decide⟩, rfl⟩, rfl⟩
  | n + 1, h => by
    obtain ⟨h1, h2⟩ := rowsN_ok hs n (by omega)
    refine ⟨fun r hr => ?_, ?_⟩
    · obtain ⟨q, hq, hr⟩ := List.mem_flatMap.mp hr
      obtain ⟨q1, q2⟩ := h1 q hq
      refine ⟨longer1_ok hs q1 (by omega) r hr, ?_⟩
      obtain ⟨k, _, rfl⟩ := List.mem_map.mp hr
      rw [List.length_append, List.length_singleton, q2]
    · show ((rowsN s n).flatMap (longer1 s)).length = _
      rw [List.length_flatMap, Nat.pow_succ, ← h2]
      have : ∀ l : List Row, (l.map fun r => (longer1 s r).length).sum = l.length * s.K := fun l => by
        induction l with
        | nil => simp
        | cons a r ih => rw [List.map_cons, List.sum_cons, ih, longer1_len, List.length_cons, Nat.add_mul]; omega
      exact this _
def rowT (s : Sy) (p : Nat → Rat) (t : Nat) (r : Row) : Rat := sumR s.many fun i => if lead s r.1 i = t then r.2 * p i else 0
theorem range_sum {f : Nat → Rat} : ∀ {n : Nat}, sumL f (List.range n) = sumR n f
  | 0 => rfl
  | n + 1 => by
    rw [List.range_succ, sumL_app, range_sum]
    show sumR n f + (f n + 0) = sumR n f + f n
    rw [Rat.add_zero]
theorem sumL_map {α β : Type} {g : α → β} {f : β → Rat} : ∀ {a : List α}, sumL f (a.map g) = sumL (fun x => f (g x)) a
  | [] => rfl
  | x :: r => by show f (g x) + sumL f (r.map g) = _; rw [sumL_map]; rfl
theorem sumL_longer {s : Sy} {f : Row → Rat} : ∀ {rows : List Row}, sumL f (longer s rows) = sumL (fun r => sumR s.K fun k => f (r.1 ++ [k], r.2 * s.sh k)) rows
  | [] => rfl
  | r :: rows => by
    show sumL f (longer1 s r ++ longer s rows) = _
    rw [sumL_app, sumL_longer, longer1, sumL_map, range_sum]
    rfl
theorem rows_sum {s : Sy} {S : Nat} (hs : SyOk s S) {p : Nat → Rat} : ∀ n, n ≤ 500 → ∀ t, t < s.many → sumL (rowT s p t) (rowsN s n) = itn s n p t
  | 0, _ => fun t ht => by
    show rowT s p t ([], 1) + 0 = p t
    rw [Rat.add_zero]
    have := sumR_single (f := p) (j := t) (n := s.many)
    rw [if_pos ht] at this
    rw [← this]
    apply sumR_congr
    intro i _
    show (if i = t then 1 * p i else 0) = _
    rw [Rat.one_mul]
  | n + 1, h => fun t ht => by
    have ih := rows_sum hs (p := p) n (by omega)
    have ok := (rowsN_ok hs n (by omega)).1
    show sumL (rowT s p t) (longer s (rowsN s n)) = nx s (itn s n p) t
    rw [sumL_longer, sumL_swap]
    unfold nx
    apply sumR_congr
    intro k hk
    have e : (sumR s.many fun u => if s.ld k u = t then s.sh k * itn s n p u else 0) = sumR s.many fun u => sumL (fun r => if s.ld k u = t then s.sh k * rowT s p u r else 0) (rowsN s n) := by
      apply sumR_congr
      intro u hu
      by_cases hc : s.ld k u = t
      · rw [if_pos hc, ← ih u hu, ← sumL_mul]
        apply sumL_congr
        intro r _
        rw [if_pos hc]
      · rw [if_neg hc]
        have : ∀ l : List Row, sumL (fun r => if s.ld k u = t then s.sh k * rowT s p u r else 0) l = 0 := fun l => by
          induction l with
          | nil => rfl
          | cons a r ih2 => show (if _ then _ else _) + sumL _ r = _; rw [ih2, if_neg hc, Rat.add_zero]
        rw [this]
    rw [e, ← sumL_swap (f := fun r u => if s.ld k u = t then s.sh k * rowT s p u r else 0)]
    apply sumL_congr
    intro r hr
    unfold rowT
    have e2 : (sumR s.many fun u => if s.ld k u = t then s.sh k * sumR s.many fun i => if lead s r.1 i = u then r.2 * p i else 0 else 0) = sumR s.many fun u => sumR s.many fun i => if s.ld k u = t then s.sh k * (if lead s r.1 i = u then r.2 * p i else 0) else 0 := by
      apply sumR_congr
      intro u _
      by_cases hc : s.ld k u = t
      · rw [if_pos hc, ← sumR_mul]
        apply sumR_congr
        intro i _
        rw [if_pos hc]
      · rw [if_neg hc]
        symm
        have : (fun i => if s.ld k u = t then s.sh k * (if lead s r.1 i = u then r.2 * p i else 0) else 0) = fun _ => 0 := by funext i; rw [if_neg hc]
        rw [this, sumR_zero]
    rw [e2, sumR_swap]
    apply sumR_congr
    intro i hi
    have hl := lead_lt hs (ok r hr).1.k hi
    rw [show lead s (r.1 ++ [k]) i = s.ld k (lead s r.1 i) by rw [lead_app]; rfl]
    have := sumR_single (f := fun u => if s.ld k u = t then s.sh k * (r.2 * p i) else 0) (j := lead s r.1 i) (n := s.many)
    rw [if_pos hl] at this
    rw [show (if s.ld k (lead s r.1 i) = t then r.2 * s.sh k * p i else 0) = (if s.ld k (lead s r.1 i) = t then s.sh k * (r.2 * p i) else 0) by
      split
      · grind
      · rfl, ← this]
    apply sumR_congr
    intro u _
    by_cases h1 : u = lead s r.1 i
    · rw [if_pos h1, if_pos h1.symm]
    · have h2 : ¬lead s r.1 i = u := fun z => h1 z.symm
      rw [if_neg h1, if_neg h2, Rat.mul_zero]
      split <;> rfl
end VE
/-! VF2: loops by numbers. -/
namespace VE
open PySem PySem.Spec PyProof.Rows L2
theorem range_r' {α : Type} {f : Nat → α} {n : Nat} : (List.range n).map f = (List.range' 0 n).map f := by rw [List.range_eq_range']
theorem wp_fRange {t : Tgt} {b : MS} {N B : Env → Prop} {R : D → Env → Prop} {ρ : Env} {f : Nat → D} {K : Nat} (I : Nat → Env → Prop) (h0 : I 0 ρ)
    (step : ∀ j ρ, j < K → I j ρ → wpS (t.m (f j)) ρ (fun ρ1 => wpS b ρ1 (I (j + 1)) R N) (fun _ _ => False) (fun _ => False)) (hN : ∀ ρ, I K ρ → N ρ) :
    wpS (fIter t b ((List.range K).map f)) ρ N R B := by
  refine wp_fIter (fun r ρ => ∃ j n, j + n = K ∧ r = (List.range' j n).map f ∧ I j ρ) (fun ρ hI => ?_) (fun d r ρ hI => ?_) _ _ ⟨0, K, by omega, range_r', h0⟩
  · obtain ⟨j, n, e, e2, h⟩ := hI
    cases n with
    | zero => have : j = K := by omega
              subst this; exact hN ρ h
    | succ n => cases e2
  · obtain ⟨j, n, e, e2, h⟩ := hI
    cases n with
    | zero => cases e2
    | succ n =>
      rw [List.range'_succ, List.map_cons] at e2
      injection e2 with e3 e4
      subst e3 e4
      exact wpS_mono (step j ρ (by omega) h) (fun ρ1 h1 => wpS_mono h1 (fun ρ2 h2 => ⟨j + 1, n, by omega, rfl, h2⟩) (fun _ _ h => h) (fun _ h => h)) (fun _ _ h => h) (fun _ h => h)
theorem comp_range {v : Nat} {it : ML} {e : M} (E : Option D → Env) (f g : Nat → D) {K : Nat} {Q : D → Env → Prop} {ρ : Env} (hv : ∀ y z, (E y).set v z = E z) (hl : ∀ y, v < (E y).length) (hg : ∀ y, sget (E y) v = y)
    (hit : wpI it ρ fun ds ρ0 => ∃ y, ρ0 = E y ∧ ds = (List.range K).map f ∧ K ≤ 1000 ∧ (∀ i, i < K → wpE e (E (some (f i))) fun x ρ' => ∃ z, ρ' = E z ∧ frz x = g i) ∧
      Q (.lst true ((List.range K).map g)) (E (kept y))) : wpE (eComp [v] it (.nm v) none e) ρ Q := by
  rw [wp_comp]
  unfold wpI at hit ⊢
  cases e1 : it ρ with
  | exc _ _ _ => rw [e1] at hit; exact hit.elim
  | bad => rw [e1] at hit; exact hit.elim
  | ok ds' ρ0 =>
    rw [e1] at hit
    obtain ⟨y, rfl, rfl, hK, he, q⟩ := hit
    dsimp only
    refine ⟨by rw [List.length_map, List.length_range]; exact Nat.lt_of_le_of_lt hK (by decide), ?_⟩
    have key := wp_cIter (own := [v]) (t := .nm v) (c := none) (e := e) (fun acc r ρ => ∃ y' j n, j + n = K ∧ ρ = E y' ∧ r = (List.range' j n).map f ∧ acc = (List.range j).map g) (fun acc d r ρ hI => by
      obtain ⟨y1, j, n, ej, rfl, e2, rfl⟩ := hI
      cases n with
      | zero => cases e2
      | succ n =>
      rw [List.range'_succ, List.map_cons] at e2
      injection e2 with e3 e4
      subst e3 e4
      rw [show wipeE (E y1) [v] = E none from hv y1 none, wp_nm]
      refine ⟨hl _, ?_⟩
      rw [hv]
      refine wpE_of (d := .bl true) (ρ' := E (some (f j))) rfl (.inl ⟨rfl, ?_⟩)
      refine wpE_mono (he j (by omega)) fun x ρ' ⟨z, hρ', hx⟩ => ⟨z, j + 1, n, by omega, hρ', rfl, ?_⟩
      rw [List.range_succ, List.map_append, hx]; rfl) ((List.range K).map f) [] (E y) ⟨y, 0, K, by omega, rfl, range_r', rfl⟩
    unfold wpI at key
    cases e2 : cIter [v] (.nm v) none e ((List.range K).map f) (E y) with
    | exc _ _ _ => rw [e2] at key; exact key.elim
    | bad => rw [e2] at key; exact key.elim
    | ok xs ρ1 =>
      rw [e2] at key
      dsimp only at key ⊢
      obtain ⟨y', j, n, ej, rfl, hd, hx⟩ := key
      cases n with
      | succ n => cases hd
      | zero =>
      have ej : j = K := by omega
      subst ej
      rw [List.nil_append] at hx
      subst hx
      have eu : unwipe (E y) [v] (wipeE (E y') [v]) = E (kept y) := by
        show ((E y').set v none).set v (keepD (E y) v) = _
        rw [hv, hv]
        congr 1
        unfold keepD
        rw [hg]
        cases y <;> rfl
      rw [eu]
      exact q
/-- .. of two names -/
theorem comp_range2 {v w : Nat} {it : ML} {e : M} (E : Option D → Option D → Env) (fa fb g : Nat → D) {K : Nat} {Q : D → Env → Prop} {ρ : Env} (h1 : ∀ a b x, (E a b).set v x = E x b) (h2 : ∀ a b x, (E a b).set w x = E a x) (hl : ∀ a b, v < (E a b).length ∧ w < (E a b).length) (hg : ∀ a b, sget (E a b) v = a ∧ sget (E a b) w = b)
    (hit : wpI it ρ fun ds ρ0 => ∃ y z, ρ0 = E y z ∧ ds = (List.range K).map (fun i => .tup [fa i, fb i]) ∧ K ≤ 1000 ∧ (∀ i, i < K → wpE e (E (some (fa i)) (some (fb i))) fun x ρ' => ∃ a b, ρ' = E a b ∧ frz x = g i) ∧
      Q (.lst true ((List.range K).map g)) (E (kept y) (kept z))) : wpE (eComp [v, w] it (.tup [.nm v, .nm w]) none e) ρ Q := by
  rw [wp_comp]
  unfold wpI at hit ⊢
  cases e1 : it ρ with
  | exc _ _ _ => rw [e1] at hit; exact hit.elim
  | bad => rw [e1] at hit; exact hit.elim
  | ok ds' ρ0 =>
    rw [e1] at hit
    obtain ⟨y, z, rfl, rfl, hK, he, q⟩ := hit
    dsimp only
    refine ⟨by rw [List.length_map, List.length_range]; exact Nat.lt_of_le_of_lt hK (by decide), ?_⟩
    have key := wp_cIter (own := [v, w]) (t := .tup [.nm v, .nm w]) (c := none) (e := e) (fun acc r ρ => ∃ a' b' j n, j + n = K ∧ ρ = E a' b' ∧ r = (List.range' j n).map (fun i => D.tup [fa i, fb i]) ∧ acc = (List.range j).map g) (fun acc d r ρ hI => by
      obtain ⟨a', b', j, n, ej, rfl, e2, rfl⟩ := hI
      cases n with
      | zero => cases e2
      | succ n =>
      rw [List.range'_succ, List.map_cons] at e2
      injection e2 with e3 e4
      subst e3 e4
      rw [show wipeE (E a' b') [v, w] = E none none from by show ((E a' b').set w none).set v none = _; rw [h2, h1]]
      rw [wp_tup2]
      refine ⟨(hl _ _).1, (hl _ _).2, ?_⟩
      rw [h1, h2]
      refine wpE_of (d := .bl true) (ρ' := E (some (fa j)) (some (fb j))) rfl (.inl ⟨rfl, ?_⟩)
      refine wpE_mono (he j (by omega)) fun x ρ' ⟨a2, b2, hρ', hx⟩ => ⟨a2, b2, j + 1, n, by omega, hρ', rfl, ?_⟩
      rw [List.range_succ, List.map_append, hx]; rfl) ((List.range K).map (fun i => D.tup [fa i, fb i])) [] (E y z) ⟨y, z, 0, K, by omega, rfl, range_r', rfl⟩
    unfold wpI at key
    cases e2 : cIter [v, w] (.tup [.nm v, .nm w]) none e ((List.range K).map (fun i => D.tup [fa i, fb i])) (E y z) with
    | exc _ _ _ => rw [e2] at key; exact key.elim
    | bad => rw [e2] at key; exact key.elim
    | ok xs ρ1 =>
      rw [e2] at key
      dsimp only at key ⊢
      obtain ⟨a', b', j, n, ej, rfl, hd, hx⟩ := key
      cases n with
      | succ n => cases hd
      | zero =>
      have ej : j = K := by omega
      subst ej
      rw [List.nil_append] at hx
      subst hx
      have eu : unwipe (E y z) [v, w] (wipeE (E a' b') [v, w]) = E (kept y) (kept z) := by
        show ((((E a' b').set w none).set v none).set v (keepD (E y z) v)).set w (keepD (E y z) w) = _
        rw [h2, h1, h1, h2]
        unfold keepD
        rw [(hg y z).1, (hg y z).2]
        cases y <;> cases z <;> rfl
      rw [eu]
      exact q
theorem pairs_range {f : Nat → D} : ∀ {n j : Nat}, pairsD j ((List.range n).map fun i => f (j + i)) = (List.range n).map fun i => .tup [.int ((j + i : Nat) : Int), f (j + i)]
  | 0, _ => rfl
  | n + 1, j => by
    rw [List.range_succ_eq_map, List.map_cons, List.map_cons, List.map_map, List.map_map]
    have ih := pairs_range (f := f) (n := n) (j := j + 1)
    have e1 : ((fun i => f (j + i)) ∘ Nat.succ) = fun i => f (j + 1 + i) := by funext i; show f (j + (i + 1)) = _; rw [show j + (i + 1) = j + 1 + i by omega]
    have e2 : ((fun i => D.tup [.int ((j + i : Nat) : Int), f (j + i)]) ∘ Nat.succ) = fun i => D.tup [.int ((j + 1 + i : Nat) : Int), f (j + 1 + i)] := by funext i; show D.tup [.int ((j + (i + 1) : Nat) : Int), f (j + (i + 1))] = _; rw [show j + (i + 1) = j + 1 + i by omega]
    rw [e1, e2, ← ih]
    rfl
theorem pairs_range0 {f : Nat → D} {n : Nat} : pairsD 0 ((List.range n).map f) = (List.range n).map fun i => .tup [.int (i : Nat), f i] := by
  have := pairs_range (f := f) (n := n) (j := 0)
  simp only [Nat.zero_add] at this
  exact this
theorem rangeL_map {n : Nat} : rangeL 0 n = (List.range n).map fun i => .int (i : Nat) := rangeL_nat
theorem range_at {f : Nat → D} {n i : Nat} (h : i < n) : atI ((List.range n).map f) (i : Nat) = some (f i) := atI_nat (by rw [List.getElem?_map, List.getElem?_range h]; rfl)
theorem range_set {f : Nat → D} {n i : Nat} {x : D} : ((List.range n).map f).set i x = (List.range n).map fun j => if j = i then x else f j := by
  apply List.ext_getElem
  · simp
  · intro j h1 h2
    simp only [List.getElem_set, List.getElem_map, List.getElem_range]
    by_cases h : i = j
    · rw [if_pos h, if_pos h.symm]
    · rw [if_neg h, if_neg fun z => h z.symm]
theorem ixN_nat {n i : Nat} (h : i < n) : ixN n (i : Nat) = some i := by
  unfold ixN
  simp [h]
theorem range_put {f : Nat → D} {n i : Nat} {x : D} (h : i < n) : putD (.lst true ((List.range n).map f)) (.int (i : Nat)) x = some (.lst true ((List.range n).map fun j => if j = i then x else f j)) := by
  show (ixN ((List.range n).map f).length i).map _ = _
  rw [List.length_map, List.length_range, ixN_nat h, Option.map_some, range_set]
theorem rep_range {x : D} : ∀ {n : Nat}, (List.replicate n [x]).flatten = (List.range n).map fun _ => x
  | 0 => rfl
  | n + 1 => by rw [List.replicate_succ', List.flatten_append, rep_range, List.range_succ, List.map_append]; rfl
theorem gapp {xs : List D} {d : D} (h : xs.length ≤ 1000) : gAppend xs [d] = some (.non, xs ++ [d]) := if_pos (Nat.lt_of_le_of_lt h (by decide))
theorem gext {o : Bool} {xs ys : List D} (h : xs.length + ys.length ≤ 1000) : gExtend xs [.lst o ys] = some (.non, xs ++ ys) := if_pos (Nat.le_trans h (by decide))
/-! ### == of data that are the same -/
mutual
theorem deq_self : ∀ {n : Nat} {d : D}, flat n d = true → deq d d = true
  | _, .non, _ => by rw [deq]
  | _, .bl a, _ => by rw [deq]; exact beq_self_eq_true a
  | _, .int i, _ => by rw [deq]; exact beq_self_eq_true i
  | _, .str x, _ => by rw [deq]; exact beq_self_eq_true x
  | n + 1, .lst _ xs, h => by rw [flat] at h; rw [deq]; exact deqL_self h
  | n + 1, .tup xs, h => by rw [flat] at h; rw [deq]; exact deqL_self h
  | 0, .lst _ xs, h => by simp [flat] at h
  | 0, .tup xs, h => by simp [flat] at h
  | _, .rol xs, h => by simp [flat] at h
  | _, .dk _ _ _, h => by simp [flat] at h
  | _, .dt _ _ _, h => by simp [flat] at h
  | _, .ins _ _ _ _, h => by simp [flat] at h
theorem deqL_self : ∀ {n : Nat} {ds : List D}, flatL n ds = true → deqL ds ds = true
  | _, [], _ => by rw [deqL]
  | n, x :: xs, h => by
    rw [flatL, Bool.and_eq_true] at h
    rw [deqL, deq_self h.1, deqL_self h.2]; rfl
end
theorem ne_self {d : D} (h : flat 64 d = true) : dNe [d, d] = some (.bl false) := by
  unfold dNe
  dsimp only
  rw [h, deq_self h]; rfl
theorem eq_self' {d : D} (h : flat 64 d = true) : dEq [d, d] = some (.bl true) := by
  unfold dEq
  dsimp only
  rw [h, deq_self h]; rfl
theorem flatL_map {n : Nat} {α : Type} {f : α → D} : ∀ {l : List α}, (∀ x ∈ l, flat n (f x) = true) → flatL n (l.map f) = true
  | [], _ => by rw [List.map_nil, flatL]
  | x :: r, h => by rw [List.map_cons, flatL, h x (by simp), flatL_map fun y hy => h y (by simp [hy])]; rfl
theorem gpop {xs : List D} {i : Nat} (h : i < xs.length) (hl : xs.length ≤ 1000) : gPopAt xs [.int (i : Nat)] = some (xs[i], xs.eraseIdx i) := by
  unfold gPopAt
  dsimp only
  rw [if_pos ⟨by omega, by omega⟩, ixN_nat h]
  show (xs[i]?).map _ = _
  rw [List.getElem?_eq_getElem h]; rfl
theorem wp_sub2 {i j : Nat} {k1 k2 m : M} {ρ : Env} {N B : Env → Prop} {R : D → Env → Prop}
    (h : wpE m ρ fun d ρ1 => ∃ d1 d2, frz d = .tup [d1, d2] ∧ (sget ρ1 i).isSome = true ∧ wpE k1 ρ1 fun kd ρ2 => ∃ t t', sget ρ2 i = some t ∧ putD t (frz kd) d1 = some t' ∧
      ((sget (ρ2.set i (some t')) j).isSome = true ∧ wpE k2 (ρ2.set i (some t')) fun ke ρ4 => ∃ u u', sget ρ4 j = some u ∧ putD u (frz ke) d2 = some u' ∧ N (ρ4.set j (some u')))) : wpS (sSub2 i k1 j k2 m) ρ N R B := by
  unfold wpS sSub2 sWith
  obtain ⟨d, ρ1, e, d1, d2, e1, e2, h⟩ := wpE_ok h
  obtain ⟨kd, ρ2, e3, t, t', e4, e5, e6, h⟩ := wpE_ok h
  obtain ⟨ke, ρ4, e7, u, u', e8, e9, h⟩ := wpE_ok h
  have p1 : putK i k1 d1 ρ1 = some (ρ2.set i (some t')) := by
    unfold putK
    cases e0 : sget ρ1 i with
    | none => rw [e0] at e2; cases e2
    | some _ =>
      dsimp only
      rw [e3]
      dsimp only
      rw [e4]
      dsimp only
      rw [e5]; rfl
  have p2 : putK j k2 d2 (ρ2.set i (some t')) = some (ρ4.set j (some u')) := by
    unfold putK
    cases e0 : sget (ρ2.set i (some t')) j with
    | none => rw [e0] at e6; cases e6
    | some _ =>
      dsimp only
      rw [e7]
      dsimp only
      rw [e8]
      dsimp only
      rw [e9]; rfl
  rw [e]
  dsimp only
  rw [e1]
  dsimp only
  rw [p1]
  show (match putK j k2 d2 (ρ2.set i (some t')) with | some ρ' => OutS.nx ρ' | none => .bad : OutS) |> fun x => match x with | .nx ρ' => N ρ' | .rt d ρ' => R d ρ' | .bk ρ' => B ρ' | _ => False
  rw [p2]
  exact h
end VE
namespace VE
open PySem PySem.Spec PyProof.Rows L2
local macro_rules | `(tactic| boot_fast) => `(tactic| simp only [wp_def, wp_seq, wp_ret, wp_expr, wp_set, wp_ifS, wp_put, wp_fldP, wp_par, wp_asg, wp_nm, wp_tup2, wp_pass, wp_nil, wp_brk, wp_badS, wp_for, wp_var, wp_c, wpO_nil, wpO_ex, wpO_slot, wp_ops, wp_and, wp_or, wp_not, wp_if, wp_slLU, wp_chain, wp_mut, wpM_nil, wpM_cons, wp_disp, wpI_of, wpI_range1, wpI_enum, wp_tup3, items_l, items_t, items_r, tuple_l, tuple_t, list_l, list_t, Int.toNat_natCast, wp_call, wp_make, pb_nil, pb_slot, pb_ex, fin_nil, fin_c, fz_i, fz_s, fz_b, fz_n, fz_t, fz_r, fz_l, fz_d, fz_o, pow_18, pow_9, pow_10, isi_ii, isi_ib, isi_it, isi_tt, isi_ss, len_t, len_l, idx_t, idx_l, tup_e, lst_e, at_0, at_1, at_2, two_ii, List.all_cons, List.all_nil, Bool.and_self, Bool.true_and, Bool.and_true, Bool.false_and, Bool.and_false, Bool.not_true, Bool.not_false, List.contains_cons, List.contains_nil, Nat.reduceBEq, Int.reduceBEq, ci_0, ci_1, ci_2, ci_3, ci_4, ci_5, ci_6, beq_self_eq_true, Bool.or_false, Bool.or_true, Bool.false_or, Bool.true_or, if_true', sget_0, sget_s, ex_some, ex_pair, ex_sbl, ex_slst, ex_2, frz_int, frz_str, frz_bl, frz_non, frz_tup, frz_lst, frz_rol, frz_dk, frz_ins, add_ii, sub_ii, neg_i, div_ii, mod_ii, cmp_ii, int_i, eq_ii, ne_ii, one_i, List.replicate, List.cons_append, List.nil_append, List.append_nil, List.length_cons, List.length_nil, List.set_cons_zero, List.set_cons_succ, Option.isSome_some, Option.isSome_none, D.bl.injEq, D.int.injEq, reduceCtorEq, true_and, and_true, false_and, and_false, or_false, false_or, Bool.true_eq_false, Bool.false_eq_true, if_true, if_false, List.map, List.map_cons, List.map_nil, Nat.reduceLT, Nat.reduceAdd, Nat.reduceLeDiff, Nat.zero_lt_succ, Nat.lt_add_left_iff_pos, Nat.le_add_left, exists_eq_left', exists_eq_left])
/-! the small ones -/
theorem is_integer_i {i : Int} {Q : D → Env → Prop} (q : Q (.bl true) [some (.int i)]) : wpE m_is_integer [some (.int i)] Q := by
  unfold m_is_integer b_is_integer
  try boot_fast
  exact q
theorem is_within_i {i a b : Int} {Q : D → Env → Prop} (q : Q (.bl (decide (a ≤ i) && decide (i ≤ b))) [some (.int i), some (.int a), some (.int b)]) : wpE m_is_within [some (.int i), some (.int a), some (.int b)] Q := by
  unfold m_is_within b_is_within
  try boot_fast
  refine is_integer_i ?_
  try boot_fast
  by_cases h : a ≤ i
  · simp only [h, decide_true, Bool.true_and] at q ⊢
    try boot_fast
    exact q
  · simp only [h, decide_false, Bool.false_and] at q ⊢
    try boot_fast
    exact q

/-! ### the hand -/
structure Hand where
  cells : List Int
  at_ : Int
  great : Int
  seed : Int
  turn : Int
def handO (o : Bool) (h : Hand) : D := .dk o [.inr "cells", .inr "at", .inr "great", .inr "seed", .inr "turn"] [.lst false (h.cells.map D.int), .int h.at_, .int h.great, .int h.seed, .int h.turn]
theorem fz_h {o : Bool} {h : Hand} : isFz (handO o h) = !o := by cases o <;> rfl
theorem h_cells {o : Bool} {h : Hand} : dIdx [handO o h, .str "cells"] = some (.lst false (h.cells.map D.int)) := rfl
theorem h_at {o : Bool} {h : Hand} : dIdx [handO o h, .str "at"] = some (.int h.at_) := rfl
theorem h_great {o : Bool} {h : Hand} : dIdx [handO o h, .str "great"] = some (.int h.great) := rfl
theorem h_seed {o : Bool} {h : Hand} : dIdx [handO o h, .str "seed"] = some (.int h.seed) := rfl
theorem h_turn {o : Bool} {h : Hand} : dIdx [handO o h, .str "turn"] = some (.int h.turn) := rfl
theorem p_at {h : Hand} {x : Int} : putD (handO true h) (.str "at") (.int x) = some (handO true { h with at_ := x }) := rfl
theorem p_great {h : Hand} {x : Int} : putD (handO true h) (.str "great") (.int x) = some (handO true { h with great := x }) := rfl
theorem p_seed {h : Hand} {x : Int} : putD (handO true h) (.str "seed") (.int x) = some (handO true { h with seed := x }) := rfl
theorem p_turn {h : Hand} {x : Int} : putD (handO true h) (.str "turn") (.int x) = some (handO true { h with turn := x }) := rfl
local macro_rules | `(tactic| boot_fast) => `(tactic| simp only [wp_def, wp_seq, wp_ret, wp_expr, wp_set, wp_ifS, wp_put, wp_fldP, wp_par, wp_asg, wp_nm, wp_tup2, wp_pass, wp_nil, wp_brk, wp_badS, wp_for, wp_var, wp_c, wpO_nil, wpO_ex, wpO_slot, wp_ops, wp_and, wp_or, wp_not, wp_if, wp_slLU, wp_chain, wp_mut, wpM_nil, wpM_cons, wp_disp, wpI_of, wpI_range1, wpI_enum, wp_tup3, items_l, items_t, items_r, tuple_l, tuple_t, list_l, list_t, Int.toNat_natCast, wp_call, wp_make, pb_nil, pb_slot, pb_ex, fin_nil, fin_c, fz_i, fz_s, fz_b, fz_n, fz_t, fz_r, fz_l, fz_d, fz_o, pow_18, pow_9, pow_10, isi_ii, isi_ib, isi_it, isi_tt, isi_ss, len_t, len_l, idx_t, idx_l, tup_e, lst_e, at_0, at_1, at_2, two_ii, List.all_cons, List.all_nil, Bool.and_self, Bool.true_and, Bool.and_true, Bool.false_and, Bool.and_false, Bool.not_true, Bool.not_false, List.contains_cons, List.contains_nil, Nat.reduceBEq, Int.reduceBEq, ci_0, ci_1, ci_2, ci_3, ci_4, ci_5, ci_6, beq_self_eq_true, Bool.or_false, Bool.or_true, Bool.false_or, Bool.true_or, if_true', fz_h, h_cells, h_at, h_great, h_seed, h_turn, p_at, p_great, p_seed, p_turn, List.length_map, sget_0, sget_s, ex_some, ex_pair, ex_sbl, ex_slst, ex_2, frz_int, frz_str, frz_bl, frz_non, frz_tup, frz_lst, frz_rol, frz_dk, frz_ins, add_ii, sub_ii, neg_i, div_ii, mod_ii, cmp_ii, int_i, eq_ii, ne_ii, one_i, List.replicate, List.cons_append, List.nil_append, List.append_nil, List.length_cons, List.length_nil, List.set_cons_zero, List.set_cons_succ, Option.isSome_some, Option.isSome_none, D.bl.injEq, D.int.injEq, reduceCtorEq, true_and, and_true, false_and, and_false, or_false, false_or, Bool.true_eq_false, Bool.false_eq_true, if_true, if_false, List.map, List.map_cons, List.map_nil, Nat.reduceLT, Nat.reduceAdd, Nat.reduceLeDiff, Nat.zero_lt_succ, Nat.lt_add_left_iff_pos, Nat.le_add_left, exists_eq_left', exists_eq_left])
/-- fit for n draws more -/
structure HandOk (n : Nat) (h : Hand) : Prop where
  pos : ∀ c ∈ h.cells, 0 ≤ c
  a0 : 0 ≤ h.at_
  l0 : 0 ≤ h.great
  s0 : 0 ≤ h.seed
  s1 : h.seed < 2147483648
  t0 : 0 ≤ h.turn
  t1 : h.turn + n ≤ 1099511627776
theorem HandOk.le {n m : Nat} {h : Hand} (x : HandOk n h) (l : m ≤ n) : HandOk m h := ⟨x.pos, x.a0, x.l0, x.s0, x.s1, x.t0, by have := x.t1; omega⟩
theorem ex_mul {a b : Int} (j k : Nat) {P : D → Prop} (h1 : a.natAbs < 2 ^ j) (h2 : b.natAbs < 2 ^ k) (h : P (.int (a * b))) (hjk : j + k < 1000000 := by decide) : ∃ d, dMul [.int a, .int b] = some d ∧ P d := ⟨_, mul_ok j k h1 h2 hjk, h⟩
theorem ex_div {a b : Int} {P : D → Prop} (h1 : 0 < b) (h : P (.int (a / b))) : ∃ d, (if 0 < b then some (D.int (a / b)) else none) = some d ∧ P d := ⟨_, if_pos h1, h⟩
theorem ex_mod {a b : Int} {P : D → Prop} (h1 : 0 < b) (h : P (.int (a % b))) : ∃ d, (if 0 < b then some (D.int (a % b)) else none) = some d ∧ P d := ⟨_, if_pos h1, h⟩
theorem draw_tail {n : Nat} {h : Hand} {many : Int} {x2 x3 : Option D} {N B : Env → Prop} {R : D → Env → Prop} (ok : HandOk (n + 1) h) (hm : 0 < many)
    (q : ∀ r h' y, 0 ≤ r → r < many → HandOk n h' → R (.int r) [some (handO true h'), some (.int many), x2, x3, y]) : wpS b__law_draw_5 [some (handO true h), some (.int many), x2, x3, none] N R B := by
  obtain ⟨pos, a0, l0, s0, s1, t0, t1⟩ := ok
  unfold b__law_draw_5
  try boot_fast
  unfold b__law_draw_4
  try boot_fast
  refine ex_mul 13 41 (by decide) (by omega) ?_
  try boot_fast
  refine ex_mul 60 18 (by omega) (by decide) ?_
  try boot_fast
  refine ex_mod (by decide) ?_
  try boot_fast
  have hx : ∀ a b : Int, 0 < b → 0 ≤ a % b ∧ a % b < b := fun a b hb => ⟨Int.emod_nonneg a (by omega), Int.emod_lt_of_pos a hb⟩
  obtain ⟨u0, u1⟩ := hx ((h.seed + 1 + 7919 * (h.turn + 1)) * 69621) 2147483647 (by decide)
  generalize (h.seed + 1 + 7919 * (h.turn + 1)) * 69621 % 2147483647 = u at u0 u1 ⊢
  unfold b__law_draw_3
  try boot_fast
  refine ex_div (by decide) ?_
  try boot_fast
  refine ex_mul 31 31 (by omega) (by omega) ?_
  try boot_fast
  refine ex_mod (by decide) ?_
  try boot_fast
  obtain ⟨v0, v1⟩ := hx (u * (u / 1009 + 48271)) 2147483647 (by decide)
  generalize u * (u / 1009 + 48271) % 2147483647 = v at v0 v1 ⊢
  unfold b__law_draw_2
  try boot_fast
  refine ex_div (by decide) ?_
  try boot_fast
  refine ex_mul 31 31 (by omega) (by omega) ?_
  try boot_fast
  refine ex_mod (by decide) ?_
  try boot_fast
  obtain ⟨w0, w1⟩ := hx (v * (v / 2003 + 40692)) 2147483399 (by decide)
  generalize v * (v / 2003 + 40692) % 2147483399 = z at w0 w1 ⊢
  unfold b__law_draw_1
  try boot_fast
  refine ex_div (by decide) ?_
  try boot_fast
  refine ex_mod hm ?_
  obtain ⟨r0, r1⟩ := hx (z / 16) many hm
  exact q _ _ _ r0 r1 ⟨pos, a0, l0, s0, s1, by show 0 ≤ h.turn + 1; omega, by show h.turn + 1 + _ ≤ _; omega⟩
theorem draw_mid {n : Nat} {h : Hand} {many : Int} {x2 : Option D} {N B : Env → Prop} {R : D → Env → Prop} (ok : HandOk (n + 1) h) (hm : 0 < many)
    (q : ∀ r h' y y', 0 ≤ r → r < many → HandOk n h' → R (.int r) [some (handO true h'), some (.int many), x2, y, y']) : wpS b__law_draw_9 [some (handO true h), some (.int many), x2, none, none] N R B := by
  unfold b__law_draw_9
  try boot_fast
  by_cases hl : 0 < h.great
  · left
    refine ⟨decide_eq_true hl, ?_⟩
    unfold b__law_draw_8
    try boot_fast
    refine ex_mod hm ?_
    try boot_fast
    unfold b__law_draw_7
    try boot_fast
    refine ex_div hm ?_
    try boot_fast
    unfold b__law_draw_6
    try boot_fast
    refine q _ _ _ _ (Int.emod_nonneg _ (by omega)) (Int.emod_lt_of_pos _ hm) ⟨ok.pos, ok.a0, ?_, ok.s0, ok.s1, ok.t0, ?_⟩
    · exact Int.ediv_nonneg ok.l0 (by omega)
    · have := ok.t1; show h.turn + _ ≤ _; omega
  · right
    refine ⟨decide_eq_false hl, ?_⟩
    exact draw_tail ok hm fun r h' y a b c => q r h' _ y a b c
theorem draw_wp {n : Nat} {h : Hand} {many : Int} {Q : D → Env → Prop} (ok : HandOk (n + 1) h) (hm : 0 < many) (q : ∀ r h', 0 ≤ r → r < many → HandOk n h' → Q (.int r) [some (handO true h'), some (.int many)]) :
    wpE m__law_draw [some (handO true h), some (.int many)] Q := by
  unfold m__law_draw b__law_draw
  try boot_fast
  have mid : ∀ {h1 : Hand} {x2 : Option D} {N B : Env → Prop}, HandOk (n + 1) h1 → wpS b__law_draw_9 [some (handO true h1), some (.int many), x2, none, none] N (fun d ρ' => 2 ≤ List.length ρ' ∧ Q d (fin [0] 0 [some (handO true h), some (D.int many)] ρ')) B := fun ok' =>
    draw_mid ok' hm fun r h' y y' r0 r1 ok2 => by
      try boot_fast
      exact q r h' r0 r1 ok2
  by_cases hl : h.great = 0
  · left
    refine ⟨beq_iff_eq.mpr hl, ?_⟩
    by_cases ha : h.at_ < (h.cells.length : Int)
    · left
      refine ⟨decide_eq_true ha, ?_⟩
      obtain ⟨c, hc⟩ : ∃ c, h.cells[h.at_.toNat]? = some c := ⟨_, List.getElem?_eq_getElem (by have := ok.a0; omega)⟩
      have c0 : 0 ≤ c := ok.pos c (List.mem_of_getElem? hc)
      have hat : atI (h.cells.map D.int) h.at_ = some (.int c) := by
        have e : h.at_ = ((h.at_.toNat : Nat) : Int) := by have := ok.a0; omega
        rw [e]
        exact atI_nat (by rw [List.getElem?_map, hc]; rfl)
      unfold b__law_draw_14
      try boot_fast
      simp only [hat]
      try boot_fast
      unfold b__law_draw_13
      try boot_fast
      unfold b__law_draw_12
      try boot_fast
      refine ex_mul 31 16 (by have := ok.s0; have := ok.s1; omega) (by decide) ?_
      try boot_fast
      refine ex_mod (by decide) ?_
      try boot_fast
      unfold b__law_draw_11
      try boot_fast
      have hx : 0 ≤ (h.seed * 48271 + c + 7) % 2147483629 ∧ (h.seed * 48271 + c + 7) % 2147483629 < 2147483629 := ⟨Int.emod_nonneg _ (by decide), Int.emod_lt_of_pos _ (by decide)⟩
      by_cases hg : 1000000000000000000 ≤ c
      · left
        refine ⟨decide_eq_true hg, ?_⟩
        unfold b__law_draw_10
        try boot_fast
        refine mid ?_
        refine ⟨ok.pos, ?_, c0, hx.1, ?_, ok.t0, ok.t1⟩
        · have := ok.a0; show 0 ≤ h.at_ + 1; omega
        · have := hx.2; show (h.seed * 48271 + c + 7) % 2147483629 < 2147483648; omega
      · right
        refine ⟨decide_eq_false hg, mid ?_⟩
        refine ⟨ok.pos, ?_, ok.l0, hx.1, ?_, ok.t0, ok.t1⟩
        · have := ok.a0; show 0 ≤ h.at_ + 1; omega
        · have := hx.2; show (h.seed * 48271 + c + 7) % 2147483629 < 2147483648; omega
    · right
      refine ⟨decide_eq_false ha, ?_⟩
      exact mid ok
  · right
    refine ⟨beq_eq_false_iff_ne.mpr hl, ?_⟩
    exact mid ok
local macro_rules | `(tactic| boot_fast) => `(tactic| simp only [wp_def, wp_seq, wp_ret, wp_expr, wp_set, wp_ifS, wp_put, wp_fldP, wp_par, wp_asg, wp_nm, wp_tup2, wp_pass, wp_nil, wp_brk, wp_badS, wp_for, wp_var, wp_c, wpO_nil, wpO_ex, wpO_slot, wp_ops, wp_and, wp_or, wp_not, wp_if, wp_slLU, wp_chain, wp_mut, wpM_nil, wpM_cons, wp_disp, wpI_of, wpI_range1, wpI_enum, wp_tup3, items_l, items_t, items_r, tuple_l, tuple_t, list_l, list_t, Int.toNat_natCast, wp_call, wp_make, pb_nil, pb_slot, pb_ex, fin_nil, fin_c, fz_i, fz_s, fz_b, fz_n, fz_t, fz_r, fz_l, fz_d, fz_o, pow_18, pow_9, pow_10, isi_ii, isi_ib, isi_it, isi_tt, isi_ss, len_t, len_l, idx_t, idx_l, tup_e, lst_e, at_0, at_1, at_2, two_ii, List.all_cons, List.all_nil, Bool.and_self, Bool.true_and, Bool.and_true, Bool.false_and, Bool.and_false, Bool.not_true, Bool.not_false, List.contains_cons, List.contains_nil, Nat.reduceBEq, Int.reduceBEq, ci_0, ci_1, ci_2, ci_3, ci_4, ci_5, ci_6, beq_self_eq_true, Bool.or_false, Bool.or_true, Bool.false_or, Bool.true_or, if_true', fz_h, h_cells, h_at, h_great, h_seed, h_turn, p_at, p_great, p_seed, p_turn, List.length_map, fz_h, sget_0, sget_s, ex_some, ex_pair, ex_sbl, ex_slst, ex_2, frz_int, frz_str, frz_bl, frz_non, frz_tup, frz_lst, frz_rol, frz_dk, frz_ins, add_ii, sub_ii, neg_i, div_ii, mod_ii, cmp_ii, int_i, eq_ii, ne_ii, one_i, List.replicate, List.cons_append, List.nil_append, List.append_nil, List.length_cons, List.length_nil, List.set_cons_zero, List.set_cons_succ, Option.isSome_some, Option.isSome_none, D.bl.injEq, D.int.injEq, reduceCtorEq, true_and, and_true, false_and, and_false, or_false, false_or, Bool.true_eq_false, Bool.false_eq_true, if_true, if_false, List.map, List.map_cons, List.map_nil, Nat.reduceLT, Nat.reduceAdd, Nat.reduceLeDiff, Nat.zero_lt_succ, Nat.lt_add_left_iff_pos, Nat.le_add_left, exists_eq_left', exists_eq_left])
theorem atI_in {α : Type} {xs : List α} {r : Int} (h0 : 0 ≤ r) (h1 : r < xs.length) : ∃ x, atI xs r = some x ∧ x ∈ xs := by
  obtain ⟨k, rfl⟩ := Int.eq_ofNat_of_zero_le h0
  have hk : k < xs.length := by omega
  exact ⟨xs[k], atI_nat (List.getElem?_eq_getElem hk), List.getElem_mem hk⟩
theorem any_wp {n : Nat} {h : Hand} {xs : List D} {Q : D → Env → Prop} (ok : HandOk (n + 1) h) (hx : xs ≠ []) (q : ∀ x h', x ∈ xs → HandOk n h' → Q x [some (handO true h'), some (.lst false xs)]) :
    wpE m__law_any [some (handO true h), some (.lst false xs)] Q := by
  unfold m__law_any b__law_any
  try boot_fast
  have hl : 0 < xs.length := List.length_pos_iff.mpr hx
  refine draw_wp ok (by omega) fun r h' r0 r1 ok' => ?_
  try boot_fast
  obtain ⟨x, e, hm⟩ := atI_in r0 r1
  rw [e]
  try boot_fast
  exact q x h' hm ok'
theorem small_lt {n : Nat} (h : n ≤ 1000) : n < sizeLine := Nat.lt_of_le_of_lt h (by decide)
theorem range_hit {i n : Nat} {ρ : Env} (hs : sget ρ i = some (.int (n : Nat))) (hn : n ≤ 1000) : wpI (iRange1 (.slot i)) ρ fun ds' ρ0 => ds' = rangeL 0 n ∧ ρ0 = ρ := by
  rw [wpI_range1, wpO_slot, wpO_nil, hs]
  refine ⟨rfl, _, rfl, _, rfl, ⟨by omega, by omega⟩, ?_, rfl⟩
  rw [Int.toNat_natCast]
theorem draw_nat {n : Nat} {h : Hand} {many : Nat} {Q : D → Env → Prop} (ok : HandOk (n + 1) h) (hm : 0 < many) (q : ∀ (r : Nat) h', r < many → HandOk n h' → Q (.int (r : Nat)) [some (handO true h'), some (.int (many : Nat))]) :
    wpE m__law_draw [some (handO true h), some (.int (many : Nat))] Q :=
  draw_wp ok (by omega) fun r h' r0 r1 ok' => by
    obtain ⟨k, rfl⟩ := Int.eq_ofNat_of_zero_le r0
    exact q k h' (by omega) ok'
theorem sum_nat : ∀ l : List Nat, dSum [.lst false (natL l)] = some (.int (l.sum : Nat)) := fun l => by
  show (intsOf (natL l)).map (fun ns => D.int ns.sum) = _
  have e : natL l = (l.map fun n : Nat => (n : Int)).map D.int := by simp [natL, Function.comp_def]
  rw [e, intsOf_map, Option.map_some]
  have : ∀ l : List Nat, (l.map fun n : Nat => (n : Int)).sum = (l.sum : Nat) := fun l => by
    induction l with
    | nil => rfl
    | cons a r ih => rw [List.map_cons, List.sum_cons, List.sum_cons, ih]; omega
  rw [this]
local macro_rules | `(tactic| boot_fast) => `(tactic| simp only [wp_def, wp_seq, wp_ret, wp_expr, wp_set, wp_ifS, wp_put, wp_fldP, wp_par, wp_asg, wp_nm, wp_tup2, wp_pass, wp_nil, wp_brk, wp_badS, wp_for, wp_var, wp_c, wpO_nil, wpO_ex, wpO_slot, wp_ops, wp_and, wp_or, wp_not, wp_if, wp_slLU, wp_chain, wp_mut, wpM_nil, wpM_cons, wp_disp, wpI_of, wpI_range1, wpI_enum, wp_tup3, items_l, items_t, items_r, tuple_l, tuple_t, list_l, list_t, Int.toNat_natCast, wp_call, wp_make, pb_nil, pb_slot, pb_ex, fin_nil, fin_c, fz_i, fz_s, fz_b, fz_n, fz_t, fz_r, fz_l, fz_d, fz_o, pow_18, pow_9, pow_10, isi_ii, isi_ib, isi_it, isi_tt, isi_ss, len_t, len_l, idx_t, idx_l, tup_e, lst_e, at_0, at_1, at_2, two_ii, List.all_cons, List.all_nil, Bool.and_self, Bool.true_and, Bool.and_true, Bool.false_and, Bool.and_false, Bool.not_true, Bool.not_false, List.contains_cons, List.contains_nil, Nat.reduceBEq, Int.reduceBEq, ci_0, ci_1, ci_2, ci_3, ci_4, ci_5, ci_6, beq_self_eq_true, Bool.or_false, Bool.or_true, Bool.false_or, Bool.true_or, if_true', fz_h, h_cells, h_at, h_great, h_seed, h_turn, p_at, p_great, p_seed, p_turn, List.length_map, fz_h, fz_h, sum_nat, sget_0, sget_s, ex_some, ex_pair, ex_sbl, ex_slst, ex_2, frz_int, frz_str, frz_bl, frz_non, frz_tup, frz_lst, frz_rol, frz_dk, frz_ins, add_ii, sub_ii, neg_i, div_ii, mod_ii, cmp_ii, int_i, eq_ii, ne_ii, one_i, List.replicate, List.cons_append, List.nil_append, List.append_nil, List.length_cons, List.length_nil, List.set_cons_zero, List.set_cons_succ, Option.isSome_some, Option.isSome_none, D.bl.injEq, D.int.injEq, reduceCtorEq, true_and, and_true, false_and, and_false, or_false, false_or, Bool.true_eq_false, Bool.false_eq_true, if_true, if_false, List.map, List.map_cons, List.map_nil, Nat.reduceLT, Nat.reduceAdd, Nat.reduceLeDiff, Nat.zero_lt_succ, Nat.lt_add_left_iff_pos, Nat.le_add_left, exists_eq_left', exists_eq_left])
end VE
namespace VE
open PySem PySem.Spec PyProof.Rows L2
local macro_rules | `(tactic| boot_fast) => `(tactic| simp only [wp_def, wp_seq, wp_ret, wp_expr, wp_set, wp_ifS, wp_put, wp_fldP, wp_par, wp_asg, wp_nm, wp_tup2, wp_pass, wp_nil, wp_brk, wp_badS, wp_for, wp_var, wp_c, wpO_nil, wpO_ex, wpO_slot, wp_ops, wp_and, wp_or, wp_not, wp_if, wp_slLU, wp_chain, wp_mut, wpM_nil, wpM_cons, wp_disp, wpI_of, wpI_range1, wpI_enum, wp_tup3, items_l, items_t, items_r, tuple_l, tuple_t, list_l, list_t, Int.toNat_natCast, wp_call, wp_make, pb_nil, pb_slot, pb_ex, fin_nil, fin_c, fz_i, fz_s, fz_b, fz_n, fz_t, fz_r, fz_l, fz_d, fz_o, pow_18, pow_9, pow_10, isi_ii, isi_ib, isi_it, isi_tt, isi_ss, len_t, len_l, idx_t, idx_l, tup_e, lst_e, at_0, at_1, at_2, two_ii, List.all_cons, List.all_nil, Bool.and_self, Bool.true_and, Bool.and_true, Bool.false_and, Bool.and_false, Bool.not_true, Bool.not_false, List.contains_cons, List.contains_nil, Nat.reduceBEq, Int.reduceBEq, ci_0, ci_1, ci_2, ci_3, ci_4, ci_5, ci_6, beq_self_eq_true, Bool.or_false, Bool.or_true, Bool.false_or, Bool.true_or, if_true', sget_0, sget_s, ex_some, ex_pair, ex_sbl, ex_slst, ex_2, frz_int, frz_str, frz_bl, frz_non, frz_tup, frz_lst, frz_rol, frz_dk, frz_ins, add_ii, sub_ii, neg_i, div_ii, mod_ii, cmp_ii, int_i, eq_ii, ne_ii, one_i, List.replicate, List.cons_append, List.nil_append, List.append_nil, List.length_cons, List.length_nil, List.set_cons_zero, List.set_cons_succ, Option.isSome_some, Option.isSome_none, D.bl.injEq, D.int.injEq, reduceCtorEq, true_and, and_true, false_and, and_false, or_false, false_or, Bool.true_eq_false, Bool.false_eq_true, if_true, if_false, List.map, List.map_cons, List.map_nil, Nat.reduceLT, Nat.reduceAdd, Nat.reduceLeDiff, Nat.zero_lt_succ, Nat.lt_add_left_iff_pos, Nat.le_add_left, exists_eq_left', exists_eq_left])
theorem ex_putS2 {i j : Nat} {a b : D} {ρ : Env} {N : Env → Prop} (h1 : i < ρ.length) (h2 : j < ρ.length) (h : N ((ρ.set i (some a)).set j (some b))) : ∃ ρ2, putS [i, j] [a, b] ρ = some ρ2 ∧ N ρ2 := by
  refine ⟨_, ?_, h⟩
  rw [putS, if_pos h1, putS, if_pos (by rw [List.length_set]; exact h2)]
  rfl
theorem abs_i {a : Int} : dAbs [.int a] = some (.int (a.natAbs : Nat)) := by
  show some (D.int (if a < 0 then -a else a)) = _
  by_cases h : a < 0
  · rw [if_pos h]; congr 2; omega
  · rw [if_neg h]; congr 2; omega
theorem emod_nat {a b : Nat} : (a : Int) % (b : Int) = ((a % b : Nat) : Int) := (Int.natCast_emod a b).symm
theorem ediv_nat {a b : Nat} : (a : Int) / (b : Int) = ((a / b : Nat) : Int) := (Int.natCast_ediv a b).symm
def qD (q : Rat) : D := .tup [.int q.num, .int (q.den : Nat)]
theorem fz_q {q : Rat} : isFz (qD q) = true := rfl
theorem frz_q {q : Rat} : frz (qD q) = qD q := rfl
theorem q_0 {q : Rat} : dIdx [qD q, .int 0] = some (.int q.num) := at_0
theorem q_1 {q : Rat} : dIdx [qD q, .int 1] = some (.int (q.den : Nat)) := at_1
theorem q_len {q : Rat} : dLen [qD q] = some (.int 2) := rfl
theorem q_tup {q : Rat} : dIsi "tuple" [qD q] = some (.bl true) := rfl
theorem q_mk {a : Int} {b : Nat} (hb : 0 < b) : qD (mkRat a b) = .tup [.int (a / (Nat.gcd a.natAbs b : Nat)), .int ((b / Nat.gcd a.natAbs b : Nat) : Int)] := by
  unfold qD
  rw [Rat.num_mkRat, Rat.den_mkRat, if_neg (by omega), if_neg (by omega), Nat.gcd_comm]
theorem qD_0 : qD 0 = .tup [.int 0, .int 1] := rfl
theorem qD_1 : qD 1 = .tup [.int 1, .int 1] := rfl
local macro_rules | `(tactic| boot_fast) => `(tactic| simp only [wp_def, wp_seq, wp_ret, wp_expr, wp_set, wp_ifS, wp_put, wp_fldP, wp_par, wp_asg, wp_nm, wp_tup2, wp_pass, wp_nil, wp_brk, wp_badS, wp_for, wp_var, wp_c, wpO_nil, wpO_ex, wpO_slot, wp_ops, wp_and, wp_or, wp_not, wp_if, wp_slLU, wp_chain, wp_mut, wpM_nil, wpM_cons, wp_disp, wpI_of, wpI_range1, wpI_enum, wp_tup3, items_l, items_t, items_r, tuple_l, tuple_t, list_l, list_t, Int.toNat_natCast, wp_call, wp_make, pb_nil, pb_slot, pb_ex, fin_nil, fin_c, fz_i, fz_s, fz_b, fz_n, fz_t, fz_r, fz_l, fz_d, fz_o, pow_18, pow_9, pow_10, isi_ii, isi_ib, isi_it, isi_tt, isi_ss, len_t, len_l, idx_t, idx_l, tup_e, lst_e, at_0, at_1, at_2, two_ii, List.all_cons, List.all_nil, Bool.and_self, Bool.true_and, Bool.and_true, Bool.false_and, Bool.and_false, Bool.not_true, Bool.not_false, List.contains_cons, List.contains_nil, Nat.reduceBEq, Int.reduceBEq, ci_0, ci_1, ci_2, ci_3, ci_4, ci_5, ci_6, beq_self_eq_true, Bool.or_false, Bool.or_true, Bool.false_or, Bool.true_or, if_true', fz_q, frz_q, q_0, q_1, q_len, q_tup, sget_0, sget_s, ex_some, ex_pair, ex_sbl, ex_slst, ex_2, frz_int, frz_str, frz_bl, frz_non, frz_tup, frz_lst, frz_rol, frz_dk, frz_ins, add_ii, sub_ii, neg_i, div_ii, mod_ii, cmp_ii, int_i, eq_ii, ne_ii, one_i, List.replicate, List.cons_append, List.nil_append, List.append_nil, List.length_cons, List.length_nil, List.set_cons_zero, List.set_cons_succ, Option.isSome_some, Option.isSome_none, D.bl.injEq, D.int.injEq, reduceCtorEq, true_and, and_true, false_and, and_false, or_false, false_or, Bool.true_eq_false, Bool.false_eq_true, if_true, if_false, List.map, List.map_cons, List.map_nil, Nat.reduceLT, Nat.reduceAdd, Nat.reduceLeDiff, Nat.zero_lt_succ, Nat.lt_add_left_iff_pos, Nat.le_add_left, exists_eq_left', exists_eq_left])
theorem low_wp {a : Int} {b : Nat} {Q : D → Env → Prop} (hb : 0 < b) (q : Q (qD (mkRat a b)) [some (.int a), some (.int (b : Nat))]) : wpE m__law_low [some (.int a), some (.int (b : Nat))] Q := by
  unfold m__law_low b__law_low
  try boot_fast
  rw [abs_i]
  try boot_fast
  refine ex_putS2 (by simp) (by simp) ?_
  try boot_fast
  unfold b__law_low_3
  try boot_fast
  refine wp_while (fun ρ => ∃ x y : Nat, ρ = [some (.int a), some (.int (b : Nat)), some (.int (x : Nat)), some (.int (y : Nat))] ∧ Nat.gcd x y = Nat.gcd a.natAbs b) (fun ρ => match sget ρ 3 with
    | some (.int i) => i.toNat
    | _ => 0) (fun ρ hI => ?_) _ ⟨_, b, rfl, rfl⟩
  obtain ⟨x, y, rfl, hg⟩ := hI
  try boot_fast
  by_cases hy : 0 < y
  · left
    refine ⟨decide_eq_true (by omega), ?_⟩
    unfold b__law_low_2
    try boot_fast
    refine ex_mod (by omega) ?_
    try boot_fast
    refine ex_putS2 (by simp) (by simp) ?_
    try boot_fast
    refine ⟨⟨y, x % y, by rw [emod_nat], ?_⟩, ?_⟩
    · rw [← hg, Nat.gcd_comm x y, Nat.gcd_rec y x, Nat.gcd_comm]
    · rw [emod_nat, Int.toNat_natCast]
      exact Nat.mod_lt _ hy
  · right
    have e : y = 0 := by omega
    subst e
    rw [Nat.gcd_zero_right] at hg
    subst hg
    refine ⟨decide_eq_false (by omega), ?_⟩
    unfold b__law_low_1
    try boot_fast
    have hp : 0 < Nat.gcd a.natAbs b := Nat.gcd_pos_of_pos_right _ hb
    refine ex_div (by omega) ?_
    try boot_fast
    refine ex_div (by omega) ?_
    try boot_fast
    rw [ediv_nat, ← q_mk hb]
    exact q
theorem divisor_wp {a b : Int} {Q : D → Env → Prop} (q : Q (.int ((Nat.gcd a.natAbs b.natAbs : Nat) : Int)) [some (.int a), some (.int b)]) : wpE m_divisor_of [some (.int a), some (.int b)] Q := by
  unfold m_divisor_of b_divisor_of
  try boot_fast
  rw [abs_i, abs_i]
  try boot_fast
  refine ex_putS2 (by simp) (by simp) ?_
  try boot_fast
  unfold b_divisor_of_3
  try boot_fast
  refine wp_while (fun ρ => ∃ x y : Nat, ρ = [some (.int (x : Nat)), some (.int (y : Nat))] ∧ Nat.gcd x y = Nat.gcd a.natAbs b.natAbs) (fun ρ => match sget ρ 1 with
    | some (.int i) => i.toNat
    | _ => 0) (fun ρ hI => ?_) _ ⟨_, _, rfl, rfl⟩
  obtain ⟨x, y, rfl, hg⟩ := hI
  try boot_fast
  by_cases hy : 0 < y
  · left
    refine ⟨decide_eq_true (by omega), ?_⟩
    unfold b_divisor_of_2
    try boot_fast
    refine ex_mod (by omega) ?_
    try boot_fast
    refine ex_putS2 (by simp) (by simp) ?_
    try boot_fast
    refine ⟨⟨y, x % y, by rw [emod_nat], ?_⟩, ?_⟩
    · rw [← hg, Nat.gcd_comm x y, Nat.gcd_rec y x, Nat.gcd_comm]
    · rw [emod_nat, Int.toNat_natCast]
      exact Nat.mod_lt _ hy
  · right
    have e : y = 0 := by omega
    subst e
    rw [Nat.gcd_zero_right] at hg
    subst hg
    refine ⟨decide_eq_false (by omega), ?_⟩
    unfold b_divisor_of_1
    try boot_fast
    exact q
theorem fraction_wp {a : Int} {b : Nat} {Q : D → Env → Prop} (hb : 0 < b) (q : Q (qD (mkRat a b)) [some (.int a), some (.int (b : Nat))]) : wpE m_fraction [some (.int a), some (.int (b : Nat))] Q := by
  unfold m_fraction b_fraction
  try boot_fast
  right
  refine ⟨decide_eq_false (by omega), ?_⟩
  unfold b_fraction_2
  try boot_fast
  refine divisor_wp ?_
  try boot_fast
  unfold b_fraction_1
  try boot_fast
  rw [Int.natAbs_natCast]
  have hp : 0 < Nat.gcd a.natAbs b := Nat.gcd_pos_of_pos_right _ hb
  refine ex_div (by omega) ?_
  try boot_fast
  refine ex_div (by omega) ?_
  try boot_fast
  rw [ediv_nat, ← q_mk hb]
  exact q
theorem nabs {a k : Nat} (h : a < k) : ((a : Nat) : Int).natAbs < k := by rw [Int.natAbs_natCast]; exact h
theorem plus_wp {x y : Rat} {Q : D → Env → Prop} (fx : fitQ x) (fy : fitQ y) (q : Q (qD (x + y)) [some (qD x), some (qD y)]) : wpE m_plus [some (qD x), some (qD y)] Q := by
  unfold m_plus b_plus
  try boot_fast
  refine ex_mul 5000 5000 fx.n (nabs fy.d) ?_
  try boot_fast
  refine ex_mul 5000 5000 fy.n (nabs fx.d) ?_
  try boot_fast
  refine ex_mul 5000 5000 (nabs fx.d) (nabs fy.d) ?_
  try boot_fast
  rw [← Int.natCast_mul]
  refine fraction_wp (Nat.mul_pos x.den_pos y.den_pos) ?_
  try boot_fast
  rw [← Rat.add_def']
  exact q
theorem times_wp {x y : Rat} {Q : D → Env → Prop} (fx : fitQ x) (fy : fitQ y) (q : Q (qD (x * y)) [some (qD x), some (qD y)]) : wpE m_times [some (qD x), some (qD y)] Q := by
  unfold m_times b_times
  try boot_fast
  refine ex_mul 5000 5000 fx.n fy.n ?_
  try boot_fast
  refine ex_mul 5000 5000 (nabs fx.d) (nabs fy.d) ?_
  try boot_fast
  rw [← Int.natCast_mul]
  refine fraction_wp (Nat.mul_pos x.den_pos y.den_pos) ?_
  try boot_fast
  rw [← Rat.mul_def']
  exact q
theorem ltimes_wp {x y : Rat} {Q : D → Env → Prop} (fx : fitQ x) (fy : fitQ y) (q : Q (qD (x * y)) [some (qD x), some (qD y)]) : wpE m__law_times [some (qD x), some (qD y)] Q := by
  unfold m__law_times b__law_times
  try boot_fast
  refine ex_mul 5000 5000 fx.n fy.n ?_
  try boot_fast
  refine ex_mul 5000 5000 (nabs fx.d) (nabs fy.d) ?_
  try boot_fast
  rw [← Int.natCast_mul]
  refine low_wp (Nat.mul_pos x.den_pos y.den_pos) ?_
  try boot_fast
  rw [← Rat.mul_def']
  exact q
structure FitS (N : Nat) (n : Nat) (f : Nat → Rat) : Prop where
  n0 : 0 < N
  n1 : N ≤ 2 ^ 4000
  n4 : n ≤ 400
  i : ∀ j, j < n → isIn N (f j)
  p0 : ∀ j, j < n → 0 ≤ f j
  p1 : ∀ j, j < n → f j ≤ 2
theorem cast_le {n m : Nat} (h : n ≤ m) : (n : Rat) ≤ (m : Rat) := Rat.natCast_le_natCast.mpr h
theorem FitS.pre {N n : Nat} {f : Nat → Rat} (h : FitS N n f) {j : Nat} (hj : j ≤ n) : fitQ (sumR j f) := by
  refine isIn.fit (isIn.sum fun i hi => h.i i (by omega)) (sumR_nonneg fun i hi => h.p0 i (by omega)) ?_ h.n0 h.n1
  have h1 : sumR j f ≤ sumR j fun _ => 2 := sumR_le fun i hi => h.p1 i (by omega)
  rw [sumR_const] at h1
  have h2 : (j : Rat) ≤ (400 : Nat) := cast_le (by have := h.n4; omega)
  have h3 : ((400 : Nat) : Rat) = 400 := rfl
  rw [h3] at h2
  grind
theorem FitS.one {N n : Nat} {f : Nat → Rat} (h : FitS N n f) {j : Nat} (hj : j < n) : fitQ (f j) := by
  refine isIn.fit (h.i j hj) (h.p0 j hj) ?_ h.n0 h.n1
  have := h.p1 j hj
  grind
def qL (n : Nat) (f : Nat → Rat) : List D := (List.range n).map fun i => qD (f i)
theorem sum_wp {d : D} {N n : Nat} {f : Nat → Rat} {Q : D → Env → Prop} (hf : FitS N n f) (h1 : itemsOf (frz d) = some (qL n f)) (h2 : frz (frz d) = frz d) (h3 : isFz d = true) (q : Q (qD (sumR n f)) [some d]) : wpE m_sum_of [some d] Q := by
  unfold m_sum_of b_sum_of
  try boot_fast
  unfold b_sum_of_3
  try boot_fast
  refine ⟨_, by rw [h2]; exact h1, ?_⟩
  try boot_fast
  refine wp_fRange (fun j ρ => ∃ y, ρ = [some (frz d), some (qD (sumR j f)), y]) ⟨_, rfl⟩ (fun j ρ hj hI => ?_) (fun ρ hI => ?_)
  · obtain ⟨y, rfl⟩ := hI
    unfold b_sum_of_2
    try boot_fast
    refine plus_wp (hf.pre (by omega)) (hf.one hj) ?_
    try boot_fast
    exact ⟨_, rfl⟩
  · obtain ⟨y, rfl⟩ := hI
    unfold b_sum_of_1
    try boot_fast
    simp only [h3, if_true]
    exact q
end VE
namespace VE
open PySem PySem.Spec PyProof.Rows L2
local macro_rules | `(tactic| boot_fast) => `(tactic| simp only [wp_def, wp_seq, wp_ret, wp_expr, wp_set, wp_ifS, wp_put, wp_fldP, wp_par, wp_asg, wp_nm, wp_tup2, wp_pass, wp_nil, wp_brk, wp_badS, wp_for, wp_var, wp_c, wpO_nil, wpO_ex, wpO_slot, wp_ops, wp_and, wp_or, wp_not, wp_if, wp_slLU, wp_chain, wp_mut, wpM_nil, wpM_cons, wp_disp, wpI_of, wpI_range1, wpI_enum, wp_tup3, items_l, items_t, items_r, tuple_l, tuple_t, list_l, list_t, Int.toNat_natCast, wp_call, wp_make, pb_nil, pb_slot, pb_ex, fin_nil, fin_c, fz_i, fz_s, fz_b, fz_n, fz_t, fz_r, fz_l, fz_d, fz_o, pow_18, pow_9, pow_10, isi_ii, isi_ib, isi_it, isi_tt, isi_ss, len_t, len_l, idx_t, idx_l, tup_e, lst_e, at_0, at_1, at_2, two_ii, List.all_cons, List.all_nil, Bool.and_self, Bool.true_and, Bool.and_true, Bool.false_and, Bool.and_false, Bool.not_true, Bool.not_false, List.contains_cons, List.contains_nil, Nat.reduceBEq, Int.reduceBEq, ci_0, ci_1, ci_2, ci_3, ci_4, ci_5, ci_6, beq_self_eq_true, Bool.or_false, Bool.or_true, Bool.false_or, Bool.true_or, if_true', sget_0, sget_s, ex_some, ex_pair, ex_sbl, ex_slst, ex_2, frz_int, frz_str, frz_bl, frz_non, frz_tup, frz_lst, frz_rol, frz_dk, frz_ins, add_ii, sub_ii, neg_i, div_ii, mod_ii, cmp_ii, int_i, eq_ii, ne_ii, one_i, List.replicate, List.cons_append, List.nil_append, List.append_nil, List.length_cons, List.length_nil, List.set_cons_zero, List.set_cons_succ, Option.isSome_some, Option.isSome_none, D.bl.injEq, D.int.injEq, reduceCtorEq, true_and, and_true, false_and, and_false, or_false, false_or, Bool.true_eq_false, Bool.false_eq_true, if_true, if_false, List.map, List.map_cons, List.map_nil, Nat.reduceLT, Nat.reduceAdd, Nat.reduceLeDiff, Nat.zero_lt_succ, Nat.lt_add_left_iff_pos, Nat.le_add_left, exists_eq_left', exists_eq_left])
local macro_rules | `(tactic| boot_fast) => `(tactic| simp only [wp_def, wp_seq, wp_ret, wp_expr, wp_set, wp_ifS, wp_put, wp_fldP, wp_par, wp_asg, wp_nm, wp_tup2, wp_pass, wp_nil, wp_brk, wp_badS, wp_for, wp_var, wp_c, wpO_nil, wpO_ex, wpO_slot, wp_ops, wp_and, wp_or, wp_not, wp_if, wp_slLU, wp_chain, wp_mut, wpM_nil, wpM_cons, wp_disp, wpI_of, wpI_range1, wpI_enum, wp_tup3, items_l, items_t, items_r, tuple_l, tuple_t, list_l, list_t, Int.toNat_natCast, wp_call, wp_make, pb_nil, pb_slot, pb_ex, fin_nil, fin_c, fz_i, fz_s, fz_b, fz_n, fz_t, fz_r, fz_l, fz_d, fz_o, pow_18, pow_9, pow_10, isi_ii, isi_ib, isi_it, isi_tt, isi_ss, len_t, len_l, idx_t, idx_l, tup_e, lst_e, at_0, at_1, at_2, two_ii, List.all_cons, List.all_nil, Bool.and_self, Bool.true_and, Bool.and_true, Bool.false_and, Bool.and_false, Bool.not_true, Bool.not_false, List.contains_cons, List.contains_nil, Nat.reduceBEq, Int.reduceBEq, ci_0, ci_1, ci_2, ci_3, ci_4, ci_5, ci_6, beq_self_eq_true, Bool.or_false, Bool.or_true, Bool.false_or, Bool.true_or, if_true', fz_q, frz_q, q_0, q_1, q_len, q_tup, sget_0, sget_s, ex_some, ex_pair, ex_sbl, ex_slst, ex_2, frz_int, frz_str, frz_bl, frz_non, frz_tup, frz_lst, frz_rol, frz_dk, frz_ins, add_ii, sub_ii, neg_i, div_ii, mod_ii, cmp_ii, int_i, eq_ii, ne_ii, one_i, List.replicate, List.cons_append, List.nil_append, List.append_nil, List.length_cons, List.length_nil, List.set_cons_zero, List.set_cons_succ, Option.isSome_some, Option.isSome_none, D.bl.injEq, D.int.injEq, reduceCtorEq, true_and, and_true, false_and, and_false, or_false, false_or, Bool.true_eq_false, Bool.false_eq_true, if_true, if_false, List.map, List.map_cons, List.map_nil, Nat.reduceLT, Nat.reduceAdd, Nat.reduceLeDiff, Nat.zero_lt_succ, Nat.lt_add_left_iff_pos, Nat.le_add_left, exists_eq_left', exists_eq_left])
/-! systems in the terms -/
theorem ql_at {n t : Nat} {f : Nat → Rat} (h : t < n) : atI (qL n f) (t : Nat) = some (qD (f t)) := range_at h
theorem ql_len {n : Nat} {f : Nat → Rat} : (qL n f).length = n := by unfold qL; rw [List.length_map, List.length_range]
theorem ql_put {n t : Nat} {f : Nat → Rat} {x : Rat} (h : t < n) : putD (.lst true (qL n f)) (.int (t : Nat)) (qD x) = some (.lst true (qL n fun u => if u = t then x else f u)) := by
  unfold qL
  rw [range_put h]
  congr 3
  funext u
  dsimp only
  by_cases e : u = t
  · rw [if_pos e, if_pos e]
  · rw [if_neg e, if_neg e]
theorem ql_congr {n : Nat} {f g : Nat → Rat} (h : ∀ i, i < n → f i = g i) : qL n f = qL n g := by
  unfold qL
  apply List.map_congr_left
  intro i hi
  rw [h i (List.mem_range.mp hi)]
theorem ql_rep {n : Nat} : (List.replicate n [D.tup [.int 0, .int 1]]).flatten = qL n fun _ => 0 := rep_range
def ldL (s : Sy) (k : Nat) : List D := (List.range s.many).map fun i => .int (s.ld k i : Nat)
def mvD (s : Sy) (k : Nat) : D := .tup [qD (s.sh k), .tup (ldL s k)]
def mvL (s : Sy) : List D := (List.range s.K).map (mvD s)
def sysO (o : Bool) (s : Sy) : D := .ins o "System" ["many", "moves"] [.int (s.many : Nat), .tup (mvL s)]
def sprD (m : Nat) (p : Nat → Rat) : D := .tup (qL m p)
theorem fz_sys {o : Bool} {s : Sy} : isFz (sysO o s) = !o := by cases o <;> rfl
theorem frz_sys {o : Bool} {s : Sy} : frz (sysO o s) = sysO false s := rfl
theorem sys_many {o : Bool} {s : Sy} : dFld "System" "many" [sysO o s] = some (.int (s.many : Nat)) := rfl
theorem sys_moves {o : Bool} {s : Sy} : dFld "System" "moves" [sysO o s] = some (.tup (mvL s)) := rfl
theorem mvL_len {s : Sy} : (mvL s).length = s.K := by unfold mvL; rw [List.length_map, List.length_range]
theorem ldL_len {s : Sy} {k : Nat} : (ldL s k).length = s.many := by unfold ldL; rw [List.length_map, List.length_range]
theorem ld_at {s : Sy} {k i : Nat} (h : i < s.many) : atI (ldL s k) (i : Nat) = some (.int (s.ld k i : Nat)) := range_at h
theorem mv_at {s : Sy} {k : Nat} (h : k < s.K) : atI (mvL s) (k : Nat) = some (.tup [qD (s.sh k), .tup (ldL s k)]) := range_at h
theorem mv_pairs {s : Sy} : pairsD 0 (mvL s) = (List.range s.K).map fun i => .tup [.int (i : Nat), mvD s i] := pairs_range0
local macro_rules | `(tactic| boot_fast) => `(tactic| simp only [wp_def, wp_seq, wp_ret, wp_expr, wp_set, wp_ifS, wp_put, wp_fldP, wp_par, wp_asg, wp_nm, wp_tup2, wp_pass, wp_nil, wp_brk, wp_badS, wp_for, wp_var, wp_c, wpO_nil, wpO_ex, wpO_slot, wp_ops, wp_and, wp_or, wp_not, wp_if, wp_slLU, wp_chain, wp_mut, wpM_nil, wpM_cons, wp_disp, wpI_of, wpI_range1, wpI_enum, wp_tup3, items_l, items_t, items_r, tuple_l, tuple_t, list_l, list_t, Int.toNat_natCast, wp_call, wp_make, pb_nil, pb_slot, pb_ex, fin_nil, fin_c, fz_i, fz_s, fz_b, fz_n, fz_t, fz_r, fz_l, fz_d, fz_o, pow_18, pow_9, pow_10, isi_ii, isi_ib, isi_it, isi_tt, isi_ss, len_t, len_l, idx_t, idx_l, tup_e, lst_e, at_0, at_1, at_2, two_ii, List.all_cons, List.all_nil, Bool.and_self, Bool.true_and, Bool.and_true, Bool.false_and, Bool.and_false, Bool.not_true, Bool.not_false, List.contains_cons, List.contains_nil, Nat.reduceBEq, Int.reduceBEq, ci_0, ci_1, ci_2, ci_3, ci_4, ci_5, ci_6, beq_self_eq_true, Bool.or_false, Bool.or_true, Bool.false_or, Bool.true_or, if_true', fz_q, frz_q, q_0, q_1, q_len, q_tup, decide_true, decide_false, fz_sys, frz_sys, sys_many, sys_moves, mvL_len, ldL_len, ql_len, sget_0, sget_s, ex_some, ex_pair, ex_sbl, ex_slst, ex_2, frz_int, frz_str, frz_bl, frz_non, frz_tup, frz_lst, frz_rol, frz_dk, frz_ins, add_ii, sub_ii, neg_i, div_ii, mod_ii, cmp_ii, int_i, eq_ii, ne_ii, one_i, List.replicate, List.cons_append, List.nil_append, List.append_nil, List.length_cons, List.length_nil, List.set_cons_zero, List.set_cons_succ, Option.isSome_some, Option.isSome_none, D.bl.injEq, D.int.injEq, reduceCtorEq, true_and, and_true, false_and, and_false, or_false, false_or, Bool.true_eq_false, Bool.false_eq_true, if_true, if_false, List.map, List.map_cons, List.map_nil, Nat.reduceLT, Nat.reduceAdd, Nat.reduceLeDiff, Nat.zero_lt_succ, Nat.lt_add_left_iff_pos, Nat.le_add_left, exists_eq_left', exists_eq_left])
theorem isfr_wp {x : Rat} {Q : D → Env → Prop} (q : Q (.bl true) [some (qD x)]) : wpE m_is_fraction [some (qD x)] Q := by
  unfold m_is_fraction b_is_fraction
  try boot_fast
  refine is_integer_i ?_
  try boot_fast
  refine is_integer_i ?_
  try boot_fast
  unfold b_is_fraction_1
  try boot_fast
  left
  refine ⟨decide_eq_true (by have := x.den_pos; omega), ?_⟩
  refine divisor_wp ?_
  try boot_fast
  rw [Int.natAbs_natCast, show Nat.gcd x.num.natAbs x.den = 1 from x.reduced]
  exact q
theorem num_pos {x : Rat} (h : 0 < x) : 0 < x.num := by
  have h1 : 0 ≤ x.num := Rat.num_nonneg.mpr (Rat.le_of_lt h)
  have h2 : x.num ≠ 0 := fun z => by
    rw [Rat.num_eq_zero] at z
    subst z
    exact Rat.lt_irrefl h
  omega
theorem isshare_wp {x : Rat} {Q : D → Env → Prop} (h : 0 < x) (q : Q (.bl true) [some (qD x)]) : wpE m_is_share [some (qD x)] Q := by
  unfold m_is_share b_is_share
  try boot_fast
  refine isfr_wp ?_
  try boot_fast
  rw [decide_eq_true (num_pos h)]
  exact q
theorem all_true {o : Bool} {α : Type} : ∀ ds : List α, dAll [.lst o (ds.map fun _ => .bl true)] = some (.bl true) := fun ds => by
  show (boolsOf (ds.map fun _ => D.bl true)).map (fun ns => D.bl (ns.all id)) = _
  have e : (ds.map fun _ => D.bl true) = (ds.map fun _ => true).map D.bl := by simp
  rw [e, boolsOf_map, Option.map_some]
  congr 2
  simp
theorem numbers_wp {n : Nat} {g : Nat → Nat} {mm m : Int} {Q : D → Env → Prop} (hs : n ≤ 1000) (hl : (n : Int) ≤ mm) (hm : ∀ i, i < n → (g i : Int) ≤ m) (q : Q (.bl true) [some (.tup ((List.range n).map fun i => .int (g i : Nat))), some (.int mm), some (.int m)]) :
    wpE m_are_numbers [some (.tup ((List.range n).map fun i => .int (g i : Nat))), some (.int mm), some (.int m)] Q := by
  unfold m_are_numbers b_are_numbers
  try boot_fast
  rw [List.length_map, List.length_range]
  right
  refine ⟨decide_eq_false (by omega), ?_⟩
  unfold b_are_numbers_1
  try boot_fast
  refine comp_range (fun y => [some (.tup ((List.range n).map fun i => .int (g i : Nat))), some (.int mm), some (.int m), y]) (fun i => .int (g i : Nat)) (fun _ => .bl true) (K := n) (fun _ _ => rfl) (fun _ => by show 3 < 4; decide) (fun y => by cases y <;> rfl) ?_
  try boot_fast
  refine ⟨none, rfl, hs, fun i hi => ?_, ?_⟩
  · try boot_fast
    refine is_within_i ?_
    try boot_fast
    refine ⟨some (.int (g i : Nat)), rfl, ?_⟩
    rw [decide_eq_true (by omega), decide_eq_true (hm i hi)]
    rfl
  · rw [all_true]
    try boot_fast
    exact q
theorem ismove_wp {s : Sy} {S k : Nat} {Q : D → Env → Prop} (hs : SyOk s S) (hk : k < s.K)
    (q : Q (.bl true) [some (mvD s k), some (.int (s.many : Nat))]) : wpE m_is_move [some (mvD s k), some (.int (s.many : Nat))] Q := by
  have m12 := hs.m12
  have m1 := hs.m1
  unfold mvD at q ⊢
  unfold m_is_move b_is_move
  try boot_fast
  refine isshare_wp (hs.s0 k hk) ?_
  try boot_fast
  unfold b_is_move_1
  try boot_fast
  refine numbers_wp (by omega) (by omega) (fun i h => by have := hs.ll k hk i h; omega) ?_
  try boot_fast
  exact q
theorem putI_1 {x : D} : putI "System" "many" x (.ins true "System" [] []) = some (.ins true "System" ["many"] [x]) := rfl
theorem putI_2 {x y : D} : putI "System" "moves" y (.ins true "System" ["many"] [x]) = some (.ins true "System" ["many", "moves"] [x, y]) := rfl
theorem dEq_q1 {x : Rat} : dEq [qD x, .tup [.int 1, .int 1]] = some (.bl (decide (x = 1))) := by
  show some (D.bl (x.num == 1 && ((x.den : Int) == 1 && true))) = _
  congr 2
  rw [Bool.and_true, Bool.eq_iff_iff, Bool.and_eq_true, beq_iff_eq, beq_iff_eq, decide_eq_true_iff]
  constructor
  · rintro ⟨h1, h2⟩
    exact Rat.ext h1 (by show x.den = 1; omega)
  · rintro rfl
    exact ⟨rfl, rfl⟩
theorem dNe_q1 {x : Rat} : dNe [qD x, .tup [.int 1, .int 1]] = some (.bl (!decide (x = 1))) := by
  have h := dEq_q1 (x := x)
  have h : some (D.bl (deq (qD x) (.tup [.int 1, .int 1]))) = some (D.bl (decide (x = 1))) := h
  injection h with h
  injection h with h
  show some (D.bl (!deq (qD x) (.tup [.int 1, .int 1]))) = _
  rw [h]
theorem SyOk.fits {s : Sy} {S : Nat} (hs : SyOk s S) (h0 : 0 < S) (h1 : S ≤ 2 ^ 4000) : FitS S s.K s.sh where
  n0 := h0
  n1 := h1
  n4 := by have := hs.k24; omega
  i := hs.sI
  p0 := fun j hj => Rat.le_of_lt (hs.s0 j hj)
  p1 := fun j hj => by have := hs.le hj; grind
local macro_rules | `(tactic| boot_fast) => `(tactic| simp only [wp_def, wp_seq, wp_ret, wp_expr, wp_set, wp_ifS, wp_put, wp_fldP, wp_par, wp_asg, wp_nm, wp_tup2, wp_pass, wp_nil, wp_brk, wp_badS, wp_for, wp_var, wp_c, wpO_nil, wpO_ex, wpO_slot, wp_ops, wp_and, wp_or, wp_not, wp_if, wp_slLU, wp_chain, wp_mut, wpM_nil, wpM_cons, wp_disp, wpI_of, wpI_range1, wpI_enum, wp_tup3, items_l, items_t, items_r, tuple_l, tuple_t, list_l, list_t, Int.toNat_natCast, wp_call, wp_make, pb_nil, pb_slot, pb_ex, fin_nil, fin_c, fz_i, fz_s, fz_b, fz_n, fz_t, fz_r, fz_l, fz_d, fz_o, pow_18, pow_9, pow_10, isi_ii, isi_ib, isi_it, isi_tt, isi_ss, len_t, len_l, idx_t, idx_l, tup_e, lst_e, at_0, at_1, at_2, two_ii, List.all_cons, List.all_nil, Bool.and_self, Bool.true_and, Bool.and_true, Bool.false_and, Bool.and_false, Bool.not_true, Bool.not_false, List.contains_cons, List.contains_nil, Nat.reduceBEq, Int.reduceBEq, ci_0, ci_1, ci_2, ci_3, ci_4, ci_5, ci_6, beq_self_eq_true, Bool.or_false, Bool.or_true, Bool.false_or, Bool.true_or, if_true', fz_q, frz_q, q_0, q_1, q_len, q_tup, decide_true, decide_false, fz_sys, frz_sys, sys_many, sys_moves, mvL_len, ldL_len, ql_len, putI_1, putI_2, dEq_q1, dNe_q1, sget_0, sget_s, ex_some, ex_pair, ex_sbl, ex_slst, ex_2, frz_int, frz_str, frz_bl, frz_non, frz_tup, frz_lst, frz_rol, frz_dk, frz_ins, add_ii, sub_ii, neg_i, div_ii, mod_ii, cmp_ii, int_i, eq_ii, ne_ii, one_i, List.replicate, List.cons_append, List.nil_append, List.append_nil, List.length_cons, List.length_nil, List.set_cons_zero, List.set_cons_succ, Option.isSome_some, Option.isSome_none, D.bl.injEq, D.int.injEq, reduceCtorEq, true_and, and_true, false_and, and_false, or_false, false_or, Bool.true_eq_false, Bool.false_eq_true, if_true, if_false, List.map, List.map_cons, List.map_nil, Nat.reduceLT, Nat.reduceAdd, Nat.reduceLeDiff, Nat.zero_lt_succ, Nat.lt_add_left_iff_pos, Nat.le_add_left, exists_eq_left', exists_eq_left])
theorem init_wp {s : Sy} {S : Nat} (hs : SyOk s S) (h0 : 0 < S) (h1 : S ≤ 2 ^ 4000) {Q : D → Env → Prop} (q : Q .non [some (sysO true s), some (.int (s.many : Nat)), some (.tup (mvL s))]) :
    wpE m_System__init_ [some (.ins true "System" [] []), some (.int (s.many : Nat)), some (.tup (mvL s))] Q := by
  unfold m_System__init_ b_System__init_
  try boot_fast
  refine is_within_i ?_
  try boot_fast
  have m1 := hs.m1
  have m12 := hs.m12
  rw [decide_eq_true (show (1 : Int) ≤ (s.many : Nat) by omega), decide_eq_true (show ((s.many : Nat) : Int) ≤ 12 by omega)]
  try boot_fast
  unfold b_System__init__6
  try boot_fast
  have k1 := hs.k1
  have k24 := hs.k24
  rw [decide_eq_true (show (1 : Int) ≤ (s.K : Nat) by omega)]
  try boot_fast
  rw [decide_eq_true (show ((s.K : Nat) : Int) ≤ 24 by omega)]
  try boot_fast
  unfold b_System__init__5
  try boot_fast
  refine ⟨mvL s, .inr rfl, ?_⟩
  rw [mv_pairs]
  refine wp_fRange (fun _ ρ => ∃ y z, ρ = [some (.ins true "System" [] []), some (.int (s.many : Nat)), some (.tup (mvL s)), y, z, none, none]) ⟨none, none, rfl⟩ (fun j ρ hj hI => ?_) (fun ρ hI => ?_)
  · obtain ⟨y, z, rfl⟩ := hI
    unfold b_System__init__4
    try boot_fast
    refine ismove_wp hs hj ?_
    unfold mvD
    try boot_fast
    exact ⟨_, _, rfl⟩
  · obtain ⟨y, z, rfl⟩ := hI
    unfold b_System__init__3
    try boot_fast
    refine comp_range2 (fun y1 z1 => [some (.ins true "System" [] []), some (.int (s.many : Nat)), some (.tup (mvL s)), y, z, y1, z1]) (fun k => qD (s.sh k)) (fun k => .tup (ldL s k)) (fun k => qD (s.sh k)) (K := s.K) (fun _ _ _ => rfl) (fun _ _ _ => rfl) (fun _ _ => ⟨by show 5 < 7; decide, by show 6 < 7; decide⟩) (fun a b => ⟨by cases a <;> rfl, by cases b <;> rfl⟩) ?_
    try boot_fast
    refine ⟨none, none, rfl, rfl, by omega, fun i hi => ?_, ?_⟩
    · try boot_fast
      exact ⟨_, _, rfl⟩
    · try boot_fast
      refine sum_wp (hs.fits h0 h1) rfl rfl rfl ?_
      rw [hs.s1]
      try boot_fast
      unfold b_System__init__2
      try boot_fast
      unfold b_System__init__1
      try boot_fast
      exact q
end VE
namespace VE
open PySem PySem.Spec PyProof.Rows L2
local macro_rules | `(tactic| boot_fast) => `(tactic| simp only [wp_def, wp_seq, wp_ret, wp_expr, wp_set, wp_ifS, wp_put, wp_fldP, wp_par, wp_asg, wp_nm, wp_tup2, wp_pass, wp_nil, wp_brk, wp_badS, wp_for, wp_var, wp_c, wpO_nil, wpO_ex, wpO_slot, wp_ops, wp_and, wp_or, wp_not, wp_if, wp_slLU, wp_chain, wp_mut, wpM_nil, wpM_cons, wp_disp, wpI_of, wpI_range1, wpI_enum, wp_tup3, items_l, items_t, items_r, tuple_l, tuple_t, list_l, list_t, Int.toNat_natCast, wp_call, wp_make, pb_nil, pb_slot, pb_ex, fin_nil, fin_c, fz_i, fz_s, fz_b, fz_n, fz_t, fz_r, fz_l, fz_d, fz_o, pow_18, pow_9, pow_10, isi_ii, isi_ib, isi_it, isi_tt, isi_ss, len_t, len_l, idx_t, idx_l, tup_e, lst_e, at_0, at_1, at_2, two_ii, List.all_cons, List.all_nil, Bool.and_self, Bool.true_and, Bool.and_true, Bool.false_and, Bool.and_false, Bool.not_true, Bool.not_false, List.contains_cons, List.contains_nil, Nat.reduceBEq, Int.reduceBEq, ci_0, ci_1, ci_2, ci_3, ci_4, ci_5, ci_6, beq_self_eq_true, Bool.or_false, Bool.or_true, Bool.false_or, Bool.true_or, if_true', sget_0, sget_s, ex_some, ex_pair, ex_sbl, ex_slst, ex_2, frz_int, frz_str, frz_bl, frz_non, frz_tup, frz_lst, frz_rol, frz_dk, frz_ins, add_ii, sub_ii, neg_i, div_ii, mod_ii, cmp_ii, int_i, eq_ii, ne_ii, one_i, List.replicate, List.cons_append, List.nil_append, List.append_nil, List.length_cons, List.length_nil, List.set_cons_zero, List.set_cons_succ, Option.isSome_some, Option.isSome_none, D.bl.injEq, D.int.injEq, reduceCtorEq, true_and, and_true, false_and, and_false, or_false, false_or, Bool.true_eq_false, Bool.false_eq_true, if_true, if_false, List.map, List.map_cons, List.map_nil, Nat.reduceLT, Nat.reduceAdd, Nat.reduceLeDiff, Nat.zero_lt_succ, Nat.lt_add_left_iff_pos, Nat.le_add_left, exists_eq_left', exists_eq_left])
local macro_rules | `(tactic| boot_fast) => `(tactic| simp only [wp_def, wp_seq, wp_ret, wp_expr, wp_set, wp_ifS, wp_put, wp_fldP, wp_par, wp_asg, wp_nm, wp_tup2, wp_pass, wp_nil, wp_brk, wp_badS, wp_for, wp_var, wp_c, wpO_nil, wpO_ex, wpO_slot, wp_ops, wp_and, wp_or, wp_not, wp_if, wp_slLU, wp_chain, wp_mut, wpM_nil, wpM_cons, wp_disp, wpI_of, wpI_range1, wpI_enum, wp_tup3, items_l, items_t, items_r, tuple_l, tuple_t, list_l, list_t, Int.toNat_natCast, wp_call, wp_make, pb_nil, pb_slot, pb_ex, fin_nil, fin_c, fz_i, fz_s, fz_b, fz_n, fz_t, fz_r, fz_l, fz_d, fz_o, pow_18, pow_9, pow_10, isi_ii, isi_ib, isi_it, isi_tt, isi_ss, len_t, len_l, idx_t, idx_l, tup_e, lst_e, at_0, at_1, at_2, two_ii, List.all_cons, List.all_nil, Bool.and_self, Bool.true_and, Bool.and_true, Bool.false_and, Bool.and_false, Bool.not_true, Bool.not_false, List.contains_cons, List.contains_nil, Nat.reduceBEq, Int.reduceBEq, ci_0, ci_1, ci_2, ci_3, ci_4, ci_5, ci_6, beq_self_eq_true, Bool.or_false, Bool.or_true, Bool.false_or, Bool.true_or, if_true', fz_q, frz_q, q_0, q_1, q_len, q_tup, decide_true, decide_false, fz_sys, frz_sys, sys_many, sys_moves, mvL_len, ldL_len, ql_len, sget_0, sget_s, ex_some, ex_pair, ex_sbl, ex_slst, ex_2, frz_int, frz_str, frz_bl, frz_non, frz_tup, frz_lst, frz_rol, frz_dk, frz_ins, add_ii, sub_ii, neg_i, div_ii, mod_ii, cmp_ii, int_i, eq_ii, ne_ii, one_i, List.replicate, List.cons_append, List.nil_append, List.append_nil, List.length_cons, List.length_nil, List.set_cons_zero, List.set_cons_succ, Option.isSome_some, Option.isSome_none, D.bl.injEq, D.int.injEq, reduceCtorEq, true_and, and_true, false_and, and_false, or_false, false_or, Bool.true_eq_false, Bool.false_eq_true, if_true, if_false, List.map, List.map_cons, List.map_nil, Nat.reduceLT, Nat.reduceAdd, Nat.reduceLeDiff, Nat.zero_lt_succ, Nat.lt_add_left_iff_pos, Nat.le_add_left, exists_eq_left', exists_eq_left])
theorem wp_fList {α : Type} {t : Tgt} {b : MS} {N B : Env → Prop} {R : D → Env → Prop} {ρ : Env} {f : α → D} {l : List α} (I : List α → Env → Prop) (h0 : I [] ρ)
    (step : ∀ done x left ρ, l = done ++ x :: left → I done ρ → wpS (t.m (f x)) ρ (fun ρ1 => wpS b ρ1 (I (done ++ [x])) R N) (fun _ _ => False) (fun _ => False)) (hN : ∀ ρ, I l ρ → N ρ) :
    wpS (fIter t b (l.map f)) ρ N R B := by
  refine wp_fIter (fun r ρ => ∃ done left, l = done ++ left ∧ r = left.map f ∧ I done ρ) (fun ρ hI => ?_) (fun d r ρ hI => ?_) _ _ ⟨[], l, rfl, rfl, h0⟩
  · obtain ⟨done, left, e, e2, h⟩ := hI
    cases left with
    | nil => rw [List.append_nil] at e; subst e; exact hN ρ h
    | cons _ _ => cases e2
  · obtain ⟨done, left, e, e2, h⟩ := hI
    cases left with
    | nil => cases e2
    | cons x left =>
      rw [List.map_cons] at e2
      injection e2 with e3 e4
      subst e3 e4
      exact wpS_mono (step done x left ρ e h) (fun ρ1 h1 => wpS_mono h1 (fun ρ2 h2 => ⟨done ++ [x], left, by rw [e]; simp, rfl, h2⟩) (fun _ _ h => h) (fun _ h => h)) (fun _ _ h => h) (fun _ h => h)
local macro_rules | `(tactic| boot_fast) => `(tactic| simp only [wp_def, wp_seq, wp_ret, wp_expr, wp_set, wp_ifS, wp_put, wp_fldP, wp_par, wp_asg, wp_nm, wp_tup2, wp_pass, wp_nil, wp_brk, wp_badS, wp_for, wp_var, wp_c, wpO_nil, wpO_ex, wpO_slot, wp_ops, wp_and, wp_or, wp_not, wp_if, wp_slLU, wp_chain, wp_mut, wpM_nil, wpM_cons, wp_disp, wpI_of, wpI_range1, wpI_enum, wp_tup3, items_l, items_t, items_r, tuple_l, tuple_t, list_l, list_t, Int.toNat_natCast, wp_call, wp_make, pb_nil, pb_slot, pb_ex, fin_nil, fin_c, fz_i, fz_s, fz_b, fz_n, fz_t, fz_r, fz_l, fz_d, fz_o, pow_18, pow_9, pow_10, isi_ii, isi_ib, isi_it, isi_tt, isi_ss, len_t, len_l, idx_t, idx_l, tup_e, lst_e, at_0, at_1, at_2, two_ii, List.all_cons, List.all_nil, Bool.and_self, Bool.true_and, Bool.and_true, Bool.false_and, Bool.and_false, Bool.not_true, Bool.not_false, List.contains_cons, List.contains_nil, Nat.reduceBEq, Int.reduceBEq, ci_0, ci_1, ci_2, ci_3, ci_4, ci_5, ci_6, beq_self_eq_true, Bool.or_false, Bool.or_true, Bool.false_or, Bool.true_or, if_true', fz_q, frz_q, q_0, q_1, q_len, q_tup, decide_true, decide_false, fz_sys, frz_sys, sys_many, sys_moves, mvL_len, ldL_len, ql_len, fz_q, frz_q, q_0, q_1, q_len, q_tup, decide_true, decide_false, fz_sys, frz_sys, sys_many, sys_moves, mvL_len, ldL_len, ql_len, dEq_q1, fz_h, sum_nat, sget_0, sget_s, ex_some, ex_pair, ex_sbl, ex_slst, ex_2, frz_int, frz_str, frz_bl, frz_non, frz_tup, frz_lst, frz_rol, frz_dk, frz_ins, add_ii, sub_ii, neg_i, div_ii, mod_ii, cmp_ii, int_i, eq_ii, ne_ii, one_i, List.replicate, List.cons_append, List.nil_append, List.append_nil, List.length_cons, List.length_nil, List.set_cons_zero, List.set_cons_succ, Option.isSome_some, Option.isSome_none, D.bl.injEq, D.int.injEq, reduceCtorEq, true_and, and_true, false_and, and_false, or_false, false_or, Bool.true_eq_false, Bool.false_eq_true, if_true, if_false, List.map, List.map_cons, List.map_nil, Nat.reduceLT, Nat.reduceAdd, Nat.reduceLeDiff, Nat.zero_lt_succ, Nat.lt_add_left_iff_pos, Nat.le_add_left, exists_eq_left', exists_eq_left])
theorem flat_q {x : Rat} {n : Nat} : flat (n + 1) (qD x) = true := rfl
theorem size_wp {n : Nat} {h : Hand} {Q : D → Env → Prop} (ok : HandOk (n + 2) h) (q : ∀ (m : Nat) h', 1 ≤ m → m ≤ 12 → HandOk n h' → Q (.int (m : Nat)) [some (handO true h')]) : wpE m__law_size [some (handO true h)] Q := by
  unfold m__law_size b__law_size
  try boot_fast
  refine draw_nat (many := 12) (n := n + 1) ok (by decide) fun a h1 ha ok => ?_
  try boot_fast
  by_cases hb : 0 < (a : Int)
  · left
    refine ⟨decide_eq_true hb, ?_⟩
    refine any_wp (n := n) ok (by simp) fun x h3 hx ok3 => ?_
    try boot_fast
    simp only [List.mem_cons, List.not_mem_nil, or_false] at hx
    have hx' : ∃ g : Nat, x = .int (g : Nat) ∧ 1 ≤ g ∧ g ≤ 6 := by
      rcases hx with rfl | rfl | rfl | rfl | rfl | rfl | rfl | rfl | rfl | rfl
      · exact ⟨1, rfl, by decide, by decide⟩
      · exact ⟨2, rfl, by decide, by decide⟩
      · exact ⟨2, rfl, by decide, by decide⟩
      · exact ⟨3, rfl, by decide, by decide⟩
      · exact ⟨3, rfl, by decide, by decide⟩
      · exact ⟨4, rfl, by decide, by decide⟩
      · exact ⟨4, rfl, by decide, by decide⟩
      · exact ⟨5, rfl, by decide, by decide⟩
      · exact ⟨5, rfl, by decide, by decide⟩
      · exact ⟨6, rfl, by decide, by decide⟩
    obtain ⟨g, rfl, g1, g2⟩ := hx'
    exact q g h3 g1 (by omega) ok3
  · right
    refine ⟨decide_eq_false hb, ?_⟩
    refine draw_nat (many := 6) (n := n) ok (by decide) fun b h2 hb2 ok2 => ?_
    try boot_fast
    exact q (7 + b) h2 (by omega) (by omega) ok2
theorem comp_list {α : Type} {v : Nat} {it : ML} {e : M} (E : Option D → Env) (f g : α → D) {l : List α} {Q : D → Env → Prop} {ρ : Env} (hv : ∀ y z, (E y).set v z = E z) (hl : ∀ y, v < (E y).length) (hg : ∀ y, sget (E y) v = y)
    (hit : wpI it ρ fun ds ρ0 => ∃ y, ρ0 = E y ∧ ds = l.map f ∧ l.length ≤ 1000 ∧ (∀ a, a ∈ l → wpE e (E (some (f a))) fun x ρ' => ∃ z, ρ' = E z ∧ frz x = g a) ∧
      Q (.lst true (l.map g)) (E (kept y))) : wpE (eComp [v] it (.nm v) none e) ρ Q := by
  rw [wp_comp]
  unfold wpI at hit ⊢
  cases e1 : it ρ with
  | exc _ _ _ => rw [e1] at hit; exact hit.elim
  | bad => rw [e1] at hit; exact hit.elim
  | ok ds' ρ0 =>
    rw [e1] at hit
    obtain ⟨y, rfl, rfl, hK, he, q⟩ := hit
    dsimp only
    refine ⟨by rw [List.length_map]; exact Nat.lt_of_le_of_lt hK (by decide), ?_⟩
    have key := wp_cIter (own := [v]) (t := .nm v) (c := none) (e := e) (fun acc r ρ => ∃ y' done left, l = done ++ left ∧ ρ = E y' ∧ r = left.map f ∧ acc = done.map g) (fun acc d r ρ hI => by
      obtain ⟨y1, done, left, ej, rfl, e2, rfl⟩ := hI
      cases left with
      | nil => cases e2
      | cons a left =>
      rw [List.map_cons] at e2
      injection e2 with e3 e4
      subst e3 e4
      rw [show wipeE (E y1) [v] = E none from hv y1 none, wp_nm]
      refine ⟨hl _, ?_⟩
      rw [hv]
      refine wpE_of (d := .bl true) (ρ' := E (some (f a))) rfl (.inl ⟨rfl, ?_⟩)
      refine wpE_mono (he a (by rw [ej]; simp)) fun x ρ' ⟨z, hρ', hx⟩ => ⟨z, done ++ [a], left, by rw [ej]; simp, hρ', rfl, ?_⟩
      rw [List.map_append, hx]; rfl) (l.map f) [] (E y) ⟨y, [], l, rfl, rfl, rfl, rfl⟩
    unfold wpI at key
    cases e2 : cIter [v] (.nm v) none e (l.map f) (E y) with
    | exc _ _ _ => rw [e2] at key; exact key.elim
    | bad => rw [e2] at key; exact key.elim
    | ok xs ρ1 =>
      rw [e2] at key
      dsimp only at key ⊢
      obtain ⟨y', done, left, ej, rfl, hd, hx⟩ := key
      cases left with
      | cons _ _ => cases hd
      | nil =>
      rw [List.append_nil] at ej
      subst ej
      rw [List.nil_append] at hx
      subst hx
      have eu : unwipe (E y) [v] (wipeE (E y') [v]) = E (kept y) := by
        show ((E y').set v none).set v (keepD (E y) v) = _
        rw [hv, hv]
        congr 1
        unfold keepD
        rw [hg]
        cases y <;> rfl
      rw [eu]
      exact q
theorem shares_wp {n m : Nat} {h : Hand} {Q : D → Env → Prop} (ok : HandOk (n + 100) h) (h1 : 1 ≤ m) (h5 : m ≤ 24)
    (q : ∀ (ws : List Nat) h', ws.length = m → (∀ w ∈ ws, 0 < w ∧ w ≤ 7000000000) → HandOk n h' → Q (.lst true (ws.map fun w => qD (mkRat (w : Nat) ws.sum))) [some (handO true h'), some (.int (m : Nat))]) :
    wpE m__law_shares [some (handO true h), some (.int (m : Nat))] Q := by
  unfold m__law_shares b__law_shares
  try boot_fast
  refine draw_nat (many := 16) (n := n + 99) ok (by decide) fun a h1' ha ok => ?_
  try boot_fast
  generalize (((a : Nat) : Int) == 0) = gr
  unfold b__law_shares_5
  try boot_fast
  unfold b__law_shares_4
  try boot_fast
  refine ⟨⟨by omega, by omega⟩, ?_⟩
  rw [rangeL_map]
  refine wp_fRange (fun j ρ => ∃ h2 ws y4 y5, ws.length = j ∧ (∀ w ∈ ws, 0 < w ∧ w ≤ 7000000000) ∧ HandOk (n + (m - j) * 3) h2 ∧ ρ = [some (handO true h2), some (.int (m : Nat)), some (.bl gr), some (.lst true (natL ws)), y4, y5]) ⟨h1', [], _, _, rfl, (fun _ z => absurd z List.not_mem_nil), ok.le (by omega), rfl⟩ (fun j ρ hj hI => ?_) (fun ρ hI => ?_)
  · obtain ⟨h2, ws, y4, y5, hl, hw, ok2, rfl⟩ := hI
    have ok2 : HandOk (n + (m - (j + 1)) * 3 + 2 + 1) h2 := ok2.le (by omega)
    unfold b__law_shares_3
    try boot_fast
    refine any_wp (n := n + (m - (j + 1)) * 3 + 2) ok2 (by simp) fun x h3 hx ok3 => ?_
    try boot_fast
    simp only [List.mem_cons, List.not_mem_nil, or_false] at hx
    have hx' : ∃ g : Nat, x = .int (g : Nat) ∧ 1 ≤ g ∧ g ≤ 6 := by
      rcases hx with rfl | rfl | rfl
      · exact ⟨1, rfl, by decide, by decide⟩
      · exact ⟨3, rfl, by decide, by decide⟩
      · exact ⟨6, rfl, by decide, by decide⟩
    obtain ⟨g, rfl, g1, g2⟩ := hx'
    try boot_fast
    refine draw_nat (n := n + (m - (j + 1)) * 3 + 1) ok3 (by omega) fun b h4 hb ok4 => ?_
    try boot_fast
    unfold b__law_shares_2
    try boot_fast
    refine ⟨rfl, ?_⟩
    have hg2 : ∀ w ∈ ws ++ [1 + b], 0 < w ∧ w ≤ 7000000000 := fun w hw' => by
      rcases List.mem_append.mp hw' with z | z
      · exact hw w z
      · rw [List.mem_singleton.mp z]; exact ⟨by omega, by omega⟩
    cases gr with
    | false =>
      right
      refine ⟨rfl, .non, _, gapp (by rw [natL_length]; omega), ?_⟩
      try boot_fast
      rw [show natL ws ++ [D.int (1 + (b : Int))] = natL (ws ++ [1 + b]) by rw [natL_app]; rfl]
      exact ⟨h4, ws ++ [1 + b], _, _, by rw [List.length_append, List.length_singleton, hl], hg2, ok4.le (by omega), rfl⟩
    | true =>
      left
      refine ⟨rfl, ?_⟩
      refine ex_mul 5 31 (by omega) (by decide) ?_
      try boot_fast
      refine draw_nat (many := 1000000000) (n := n + (m - (j + 1)) * 3) ok4 (by decide) fun c h5' hc ok5 => ?_
      try boot_fast
      refine ⟨.non, _, gapp (by rw [natL_length]; omega), ?_⟩
      rw [show natL ws ++ [D.int ((1 + (b : Int)) * 1000000000 + (c : Int))] = natL (ws ++ [(1 + b) * 1000000000 + c]) by rw [natL_app]; rfl]
      refine ⟨h5', ws ++ [(1 + b) * 1000000000 + c], _, _, by rw [List.length_append, List.length_singleton, hl], fun w hw' => ?_, ok5, rfl⟩
      rcases List.mem_append.mp hw' with z | z
      · exact hw w z
      · rw [List.mem_singleton.mp z]; exact ⟨by omega, by omega⟩
  · obtain ⟨h2, ws, y4, y5, hl, hw, ok2, rfl⟩ := hI
    unfold b__law_shares_1
    try boot_fast
    have s0 : 0 < ws.sum := by
      cases ws with
      | nil => simp at hl; omega
      | cons w r => rw [List.sum_cons]; have := hw w (by simp); omega
    refine comp_list (fun y => [some (handO true h2), some (.int (m : Nat)), some (.bl gr), some (.lst false (natL ws)), y4, y]) (fun w : Nat => .int (w : Nat)) (fun w => qD (mkRat (w : Nat) ws.sum)) (l := ws) (fun _ _ => rfl) (fun _ => by show 5 < 6; decide) (fun y => by cases y <;> rfl) ?_
    try boot_fast
    refine ⟨y5, rfl, rfl, by omega, fun w hw' => ?_, ?_⟩
    · try boot_fast
      refine low_wp s0 ?_
      try boot_fast
      exact ⟨_, rfl⟩
    · exact q ws h2 hl hw (ok2.le (by omega))
end VE
namespace VE
open PySem PySem.Spec PyProof.Rows L2
local macro_rules | `(tactic| boot_fast) => `(tactic| simp only [wp_def, wp_seq, wp_ret, wp_expr, wp_set, wp_ifS, wp_put, wp_fldP, wp_par, wp_asg, wp_nm, wp_tup2, wp_pass, wp_nil, wp_brk, wp_badS, wp_for, wp_var, wp_c, wpO_nil, wpO_ex, wpO_slot, wp_ops, wp_and, wp_or, wp_not, wp_if, wp_slLU, wp_chain, wp_mut, wpM_nil, wpM_cons, wp_disp, wpI_of, wpI_range1, wpI_enum, wp_tup3, items_l, items_t, items_r, tuple_l, tuple_t, list_l, list_t, Int.toNat_natCast, wp_call, wp_make, pb_nil, pb_slot, pb_ex, fin_nil, fin_c, fz_i, fz_s, fz_b, fz_n, fz_t, fz_r, fz_l, fz_d, fz_o, pow_18, pow_9, pow_10, isi_ii, isi_ib, isi_it, isi_tt, isi_ss, len_t, len_l, idx_t, idx_l, tup_e, lst_e, at_0, at_1, at_2, two_ii, List.all_cons, List.all_nil, Bool.and_self, Bool.true_and, Bool.and_true, Bool.false_and, Bool.and_false, Bool.not_true, Bool.not_false, List.contains_cons, List.contains_nil, Nat.reduceBEq, Int.reduceBEq, ci_0, ci_1, ci_2, ci_3, ci_4, ci_5, ci_6, beq_self_eq_true, Bool.or_false, Bool.or_true, Bool.false_or, Bool.true_or, if_true', sget_0, sget_s, ex_some, ex_pair, ex_sbl, ex_slst, ex_2, frz_int, frz_str, frz_bl, frz_non, frz_tup, frz_lst, frz_rol, frz_dk, frz_ins, add_ii, sub_ii, neg_i, div_ii, mod_ii, cmp_ii, int_i, eq_ii, ne_ii, one_i, List.replicate, List.cons_append, List.nil_append, List.append_nil, List.length_cons, List.length_nil, List.set_cons_zero, List.set_cons_succ, Option.isSome_some, Option.isSome_none, D.bl.injEq, D.int.injEq, reduceCtorEq, true_and, and_true, false_and, and_false, or_false, false_or, Bool.true_eq_false, Bool.false_eq_true, if_true, if_false, List.map, List.map_cons, List.map_nil, Nat.reduceLT, Nat.reduceAdd, Nat.reduceLeDiff, Nat.zero_lt_succ, Nat.lt_add_left_iff_pos, Nat.le_add_left, exists_eq_left', exists_eq_left])
local macro_rules | `(tactic| boot_fast) => `(tactic| simp only [wp_def, wp_seq, wp_ret, wp_expr, wp_set, wp_ifS, wp_put, wp_fldP, wp_par, wp_asg, wp_nm, wp_tup2, wp_pass, wp_nil, wp_brk, wp_badS, wp_for, wp_var, wp_c, wpO_nil, wpO_ex, wpO_slot, wp_ops, wp_and, wp_or, wp_not, wp_if, wp_slLU, wp_chain, wp_mut, wpM_nil, wpM_cons, wp_disp, wpI_of, wpI_range1, wpI_enum, wp_tup3, items_l, items_t, items_r, tuple_l, tuple_t, list_l, list_t, Int.toNat_natCast, wp_call, wp_make, pb_nil, pb_slot, pb_ex, fin_nil, fin_c, fz_i, fz_s, fz_b, fz_n, fz_t, fz_r, fz_l, fz_d, fz_o, pow_18, pow_9, pow_10, isi_ii, isi_ib, isi_it, isi_tt, isi_ss, len_t, len_l, idx_t, idx_l, tup_e, lst_e, at_0, at_1, at_2, two_ii, List.all_cons, List.all_nil, Bool.and_self, Bool.true_and, Bool.and_true, Bool.false_and, Bool.and_false, Bool.not_true, Bool.not_false, List.contains_cons, List.contains_nil, Nat.reduceBEq, Int.reduceBEq, ci_0, ci_1, ci_2, ci_3, ci_4, ci_5, ci_6, beq_self_eq_true, Bool.or_false, Bool.or_true, Bool.false_or, Bool.true_or, if_true', fz_q, frz_q, q_0, q_1, q_len, q_tup, decide_true, decide_false, fz_sys, frz_sys, sys_many, sys_moves, mvL_len, ldL_len, ql_len, fz_h, sum_nat, sget_0, sget_s, ex_some, ex_pair, ex_sbl, ex_slst, ex_2, frz_int, frz_str, frz_bl, frz_non, frz_tup, frz_lst, frz_rol, frz_dk, frz_ins, add_ii, sub_ii, neg_i, div_ii, mod_ii, cmp_ii, int_i, eq_ii, ne_ii, one_i, List.replicate, List.cons_append, List.nil_append, List.append_nil, List.length_cons, List.length_nil, List.set_cons_zero, List.set_cons_succ, Option.isSome_some, Option.isSome_none, D.bl.injEq, D.int.injEq, reduceCtorEq, true_and, and_true, false_and, and_false, or_false, false_or, Bool.true_eq_false, Bool.false_eq_true, if_true, if_false, List.map, List.map_cons, List.map_nil, Nat.reduceLT, Nat.reduceAdd, Nat.reduceLeDiff, Nat.zero_lt_succ, Nat.lt_add_left_iff_pos, Nat.le_add_left, exists_eq_left', exists_eq_left])
/-! ### weights -/
def wR (ws : List Nat) (i : Nat) : Rat := mkRat (ws.getD i 0 : Nat) ws.sum
theorem sumR_getD {α : Type} {g : α → Rat} {l : List α} {d : α} : sumR l.length (fun k => g (l.getD k d)) = sumL g l := by
  rw [← range_sum, ← sumL_map (g := fun k => l.getD k d) (f := g)]
  congr 1
  apply List.ext_getElem
  · simp
  · intro i h1 h2
    simp only [List.getElem_map, List.getElem_range, List.getD_eq_getElem?_getD, List.getElem?_eq_getElem h2, Option.getD_some]
theorem sumL_nat : ∀ {l : List Nat}, sumL (fun w : Nat => (w : Rat)) l = ((l.sum : Nat) : Rat)
  | [] => rfl
  | a :: r => by
    show (a : Rat) + sumL _ r = _
    rw [sumL_nat, List.sum_cons, Rat.natCast_add]
theorem mk_mul {a S : Nat} (hS : 0 < S) : mkRat (a : Nat) S * (S : Rat) = (a : Nat) := by
  rw [Rat.mkRat_eq_div]
  have : (S : Rat) ≠ 0 := fun z => by have := Rat.natCast_eq_zero_iff.mp z; omega
  exact Rat.div_mul_cancel this
theorem wR_sum {ws : List Nat} (hS : 0 < ws.sum) : sumR ws.length (wR ws) = 1 := by
  have e : (ws.sum : Rat) = sumR ws.length (fun i => ((ws.getD i 0 : Nat) : Rat)) := by rw [sumR_getD (g := fun w : Nat => (w : Rat)), sumL_nat]
  have h : (ws.sum : Rat) * sumR ws.length (wR ws) = (ws.sum : Rat) := by
    rw [← sumR_mul]
    refine Eq.trans (sumR_congr fun i _ => ?_) e.symm
    unfold wR
    rw [Rat.mul_comm, mk_mul hS]
  have h0 : (ws.sum : Rat) ≠ 0 := fun z => by have := Rat.natCast_eq_zero_iff.mp z; omega
  grind
theorem wR_in {ws : List Nat} (hS : 0 < ws.sum) (i : Nat) : isIn ws.sum (wR ws i) := ⟨((ws.getD i 0 : Nat) : Int), by
  unfold wR
  rw [mk_mul hS, Rat.intCast_natCast]⟩
theorem wR_0 {ws : List Nat} (i : Nat) : 0 ≤ wR ws i := by
  unfold wR
  by_cases h : ws.sum = 0
  · refine Rat.num_nonneg.mp ?_
    rw [Rat.num_mkRat, if_pos h]
    exact Int.le_refl 0
  · have e : (mkRat (ws.getD i 0 : Nat) ws.sum).num = ((ws.getD i 0 / Nat.gcd (ws.getD i 0) ws.sum : Nat) : Int) := by
      rw [Rat.num_mkRat, if_neg h, Int.natAbs_natCast, Nat.gcd_comm, ediv_nat]
    exact Rat.num_nonneg.mp (by rw [e]; exact Int.natCast_nonneg _)
theorem wR_pos {ws : List Nat} (hS : 0 < ws.sum) {i : Nat} (h : 0 < ws.getD i 0) : 0 < wR ws i := by
  have h1 := wR_0 (ws := ws) i
  have h2 : wR ws i ≠ 0 := fun z => by
    have := mk_mul (a := ws.getD i 0) hS
    have z : mkRat (ws.getD i 0 : Nat) ws.sum = 0 := z
    rw [z, Rat.zero_mul] at this
    have := Rat.natCast_eq_zero_iff.mp this.symm
    omega
  grind
theorem wR_ok {ws : List Nat} (hS : 0 < ws.sum) : SpOk ws.length ws.sum (wR ws) := ⟨fun i _ => wR_0 i, fun i _ => wR_in hS i, wR_sum hS⟩
theorem map_getD {α β : Type} {f : α → β} {l : List α} {d : α} : l.map f = (List.range l.length).map fun i => f (l.getD i d) := by
  apply List.ext_getElem
  · simp
  · intro i h1 h2
    rw [List.length_map] at h1
    simp only [List.getElem_map, List.getElem_range, List.getD_eq_getElem?_getD, List.getElem?_eq_getElem h1, Option.getD_some]
theorem wR_D {ws : List Nat} : (ws.map fun w => qD (mkRat (w : Nat) ws.sum)) = qL ws.length (wR ws) := map_getD (d := 0) (f := fun w : Nat => qD (mkRat (w : Nat) ws.sum))
theorem getD_mem {α : Type} {l : List α} {k : Nat} {d : α} (h : k < l.length) : l.getD k d ∈ l := by
  rw [List.getD_eq_getElem?_getD, List.getElem?_eq_getElem h]
  exact List.getElem_mem h
/-! ### where a move leads -/
def eL (m : Nat) (k : Int) (s3 s4 s6 s7 s8 : Option D) (h : Hand) (y : Option D) : Env := [some (handO true h), some (.int (m : Nat)), some (.int k), s3, s4, y, s6, s7, s8]
def isN (m : Nat) (x : D) : Prop := ∃ k : Nat, x = .int (k : Nat) ∧ k < m
theorem er_nat : ∀ {l : List Nat} {i : Nat}, (natL l).eraseIdx i = natL (l.eraseIdx i)
  | [], _ => rfl
  | _ :: _, 0 => rfl
  | a :: r, i + 1 => by show D.int (a : Nat) :: (natL r).eraseIdx i = D.int (a : Nat) :: natL (r.eraseIdx i); rw [er_nat]
theorem leads_wp {n : Nat} {h : Hand} {m : Nat} {Q : D → Env → Prop} (ok : HandOk (n + 100) h) (h1 : 1 ≤ m) (h12 : m ≤ 12)
    (q : ∀ l h', l.length = m → (∀ k ∈ l, k < m) → HandOk n h' → Q (.tup (natL l)) [some (handO true h'), some (.int (m : Nat))]) :
    wpE m__law_leads [some (handO true h), some (.int (m : Nat))] Q := by
  unfold m__law_leads b__law_leads
  try boot_fast
  refine draw_wp (n := n + 99) ok (by decide) fun k h1' _ _ ok => ?_
  try boot_fast
  unfold b__law_leads_16
  try boot_fast
  have hit : ∀ s3 s4 s6 s7 s8 h y, wpI (iRange1 (.slot 1)) (eL m k s3 s4 s6 s7 s8 h y) fun ds' ρ0 => ds' = rangeL 0 m ∧ ρ0 = eL m k s3 s4 s6 s7 s8 h y := fun s3 s4 s6 s7 s8 h y => by
    have e : sget (eL m k s3 s4 s6 s7 s8 h y) 1 = some (.int (m : Nat)) := rfl
    exact range_hit (i := 1) (n := m) e (by omega)
  have hv : ∀ s3 s4 s6 s7 s8 h y z, (eL m k s3 s4 s6 s7 s8 h y).set 5 z = eL m k s3 s4 s6 s7 s8 h z := fun _ _ _ _ _ _ _ _ => rfl
  have hl : ∀ s3 s4 s6 s7 s8 h y, 5 < (eL m k s3 s4 s6 s7 s8 h y).length := fun _ _ _ _ _ _ _ => by show 5 < 9; decide
  have hg : ∀ s3 s4 s6 s7 s8 h y, sget (eL m k s3 s4 s6 s7 s8 h y) 5 = y := fun _ _ _ _ _ _ y => by cases y <;> rfl
  have hsz : (rangeL 0 m).length < sizeLine := by rw [rangeL_length]; exact small_lt (by omega)
  have fin1 : ∀ (s3 s4 s6 s7 s8 : Option D) (h' : Hand) (xs : List D) (y : Option D), HandOk n h' → xs.length = m → (∀ x ∈ xs, isN m x) → 2 ≤ List.length (eL m k s3 s4 s6 s7 s8 h' y) ∧ Q (.tup xs) (fin [0] 0 [some (handO true h), some (D.int m)] (eL m k s3 s4 s6 s7 s8 h' y)) := by
    intro s3 s4 s6 s7 s8 h' xs y ok' hl hP
    obtain ⟨l, rfl, hl2⟩ := nat_list hP
    unfold eL
    try boot_fast
    exact q l h' (by simpa [natL_length] using hl) hl2 ok'
  by_cases hk0 : k = 0
  · left
    refine ⟨beq_iff_eq.mpr hk0, ?_⟩
    unfold b__law_leads_15
    try boot_fast
    rw [lstRg_nat (by omega)]
    try boot_fast
    refine ex_putS2 (by simp) (by simp) ?_
    try boot_fast
    unfold b__law_leads_14
    try boot_fast
    refine ⟨⟨by omega, by omega⟩, ?_⟩
    rw [rangeL_map]
    refine wp_fRange (fun j ρ => ∃ h2 lf fd y5, lf.length + j = m ∧ fd.length = j ∧ (∀ k ∈ lf, k < m) ∧ (∀ k ∈ fd, k < m) ∧ HandOk (n + (m - j)) h2 ∧ ρ = [some (handO true h2), some (.int (m : Nat)), some (.int k), some (.lst true (natL lf)), some (.lst true (natL fd)), y5, none, none, none])
      ⟨h1', List.range m, [], _, by simp, rfl, fun k hk => List.mem_range.mp hk, (fun _ z => absurd z List.not_mem_nil), ok.le (by omega), rfl⟩ (fun j ρ hj hI => ?_) (fun ρ hI => ?_)
    · obtain ⟨h2, lf, fd, y5, l1, l2, a1, a2, ok2, rfl⟩ := hI
      have ok2 : HandOk (n + (m - (j + 1)) + 1) h2 := ok2.le (by omega)
      unfold b__law_leads_13
      try boot_fast
      refine ⟨rfl, rfl, ?_⟩
      rw [natL_length]
      refine draw_nat ok2 (by omega) fun r h3 hr ok3 => ?_
      try boot_fast
      refine ⟨_, _, gpop (by rw [natL_length]; exact hr) (by rw [natL_length]; omega), ?_⟩
      have e1 : (natL lf)[r]'(by rw [natL_length]; exact hr) = .int (lf[r] : Nat) := by simp [natL]
      rw [e1, er_nat]
      try boot_fast
      refine ⟨.non, _, gapp (by rw [natL_length]; omega), ?_⟩
      rw [show natL fd ++ [D.int (lf[r] : Nat)] = natL (fd ++ [lf[r]]) by rw [natL_app]; rfl]
      have hm : lf[r] < m := a1 _ (List.getElem_mem hr)
      refine ⟨h3, lf.eraseIdx r, fd ++ [lf[r]], _, by rw [List.length_eraseIdx, if_pos hr]; omega, by rw [List.length_append, List.length_singleton, l2], fun k hk => a1 k (List.mem_of_mem_eraseIdx hk), fun k hk => ?_, ok3, rfl⟩
      rcases List.mem_append.mp hk with z | z
      · exact a2 k z
      · rw [List.mem_singleton.mp z]; exact hm
    · obtain ⟨h2, lf, fd, y5, l1, l2, a1, a2, ok2, rfl⟩ := hI
      unfold b__law_leads_12
      try boot_fast
      exact q fd h2 l2 a2 (ok2.le (by omega))
  · right
    refine ⟨beq_eq_false_iff_ne.mpr hk0, ?_⟩
    unfold b__law_leads_11
    try boot_fast
    by_cases hk1 : k = 1
    · left
      refine ⟨beq_iff_eq.mpr hk1, ?_⟩
      unfold b__law_leads_10
      try boot_fast
      refine draw_nat (n := n + 98) ok (by omega) fun a h2 ha ok => ?_
      try boot_fast
      refine draw_nat (n := n + 97) ok (by omega) fun b h3 hb ok => ?_
      try boot_fast
      unfold b__law_leads_9
      try boot_fast
      refine comp_hand2 (T := Hand × Bool) (Ok := fun n t => HandOk n t.1) (fun t y => eL m k none none (some (.lst t.2 [.int (a : Nat), .int (b : Nat)])) none none t.1 y) (isN m) 1 n (fun _ => hv _ _ _ _ _ _) (fun _ => hl _ _ _ _ _ _) (fun _ => hg _ _ _ _ _ _) ?_
      try boot_fast
      refine ⟨⟨by omega, by omega⟩, (h3, true), none, rfl, hsz, ok.le (by rw [rangeL_length]; omega), fun t d j hd ok' => ?_, fun t xs ok' hlen hP => fin1 _ _ _ _ _ t.1 xs _ ok' (by rw [hlen, rangeL_length]) hP⟩
      unfold eL
      try boot_fast
      refine any_wp (n := j) ok' (by simp) fun x h' hx ok'' => ?_
      try boot_fast
      refine ⟨(h', false), _, rfl, ok'', ?_⟩
      simp only [List.mem_cons, List.not_mem_nil, or_false] at hx
      rcases hx with rfl | rfl
      · exact ⟨a, rfl, ha⟩
      · exact ⟨b, rfl, hb⟩
    · right
      refine ⟨beq_eq_false_iff_ne.mpr hk1, ?_⟩
      unfold b__law_leads_8
      try boot_fast
      by_cases hk2 : k = 2
      · left
        refine ⟨beq_iff_eq.mpr hk2, ?_⟩
        refine comp_hand (Ok := HandOk) (eL m k none none none none none) (isN m) 2 n (y := none) rfl (hit _ _ _ _ _ _ _) hsz (hv _ _ _ _ _) (hl _ _ _ _ _) (hg _ _ _ _ _) (ok.le (by rw [rangeL_length]; omega)) (fun h d j hd ok' => ?_) fun h' xs ok' hlen hP => ?_
        · obtain ⟨s, rfl, hs⟩ := mem_rangeL hd
          unfold eL
          try boot_fast
          refine draw_nat (many := 3) (n := j + 1) ok' (by decide) fun r h'' _ ok'' => ?_
          try boot_fast
          by_cases hr : (r : Int) = 0
          · left
            refine ⟨beq_iff_eq.mpr hr, ?_⟩
            refine draw_nat (n := j) ok'' (by omega) fun r2 h3 hr2 ok3 => ?_
            try boot_fast
            exact ⟨h3, _, rfl, ok3, r2, rfl, hr2⟩
          · right
            exact ⟨beq_eq_false_iff_ne.mpr hr, h'', _, rfl, ok''.le (by omega), s, rfl, hs⟩
        · try boot_fast
          exact fin1 _ _ _ _ _ h' xs _ ok' (by rw [hlen, rangeL_length]) hP
      · right
        refine ⟨beq_eq_false_iff_ne.mpr hk2, ?_⟩
        unfold b__law_leads_7
        try boot_fast
        by_cases hk3 : k = 3
        · left
          refine ⟨beq_iff_eq.mpr hk3, ?_⟩
          unfold b__law_leads_6
          try boot_fast
          refine ex_div (by decide) ?_
          try boot_fast
          unfold b__law_leads_5
          try boot_fast
          have e2 : ((m : Nat) : Int) / 2 = ((m / 2 : Nat) : Int) := by omega
          rw [e2]
          refine comp_hand (Ok := HandOk) (eL m k none none none (some (.int (m / 2 : Nat))) none) (isN m) 1 n (y := none) rfl (hit _ _ _ _ _ _ _) hsz (hv _ _ _ _ _) (hl _ _ _ _ _) (hg _ _ _ _ _) (ok.le (by rw [rangeL_length]; omega)) (fun h d j hd ok' => ?_) fun h' xs ok' hlen hP => ?_
          · obtain ⟨s, rfl, hs⟩ := mem_rangeL hd
            unfold eL
            try boot_fast
            by_cases hr : s < m / 2
            · left
              refine ⟨decide_eq_true (by omega), ?_⟩
              refine draw_nat (n := j) ok' (by omega) fun r2 h3 hr2 ok3 => ?_
              try boot_fast
              exact ⟨h3, _, rfl, ok3, r2, rfl, by omega⟩
            · right
              refine ⟨decide_eq_false (by omega), ?_⟩
              have e3 : ((m : Nat) : Int) - ((m / 2 : Nat) : Int) = ((m - m / 2 : Nat) : Int) := by omega
              rw [e3]
              refine draw_nat (n := j) ok' (by omega) fun r2 h3 hr2 ok3 => ?_
              try boot_fast
              exact ⟨h3, _, rfl, ok3, m / 2 + r2, by rw [Int.natCast_add], by omega⟩
          · try boot_fast
            exact fin1 _ _ _ _ _ h' xs _ ok' (by rw [hlen, rangeL_length]) hP
        · right
          refine ⟨beq_eq_false_iff_ne.mpr hk3, ?_⟩
          unfold b__law_leads_4
          try boot_fast
          by_cases hk4 : k = 4
          · left
            refine ⟨beq_iff_eq.mpr hk4, ?_⟩
            unfold b__law_leads_3
            try boot_fast
            refine draw_nat (n := n + 98) ok (by omega) fun a h2 ha ok => ?_
            try boot_fast
            unfold b__law_leads_2
            try boot_fast
            refine comp_hand (Ok := HandOk) (eL m k none none none none (some (.int (1 + (a : Int))))) (isN m) 1 n (y := none) rfl (hit _ _ _ _ _ _ _) hsz (hv _ _ _ _ _) (hl _ _ _ _ _) (hg _ _ _ _ _) (ok.le (by rw [rangeL_length]; omega)) (fun h d j hd ok' => ?_) fun h' xs ok' hlen hP => ?_
            · obtain ⟨s, rfl, hs⟩ := mem_rangeL hd
              unfold eL
              try boot_fast
              refine ex_mod (by omega) ?_
              exact ⟨h, _, rfl, ok'.le (by omega), (s + (1 + a)) % m, by rw [show (s : Int) + (1 + (a : Int)) = ((s + (1 + a) : Nat) : Int) by omega, ← Int.natCast_emod]; rfl, Nat.mod_lt _ (by omega)⟩
            · try boot_fast
              exact fin1 _ _ _ _ _ h' xs _ ok' (by rw [hlen, rangeL_length]) hP
          · right
            refine ⟨beq_eq_false_iff_ne.mpr hk4, ?_⟩
            unfold b__law_leads_1
            try boot_fast
            refine comp_hand (Ok := HandOk) (eL m k none none none none none) (isN m) 1 n (y := none) rfl (hit _ _ _ _ _ _ _) hsz (hv _ _ _ _ _) (hl _ _ _ _ _) (hg _ _ _ _ _) (ok.le (by rw [rangeL_length]; omega)) (fun h d j hd ok' => ?_) fun h' xs ok' hlen hP => ?_
            · unfold eL
              try boot_fast
              refine draw_nat (n := j) ok' (by omega) fun r h'' hr ok'' => ?_
              try boot_fast
              exact ⟨h'', _, rfl, ok'', r, rfl, hr⟩
            · try boot_fast
              exact fin1 _ _ _ _ _ h' xs _ ok' (by rw [hlen, rangeL_length]) hP

/-! ### moves -/
abbrev Mv := Nat × List Nat
def mvP (S : Nat) (p : Mv) : D := .tup [qD (mkRat (p.1 : Nat) S), .tup (natL p.2)]
def syOf (m : Nat) (ps : List Mv) (S : Nat) : Sy := ⟨m, ps.length, fun k => mkRat ((ps.getD k (0, [])).1 : Nat) S, fun k i => (ps.getD k (0, [])).2.getD i 0⟩
theorem mvL_of {m S : Nat} {ps : List Mv} (h : ∀ p ∈ ps, p.2.length = m) : mvL (syOf m ps S) = ps.map (mvP S) := by
  rw [map_getD (f := mvP S) (d := (0, []))]
  unfold mvL
  apply List.map_congr_left
  intro k hk
  have hk : k < ps.length := List.mem_range.mp hk
  have hl := h _ (getD_mem (d := (0, [])) hk)
  show D.tup [_, .tup (ldL (syOf m ps S) k)] = D.tup [_, .tup (natL (ps.getD k (0, [])).2)]
  have e : ldL (syOf m ps S) k = natL (ps.getD k (0, [])).2 := by
    unfold natL
    rw [map_getD (f := fun n : Nat => D.int (n : Nat)) (d := 0), hl]
    rfl
  rw [e]
  rfl
theorem syOf_ok {m : Nat} {ps : List Mv} (m1 : 1 ≤ m) (m12 : m ≤ 12) (k1 : 1 ≤ ps.length) (k5 : ps.length ≤ 24) (h : ∀ p ∈ ps, p.2.length = m ∧ ∀ k ∈ p.2, k < m) (hw : ∀ w ∈ ps.map Prod.fst, 0 < w) : SyOk (syOf m ps (ps.map Prod.fst).sum) (ps.map Prod.fst).sum := by
  have gd : ∀ k, k < ps.length → (ps.getD k (0, [])).1 = (ps.map Prod.fst).getD k 0 := fun k hk => by
    rw [List.getD_eq_getElem?_getD, List.getD_eq_getElem?_getD, List.getElem?_map, List.getElem?_eq_getElem hk]; rfl
  have hS : 0 < (ps.map Prod.fst).sum := by
    cases ps with
    | nil => simp at k1
    | cons p r => rw [List.map_cons, List.sum_cons]; have := hw p.1 (by simp); omega
  have sh : ∀ k, k < ps.length → (syOf m ps (ps.map Prod.fst).sum).sh k = wR (ps.map Prod.fst) k := fun k hk => by
    show mkRat _ _ = mkRat _ _
    rw [gd k hk]
  refine ⟨m1, m12, k1, by show ps.length ≤ 24; omega, fun k hk => ?_, fun k hk => ?_, ?_, fun k hk i hi => ?_⟩
  · rw [sh k hk]
    exact wR_pos hS (by rw [← gd k hk]; exact hw _ (List.mem_map.mpr ⟨_, getD_mem hk, rfl⟩))
  · rw [sh k hk]
    exact wR_in hS k
  · rw [show (syOf m ps (ps.map Prod.fst).sum).K = (ps.map Prod.fst).length by rw [List.length_map]; rfl, ← wR_sum hS]
    exact sumR_congr fun k hk => sh k (by rw [List.length_map] at hk; exact hk)
  · have hp := h _ (getD_mem (d := (0, [])) hk)
    exact hp.2 _ (getD_mem (by rw [hp.1]; exact hi))
end VE
namespace VE
open PySem PySem.Spec PyProof.Rows L2
local macro_rules | `(tactic| boot_fast) => `(tactic| simp only [wp_def, wp_seq, wp_ret, wp_expr, wp_set, wp_ifS, wp_put, wp_fldP, wp_par, wp_asg, wp_nm, wp_tup2, wp_pass, wp_nil, wp_brk, wp_badS, wp_for, wp_var, wp_c, wpO_nil, wpO_ex, wpO_slot, wp_ops, wp_and, wp_or, wp_not, wp_if, wp_slLU, wp_chain, wp_mut, wpM_nil, wpM_cons, wp_disp, wpI_of, wpI_range1, wpI_enum, wp_tup3, items_l, items_t, items_r, tuple_l, tuple_t, list_l, list_t, Int.toNat_natCast, wp_call, wp_make, pb_nil, pb_slot, pb_ex, fin_nil, fin_c, fz_i, fz_s, fz_b, fz_n, fz_t, fz_r, fz_l, fz_d, fz_o, pow_18, pow_9, pow_10, isi_ii, isi_ib, isi_it, isi_tt, isi_ss, len_t, len_l, idx_t, idx_l, tup_e, lst_e, at_0, at_1, at_2, two_ii, List.all_cons, List.all_nil, Bool.and_self, Bool.true_and, Bool.and_true, Bool.false_and, Bool.and_false, Bool.not_true, Bool.not_false, List.contains_cons, List.contains_nil, Nat.reduceBEq, Int.reduceBEq, ci_0, ci_1, ci_2, ci_3, ci_4, ci_5, ci_6, beq_self_eq_true, Bool.or_false, Bool.or_true, Bool.false_or, Bool.true_or, if_true', sget_0, sget_s, ex_some, ex_pair, ex_sbl, ex_slst, ex_2, frz_int, frz_str, frz_bl, frz_non, frz_tup, frz_lst, frz_rol, frz_dk, frz_ins, add_ii, sub_ii, neg_i, div_ii, mod_ii, cmp_ii, int_i, eq_ii, ne_ii, one_i, List.replicate, List.cons_append, List.nil_append, List.append_nil, List.length_cons, List.length_nil, List.set_cons_zero, List.set_cons_succ, Option.isSome_some, Option.isSome_none, D.bl.injEq, D.int.injEq, reduceCtorEq, true_and, and_true, false_and, and_false, or_false, false_or, Bool.true_eq_false, Bool.false_eq_true, if_true, if_false, List.map, List.map_cons, List.map_nil, Nat.reduceLT, Nat.reduceAdd, Nat.reduceLeDiff, Nat.zero_lt_succ, Nat.lt_add_left_iff_pos, Nat.le_add_left, exists_eq_left', exists_eq_left])
local macro_rules | `(tactic| boot_fast) => `(tactic| simp only [wp_def, wp_seq, wp_ret, wp_expr, wp_set, wp_ifS, wp_put, wp_fldP, wp_par, wp_asg, wp_nm, wp_tup2, wp_pass, wp_nil, wp_brk, wp_badS, wp_for, wp_var, wp_c, wpO_nil, wpO_ex, wpO_slot, wp_ops, wp_and, wp_or, wp_not, wp_if, wp_slLU, wp_chain, wp_mut, wpM_nil, wpM_cons, wp_disp, wpI_of, wpI_range1, wpI_enum, wp_tup3, items_l, items_t, items_r, tuple_l, tuple_t, list_l, list_t, Int.toNat_natCast, wp_call, wp_make, pb_nil, pb_slot, pb_ex, fin_nil, fin_c, fz_i, fz_s, fz_b, fz_n, fz_t, fz_r, fz_l, fz_d, fz_o, pow_18, pow_9, pow_10, isi_ii, isi_ib, isi_it, isi_tt, isi_ss, len_t, len_l, idx_t, idx_l, tup_e, lst_e, at_0, at_1, at_2, two_ii, List.all_cons, List.all_nil, Bool.and_self, Bool.true_and, Bool.and_true, Bool.false_and, Bool.and_false, Bool.not_true, Bool.not_false, List.contains_cons, List.contains_nil, Nat.reduceBEq, Int.reduceBEq, ci_0, ci_1, ci_2, ci_3, ci_4, ci_5, ci_6, beq_self_eq_true, Bool.or_false, Bool.or_true, Bool.false_or, Bool.true_or, if_true', fz_q, frz_q, q_0, q_1, q_len, q_tup, decide_true, decide_false, fz_sys, frz_sys, sys_many, sys_moves, mvL_len, ldL_len, ql_len, fz_h, sum_nat, sget_0, sget_s, ex_some, ex_pair, ex_sbl, ex_slst, ex_2, frz_int, frz_str, frz_bl, frz_non, frz_tup, frz_lst, frz_rol, frz_dk, frz_ins, add_ii, sub_ii, neg_i, div_ii, mod_ii, cmp_ii, int_i, eq_ii, ne_ii, one_i, List.replicate, List.cons_append, List.nil_append, List.append_nil, List.length_cons, List.length_nil, List.set_cons_zero, List.set_cons_succ, Option.isSome_some, Option.isSome_none, D.bl.injEq, D.int.injEq, reduceCtorEq, true_and, and_true, false_and, and_false, or_false, false_or, Bool.true_eq_false, Bool.false_eq_true, if_true, if_false, List.map, List.map_cons, List.map_nil, Nat.reduceLT, Nat.reduceAdd, Nat.reduceLeDiff, Nat.zero_lt_succ, Nat.lt_add_left_iff_pos, Nat.le_add_left, exists_eq_left', exists_eq_left])
theorem moves_wp {n : Nat} {h : Hand} {m M : Nat} {Q : D → Env → Prop} (ok : HandOk (n + 3000) h) (h1 : 1 ≤ m) (h12 : m ≤ 12) (M1 : 1 ≤ M) (M24 : M ≤ 24)
    (q : ∀ (s : Sy) (S : Nat) h', s.many = m → s.K ≤ M → SyOk s S → 0 < S → S ≤ 2 ^ 40 → HandOk n h' → Q (.tup (mvL s)) [some (handO true h'), some (.int (m : Nat)), some (.int (M : Nat))]) :
    wpE m__law_moves [some (handO true h), some (.int (m : Nat)), some (.int (M : Nat))] Q := by
  unfold m__law_moves b__law_moves
  try boot_fast
  refine draw_nat (many := M) (n := n + 2999) ok (by omega) fun c h1' hc ok => ?_
  try boot_fast
  unfold b__law_moves_8
  try boot_fast
  refine draw_nat (many := 5) (n := n + 2998) ok (by decide) fun one h2' _ ok => ?_
  try boot_fast
  unfold b__law_moves_7
  try boot_fast
  unfold b__law_moves_6
  try boot_fast
  rw [show (1 : Int) + (c : Int) = ((1 + c : Nat) : Int) by omega]
  refine shares_wp (n := n + 2800) (ok.le (by omega)) (by omega) (by omega) fun ws h3' hwl hw ok => ?_
  try boot_fast
  refine wp_fList (f := fun w : Nat => qD (mkRat (w : Nat) ws.sum)) (l := ws) (fun done ρ => ∃ (h2 : Hand) (ps : List Mv) (y6 y7 : Option D), ps.map Prod.fst = done ∧ (∀ p ∈ ps, p.2.length = m ∧ ∀ k ∈ p.2, k < m) ∧ HandOk (n + (ws.length - done.length) * 100) h2 ∧
      ρ = [some (handO true h2), some (.int (m : Nat)), some (.int (M : Nat)), some (.int ((1 + c : Nat) : Int)), some (.int (one : Nat)), some (.lst true (ps.map (mvP ws.sum))), y6, y7, none]) ⟨h3', [], _, _, rfl, (fun _ z => absurd z List.not_mem_nil), ok.le (by rw [List.length_nil]; omega), rfl⟩ (fun done w left ρ e hI => ?_) (fun ρ hI => ?_)
  · obtain ⟨h2, ps, y6, y7, e1, hps, ok2, rfl⟩ := hI
    have hlen : done.length + 1 ≤ ws.length := by rw [e, List.length_append, List.length_cons]; omega
    have pl : ps.length = done.length := by rw [← e1, List.length_map]
    unfold b__law_moves_5
    try boot_fast
    refine leads_wp (n := n + (ws.length - (done.length + 1)) * 100) (ok2.le (by omega)) h1 h12 fun l h3 hl hlm ok3 => ?_
    try boot_fast
    unfold b__law_moves_4
    have fin2 : ∀ (l2 : List Nat), l2.length = m → (∀ k ∈ l2, k < m) → wpS b__law_moves_2 [some (handO true h3), some (.int (m : Nat)), some (.int (M : Nat)), some (.int ((1 + c : Nat) : Int)), some (.int (one : Nat)), some (.lst true (ps.map (mvP ws.sum))), some (qD (mkRat (w : Nat) ws.sum)), some (.tup (natL l2)), none]
        (fun ρ => ∃ (h2 : Hand) (ps : List Mv) (y6 y7 : Option D), ps.map Prod.fst = done ++ [w] ∧ (∀ p ∈ ps, p.2.length = m ∧ ∀ k ∈ p.2, k < m) ∧ HandOk (n + (ws.length - (done ++ [w]).length) * 100) h2 ∧
      ρ = [some (handO true h2), some (.int (m : Nat)), some (.int (M : Nat)), some (.int ((1 + c : Nat) : Int)), some (.int (one : Nat)), some (.lst true (ps.map (mvP ws.sum))), y6, y7, none])
        (fun d ρ' => 3 ≤ List.length ρ' ∧ Q d (fin [0] 0 [some (handO true h), some (D.int (m : Nat)), some (.int (M : Nat))] ρ')) (fun ρ => wpS b__law_moves_1 ρ (fun ρ' => 3 ≤ List.length ρ' ∧ Q .non (fin [0] 0 [some (handO true h), some (D.int (m : Nat)), some (.int (M : Nat))] ρ')) (fun d ρ' => 3 ≤ List.length ρ' ∧ Q d (fin [0] 0 [some (handO true h), some (D.int (m : Nat)), some (.int (M : Nat))] ρ')) (fun _ => False)) := fun l2 a1 a2 => by
      unfold b__law_moves_2
      try boot_fast
      refine ⟨rfl, .non, _, gapp (by rw [List.length_map]; omega), ?_⟩
      rw [show ps.map (mvP ws.sum) ++ [D.tup [qD (mkRat (w : Nat) ws.sum), .tup (natL l2)]] = (ps ++ [(w, l2)]).map (mvP ws.sum) by rw [List.map_append]; rfl]
      refine ⟨h3, ps ++ [(w, l2)], _, _, by rw [List.map_append, e1]; rfl, fun p hp => ?_, by rw [List.length_append, List.length_singleton]; exact ok3, rfl⟩
      rcases List.mem_append.mp hp with z | z
      · exact hps p z
      · rw [List.mem_singleton.mp z]; exact ⟨a1, a2⟩
    try boot_fast
    by_cases ho : (one : Int) = 0
    · left
      refine ⟨beq_iff_eq.mpr ho, ?_⟩
      cases ps with
      | nil =>
        try boot_fast
        right
        exact ⟨rfl, fin2 l hl hlm⟩
      | cons p0 pr =>
        try boot_fast
        left
        refine ⟨decide_eq_true (by rw [List.length_map]; omega), ?_⟩
        have hp0 := hps p0 (by simp)
        unfold b__law_moves_3
        rw [show mvP ws.sum p0 = .tup [qD (mkRat (p0.1 : Nat) ws.sum), .tup (natL p0.2)] from rfl]
        try boot_fast
        cases l with
        | nil => simp at hl; omega
        | cons l0 lr =>
        refine comp_list (fun y => [some (handO true h3), some (.int (m : Nat)), some (.int (M : Nat)), some (.int ((1 + c : Nat) : Int)), some (.int (one : Nat)), some (.lst true (.tup [qD (mkRat (p0.1 : Nat) ws.sum), .tup (natL p0.2)] :: pr.map (mvP ws.sum))), some (qD (mkRat (w : Nat) ws.sum)), some (.tup (natL (l0 :: lr))), y]) (fun k : Nat => .int (k : Nat)) (fun k => .int ((k + l0) % m : Nat)) (l := p0.2) (fun _ _ => rfl) (fun _ => by show 8 < 9; decide) (fun y => by cases y <;> rfl) ?_
        try boot_fast
        refine ⟨none, rfl, rfl, by omega, fun k hk => ?_, ?_⟩
        · try boot_fast
          rw [natL_cons]
          try boot_fast
          refine ex_mod (by omega) ?_
          refine ⟨_, rfl, ?_⟩
          rw [← Int.natCast_add, ← Int.natCast_emod]; rfl
        · try boot_fast
          have := fin2 (p0.2.map fun k => (k + l0) % m) (by rw [List.length_map]; exact hp0.1) (fun k hk => by
            obtain ⟨j, _, rfl⟩ := List.mem_map.mp hk
            exact Nat.mod_lt _ (by omega))
          rw [show natL (p0.2.map fun k => (k + l0) % m) = p0.2.map fun k => D.int ((k + l0) % m : Nat) by unfold natL; rw [List.map_map]; rfl] at this
          exact this
    · right
      exact ⟨beq_eq_false_iff_ne.mpr ho, fin2 l hl hlm⟩
  · obtain ⟨h2, ps, y6, y7, e1, hps, ok2, rfl⟩ := hI
    have pl : ps.length = ws.length := by rw [← e1, List.length_map]
    unfold b__law_moves_1
    try boot_fast
    have hS : 0 < ws.sum ∧ ws.sum ≤ 24 * 7000000000 := by
      have bound : ∀ l : List Nat, (∀ w ∈ l, 0 < w ∧ w ≤ 7000000000) → l.sum ≤ l.length * 7000000000 ∧ (l ≠ [] → 0 < l.sum) := by
        intro l
        induction l with
        | nil => intro _; exact ⟨Nat.le_refl _, fun h => absurd rfl h⟩
        | cons a r ih =>
          intro h
          have h1 := ih fun w hw => h w (by simp [hw])
          have h2 := h a (by simp)
          rw [List.sum_cons, List.length_cons]
          exact ⟨by omega, fun _ => by omega⟩
      have b := bound ws hw
      refine ⟨b.2 fun z => by rw [z] at hwl; simp at hwl; omega, ?_⟩
      have : ws.length * 7000000000 ≤ 24 * 7000000000 := Nat.mul_le_mul_right _ (by omega)
      omega
    rw [show ps.map (mvP ws.sum) = mvL (syOf m ps ws.sum) from (mvL_of fun p hp => (hps p hp).1).symm]
    have hok := syOf_ok h1 h12 (by omega) (by omega) hps (by rw [e1]; exact fun w hw' => (hw w hw').1)
    rw [e1] at hok
    exact q (syOf m ps ws.sum) ws.sum h2 rfl (by show ps.length ≤ M; omega) hok hS.1 (by omega) (ok2.le (by omega))end VE
namespace VE
open PySem PySem.Spec PyProof.Rows L2
local macro_rules | `(tactic| boot_fast) => `(tactic| simp only [wp_def, wp_seq, wp_ret, wp_expr, wp_set, wp_ifS, wp_put, wp_fldP, wp_par, wp_asg, wp_nm, wp_tup2, wp_pass, wp_nil, wp_brk, wp_badS, wp_for, wp_var, wp_c, wpO_nil, wpO_ex, wpO_slot, wp_ops, wp_and, wp_or, wp_not, wp_if, wp_slLU, wp_chain, wp_mut, wpM_nil, wpM_cons, wp_disp, wpI_of, wpI_range1, wpI_enum, wp_tup3, items_l, items_t, items_r, tuple_l, tuple_t, list_l, list_t, Int.toNat_natCast, wp_call, wp_make, pb_nil, pb_slot, pb_ex, fin_nil, fin_c, fz_i, fz_s, fz_b, fz_n, fz_t, fz_r, fz_l, fz_d, fz_o, pow_18, pow_9, pow_10, isi_ii, isi_ib, isi_it, isi_tt, isi_ss, len_t, len_l, idx_t, idx_l, tup_e, lst_e, at_0, at_1, at_2, two_ii, List.all_cons, List.all_nil, Bool.and_self, Bool.true_and, Bool.and_true, Bool.false_and, Bool.and_false, Bool.not_true, Bool.not_false, List.contains_cons, List.contains_nil, Nat.reduceBEq, Int.reduceBEq, ci_0, ci_1, ci_2, ci_3, ci_4, ci_5, ci_6, beq_self_eq_true, Bool.or_false, Bool.or_true, Bool.false_or, Bool.true_or, if_true', sget_0, sget_s, ex_some, ex_pair, ex_sbl, ex_slst, ex_2, frz_int, frz_str, frz_bl, frz_non, frz_tup, frz_lst, frz_rol, frz_dk, frz_ins, add_ii, sub_ii, neg_i, div_ii, mod_ii, cmp_ii, int_i, eq_ii, ne_ii, one_i, List.replicate, List.cons_append, List.nil_append, List.append_nil, List.length_cons, List.length_nil, List.set_cons_zero, List.set_cons_succ, Option.isSome_some, Option.isSome_none, D.bl.injEq, D.int.injEq, reduceCtorEq, true_and, and_true, false_and, and_false, or_false, false_or, Bool.true_eq_false, Bool.false_eq_true, if_true, if_false, List.map, List.map_cons, List.map_nil, Nat.reduceLT, Nat.reduceAdd, Nat.reduceLeDiff, Nat.zero_lt_succ, Nat.lt_add_left_iff_pos, Nat.le_add_left, exists_eq_left', exists_eq_left])
local macro_rules | `(tactic| boot_fast) => `(tactic| simp only [wp_def, wp_seq, wp_ret, wp_expr, wp_set, wp_ifS, wp_put, wp_fldP, wp_par, wp_asg, wp_nm, wp_tup2, wp_pass, wp_nil, wp_brk, wp_badS, wp_for, wp_var, wp_c, wpO_nil, wpO_ex, wpO_slot, wp_ops, wp_and, wp_or, wp_not, wp_if, wp_slLU, wp_chain, wp_mut, wpM_nil, wpM_cons, wp_disp, wpI_of, wpI_range1, wpI_enum, wp_tup3, items_l, items_t, items_r, tuple_l, tuple_t, list_l, list_t, Int.toNat_natCast, wp_call, wp_make, pb_nil, pb_slot, pb_ex, fin_nil, fin_c, fz_i, fz_s, fz_b, fz_n, fz_t, fz_r, fz_l, fz_d, fz_o, pow_18, pow_9, pow_10, isi_ii, isi_ib, isi_it, isi_tt, isi_ss, len_t, len_l, idx_t, idx_l, tup_e, lst_e, at_0, at_1, at_2, two_ii, List.all_cons, List.all_nil, Bool.and_self, Bool.true_and, Bool.and_true, Bool.false_and, Bool.and_false, Bool.not_true, Bool.not_false, List.contains_cons, List.contains_nil, Nat.reduceBEq, Int.reduceBEq, ci_0, ci_1, ci_2, ci_3, ci_4, ci_5, ci_6, beq_self_eq_true, Bool.or_false, Bool.or_true, Bool.false_or, Bool.true_or, if_true', fz_q, frz_q, q_0, q_1, q_len, q_tup, decide_true, decide_false, fz_sys, frz_sys, sys_many, sys_moves, mvL_len, ldL_len, ql_len, fz_h, sum_nat, sget_0, sget_s, ex_some, ex_pair, ex_sbl, ex_slst, ex_2, frz_int, frz_str, frz_bl, frz_non, frz_tup, frz_lst, frz_rol, frz_dk, frz_ins, add_ii, sub_ii, neg_i, div_ii, mod_ii, cmp_ii, int_i, eq_ii, ne_ii, one_i, List.replicate, List.cons_append, List.nil_append, List.append_nil, List.length_cons, List.length_nil, List.set_cons_zero, List.set_cons_succ, Option.isSome_some, Option.isSome_none, D.bl.injEq, D.int.injEq, reduceCtorEq, true_and, and_true, false_and, and_false, or_false, false_or, Bool.true_eq_false, Bool.false_eq_true, if_true, if_false, List.map, List.map_cons, List.map_nil, Nat.reduceLT, Nat.reduceAdd, Nat.reduceLeDiff, Nat.zero_lt_succ, Nat.lt_add_left_iff_pos, Nat.le_add_left, exists_eq_left', exists_eq_left])
/-! ### rules of the new words -/
def wk : D → D
  | .tux ds => .tup ds
  | d => d
section
variable {ρ : Env} {Q : D → Env → Prop}
theorem wp_wk {m : M} : wpE (eWk m) ρ Q ↔ wpE m ρ fun d ρ' => Q (wk d) ρ' := by
  unfold wpE eWk
  cases e : m ρ with
  | ok d ρ' => cases d <;> rfl
  | exc _ _ _ => rfl
  | bad => rfl
theorem wp_count {i : Nat} {oa : Opd} {l : List D} (h : sget ρ i = some (.tux l)) (q : wpE (ops [.slot i, oa] dCount) ρ Q) : wpE (eCount i oa) ρ Q := by
  unfold wpE at q ⊢
  unfold eCount
  rw [h]
  exact q
theorem wp_ownEq {c : Str} {m : M} {os : List Opd} (q : wpO os ρ fun ds ρ1 => ∃ o ns xs d, ds = [.ins o c ns xs, d] ∧ okR c d = true ∧ wpE m [some (.ins o c ns xs), some d] fun x ρa => ∃ b, x = .bl b ∧ Q (.bl b) (putBack os ρa ρ1)) : wpE (eOwnEq c m os) ρ Q := by
  unfold wpE eOwnEq
  unfold wpO at q
  cases e : evO os ρ with
  | bad => rw [e] at q; exact q
  | exc _ _ _ => rw [e] at q; exact q
  | ok ds ρ1 =>
    rw [e] at q
    obtain ⟨o, ns, xs, d, rfl, h1, q⟩ := q
    dsimp only
    rw [if_pos ⟨rfl, h1⟩]
    unfold wpE at q
    cases e2 : m [some (.ins o c ns xs), some d] with
    | bad => rw [e2] at q; exact q.elim
    | exc _ _ _ => rw [e2] at q; exact q.elim
    | ok x ρa =>
      rw [e2] at q
      obtain ⟨b, rfl, q⟩ := q
      exact q
end
theorem wk_x {l : List D} : wk (.tux l) = .tup l := rfl
theorem fz_x {l : List D} : isFz (.tux l) = true := rfl
theorem frz_x {l : List D} : frz (.tux l) = .tux l := rfl
theorem cnt_nat {k : Nat} : ∀ {l : List Nat}, cntD (natL l) (k : Nat) = some (l.count k)
  | [] => rfl
  | j :: l => by
    show (cntD (natL l) (k : Nat)).map _ = _
    rw [cnt_nat (l := l), Option.map_some, List.count_cons]
    by_cases h : j = k
    · subst h; simp
    · rw [if_neg (by omega), if_neg (by simpa using h)]; rfl
theorem count_x {l : List Nat} {k : Nat} : dCount [.tux (natL l), .int (k : Nat)] = some (.int (l.count k : Nat)) := by
  show (cntD (natL l) (k : Nat)).map _ = _
  rw [cnt_nat]; rfl
theorem isc_sys {o : Bool} {s : Sy} : dIsC "System" [sysO o s] = some (.bl true) := by
  show (if ("System" : Str) = "System" then some (D.bl true) else none) = _
  exact if_pos rfl
theorem isc_tup {l : List D} : dIsC "System" [.tup l] = some (.bl false) := rfl
local macro_rules | `(tactic| boot_fast) => `(tactic| simp only [wp_def, wp_seq, wp_ret, wp_expr, wp_set, wp_ifS, wp_put, wp_fldP, wp_par, wp_asg, wp_nm, wp_tup2, wp_pass, wp_nil, wp_brk, wp_badS, wp_for, wp_var, wp_c, wpO_nil, wpO_ex, wpO_slot, wp_ops, wp_and, wp_or, wp_not, wp_if, wp_slLU, wp_chain, wp_mut, wpM_nil, wpM_cons, wp_disp, wpI_of, wpI_range1, wpI_enum, wp_tup3, items_l, items_t, items_r, tuple_l, tuple_t, list_l, list_t, Int.toNat_natCast, wp_call, wp_make, pb_nil, pb_slot, pb_ex, fin_nil, fin_c, fz_i, fz_s, fz_b, fz_n, fz_t, fz_r, fz_l, fz_d, fz_o, pow_18, pow_9, pow_10, isi_ii, isi_ib, isi_it, isi_tt, isi_ss, len_t, len_l, idx_t, idx_l, tup_e, lst_e, at_0, at_1, at_2, two_ii, List.all_cons, List.all_nil, Bool.and_self, Bool.true_and, Bool.and_true, Bool.false_and, Bool.and_false, Bool.not_true, Bool.not_false, List.contains_cons, List.contains_nil, Nat.reduceBEq, Int.reduceBEq, ci_0, ci_1, ci_2, ci_3, ci_4, ci_5, ci_6, beq_self_eq_true, Bool.or_false, Bool.or_true, Bool.false_or, Bool.true_or, if_true', fz_q, frz_q, q_0, q_1, q_len, q_tup, decide_true, decide_false, fz_sys, frz_sys, sys_many, sys_moves, mvL_len, ldL_len, ql_len, fz_h, sum_nat, wp_wk, wk_x, fz_x, frz_x, isc_sys, isc_tup, sget_0, sget_s, ex_some, ex_pair, ex_sbl, ex_slst, ex_2, frz_int, frz_str, frz_bl, frz_non, frz_tup, frz_lst, frz_rol, frz_dk, frz_ins, add_ii, sub_ii, neg_i, div_ii, mod_ii, cmp_ii, int_i, eq_ii, ne_ii, one_i, List.replicate, List.cons_append, List.nil_append, List.append_nil, List.length_cons, List.length_nil, List.set_cons_zero, List.set_cons_succ, Option.isSome_some, Option.isSome_none, D.bl.injEq, D.int.injEq, reduceCtorEq, true_and, and_true, false_and, and_false, or_false, false_or, Bool.true_eq_false, Bool.false_eq_true, if_true, if_false, List.map, List.map_cons, List.map_nil, Nat.reduceLT, Nat.reduceAdd, Nat.reduceLeDiff, Nat.zero_lt_succ, Nat.lt_add_left_iff_pos, Nat.le_add_left, exists_eq_left', exists_eq_left])
theorem flat_mv {s : Sy} : flat 64 (.tup (mvL s)) = true := by
  show flatL 63 (mvL s) = true
  refine flatL_map fun k _ => ?_
  show flatL 62 [qD (s.sh k), .tup (ldL s k)] = true
  show (flat 62 (qD (s.sh k)) && (flat 62 (.tup (ldL s k)) && true)) = true
  have h : flat 62 (.tup (ldL s k)) = true := by
    show flatL 61 (ldL s k) = true
    exact flatL_map fun _ _ => rfl
  rw [h]; rfl
theorem dEq_of {a b : D} (h : flat 64 a = true) (k : flat 64 b = true) : dEq [a, b] = some (.bl (deq a b)) := by
  unfold dEq
  dsimp only
  rw [h, k]; rfl
theorem eq_mv {a b : Sy} : dEq [.tup (mvL a), .tup (mvL b)] = some (.bl (deq (.tup (mvL a)) (.tup (mvL b)))) := dEq_of flat_mv flat_mv
theorem syseq_wp {a b : Sy} {Q : D → Env → Prop} (hm : a.many = b.many) (q : Q (.bl (deq (.tup (mvL a)) (.tup (mvL b)))) [some (sysO false a), some (sysO false b)]) : wpE m_System__eq_ [some (sysO false a), some (sysO false b)] Q := by
  unfold m_System__eq_ b_System__eq_
  try boot_fast
  rw [hm]
  try boot_fast
  rw [eq_mv]
  try boot_fast
  exact q
theorem syseqT_wp {a : Sy} {l : List D} {Q : D → Env → Prop} (q : Q (.bl false) [some (sysO false a), some (.tup l)]) : wpE m_System__eq_ [some (sysO false a), some (.tup l)] Q := by
  unfold m_System__eq_ b_System__eq_
  try boot_fast
  exact q
/-! ### rows -/
def go (s : Sy) (r : List Nat) (i : Nat) : Nat := r.foldl (fun i k => s.ld k i) i
theorem go_app {s : Sy} {r : List Nat} {k i : Nat} : go s (r ++ [k]) i = s.ld k (go s r i) := by unfold go; rw [List.foldl_append]; rfl
theorem go_two {s : Sy} {r o : List Nat} {i : Nat} : go s (r ++ o) i = go s o (go s r i) := by unfold go; rw [List.foldl_append]
theorem go_lt {s : Sy} {S : Nat} (hs : SyOk s S) : ∀ {r : List Nat} {i : Nat}, (∀ k ∈ r, k < s.K) → i < s.many → go s r i < s.many
  | [], _, _, hi => hi
  | k :: r, i, hr, hi => go_lt hs (r := r) (fun j hj => hr j (List.mem_cons_of_mem _ hj)) (hs.ll k (hr k List.mem_cons_self) i hi)
def iD (n : Nat) : D := .int (n : Nat)
theorem natL_iD {l : List Nat} : natL l = l.map iD := rfl
theorem gone_wp {s : Sy} {S : Nat} (hs : SyOk s S) {r : List Nat} {i : Nat} (hr : ∀ k ∈ r, k < s.K) (hi : i < s.many) {Q : D → Env → Prop} (q : Q (.int (go s r i : Nat)) [some (.tup (mvL s)), some (.tup (natL r)), some (.int (i : Nat))]) :
    wpE m__law_gone [some (.tup (mvL s)), some (.tup (natL r)), some (.int (i : Nat))] Q := by
  unfold m__law_gone b__law_gone
  try boot_fast
  rw [natL_iD]
  refine wp_fList (f := iD) (l := r) (fun done ρ => ∃ y, ρ = [some (.tup (mvL s)), some (.tup (r.map iD)), some (.int (go s done i : Nat)), y]) ⟨_, rfl⟩ (fun done k left ρ e hI => ?_) (fun ρ hI => ?_)
  · obtain ⟨y, rfl⟩ := hI
    have hk : k < s.K := hr k (by rw [e]; simp)
    have hd : ∀ j ∈ done, j < s.K := fun j hj => hr j (by rw [e]; simp [hj])
    rw [show iD k = .int (k : Nat) from rfl]
    unfold b__law_gone_2
    try boot_fast
    rw [mv_at hk]
    try boot_fast
    rw [ld_at (go_lt hs hd hi)]
    try boot_fast
    exact ⟨_, by rw [go_app]⟩
  · obtain ⟨y, rfl⟩ := hI
    unfold b__law_gone_1
    try boot_fast
    exact q
theorem row_wp {s : Sy} {r : List Nat} (hr : ∀ k ∈ r, k < s.K) (hl : r.length ≤ 400) {o : Bool} {Q : D → Env → Prop} (q : Q .non [some (sysO false s), some (.tup (natL r))]) : wpE m_check_row [some (sysO false s), some (.tup (natL r))] Q := by
  unfold m_check_row b_check_row
  try boot_fast
  have e : natL r = (List.range r.length).map fun i => .int (r.getD i 0 : Nat) := map_getD (f := iD) (d := 0)
  rw [e]
  refine numbers_wp (by omega) (by omega) (fun i hi => ?_) ?_
  · have := hr _ (getD_mem (d := 0) hi)
    omega
  · try boot_fast
    rw [← e]
    exact q
theorem all_wp {s : Sy} {S : Nat} (hs : SyOk s S) {r : List Nat} (hr : ∀ k ∈ r, k < s.K) {Q : D → Env → Prop} (q : Q (.tup (natL ((List.range s.many).map (go s r)))) [some (sysO false s), some (.tup (natL r))]) : wpE m_all_behind [some (sysO false s), some (.tup (natL r))] Q := by
  have m12 := hs.m12
  unfold m_all_behind b_all_behind
  try boot_fast
  rw [tupRg_nat (by omega)]
  try boot_fast
  unfold b_all_behind_4
  try boot_fast
  rw [show natL r = r.map iD from rfl]
  refine wp_fList (f := iD) (l := r) (fun done ρ => ∃ x y z, ρ = [some (sysO false s), some (.tup (r.map iD)), some (.tup (natL ((List.range s.many).map (go s done)))), x, y, z]) ⟨_, _, _, by rw [show (List.range s.many).map (go s []) = List.range s.many from List.map_id' _]⟩ (fun done k left ρ e hI => ?_) (fun ρ hI => ?_)
  · obtain ⟨x, y, z, rfl⟩ := hI
    have hk : k < s.K := hr k (by rw [e]; simp)
    have hd : ∀ j ∈ done, j < s.K := fun j hj => hr j (by rw [e]; simp [hj])
    rw [show iD k = .int (k : Nat) from rfl]
    unfold b_all_behind_3
    try boot_fast
    rw [mv_at hk]
    try boot_fast
    unfold b_all_behind_2
    try boot_fast
    refine comp_list (fun y => [some (sysO false s), some (.tup (r.map iD)), some (.tup (natL ((List.range s.many).map (go s done)))), some (.int (k : Nat)), some (.tup (ldL s k)), y]) iD (fun i => iD (s.ld k i)) (l := (List.range s.many).map (go s done)) (fun _ _ => rfl) (fun _ => by show 5 < 6; decide) (fun y => by cases y <;> rfl) ?_
    try boot_fast
    refine ⟨_, rfl, rfl, by rw [List.length_map, List.length_range]; omega, fun a ha => ?_, ?_⟩
    · obtain ⟨i, hi, rfl⟩ := List.mem_map.mp ha
      rw [show iD (go s done i) = .int (go s done i : Nat) from rfl]
      try boot_fast
      rw [ld_at (go_lt hs hd (List.mem_range.mp hi))]
      try boot_fast
      exact ⟨_, rfl, rfl⟩
    · try boot_fast
      have e9 : natL ((List.range s.many).map (go s (done ++ [k]))) = ((List.range s.many).map (go s done)).map fun i => iD (s.ld k i) := by
        rw [natL_iD, List.map_map, List.map_map]
        refine List.map_congr_left fun i _ => ?_
        show iD (go s (done ++ [k]) i) = iD (s.ld k (go s done i))
        rw [go_app]
      exact ⟨_, _, _, by rw [e9]⟩
  · obtain ⟨x, y, z, rfl⟩ := hI
    unfold b_all_behind_1
    try boot_fast
    exact q
end VE
namespace VE
open PySem PySem.Spec PyProof.Rows L2
local macro_rules | `(tactic| boot_fast) => `(tactic| simp only [wp_def, wp_seq, wp_ret, wp_expr, wp_set, wp_ifS, wp_put, wp_fldP, wp_par, wp_asg, wp_nm, wp_tup2, wp_pass, wp_nil, wp_brk, wp_badS, wp_for, wp_var, wp_c, wpO_nil, wpO_ex, wpO_slot, wp_ops, wp_and, wp_or, wp_not, wp_if, wp_slLU, wp_chain, wp_mut, wpM_nil, wpM_cons, wp_disp, wpI_of, wpI_range1, wpI_enum, wp_tup3, items_l, items_t, items_r, tuple_l, tuple_t, list_l, list_t, Int.toNat_natCast, wp_call, wp_make, pb_nil, pb_slot, pb_ex, fin_nil, fin_c, fz_i, fz_s, fz_b, fz_n, fz_t, fz_r, fz_l, fz_d, fz_o, pow_18, pow_9, pow_10, isi_ii, isi_ib, isi_it, isi_tt, isi_ss, len_t, len_l, idx_t, idx_l, tup_e, lst_e, at_0, at_1, at_2, two_ii, List.all_cons, List.all_nil, Bool.and_self, Bool.true_and, Bool.and_true, Bool.false_and, Bool.and_false, Bool.not_true, Bool.not_false, List.contains_cons, List.contains_nil, Nat.reduceBEq, Int.reduceBEq, ci_0, ci_1, ci_2, ci_3, ci_4, ci_5, ci_6, beq_self_eq_true, Bool.or_false, Bool.or_true, Bool.false_or, Bool.true_or, if_true', sget_0, sget_s, ex_some, ex_pair, ex_sbl, ex_slst, ex_2, frz_int, frz_str, frz_bl, frz_non, frz_tup, frz_lst, frz_rol, frz_dk, frz_ins, add_ii, sub_ii, neg_i, div_ii, mod_ii, cmp_ii, int_i, eq_ii, ne_ii, one_i, List.replicate, List.cons_append, List.nil_append, List.append_nil, List.length_cons, List.length_nil, List.set_cons_zero, List.set_cons_succ, Option.isSome_some, Option.isSome_none, D.bl.injEq, D.int.injEq, reduceCtorEq, true_and, and_true, false_and, and_false, or_false, false_or, Bool.true_eq_false, Bool.false_eq_true, if_true, if_false, List.map, List.map_cons, List.map_nil, Nat.reduceLT, Nat.reduceAdd, Nat.reduceLeDiff, Nat.zero_lt_succ, Nat.lt_add_left_iff_pos, Nat.le_add_left, exists_eq_left', exists_eq_left])
local macro_rules | `(tactic| boot_fast) => `(tactic| simp only [wp_def, wp_seq, wp_ret, wp_expr, wp_set, wp_ifS, wp_put, wp_fldP, wp_par, wp_asg, wp_nm, wp_tup2, wp_pass, wp_nil, wp_brk, wp_badS, wp_for, wp_var, wp_c, wpO_nil, wpO_ex, wpO_slot, wp_ops, wp_and, wp_or, wp_not, wp_if, wp_slLU, wp_chain, wp_mut, wpM_nil, wpM_cons, wp_disp, wpI_of, wpI_range1, wpI_enum, wp_tup3, items_l, items_t, items_r, tuple_l, tuple_t, list_l, list_t, Int.toNat_natCast, wp_call, wp_make, pb_nil, pb_slot, pb_ex, fin_nil, fin_c, fz_i, fz_s, fz_b, fz_n, fz_t, fz_r, fz_l, fz_d, fz_o, pow_18, pow_9, pow_10, isi_ii, isi_ib, isi_it, isi_tt, isi_ss, len_t, len_l, idx_t, idx_l, tup_e, lst_e, at_0, at_1, at_2, two_ii, List.all_cons, List.all_nil, Bool.and_self, Bool.true_and, Bool.and_true, Bool.false_and, Bool.and_false, Bool.not_true, Bool.not_false, List.contains_cons, List.contains_nil, Nat.reduceBEq, Int.reduceBEq, ci_0, ci_1, ci_2, ci_3, ci_4, ci_5, ci_6, beq_self_eq_true, Bool.or_false, Bool.or_true, Bool.false_or, Bool.true_or, if_true', fz_q, frz_q, q_0, q_1, q_len, q_tup, decide_true, decide_false, fz_sys, frz_sys, sys_many, sys_moves, mvL_len, ldL_len, ql_len, fz_h, sum_nat, wp_wk, wk_x, fz_x, frz_x, isc_sys, isc_tup, sget_0, sget_s, ex_some, ex_pair, ex_sbl, ex_slst, ex_2, frz_int, frz_str, frz_bl, frz_non, frz_tup, frz_lst, frz_rol, frz_dk, frz_ins, add_ii, sub_ii, neg_i, div_ii, mod_ii, cmp_ii, int_i, eq_ii, ne_ii, one_i, List.replicate, List.cons_append, List.nil_append, List.append_nil, List.length_cons, List.length_nil, List.set_cons_zero, List.set_cons_succ, Option.isSome_some, Option.isSome_none, D.bl.injEq, D.int.injEq, reduceCtorEq, true_and, and_true, false_and, and_false, or_false, false_or, Bool.true_eq_false, Bool.false_eq_true, if_true, if_false, List.map, List.map_cons, List.map_nil, Nat.reduceLT, Nat.reduceAdd, Nat.reduceLeDiff, Nat.zero_lt_succ, Nat.lt_add_left_iff_pos, Nat.le_add_left, exists_eq_left', exists_eq_left])
/-! ### lots -/
def lotN (l : List Nat) : List Int := sortU (l.map fun n : Nat => (n : Int))
def lotD (l : List Nat) : List D := (lotN l).map D.int
theorem natL_ints {l : List Nat} : natL l = (l.map fun n : Nat => (n : Int)).map D.int := by simp [natL, Function.comp_def]
theorem sortSet_nat {l : List Nat} (h : l.length < 64) : dSortSet [.tup (natL l)] = some (.lst true (lotD l)) := by
  show ((intsOf (natL l)).bind fun ns => if ns.length < 64 then some (D.lst true ((sortU ns).map D.int)) else none) = _
  rw [natL_ints, intsOf_map, Option.bind_some, if_pos (by simpa using h)]
  rfl
def allL (s : Sy) (r : List Nat) : List Nat := (List.range s.many).map (go s r)
theorem allL_len {s : Sy} {r : List Nat} : (allL s r).length = s.many := by unfold allL; rw [List.length_map, List.length_range]
theorem lot_wp {l : List Nat} (h : l.length < 64) {Q : D → Env → Prop} (q : Q (.tup (lotD l)) [some (.tup (natL l))]) : wpE m_lot_of [some (.tup (natL l))] Q := by
  unfold m_lot_of b_lot_of
  try boot_fast
  rw [sortSet_nat h]
  try boot_fast
  exact q
section
variable {s : Sy} {S : Nat} {r : List Nat} {Q : D → Env → Prop}
theorem ledall_wp (hs : SyOk s S) (hr : ∀ k ∈ r, k < s.K) (hl : r.length ≤ 400) (q : Q (.tup (natL (allL s r))) [some (sysO false s), some (.tup (natL r))]) : wpE m_led_all [some (sysO false s), some (.tup (natL r))] Q := by
  unfold m_led_all b_led_all
  try boot_fast
  refine row_wp hr hl (o := false) ?_
  try boot_fast
  unfold b_led_all_1
  try boot_fast
  refine all_wp hs hr ?_
  try boot_fast
  exact q
theorem lotb_wp (hs : SyOk s S) (hr : ∀ k ∈ r, k < s.K) (hl : r.length ≤ 400) (q : Q (.tup (lotD (allL s r))) [some (sysO false s), some (.tup (natL r))]) : wpE m_lot_behind [some (sysO false s), some (.tup (natL r))] Q := by
  have m12 := hs.m12
  unfold m_lot_behind b_lot_behind
  try boot_fast
  refine row_wp hr hl (o := false) ?_
  try boot_fast
  unfold b_lot_behind_1
  try boot_fast
  refine all_wp hs hr ?_
  try boot_fast
  refine lot_wp (l := allL s r) (by rw [allL_len]; omega) ?_
  try boot_fast
  exact q
theorem allL_at {i : Nat} (hi : i < s.many) : atI (natL (allL s r)) (i : Nat) = some (.int (go s r i : Nat)) := by
  unfold allL natL
  rw [List.map_map]
  exact range_at hi
theorem led_wp (hs : SyOk s S) (hr : ∀ k ∈ r, k < s.K) (hl : r.length ≤ 400) {i : Nat} (hi : i < s.many) (q : Q (.int (go s r i : Nat)) [some (sysO false s), some (.tup (natL r)), some (.int (i : Nat))]) :
    wpE m_led [some (sysO false s), some (.tup (natL r)), some (.int (i : Nat))] Q := by
  unfold m_led b_led
  try boot_fast
  refine row_wp hr hl (o := false) ?_
  try boot_fast
  unfold b_led_2
  try boot_fast
  unfold m_check_state b_check_state
  try boot_fast
  refine is_within_i ?_
  try boot_fast
  have e : (decide ((0 : Int) ≤ (i : Nat)) && decide ((i : Int) ≤ (s.many : Nat) - 1)) = true := by
    rw [decide_eq_true (by omega), decide_eq_true (by omega)]; rfl
  rw [e]
  try boot_fast
  unfold b_led_1
  try boot_fast
  refine all_wp hs hr ?_
  try boot_fast
  rw [show (List.range s.many).map (go s r) = allL s r from rfl, allL_at hi]
  try boot_fast
  exact q
end
/-! ### shares of rows -/
def powR (q : Rat) : Nat → Rat
  | 0 => 1
  | n + 1 => powR q n * q
def shareR (s : Sy) (r : List Nat) : Rat := r.foldl (fun q k => q * s.sh k) 1
def pc (s : Sy) (r : List Nat) : Nat → Rat
  | 0 => 1
  | j + 1 => pc s r j * powR (s.sh j) (r.count j)
theorem foldl_mul {s : Sy} : ∀ (r : List Nat) (q : Rat), r.foldl (fun q k => q * s.sh k) q = q * shareR s r
  | [], q => by show q = q * 1; rw [Rat.mul_one]
  | k :: r, q => by
    show r.foldl (fun q k => q * s.sh k) (q * s.sh k) = q * r.foldl (fun q k => q * s.sh k) (1 * s.sh k)
    rw [foldl_mul r, foldl_mul r]
    grind
theorem share_app {s : Sy} {r : List Nat} {k : Nat} : shareR s (r ++ [k]) = shareR s r * s.sh k := by unfold shareR; rw [List.foldl_append]; rfl
theorem share_two {s : Sy} {r o : List Nat} : shareR s (r ++ o) = shareR s r * shareR s o := by
  show List.foldl _ _ _ = _
  rw [List.foldl_append, foldl_mul]; rfl
theorem pc_cons {s : Sy} {r : List Nat} {k : Nat} : ∀ j, pc s (k :: r) j = (if k < j then s.sh k else 1) * pc s r j
  | 0 => by show (1 : Rat) = _; rw [if_neg (by omega)]; show (1 : Rat) = 1 * 1; grind
  | j + 1 => by
    show pc s (k :: r) j * powR (s.sh j) ((k :: r).count j) = _ * (pc s r j * powR (s.sh j) (r.count j))
    rw [pc_cons j, List.count_cons]
    by_cases h : k = j
    · subst h
      have e1 : (if (k == k) = true then 1 else 0 : Nat) = 1 := by simp
      rw [e1, if_neg (Nat.lt_irrefl k), if_pos (Nat.lt_succ_self k)]
      show 1 * pc s r k * (powR (s.sh k) (r.count k) * s.sh k) = _
      grind
    · have e1 : (if (k == j) = true then 1 else 0 : Nat) = 0 := if_neg (by simpa using h)
      rw [e1]
      by_cases h2 : k < j
      · rw [if_pos h2, if_pos (by omega)]
        show s.sh k * pc s r j * powR (s.sh j) (r.count j) = _
        grind
      · rw [if_neg h2, if_neg (by omega)]
        show 1 * pc s r j * powR (s.sh j) (r.count j) = _
        grind
theorem pc_nil {s : Sy} : ∀ j, pc s [] j = 1
  | 0 => rfl
  | j + 1 => by show pc s [] j * powR (s.sh j) 0 = 1; rw [pc_nil j]; show (1 : Rat) * 1 = 1; grind
theorem pc_share {s : Sy} : ∀ {r : List Nat}, (∀ k ∈ r, k < s.K) → pc s r s.K = shareR s r
  | [], _ => pc_nil _
  | k :: r, h => by
    rw [pc_cons, if_pos (h k List.mem_cons_self), pc_share fun j hj => h j (List.mem_cons_of_mem _ hj)]
    show _ = r.foldl (fun q k => q * s.sh k) (1 * s.sh k)
    rw [foldl_mul]
    grind
structure FB (q : Rat) : Prop where
  n : q.num.natAbs < 2 ^ 17000
  d : q.den < 2 ^ 17000
theorem isIn.small {N : Nat} {q : Rat} (h : isIn N q) (h0 : 0 ≤ q) (h1 : q ≤ 1) (n0 : 0 < N) : q.num.natAbs ≤ N ∧ q.den ≤ N := by
  have hd : q.den ≤ N := Nat.le_of_dvd n0 h.den
  have e0 : 0 ≤ q.num := Rat.num_nonneg.mpr h0
  have e1 : q.num ≤ 1 * q.den := by
    have t : ((q.num : Int) : Rat) ≤ ((1 * q.den : Int) : Rat) := by
      rw [← num_eq, Rat.intCast_mul, Rat.intCast_natCast]
      have t1 : (0 : Rat) ≤ (q.den : Rat) := Rat.natCast_nonneg
      exact Rat.mul_le_mul_of_nonneg_right h1 t1
    exact Rat.intCast_le_intCast.mp t
  exact ⟨by omega, hd⟩
theorem SyOk.sh1 {s : Sy} {S : Nat} (hs : SyOk s S) {k : Nat} (hk : k < s.K) : s.sh k ≤ 1 := by
  rw [← hs.s1]
  exact sumR_mem (fun i hi => Rat.le_of_lt (hs.s0 i hi)) hk
theorem SyOk.sh40 {s : Sy} {S : Nat} (hs : SyOk s S) (h0 : 0 < S) (hS : S ≤ 2 ^ 40) {k : Nat} (hk : k < s.K) : (s.sh k).num.natAbs ≤ 2 ^ 40 ∧ (s.sh k).den ≤ 2 ^ 40 := by
  have := (hs.sI k hk).small (Rat.le_of_lt (hs.s0 k hk)) (hs.sh1 hk) h0
  omega
theorem share_ok {s : Sy} {S : Nat} (hs : SyOk s S) : ∀ {r : List Nat}, (∀ k ∈ r, k < s.K) → 0 ≤ shareR s r ∧ shareR s r ≤ 1 ∧ isIn (S ^ r.length) (shareR s r)
  | [], _ => ⟨(by show (0 : Rat) ≤ 1; decide), (by show (1 : Rat) ≤ 1; decide), isIn.one⟩
  | k :: r, h => by
    obtain ⟨a, b, c⟩ := share_ok hs (r := r) fun j hj => h j (List.mem_cons_of_mem _ hj)
    have hk := h k List.mem_cons_self
    have e : shareR s (k :: r) = s.sh k * shareR s r := by
      show r.foldl (fun q k => q * s.sh k) (1 * s.sh k) = _
      rw [foldl_mul]; grind
    rw [e]
    have p0 := Rat.le_of_lt (hs.s0 k hk)
    refine ⟨Rat.mul_nonneg p0 a, ?_, ?_⟩
    · have h1 : s.sh k * shareR s r ≤ 1 * shareR s r := Rat.mul_le_mul_of_nonneg_right (hs.sh1 hk) a
      rw [Rat.one_mul] at h1
      exact Rat.le_trans h1 b
    · have := (hs.sI k hk).mul c
      rw [List.length_cons, Nat.pow_succ, Nat.mul_comm]
      exact this
theorem pow40 {S t : Nat} (hS : S ≤ 2 ^ 40) (ht : t ≤ 400) : S ^ t < 2 ^ 17000 := by
  have h1 : S ^ t ≤ (2 ^ 40) ^ t := Nat.pow_le_pow_left hS t
  rw [← Nat.pow_mul] at h1
  exact Nat.lt_of_le_of_lt h1 (Nat.pow_lt_pow_right (by decide) (by omega))
theorem share_FB {s : Sy} {S : Nat} (hs : SyOk s S) (h0 : 0 < S) (hS : S ≤ 2 ^ 40) {r : List Nat} (hr : ∀ k ∈ r, k < s.K) (hl : r.length ≤ 400) : FB (shareR s r) := by
  obtain ⟨a, b, c⟩ := share_ok hs hr
  obtain ⟨d, e⟩ := c.small a b (Nat.pow_pos h0)
  have p := pow40 hS hl
  exact ⟨Nat.lt_of_le_of_lt d p, Nat.lt_of_le_of_lt e p⟩
theorem sh_FB {s : Sy} {S : Nat} (hs : SyOk s S) (h0 : 0 < S) (hS : S ≤ 2 ^ 40) {k : Nat} (hk : k < s.K) : FB (s.sh k) := by
  obtain ⟨a, b⟩ := hs.sh40 h0 hS hk
  have p : 2 ^ 40 < 2 ^ 17000 := Nat.pow_lt_pow_right (by decide) (by decide)
  exact ⟨Nat.lt_of_le_of_lt a p, Nat.lt_of_le_of_lt b p⟩
theorem timesB_wp {x y : Rat} {Q : D → Env → Prop} (fx : FB x) (fy : FB y) (q : Q (qD (x * y)) [some (qD x), some (qD y)]) : wpE m_times [some (qD x), some (qD y)] Q := by
  unfold m_times b_times
  try boot_fast
  refine ex_mul 17000 17000 fx.n fy.n ?_
  try boot_fast
  refine ex_mul 17000 17000 (nabs fx.d) (nabs fy.d) ?_
  try boot_fast
  rw [← Int.natCast_mul]
  refine fraction_wp (Nat.mul_pos x.den_pos y.den_pos) ?_
  try boot_fast
  rw [← Rat.mul_def']
  exact q
theorem ltimesB_wp {x y : Rat} {Q : D → Env → Prop} (fx : FB x) (fy : FB y) (q : Q (qD (x * y)) [some (qD x), some (qD y)]) : wpE m__law_times [some (qD x), some (qD y)] Q := by
  unfold m__law_times b__law_times
  try boot_fast
  refine ex_mul 17000 17000 fx.n fy.n ?_
  try boot_fast
  refine ex_mul 17000 17000 (nabs fx.d) (nabs fy.d) ?_
  try boot_fast
  rw [← Int.natCast_mul]
  refine low_wp (Nat.mul_pos x.den_pos y.den_pos) ?_
  try boot_fast
  rw [← Rat.mul_def']
  exact q
end VE
namespace VE
open PySem PySem.Spec PyProof.Rows L2
local macro_rules | `(tactic| boot_fast) => `(tactic| simp only [wp_def, wp_seq, wp_ret, wp_expr, wp_set, wp_ifS, wp_put, wp_fldP, wp_par, wp_asg, wp_nm, wp_tup2, wp_pass, wp_nil, wp_brk, wp_badS, wp_for, wp_var, wp_c, wpO_nil, wpO_ex, wpO_slot, wp_ops, wp_and, wp_or, wp_not, wp_if, wp_slLU, wp_chain, wp_mut, wpM_nil, wpM_cons, wp_disp, wpI_of, wpI_range1, wpI_enum, wp_tup3, items_l, items_t, items_r, tuple_l, tuple_t, list_l, list_t, Int.toNat_natCast, wp_call, wp_make, pb_nil, pb_slot, pb_ex, fin_nil, fin_c, fz_i, fz_s, fz_b, fz_n, fz_t, fz_r, fz_l, fz_d, fz_o, pow_18, pow_9, pow_10, isi_ii, isi_ib, isi_it, isi_tt, isi_ss, len_t, len_l, idx_t, idx_l, tup_e, lst_e, at_0, at_1, at_2, two_ii, List.all_cons, List.all_nil, Bool.and_self, Bool.true_and, Bool.and_true, Bool.false_and, Bool.and_false, Bool.not_true, Bool.not_false, List.contains_cons, List.contains_nil, Nat.reduceBEq, Int.reduceBEq, ci_0, ci_1, ci_2, ci_3, ci_4, ci_5, ci_6, beq_self_eq_true, Bool.or_false, Bool.or_true, Bool.false_or, Bool.true_or, if_true', sget_0, sget_s, ex_some, ex_pair, ex_sbl, ex_slst, ex_2, frz_int, frz_str, frz_bl, frz_non, frz_tup, frz_lst, frz_rol, frz_dk, frz_ins, add_ii, sub_ii, neg_i, div_ii, mod_ii, cmp_ii, int_i, eq_ii, ne_ii, one_i, List.replicate, List.cons_append, List.nil_append, List.append_nil, List.length_cons, List.length_nil, List.set_cons_zero, List.set_cons_succ, Option.isSome_some, Option.isSome_none, D.bl.injEq, D.int.injEq, reduceCtorEq, true_and, and_true, false_and, and_false, or_false, false_or, Bool.true_eq_false, Bool.false_eq_true, if_true, if_false, List.map, List.map_cons, List.map_nil, Nat.reduceLT, Nat.reduceAdd, Nat.reduceLeDiff, Nat.zero_lt_succ, Nat.lt_add_left_iff_pos, Nat.le_add_left, exists_eq_left', exists_eq_left])
local macro_rules | `(tactic| boot_fast) => `(tactic| simp only [wp_def, wp_seq, wp_ret, wp_expr, wp_set, wp_ifS, wp_put, wp_fldP, wp_par, wp_asg, wp_nm, wp_tup2, wp_pass, wp_nil, wp_brk, wp_badS, wp_for, wp_var, wp_c, wpO_nil, wpO_ex, wpO_slot, wp_ops, wp_and, wp_or, wp_not, wp_if, wp_slLU, wp_chain, wp_mut, wpM_nil, wpM_cons, wp_disp, wpI_of, wpI_range1, wpI_enum, wp_tup3, items_l, items_t, items_r, tuple_l, tuple_t, list_l, list_t, Int.toNat_natCast, wp_call, wp_make, pb_nil, pb_slot, pb_ex, fin_nil, fin_c, fz_i, fz_s, fz_b, fz_n, fz_t, fz_r, fz_l, fz_d, fz_o, pow_18, pow_9, pow_10, isi_ii, isi_ib, isi_it, isi_tt, isi_ss, len_t, len_l, idx_t, idx_l, tup_e, lst_e, at_0, at_1, at_2, two_ii, List.all_cons, List.all_nil, Bool.and_self, Bool.true_and, Bool.and_true, Bool.false_and, Bool.and_false, Bool.not_true, Bool.not_false, List.contains_cons, List.contains_nil, Nat.reduceBEq, Int.reduceBEq, ci_0, ci_1, ci_2, ci_3, ci_4, ci_5, ci_6, beq_self_eq_true, Bool.or_false, Bool.or_true, Bool.false_or, Bool.true_or, if_true', fz_q, frz_q, q_0, q_1, q_len, q_tup, decide_true, decide_false, fz_sys, frz_sys, sys_many, sys_moves, mvL_len, ldL_len, ql_len, fz_h, sum_nat, wp_wk, wk_x, fz_x, frz_x, isc_sys, isc_tup, sget_0, sget_s, ex_some, ex_pair, ex_sbl, ex_slst, ex_2, frz_int, frz_str, frz_bl, frz_non, frz_tup, frz_lst, frz_rol, frz_dk, frz_ins, add_ii, sub_ii, neg_i, div_ii, mod_ii, cmp_ii, int_i, eq_ii, ne_ii, one_i, List.replicate, List.cons_append, List.nil_append, List.append_nil, List.length_cons, List.length_nil, List.set_cons_zero, List.set_cons_succ, Option.isSome_some, Option.isSome_none, D.bl.injEq, D.int.injEq, reduceCtorEq, true_and, and_true, false_and, and_false, or_false, false_or, Bool.true_eq_false, Bool.false_eq_true, if_true, if_false, List.map, List.map_cons, List.map_nil, Nat.reduceLT, Nat.reduceAdd, Nat.reduceLeDiff, Nat.zero_lt_succ, Nat.lt_add_left_iff_pos, Nat.le_add_left, exists_eq_left', exists_eq_left])
theorem shareof_wp {s : Sy} {S : Nat} (hs : SyOk s S) (h0 : 0 < S) (hS : S ≤ 2 ^ 40) {r : List Nat} (hr : ∀ k ∈ r, k < s.K) (hl : r.length ≤ 400) {Q : D → Env → Prop} (q : Q (qD (shareR s r)) [some (sysO false s), some (.tup (natL r))]) :
    wpE m_share_of [some (sysO false s), some (.tup (natL r))] Q := by
  unfold m_share_of b_share_of
  try boot_fast
  refine row_wp hr hl (o := false) ?_
  try boot_fast
  unfold b_share_of_4
  try boot_fast
  unfold b_share_of_3
  try boot_fast
  rw [show natL r = r.map iD from rfl]
  refine wp_fList (f := iD) (l := r) (fun done ρ => ∃ y, ρ = [some (sysO false s), some (.tup (r.map iD)), some (qD (shareR s done)), y]) ⟨_, rfl⟩ (fun done k left ρ e hI => ?_) (fun ρ hI => ?_)
  · obtain ⟨y, rfl⟩ := hI
    have hk : k < s.K := hr k (by rw [e]; simp)
    have hd : ∀ j ∈ done, j < s.K := fun j hj => hr j (by rw [e]; simp [hj])
    have hdl : done.length ≤ 400 := by rw [e, List.length_append] at hl; omega
    rw [show iD k = .int (k : Nat) from rfl]
    unfold b_share_of_2
    try boot_fast
    rw [mv_at hk]
    try boot_fast
    refine timesB_wp (share_FB hs h0 hS hd hdl) (sh_FB hs h0 hS hk) ?_
    try boot_fast
    exact ⟨_, by rw [share_app]⟩
  · obtain ⟨y, rfl⟩ := hI
    unfold b_share_of_1
    try boot_fast
    exact q
/-! ### the law's share -/
def cntL (r : List Nat) (j : Nat) : Nat := r.countP fun k => decide (k < j)
theorem cntL_succ {j : Nat} : ∀ {r : List Nat}, cntL r (j + 1) = cntL r j + r.count j
  | [] => rfl
  | k :: r => by
    have ih := cntL_succ (j := j) (r := r)
    unfold cntL at ih ⊢
    rw [List.countP_cons, List.countP_cons, List.count_cons, ih]
    by_cases h : k = j
    · subst h; simp; omega
    · by_cases h2 : k < j
      · rw [if_pos (decide_eq_true (by omega)), if_pos (decide_eq_true h2), if_neg (by simpa using h)]; omega
      · rw [if_neg (by simp; omega), if_neg (by simp; omega), if_neg (by simpa using h)]; rfl
theorem cntL_le {r : List Nat} {j : Nat} : cntL r j ≤ r.length := List.countP_le_length
structure TB (s : Sy) (a : Int) (b t : Nat) (v : Rat) : Prop where
  b0 : 0 < b
  v : mkRat a b = v
  an : a.natAbs ≤ 2 ^ (40 * t)
  bn : b ≤ 2 ^ (40 * t)
theorem TB.mul {s : Sy} {S : Nat} (hs : SyOk s S) (h0 : 0 < S) (hS : S ≤ 2 ^ 40) {a : Int} {b t : Nat} {v : Rat} (x : TB s a b t v) {k : Nat} (hk : k < s.K) : TB s (a * (s.sh k).num) (b * (s.sh k).den) (t + 1) (v * s.sh k) := by
  obtain ⟨e1, e2⟩ := hs.sh40 h0 hS hk
  have e : 2 ^ (40 * (t + 1)) = 2 ^ (40 * t) * 2 ^ 40 := by rw [← Nat.pow_add]; rfl
  refine ⟨Nat.mul_pos x.b0 (s.sh k).den_pos, ?_, ?_, ?_⟩
  · rw [← x.v, ← Rat.mkRat_mul_mkRat a (s.sh k).num b (s.sh k).den, Rat.mkRat_self]
  · rw [Int.natAbs_mul, e]; exact Nat.mul_le_mul x.an e1
  · rw [e]; exact Nat.mul_le_mul x.bn e2
theorem TB.lt {s : Sy} {a : Int} {b t : Nat} {v : Rat} (x : TB s a b t v) (ht : t ≤ 400) : a.natAbs < 2 ^ 17000 ∧ ((b : Nat) : Int).natAbs < 2 ^ 17000 := by
  have p : 2 ^ (40 * t) < 2 ^ 17000 := Nat.pow_lt_pow_right (by decide) (by omega)
  exact ⟨Nat.lt_of_le_of_lt x.an p, by rw [Int.natAbs_natCast]; exact Nat.lt_of_le_of_lt x.bn p⟩
theorem lshare_wp {s : Sy} {S : Nat} (hs : SyOk s S) (h0 : 0 < S) (hS : S ≤ 2 ^ 40) {r : List Nat} (hr : ∀ k ∈ r, k < s.K) (hl : r.length ≤ 400) {Q : D → Env → Prop} (q : Q (qD (shareR s r)) [some (.tup (mvL s)), some (.tux (natL r))]) :
    wpE m__law_share [some (.tup (mvL s)), some (.tux (natL r))] Q := by
  have k24 := hs.k24
  unfold m__law_share b__law_share
  try boot_fast
  unfold b__law_share_4
  try boot_fast
  refine ⟨⟨by omega, by omega⟩, ?_⟩
  rw [rangeL_map]
  refine wp_fRange (fun j ρ => ∃ (a : Int) (b : Nat) (y4 y5 : Option D), TB s a b (cntL r j) (pc s r j) ∧ ρ = [some (.tup (mvL s)), some (.tux (natL r)), some (.int a), some (.int (b : Nat)), y4, y5]) ⟨1, 1, _, _, ⟨by decide, rfl, ?_, ?_⟩, rfl⟩ (fun j ρ hj hI => ?_) (fun ρ hI => ?_)
  · exact Nat.one_le_two_pow
  · exact Nat.one_le_two_pow
  · obtain ⟨a, b, y4, y5, tb, rfl⟩ := hI
    unfold b__law_share_3
    try boot_fast
    refine wp_count (l := natL r) rfl ?_
    try boot_fast
    rw [count_x]
    try boot_fast
    have hc : cntL r j + r.count j ≤ 400 := by rw [← cntL_succ]; exact Nat.le_trans cntL_le hl
    refine ⟨⟨by omega, by omega⟩, ?_⟩
    rw [rangeL_map]
    refine wp_fRange (fun t ρ => ∃ (a : Int) (b : Nat) (y5 : Option D), TB s a b (cntL r j + t) (pc s r j * powR (s.sh j) t) ∧ ρ = [some (.tup (mvL s)), some (.tux (natL r)), some (.int a), some (.int (b : Nat)), some (.int (j : Nat)), y5]) ⟨a, b, _, by show TB s a b (cntL r j) (pc s r j * 1); rw [Rat.mul_one]; exact tb, rfl⟩ (fun t ρ ht hI => ?_) (fun ρ hI => ?_)
    · obtain ⟨a, b, y5, tb, rfl⟩ := hI
      obtain ⟨l1, l2⟩ := tb.lt (by omega)
      obtain ⟨f1, f2⟩ := sh_FB hs h0 hS hj
      unfold b__law_share_2
      try boot_fast
      rw [mv_at hj]
      try boot_fast
      refine ex_mul 17000 17000 l1 f1 ?_
      try boot_fast
      refine ex_mul 17000 17000 l2 (nabs f2) ?_
      try boot_fast
      refine ex_putS2 (by show 2 < 6; decide) (by show 3 < 6; decide) ?_
      try boot_fast
      refine ⟨a * (s.sh j).num, b * (s.sh j).den, some (.int (t : Nat)), (by show TB s _ _ (cntL r j + t + 1) (pc s r j * (powR (s.sh j) t * s.sh j)); rw [← Rat.mul_assoc]; exact tb.mul hs h0 hS hj), ?_⟩
      rw [Int.natCast_mul]
    · obtain ⟨a, b, y5, tb, rfl⟩ := hI
      exact ⟨a, b, _, _, by rw [cntL_succ]; exact tb, rfl⟩
  · obtain ⟨a, b, y4, y5, tb, rfl⟩ := hI
    unfold b__law_share_1
    try boot_fast
    refine low_wp tb.b0 ?_
    try boot_fast
    rw [tb.v, pc_share hr]
    exact q
/-! ### rows drawn -/
theorem mulX_nat {c n : Nat} (h : n ≤ 400) : dMulX [.tux [.int (c : Nat)], .int (n : Nat)] = some (.tux (natL (List.replicate n c))) := by
  show (if -(2 ^ 63) ≤ (n : Int) ∧ (n : Int) ≤ 1000 ∧ [D.int (c : Nat)].length ≤ 1000 ∧ [D.int (c : Nat)] ≠ [] then some (D.tux (List.replicate (n : Int).toNat [D.int (c : Nat)]).flatten) else none) = _
  rw [if_pos ⟨by omega, by omega, by rw [List.length_singleton]; decide, by simp⟩, Int.toNat_natCast, rep_nat]
theorem tupleX_l {o : Bool} {l : List D} : dTupleX [.lst o l] = some (.tux l) := rfl
theorem tupX_1 {i : Int} : dTupX [.int i] = some (.tux [.int i]) := rfl
local macro_rules | `(tactic| boot_fast) => `(tactic| simp only [wp_def, wp_seq, wp_ret, wp_expr, wp_set, wp_ifS, wp_put, wp_fldP, wp_par, wp_asg, wp_nm, wp_tup2, wp_pass, wp_nil, wp_brk, wp_badS, wp_for, wp_var, wp_c, wpO_nil, wpO_ex, wpO_slot, wp_ops, wp_and, wp_or, wp_not, wp_if, wp_slLU, wp_chain, wp_mut, wpM_nil, wpM_cons, wp_disp, wpI_of, wpI_range1, wpI_enum, wp_tup3, items_l, items_t, items_r, tuple_l, tuple_t, list_l, list_t, Int.toNat_natCast, wp_call, wp_make, pb_nil, pb_slot, pb_ex, fin_nil, fin_c, fz_i, fz_s, fz_b, fz_n, fz_t, fz_r, fz_l, fz_d, fz_o, pow_18, pow_9, pow_10, isi_ii, isi_ib, isi_it, isi_tt, isi_ss, len_t, len_l, idx_t, idx_l, tup_e, lst_e, at_0, at_1, at_2, two_ii, List.all_cons, List.all_nil, Bool.and_self, Bool.true_and, Bool.and_true, Bool.false_and, Bool.and_false, Bool.not_true, Bool.not_false, List.contains_cons, List.contains_nil, Nat.reduceBEq, Int.reduceBEq, ci_0, ci_1, ci_2, ci_3, ci_4, ci_5, ci_6, beq_self_eq_true, Bool.or_false, Bool.or_true, Bool.false_or, Bool.true_or, if_true', fz_q, frz_q, q_0, q_1, q_len, q_tup, decide_true, decide_false, fz_sys, frz_sys, sys_many, sys_moves, mvL_len, ldL_len, ql_len, fz_h, sum_nat, wp_wk, wk_x, fz_x, frz_x, isc_sys, isc_tup, tupleX_l, tupX_1, sget_0, sget_s, ex_some, ex_pair, ex_sbl, ex_slst, ex_2, frz_int, frz_str, frz_bl, frz_non, frz_tup, frz_lst, frz_rol, frz_dk, frz_ins, add_ii, sub_ii, neg_i, div_ii, mod_ii, cmp_ii, int_i, eq_ii, ne_ii, one_i, List.replicate, List.cons_append, List.nil_append, List.append_nil, List.length_cons, List.length_nil, List.set_cons_zero, List.set_cons_succ, Option.isSome_some, Option.isSome_none, D.bl.injEq, D.int.injEq, reduceCtorEq, true_and, and_true, false_and, and_false, or_false, false_or, Bool.true_eq_false, Bool.false_eq_true, if_true, if_false, List.map, List.map_cons, List.map_nil, Nat.reduceLT, Nat.reduceAdd, Nat.reduceLeDiff, Nat.zero_lt_succ, Nat.lt_add_left_iff_pos, Nat.le_add_left, exists_eq_left', exists_eq_left])
def eR (mv : D) (n : Nat) (k : Int) (h : Hand) (y : Option D) : Env := [some (handO true h), some mv, some (.int (n : Nat)), some (.int k), y]
theorem lrow_wp {n : Nat} {h : Hand} {s : Sy} {S : Nat} (hs : SyOk s S) (ok : HandOk (n + 500) h) {Q : D → Env → Prop} (q : ∀ (r : List Nat) h', (∀ k ∈ r, k < s.K) → r.length ≤ 400 → HandOk n h' → Q (.tux (natL r)) [some (handO true h'), some (.tup (mvL s))]) :
    wpE m__law_row [some (handO true h), some (.tup (mvL s))] Q := by
  have k1 := hs.k1
  have k24 := hs.k24
  unfold m__law_row b__law_row
  try boot_fast
  refine draw_nat (many := 40) (n := n + 499) ok (by decide) fun d h1 hd ok => ?_
  try boot_fast
  refine draw_nat (many := 6) (n := n + 498) ok (by decide) fun e h2 he ok => ?_
  try boot_fast
  have go : ∀ g : Nat, g ≤ 400 → wpE m__law_any [some (handO true h2), some (.lst false [.int 0, .int 1, .int 2, .int 3, .int 5, .int 9, .int (d : Nat), .int (g : Nat)])] fun x ρa => ∃ z : Nat, x = .int (z : Nat) ∧ z ≤ 400 ∧ ∃ h3, HandOk (n + 497) h3 ∧ ρa = [some (handO true h3), some (.lst false [.int 0, .int 1, .int 2, .int 3, .int 5, .int 9, .int (d : Nat), .int (g : Nat)])] := fun g hg => by
    refine any_wp (n := n + 497) ok (by simp) fun x h3 hx ok3 => ?_
    simp only [List.mem_cons, List.not_mem_nil, or_false] at hx
    have hx' : ∃ z : Nat, x = .int (z : Nat) ∧ z ≤ 400 := by
      rcases hx with rfl | rfl | rfl | rfl | rfl | rfl | rfl | rfl
      · exact ⟨0, rfl, by decide⟩
      · exact ⟨1, rfl, by decide⟩
      · exact ⟨2, rfl, by decide⟩
      · exact ⟨3, rfl, by decide⟩
      · exact ⟨5, rfl, by decide⟩
      · exact ⟨9, rfl, by decide⟩
      · exact ⟨d, rfl, by omega⟩
      · exact ⟨g, rfl, hg⟩
    obtain ⟨z, rfl, hz⟩ := hx'
    exact ⟨z, rfl, hz, h3, ok3, rfl⟩
  have fin1 : ∀ (l : List D) (h' : Hand), HandOk n h' → l.length ≤ 400 → (∀ x ∈ l, isN s.K x) → Q (.tux l) [some (handO true h'), some (D.tup (mvL s))] := fun l h' ok' hl hP => by
    obtain ⟨r, rfl, hr⟩ := nat_list (b := s.K) hP
    exact q r h' hr (by rw [natL_length] at hl; exact hl) ok'
  have tail : ∀ (z : Nat) (h3 : Hand), z ≤ 400 → HandOk (n + 497) h3 → wpS b__law_row_4 [some (handO true h3), some (.tup (mvL s)), some (.int (z : Nat)), none, none]
      (fun ρ' => 2 ≤ List.length ρ' ∧ Q D.non (fin [0] 0 [some (handO true h), some (D.tup (mvL s))] ρ')) (fun d ρ' => 2 ≤ List.length ρ' ∧ Q d (fin [0] 0 [some (handO true h), some (D.tup (mvL s))] ρ')) (fun _ => False) := fun z h3 hz ok => by
    unfold b__law_row_4
    try boot_fast
    refine draw_nat (many := 6) (n := n + 496) ok (by decide) fun kd h4 hkd ok => ?_
    try boot_fast
    unfold b__law_row_3
    try boot_fast
    have hsz : (rangeL 0 z).length < sizeLine := by rw [rangeL_length]; exact small_lt (by omega)
    have hv : ∀ (h : Hand) (y w : Option D), (eR (.tup (mvL s)) z (kd : Nat) h y).set 4 w = eR (.tup (mvL s)) z (kd : Nat) h w := fun _ _ _ => rfl
    have hlt : ∀ (h : Hand) (y : Option D), 4 < (eR (.tup (mvL s)) z (kd : Nat) h y).length := fun _ _ => by show 4 < 5; decide
    have hg : ∀ (h : Hand) (y : Option D), sget (eR (.tup (mvL s)) z (kd : Nat) h y) 4 = y := fun _ y => by cases y <;> rfl
    have hit : ∀ (h : Hand), wpI (iRange1 (.slot 2)) (eR (.tup (mvL s)) z (kd : Nat) h none) fun ds' ρ0 => ds' = rangeL 0 z ∧ ρ0 = eR (.tup (mvL s)) z (kd : Nat) h none := fun h => range_hit rfl (by omega)
    by_cases h0 : (kd : Int) = 0
    · left
      refine ⟨beq_iff_eq.mpr h0, ?_⟩
      refine draw_nat (n := n + 495) ok (by omega) fun c h5 hc ok => ?_
      try boot_fast
      rw [mulX_nat hz]
      try boot_fast
      exact fin1 (natL (List.replicate z c)) h5 (ok.le (by omega)) (by rw [natL_length, List.length_replicate]; exact hz) fun x hx => by
        obtain ⟨k, hk, rfl⟩ := List.mem_map.mp hx
        exact ⟨k, rfl, by rw [(List.mem_replicate.mp hk).2]; exact hc⟩
    · right
      refine ⟨beq_eq_false_iff_ne.mpr h0, ?_⟩
      unfold b__law_row_2
      try boot_fast
      by_cases h1 : (kd : Int) = 1
      · left
        refine ⟨beq_iff_eq.mpr h1, ?_⟩
        refine comp_hand (Ok := HandOk) (eR (.tup (mvL s)) z (kd : Nat)) (isN s.K) 0 n (y := none) rfl (hit _) hsz hv hlt hg (ok.le (by omega)) (fun h d j hd ok' => ?_) fun h' xs ok' hlen hP => ?_
        · obtain ⟨t, rfl, ht⟩ := mem_rangeL hd
          unfold eR
          try boot_fast
          refine ex_mod (by omega) ?_
          exact ⟨h, _, rfl, ok', t % s.K, by rw [← Int.natCast_emod]; rfl, Nat.mod_lt _ (by omega)⟩
        · unfold eR
          try boot_fast
          exact fin1 xs h' ok' (by rw [hlen, rangeL_length]; exact hz) hP
      · right
        refine ⟨beq_eq_false_iff_ne.mpr h1, ?_⟩
        unfold b__law_row_1
        try boot_fast
        refine comp_hand (Ok := HandOk) (eR (.tup (mvL s)) z (kd : Nat)) (isN s.K) 1 n (y := none) rfl (hit _) hsz hv hlt hg (ok.le (by rw [rangeL_length]; omega)) (fun h d j hd ok' => ?_) fun h' xs ok' hlen hP => ?_
        · unfold eR
          try boot_fast
          refine draw_nat (n := j) ok' (by omega) fun c h'' hc ok'' => ?_
          try boot_fast
          exact ⟨h'', _, rfl, ok'', c, rfl, hc⟩
        · unfold eR
          try boot_fast
          exact fin1 xs h' ok' (by rw [hlen, rangeL_length]; exact hz) hP
  by_cases h6 : (e : Int) = 0
  · left
    refine ⟨beq_iff_eq.mpr h6, ?_⟩
    refine wpE_mono (go 400 (by decide)) ?_
    rintro x ρa ⟨z, rfl, hz, h3, ok3, rfl⟩
    try boot_fast
    exact tail z h3 hz ok3
  · right
    refine ⟨beq_eq_false_iff_ne.mpr h6, ?_⟩
    refine wpE_mono (go 7 (by decide)) ?_
    rintro x ρa ⟨z, rfl, hz, h3, ok3, rfl⟩
    try boot_fast
    exact tail z h3 hz ok3
end VE
namespace VE
open PySem PySem.Spec PyProof.Rows L2
local macro_rules | `(tactic| boot_fast) => `(tactic| simp only [wp_def, wp_seq, wp_ret, wp_expr, wp_set, wp_ifS, wp_put, wp_fldP, wp_par, wp_asg, wp_nm, wp_tup2, wp_pass, wp_nil, wp_brk, wp_badS, wp_for, wp_var, wp_c, wpO_nil, wpO_ex, wpO_slot, wp_ops, wp_and, wp_or, wp_not, wp_if, wp_slLU, wp_chain, wp_mut, wpM_nil, wpM_cons, wp_disp, wpI_of, wpI_range1, wpI_enum, wp_tup3, items_l, items_t, items_r, tuple_l, tuple_t, list_l, list_t, Int.toNat_natCast, wp_call, wp_make, pb_nil, pb_slot, pb_ex, fin_nil, fin_c, fz_i, fz_s, fz_b, fz_n, fz_t, fz_r, fz_l, fz_d, fz_o, pow_18, pow_9, pow_10, isi_ii, isi_ib, isi_it, isi_tt, isi_ss, len_t, len_l, idx_t, idx_l, tup_e, lst_e, at_0, at_1, at_2, two_ii, List.all_cons, List.all_nil, Bool.and_self, Bool.true_and, Bool.and_true, Bool.false_and, Bool.and_false, Bool.not_true, Bool.not_false, List.contains_cons, List.contains_nil, Nat.reduceBEq, Int.reduceBEq, ci_0, ci_1, ci_2, ci_3, ci_4, ci_5, ci_6, beq_self_eq_true, Bool.or_false, Bool.or_true, Bool.false_or, Bool.true_or, if_true', sget_0, sget_s, ex_some, ex_pair, ex_sbl, ex_slst, ex_2, frz_int, frz_str, frz_bl, frz_non, frz_tup, frz_lst, frz_rol, frz_dk, frz_ins, add_ii, sub_ii, neg_i, div_ii, mod_ii, cmp_ii, int_i, eq_ii, ne_ii, one_i, List.replicate, List.cons_append, List.nil_append, List.append_nil, List.length_cons, List.length_nil, List.set_cons_zero, List.set_cons_succ, Option.isSome_some, Option.isSome_none, D.bl.injEq, D.int.injEq, reduceCtorEq, true_and, and_true, false_and, and_false, or_false, false_or, Bool.true_eq_false, Bool.false_eq_true, if_true, if_false, List.map, List.map_cons, List.map_nil, Nat.reduceLT, Nat.reduceAdd, Nat.reduceLeDiff, Nat.zero_lt_succ, Nat.lt_add_left_iff_pos, Nat.le_add_left, exists_eq_left', exists_eq_left])
local macro_rules | `(tactic| boot_fast) => `(tactic| simp only [wp_def, wp_seq, wp_ret, wp_expr, wp_set, wp_ifS, wp_put, wp_fldP, wp_par, wp_asg, wp_nm, wp_tup2, wp_pass, wp_nil, wp_brk, wp_badS, wp_for, wp_var, wp_c, wpO_nil, wpO_ex, wpO_slot, wp_ops, wp_and, wp_or, wp_not, wp_if, wp_slLU, wp_chain, wp_mut, wpM_nil, wpM_cons, wp_disp, wpI_of, wpI_range1, wpI_enum, wp_tup3, items_l, items_t, items_r, tuple_l, tuple_t, list_l, list_t, Int.toNat_natCast, wp_call, wp_make, pb_nil, pb_slot, pb_ex, fin_nil, fin_c, fz_i, fz_s, fz_b, fz_n, fz_t, fz_r, fz_l, fz_d, fz_o, pow_18, pow_9, pow_10, isi_ii, isi_ib, isi_it, isi_tt, isi_ss, len_t, len_l, idx_t, idx_l, tup_e, lst_e, at_0, at_1, at_2, two_ii, List.all_cons, List.all_nil, Bool.and_self, Bool.true_and, Bool.and_true, Bool.false_and, Bool.and_false, Bool.not_true, Bool.not_false, List.contains_cons, List.contains_nil, Nat.reduceBEq, Int.reduceBEq, ci_0, ci_1, ci_2, ci_3, ci_4, ci_5, ci_6, beq_self_eq_true, Bool.or_false, Bool.or_true, Bool.false_or, Bool.true_or, if_true', fz_q, frz_q, q_0, q_1, q_len, q_tup, decide_true, decide_false, fz_sys, frz_sys, sys_many, sys_moves, mvL_len, ldL_len, ql_len, fz_h, sum_nat, wp_wk, wk_x, fz_x, frz_x, isc_sys, isc_tup, tupleX_l, tupX_1, sget_0, sget_s, ex_some, ex_pair, ex_sbl, ex_slst, ex_2, frz_int, frz_str, frz_bl, frz_non, frz_tup, frz_lst, frz_rol, frz_dk, frz_ins, add_ii, sub_ii, neg_i, div_ii, mod_ii, cmp_ii, int_i, eq_ii, ne_ii, one_i, List.replicate, List.cons_append, List.nil_append, List.append_nil, List.length_cons, List.length_nil, List.set_cons_zero, List.set_cons_succ, Option.isSome_some, Option.isSome_none, D.bl.injEq, D.int.injEq, reduceCtorEq, true_and, and_true, false_and, and_false, or_false, false_or, Bool.true_eq_false, Bool.false_eq_true, if_true, if_false, List.map, List.map_cons, List.map_nil, Nat.reduceLT, Nat.reduceAdd, Nat.reduceLeDiff, Nat.zero_lt_succ, Nat.lt_add_left_iff_pos, Nat.le_add_left, exists_eq_left', exists_eq_left])
theorem len_tn {l : List Nat} : dLen [.tup (natL l)] = some (.int (l.length : Nat)) := by
  show some (D.int ((natL l).length : Nat)) = _
  rw [natL_length]
theorem flat_nat {n : Nat} {l : List Nat} : flat (n + 1) (.tup (natL l)) = true := by
  show flatL n (natL l) = true
  exact flatL_map fun _ _ => by cases n <;> rfl
theorem flat_natl {n : Nat} {o : Bool} {l : List Nat} : flat (n + 1) (.lst o (natL l)) = true := by
  show flatL n (natL l) = true
  exact flatL_map fun _ _ => by cases n <;> rfl
theorem flat_lot {n : Nat} {l : List Nat} : flat (n + 1) (.tup (lotD l)) = true := by
  show flatL n (lotD l) = true
  exact flatL_map fun _ _ => by cases n <;> rfl
theorem any_false {o : Bool} {α : Type} : ∀ ds : List α, dAny [.lst o (ds.map fun _ => .bl false)] = some (.bl false) := fun ds => by
  show (boolsOf (ds.map fun _ => D.bl false)).map (fun ns => D.bl (ns.any id)) = _
  have e : (ds.map fun _ => D.bl false) = (ds.map fun _ => false).map D.bl := by simp
  rw [e, boolsOf_map, Option.map_some]
  congr 2
  simp
theorem ne_ll {a b : Bool} {l : List Nat} : dNe [.lst a (natL l), .lst b (natL l)] = some (.bl false) := by
  have f : flatL 63 (natL l) = true := flatL_map fun _ _ => rfl
  unfold dNe
  dsimp only
  rw [show flat 64 (.lst a (natL l)) = flatL 63 (natL l) from rfl, show flat 64 (.lst b (natL l)) = flatL 63 (natL l) from rfl, f, deq, deqL_self f]; rfl
theorem add_nat {r o : List Nat} (h : r.length + o.length ≤ 1000) : dAdd [.tup (natL r), .tup (natL o)] = some (.tup (natL (r ++ o))) := by
  show (if (natL r).length + (natL o).length ≤ sizeLine then some (D.tup (natL r ++ natL o)) else none) = _
  rw [natL_length, natL_length, if_pos (Nat.le_trans h (by decide)), natL_app]
theorem right_wp {n : Nat} {h : Hand} {s : Sy} {S : Nat} (hs : SyOk s S) (h0 : 0 < S) (hS : S ≤ 2 ^ 40) (ok : HandOk (n + 1000) h) {Q : D → Env → Prop}
    (q : ∀ h', HandOk n h' → Q (.bl true) [some (handO true h'), some (.int (s.many : Nat)), some (.tup (mvL s)), some (sysO false s)]) :
    wpE m__law_is_right [some (handO true h), some (.int (s.many : Nat)), some (.tup (mvL s)), some (sysO false s)] Q := by
  have m12 := hs.m12
  unfold m__law_is_right b__law_is_right
  try boot_fast
  refine lrow_wp (n := n + 500) hs ok fun r h1 hr hl ok => ?_
  try boot_fast
  refine lrow_wp (n := n) hs ok fun o h2 ho hlo ok => ?_
  try boot_fast
  unfold b__law_is_right_9
  try boot_fast
  refine comp_range (fun y => [some (handO true h2), some (.int (s.many : Nat)), some (.tup (mvL s)), some (sysO false s), some (.tux (natL r)), some (.tux (natL o)), none, none, none, y]) (fun i => .int (i : Nat)) (fun i => iD (go s r i)) (K := s.many) (fun _ _ => rfl) (fun _ => by show 9 < 10; decide) (fun y => by cases y <;> rfl) ?_
  try boot_fast
  refine ⟨⟨by omega, by omega⟩, ?_⟩
  rw [rangeL_map]
  refine ⟨none, rfl, rfl, by omega, fun i hi => ?_, ?_⟩
  · try boot_fast
    refine gone_wp hs hr hi ?_
    try boot_fast
    exact ⟨_, rfl, rfl⟩
  have el : (List.range s.many).map (fun i => iD (go s r i)) = natL (allL s r) := by
    unfold allL natL
    rw [List.map_map]; rfl
  rw [el]
  try boot_fast
  unfold b__law_is_right_8
  try boot_fast
  refine ledall_wp hs hr hl ?_
  try boot_fast
  rw [ne_self (flat_nat (n := 63))]
  try boot_fast
  refine lotb_wp hs hr hl ?_
  try boot_fast
  rw [sortSet_nat (by rw [allL_len]; omega)]
  try boot_fast
  rw [ne_self (flat_lot (n := 63))]
  try boot_fast
  unfold b__law_is_right_7
  try boot_fast
  refine comp_range (fun y => [some (handO true h2), some (.int (s.many : Nat)), some (.tup (mvL s)), some (sysO false s), some (.tux (natL r)), some (.tux (natL o)), some (.tup (natL (allL s r))), none, none, y]) (fun i => .int (i : Nat)) (fun i => iD (go s r i)) (K := s.many) (fun _ _ => rfl) (fun _ => by show 9 < 10; decide) (fun y => by cases y <;> rfl) ?_
  try boot_fast
  refine ⟨⟨by omega, by omega⟩, ?_⟩
  rw [rangeL_map]
  refine ⟨_, rfl, rfl, by omega, fun i hi => ?_, ?_⟩
  · try boot_fast
    refine led_wp hs hr hl hi ?_
    try boot_fast
    exact ⟨_, rfl, rfl⟩
  rw [el]
  try boot_fast
  unfold b__law_is_right_6
  try boot_fast
  rw [ne_ll]
  try boot_fast
  rw [show natL (allL s r) = (allL s r).map iD from rfl]
  refine comp_list (fun y => [some (handO true h2), some (.int (s.many : Nat)), some (.tup (mvL s)), some (sysO false s), some (.tux (natL r)), some (.tux (natL o)), some (.tup (natL (allL s r))), some (.lst false ((allL s r).map iD)), none, y]) iD (fun _ => .bl false) (l := allL s r) (fun _ _ => rfl) (fun _ => by show 9 < 10; decide) (fun y => by cases y <;> rfl) ?_
  try boot_fast
  refine ⟨_, rfl, by rw [allL_len]; omega, fun a _ => ?_, ?_⟩
  · exact ⟨_, rfl, _, rfl, rfl⟩
  rw [any_false]
  try boot_fast
  unfold b__law_is_right_5
  try boot_fast
  refine shareof_wp hs h0 hS hr hl ?_
  try boot_fast
  refine lshare_wp hs h0 hS hr hl ?_
  try boot_fast
  rw [ne_self (flat_q (n := 63))]
  try boot_fast
  unfold b__law_is_right_4
  try boot_fast
  rw [natL_length, natL_length]
  by_cases hlen : (400 : Int) < (r.length : Nat) + (o.length : Nat)
  · left
    refine ⟨decide_eq_true hlen, ?_⟩
    exact q h2 ok
  right
  refine ⟨decide_eq_false hlen, ?_⟩
  unfold b__law_is_right_3
  try boot_fast
  refine ledall_wp hs ho hlo ?_
  try boot_fast
  unfold b__law_is_right_2
  try boot_fast
  have hro : ∀ k ∈ r ++ o, k < s.K := fun k hk => (List.mem_append.mp hk).elim (hr k) (ho k)
  have hlro : (r ++ o).length ≤ 400 := by rw [List.length_append]; omega
  rw [add_nat (by omega)]
  try boot_fast
  refine ledall_wp hs hro hlro ?_
  try boot_fast
  rw [show D.tup (natL (allL s r)) = .tup ((allL s r).map iD) from rfl]
  refine comp_list (fun y => [some (handO true h2), some (.int (s.many : Nat)), some (.tup (mvL s)), some (sysO false s), some (.tux (natL r)), some (.tux (natL o)), some (.tup ((allL s r).map iD)), some (.lst false ((allL s r).map iD)), some (.tup (natL (allL s o))), y]) iD (fun i => iD (go s o i)) (l := allL s r) (fun _ _ => rfl) (fun _ => by show 9 < 10; decide) (fun y => by cases y <;> rfl) ?_
  try boot_fast
  refine ⟨_, rfl, by rw [allL_len]; omega, fun a ha => ?_, ?_⟩
  · obtain ⟨i, hi, rfl⟩ := List.mem_map.mp ha
    have hgo := go_lt hs hr (List.mem_range.mp hi)
    rw [show iD (go s r i) = .int (go s r i : Nat) from rfl]
    try boot_fast
    rw [allL_at hgo]
    try boot_fast
    exact ⟨_, rfl, rfl⟩
  have e2 : (allL s r).map (fun i => iD (go s o i)) = natL (allL s (r ++ o)) := by
    unfold allL natL
    rw [List.map_map, List.map_map]
    refine List.map_congr_left fun i _ => ?_
    show iD (go s o (go s r i)) = iD (go s (r ++ o) i)
    rw [go_two]
  rw [e2]
  try boot_fast
  rw [ne_self (flat_nat (n := 63))]
  try boot_fast
  unfold b__law_is_right_1
  try boot_fast
  rw [add_nat (by omega)]
  try boot_fast
  refine shareof_wp hs h0 hS hro hlro ?_
  try boot_fast
  refine lshare_wp hs h0 hS hr hl ?_
  try boot_fast
  refine lshare_wp hs h0 hS ho hlo ?_
  try boot_fast
  refine ltimesB_wp (share_FB hs h0 hS hr hl) (share_FB hs h0 hS ho hlo) ?_
  try boot_fast
  rw [← share_two, eq_self' (flat_q (n := 63))]
  try boot_fast
  exact q h2 ok
end VE
namespace VE
open PySem PySem.Spec PyProof.Rows L2
local macro_rules | `(tactic| boot_fast) => `(tactic| simp only [wp_def, wp_seq, wp_ret, wp_expr, wp_set, wp_ifS, wp_put, wp_fldP, wp_par, wp_asg, wp_nm, wp_tup2, wp_pass, wp_nil, wp_brk, wp_badS, wp_for, wp_var, wp_c, wpO_nil, wpO_ex, wpO_slot, wp_ops, wp_and, wp_or, wp_not, wp_if, wp_slLU, wp_chain, wp_mut, wpM_nil, wpM_cons, wp_disp, wpI_of, wpI_range1, wpI_enum, wp_tup3, items_l, items_t, items_r, tuple_l, tuple_t, list_l, list_t, Int.toNat_natCast, wp_call, wp_make, pb_nil, pb_slot, pb_ex, fin_nil, fin_c, fz_i, fz_s, fz_b, fz_n, fz_t, fz_r, fz_l, fz_d, fz_o, pow_18, pow_9, pow_10, isi_ii, isi_ib, isi_it, isi_tt, isi_ss, len_t, len_l, idx_t, idx_l, tup_e, lst_e, at_0, at_1, at_2, two_ii, List.all_cons, List.all_nil, Bool.and_self, Bool.true_and, Bool.and_true, Bool.false_and, Bool.and_false, Bool.not_true, Bool.not_false, List.contains_cons, List.contains_nil, Nat.reduceBEq, Int.reduceBEq, ci_0, ci_1, ci_2, ci_3, ci_4, ci_5, ci_6, beq_self_eq_true, Bool.or_false, Bool.or_true, Bool.false_or, Bool.true_or, if_true', sget_0, sget_s, ex_some, ex_pair, ex_sbl, ex_slst, ex_2, frz_int, frz_str, frz_bl, frz_non, frz_tup, frz_lst, frz_rol, frz_dk, frz_ins, add_ii, sub_ii, neg_i, div_ii, mod_ii, cmp_ii, int_i, eq_ii, ne_ii, one_i, List.replicate, List.cons_append, List.nil_append, List.append_nil, List.length_cons, List.length_nil, List.set_cons_zero, List.set_cons_succ, Option.isSome_some, Option.isSome_none, D.bl.injEq, D.int.injEq, reduceCtorEq, true_and, and_true, false_and, and_false, or_false, false_or, Bool.true_eq_false, Bool.false_eq_true, if_true, if_false, List.map, List.map_cons, List.map_nil, Nat.reduceLT, Nat.reduceAdd, Nat.reduceLeDiff, Nat.zero_lt_succ, Nat.lt_add_left_iff_pos, Nat.le_add_left, exists_eq_left', exists_eq_left])
local macro_rules | `(tactic| boot_fast) => `(tactic| simp only [wp_def, wp_seq, wp_ret, wp_expr, wp_set, wp_ifS, wp_put, wp_fldP, wp_par, wp_asg, wp_nm, wp_tup2, wp_pass, wp_nil, wp_brk, wp_badS, wp_for, wp_var, wp_c, wpO_nil, wpO_ex, wpO_slot, wp_ops, wp_and, wp_or, wp_not, wp_if, wp_slLU, wp_chain, wp_mut, wpM_nil, wpM_cons, wp_disp, wpI_of, wpI_range1, wpI_enum, wp_tup3, items_l, items_t, items_r, tuple_l, tuple_t, list_l, list_t, Int.toNat_natCast, wp_call, wp_make, pb_nil, pb_slot, pb_ex, fin_nil, fin_c, fz_i, fz_s, fz_b, fz_n, fz_t, fz_r, fz_l, fz_d, fz_o, pow_18, pow_9, pow_10, isi_ii, isi_ib, isi_it, isi_tt, isi_ss, len_t, len_l, idx_t, idx_l, tup_e, lst_e, at_0, at_1, at_2, two_ii, List.all_cons, List.all_nil, Bool.and_self, Bool.true_and, Bool.and_true, Bool.false_and, Bool.and_false, Bool.not_true, Bool.not_false, List.contains_cons, List.contains_nil, Nat.reduceBEq, Int.reduceBEq, ci_0, ci_1, ci_2, ci_3, ci_4, ci_5, ci_6, beq_self_eq_true, Bool.or_false, Bool.or_true, Bool.false_or, Bool.true_or, if_true', fz_q, frz_q, q_0, q_1, q_len, q_tup, decide_true, decide_false, fz_sys, frz_sys, sys_many, sys_moves, mvL_len, ldL_len, ql_len, fz_h, sum_nat, wp_wk, wk_x, fz_x, frz_x, isc_sys, isc_tup, tupleX_l, tupX_1, h_cells, h_at, h_great, h_seed, h_turn, sget_0, sget_s, ex_some, ex_pair, ex_sbl, ex_slst, ex_2, frz_int, frz_str, frz_bl, frz_non, frz_tup, frz_lst, frz_rol, frz_dk, frz_ins, add_ii, sub_ii, neg_i, div_ii, mod_ii, cmp_ii, int_i, eq_ii, ne_ii, one_i, List.replicate, List.cons_append, List.nil_append, List.append_nil, List.length_cons, List.length_nil, List.set_cons_zero, List.set_cons_succ, Option.isSome_some, Option.isSome_none, D.bl.injEq, D.int.injEq, reduceCtorEq, true_and, and_true, false_and, and_false, or_false, false_or, Bool.true_eq_false, Bool.false_eq_true, if_true, if_false, List.map, List.map_cons, List.map_nil, Nat.reduceLT, Nat.reduceAdd, Nat.reduceLeDiff, Nat.zero_lt_succ, Nat.lt_add_left_iff_pos, Nat.le_add_left, exists_eq_left', exists_eq_left])
def absD : D → D
  | .int a => .int (if a < 0 then -a else a)
  | d => d
theorem hand_wp {ns : List Int} {Q : D → Env → Prop} (hl : ns.length ≤ 63) (q : ∀ h, HandOk 100000 h → Q (handO true h) [some (.rol (ns.map D.int))]) : wpE m__law_hand [some (.rol (ns.map D.int))] Q := by
  unfold m__law_hand b__law_hand
  try boot_fast
  have es : dSlice false true [.rol (ns.map D.int), .int 63] = some (.lst true (ns.map D.int)) := by
    show some (D.lst true (((ns.map D.int).drop (HT.sIx (ns.map D.int).length 0 none)).take (HT.sIx (ns.map D.int).length (ns.map D.int).length (some ((63 : Nat) : Int)) - HT.sIx (ns.map D.int).length 0 none))) = _
    rw [HT.sIx_none, HT.sIx_nat, List.drop_zero, Nat.sub_zero, List.take_of_length_le]
    rw [List.length_map]
    omega
  refine comp_map (fun y => [some (.rol (ns.map D.int)), none, y]) absD (y := none) (ds := ns.map D.int) rfl ?_ (by rw [List.length_map]; exact small_lt (by omega)) (fun _ _ => rfl) (fun _ => by show 2 < 3; decide) (fun y => by cases y <;> rfl) (fun d hd => ?_) ?_
  · try boot_fast
    rw [es]
    try boot_fast
  · obtain ⟨k, hk, rfl⟩ := List.mem_map.mp hd
    try boot_fast
    exact ⟨_, rfl, _, rfl, rfl⟩
  · have em : (ns.map D.int).map absD = (ns.map fun a : Int => if a < 0 then -a else a).map D.int := by
      rw [List.map_map, List.map_map]
      rfl
    rw [em]
    try boot_fast
    unfold b__law_hand_1
    try boot_fast
    refine ⟨by decide, ?_⟩
    refine q ⟨ns.map fun a : Int => if a < 0 then -a else a, 0, 0, 977 + ((ns.map fun a : Int => if a < 0 then -a else a).map D.int).length, 0⟩ ⟨?_, Int.le_refl 0, Int.le_refl 0, ?_, ?_, Int.le_refl 0, ?_⟩
    · intro c hc
      obtain ⟨a, _, rfl⟩ := List.mem_map.mp hc
      split <;> omega
    · show (0 : Int) ≤ 977 + ((List.length _ : Nat) : Int)
      omega
    · show (977 : Int) + ((List.length _ : Nat) : Int) < 2147483648
      rw [List.length_map, List.length_map]
      omega
    · show (0 : Int) + ((100000 : Nat) : Int) ≤ 1099511627776
      decide
theorem bl_ne {x : Bool} : dNe [.bl x, .bl x] = some (.bl false) := ne_self rfl
theorem turn_wp {n : Nat} {h : Hand} {x0 x2 x3 x4 x5 x6 x7 : Option D} {NN B : Env → Prop} {R : D → Env → Prop} (ok : HandOk (n + 10000) h)
    (q : ∀ h' x2 x3 x4 x5 x6 x7, HandOk n h' → NN [x0, some (handO true h'), x2, x3, x4, x5, x6, x7]) :
    wpS b_law_9 [x0, some (handO true h), x2, x3, x4, x5, x6, x7] NN R B := by
  unfold b_law_9
  try boot_fast
  refine size_wp (n := n + 9900) (ok.le (by omega)) fun m h1 m1 m12 ok => ?_
  try boot_fast
  unfold b_law_8
  try boot_fast
  refine draw_nat (many := 12) (n := n + 9899) ok (by decide) fun r h2 _ ok => ?_
  try boot_fast
  have rest : ∀ (w : Nat) (ee : M), 1 ≤ w → w ≤ 24 → wpE m__law_moves [some (handO true h2), some (.int (m : Nat)), some (.int (w : Nat))] fun d ρa => 4 < List.length (putBack [.slot 1, .ex (eVar 3), .ex ee] ρa [x0, some (handO true h2), x2, some (.int (m : Nat)), x4, x5, x6, x7]) ∧
      wpS b_law_7 (List.set (putBack [.slot 1, .ex (eVar 3), .ex ee] ρa [x0, some (handO true h2), x2, some (.int (m : Nat)), x4, x5, x6, x7]) 4 (some d)) NN R B := fun w ee a1 a2 => by
    refine moves_wp (n := n + 6899) (M := w) (ok.le (by omega)) m1 m12 a1 a2 fun s S h3 hm _ hs h0 hS ok => ?_
    subst hm
    try boot_fast
    have hS2 : S ≤ 2 ^ 4000 := Nat.le_trans hS (Nat.pow_le_pow_right (by decide) (by decide))
    unfold b_law_7
    try boot_fast
    refine init_wp hs h0 hS2 ?_
    try boot_fast
    refine ⟨_, _, rfl, ?_⟩
    try boot_fast
    unfold b_law_6
    try boot_fast
    rw [ne_self (flat_mv (s := s))]
    try boot_fast
    refine wp_ownEq ?_
    try boot_fast
    refine init_wp hs h0 hS2 ?_
    try boot_fast
    refine ⟨_, _, rfl, false, _, _, sysO false s, rfl, rfl, ?_⟩
    refine syseq_wp rfl ?_
    rw [show deq (.tup (mvL s)) (.tup (mvL s)) = true from deq_self (flat_mv (s := s))]
    try boot_fast
    unfold b_law_5
    try boot_fast
    refine moves_wp (n := n + 3000) (M := 3) (ok.le (by omega)) m1 m12 (by decide) (by decide) fun t T h4 hm2 _ ht t0 hT ok => ?_
    have hT2 : T ≤ 2 ^ 4000 := Nat.le_trans hT (Nat.pow_le_pow_right (by decide) (by decide))
    try boot_fast
    unfold b_law_4
    rw [← hm2]
    try boot_fast
    refine wp_ownEq ?_
    try boot_fast
    refine init_wp ht t0 hT2 ?_
    try boot_fast
    refine ⟨_, _, rfl, ?_⟩
    try boot_fast
    rw [hm2]
    refine ⟨false, _, _, sysO false s, rfl, rfl, ?_⟩
    refine syseq_wp hm2 ?_
    refine ⟨_, rfl, ?_⟩
    try boot_fast
    rw [eq_mv]
    try boot_fast
    rw [bl_ne]
    try boot_fast
    refine wp_ownEq ?_
    try boot_fast
    refine ⟨false, _, _, _, rfl, rfl, ?_⟩
    refine syseqT_wp ?_
    refine ⟨_, rfl, ?_⟩
    try boot_fast
    refine wp_ownEq ?_
    try boot_fast
    refine ⟨false, _, _, _, rfl, rfl, ?_⟩
    refine syseqT_wp ?_
    refine ⟨_, rfl, ?_⟩
    try boot_fast
    unfold b_law_3
    try boot_fast
    refine ⟨⟨by decide, by decide⟩, ?_⟩
    rw [show Int.toNat 3 = 3 from rfl, rangeL_map]
    refine wp_fRange (fun j ρ => ∃ h5 y, HandOk (n + (3 - j) * 1000) h5 ∧ ρ = [x0, some (handO true h5), x2, some (.int (s.many : Nat)), some (.tup (mvL s)), some (sysO false s), some (.tup (mvL t)), y]) ⟨h4, _, ok, rfl⟩ (fun j ρ hj hI => ?_) (fun ρ hI => ?_)
    · obtain ⟨h5, y, ok5, rfl⟩ := hI
      unfold b_law_2
      try boot_fast
      refine right_wp (n := n + (3 - (j + 1)) * 1000) hs h0 hS (ok5.le (by omega)) fun h6 ok6 => ?_
      try boot_fast
      exact ⟨h6, _, ok6, rfl⟩
    · obtain ⟨h5, y, ok5, rfl⟩ := hI
      exact q h5 _ _ _ _ _ _ (ok5.le (by omega))
  by_cases hr : (0 : Int) < (r : Nat)
  · left
    exact ⟨decide_eq_true hr, rest 6 _ (by decide) (by decide)⟩
  · right
    exact ⟨decide_eq_false hr, rest 24 _ (by decide) (by decide)⟩
theorem law_pure (ns : List Int) (hl : ns.length ≤ 63) (hb : ∀ z ∈ ns, Builtin.Int.intBits z ≤ 1048576) : ∃ ρ', m_law [some (.rol (ns.map D.int))] = .ok (.bl true) ρ' := by
  have key : wpE m_law [some (.rol (ns.map D.int))] fun d _ => d = .bl true := by
    unfold m_law b_law
    try boot_fast
    refine hand_wp hl fun h ok => ?_
    try boot_fast
    unfold b_law_10
    try boot_fast
    refine ⟨⟨by decide, by decide⟩, ?_⟩
    rw [show Int.toNat 3 = 3 from rfl, rangeL_map]
    refine wp_fRange (fun j ρ => ∃ h2 x2 x3 x4 x5 x6 x7, HandOk (100 + (3 - j) * 10000) h2 ∧ ρ = [some (.rol (ns.map D.int)), some (handO true h2), x2, x3, x4, x5, x6, x7])
      ⟨h, none, none, none, none, none, none, ok.le (by decide), rfl⟩ (fun j ρ hj hI => ?_) (fun ρ hI => ?_)
    · obtain ⟨h2, x2, x3, x4, x5, x6, x7, ok2, rfl⟩ := hI
      try boot_fast
      refine turn_wp (n := 100 + (3 - (j + 1)) * 10000) (ok2.le (by omega)) fun h' x2 x3 x4 x5 x6 x7 ok' => ?_
      exact ⟨h', _, _, _, _, _, _, ok', rfl⟩
    · obtain ⟨h2, x2, x3, x4, x5, x6, x7, ok2, rfl⟩ := hI
      unfold b_law_1
      try boot_fast
  obtain ⟨d, ρ', e, h⟩ := wpE_ok key
  rw [h] at e
  exact ⟨ρ', e⟩
end VE
set_option maxHeartbeats 4000000
open PySem PySem.W PySem.Calls PyProof.Rows VE in
theorem PySem.Challenge.cw_asifforever_k01_whole_rows_led_holds : PySem.Challenge.rw_asifforever_k01_whole_rows_led.Holds := by
  w_on; o_law
  refine HandSHeadRun.head_any (r := OpenLaw.row PySem.Challenge.rw_asifforever_k01_whole_rows_led) (q := view (OpenLaw.row PySem.Challenge.rw_asifforever_k01_whole_rows_led).prog [47]) (H := VE.hk) (ob := VE.ob) (M := 3000) (loose := VE.nms) (d := HandSHeadRun.topDef (OpenLaw.row PySem.Challenge.rw_asifforever_k01_whole_rows_led).prog 47) (kwd := []) VE.ob_eq
    (by kernel_rfl) (fun s => by kernel_rfl) VE.run (by kernel_rfl) (by kernel_rfl) (by kernel_rfl) (by rfl) (by first | assumption | decide +kernel) (by decide +kernel) ⟨rfl, rfl, rfl, rfl, rfl, by decide +kernel⟩ ?hw ?hc
  case hw => w_witness2
  case hc =>
    refine VE.walk_V (l := PySem.Challenge.rw_asifforever_k01_whole_rows_led) (n := 63) (k := 43) (x := "_law_script") (CX := fun w => L2.CX (PySem.Challenge.rw_asifforever_k01_whole_rows_led).prog w) rfl (by decide) (by kernel_rfl) ⟨rfl, by decide, by decide⟩ (by kernel_rfl) ?F (fun w => VE.cx_no)
    intro w mg fa h Y sr G hmg0
    obtain ⟨K, KX, c⟩ := Y
    have hmg : mg ("law" : PySem.Str) = some (.ref fa) := by
      have e : (HandSHeadRun.topDef (OpenLaw.row PySem.Challenge.rw_asifforever_k01_whole_rows_led).prog 47).name = ("law" : PySem.Str) := by kernel_rfl
      rw [← e]
      exact hmg0
    obtain ⟨fd, hb, hF⟩ := VE.facts (P := (PySem.Challenge.rw_asifforever_k01_whole_rows_led).prog) (w := w) KX G hmg c sr rfl
    exact ⟨K, fd, _, KX, hb, fun H a ns hl hbits _ hS => VE.law_end hS (VE.law_pure ns hl hbits), hF⟩
