import PyProof.Rows.All
import Wide.All
import OpenK.AllK
import Wide.FinOn
import KE.KStateDown
import Lean
import HandS.ForMost
import HandS.Defaults
import HandS.Exc
import HandS.Flow
import HandS.Zip
import HandS.TupAny
import HandS.IsInst
import HandS.Deep
import HandS.SetKeys
import KE.KTupSum
import PyProof.ReprRoads
import HandS.SetBool
import PyProof.WalkInts
import HandS.HeadEnd
import HandS.Ends
import HandS.Codes
import HandS.Head0
import HandS.Head1
import HandS.Head2
import HandS.HeadHook1
import HandS.HeadHook2
import PySem.Challenge.RW_fullbelts_k66_whole_shuffles
set_option Elab.async false
set_option linter.all false
set_option maxRecDepth 100000
/-! DL: a layer of data over HandS: values without a heap (D), a store of cells that change (Store), judgements WE, WT, WA, WS, WG, WI by weakest preconditions over these. -/
namespace DL
open PySem PySem.Spec L2

/-! ### data -/
inductive D where
  | non | bl (b : Bool) | int (i : Int) | str (x : Str) | ty (n : String) | ptr (a : Addr) | tup (xs : List D) | lst (xs : List D) | opq (φ : Hp → Addr → Prop)

mutual
/-- v stands for the data d; what d holds stands in the part G of the heap that never changes -/
def Rep (G : Hp) : D → V → Prop
  | .non, v => v = .non
  | .bl b, v => v = .bl b
  | .int i, v => v = .int i
  | .str x, v => v = .str x
  | .ty n, v => v = .ty n
  | .ptr a, v => v = .ref a
  | .tup ds, v => ∃ a xs, v = .ref a ∧ G a = some (.tup xs) ∧ RepL G ds xs
  | .lst ds, v => ∃ a xs, v = .ref a ∧ G a = some (.lst xs) ∧ RepL G ds xs
  | .opq φ, v => ∃ a, v = .ref a ∧ ∀ G' : Hp, (∀ b o, G b = some o → G' b = some o) → φ G' a
def RepL (G : Hp) : List D → List V → Prop
  | [], xs => xs = []
  | d :: ds, xs => ∃ v r, xs = v :: r ∧ Rep G d v ∧ RepL G ds r
end
def Grow (G G' : Hp) : Prop := ∀ a o, G a = some o → G' a = some o
theorem Grow.refl (G : Hp) : Grow G G := fun _ _ h => h
theorem Grow.trans {A B C : Hp} (h : Grow A B) (h' : Grow B C) : Grow A C := fun a o e => h' a o (h a o e)
mutual
theorem Rep.mono {G G' : Hp} (h : Grow G G') : ∀ {d : D} {v : V}, Rep G d v → Rep G' d v
  | .non, _, r => r
  | .bl _, _, r => r
  | .int _, _, r => r
  | .str _, _, r => r
  | .ty _, _, r => r
  | .ptr _, _, r => r
  | .tup ds, _, ⟨a, xs, e, g, r⟩ => ⟨a, xs, e, h _ _ g, RepL.mono h r⟩
  | .lst ds, _, ⟨a, xs, e, g, r⟩ => ⟨a, xs, e, h _ _ g, RepL.mono h r⟩
  | .opq _, _, ⟨a, e, r⟩ => ⟨a, e, fun G2 h2 => r G2 fun b o z => h2 b o (h b o z)⟩
theorem RepL.mono {G G' : Hp} (h : Grow G G') : ∀ {ds : List D} {vs : List V}, RepL G ds vs → RepL G' ds vs
  | [], _, r => r
  | _ :: _, _, ⟨v, r, e, r1, r2⟩ => ⟨v, r, e, Rep.mono h r1, RepL.mono h r2⟩
end
section
variable {G : Hp}
theorem RepL.nil : RepL G [] [] := rfl
theorem RepL.cons {d : D} {v : V} {ds : List D} {vs : List V} (h : Rep G d v) (t : RepL G ds vs) : RepL G (d :: ds) (v :: vs) := ⟨v, vs, rfl, h, t⟩
theorem RepL.length : ∀ {ds : List D} {vs : List V}, RepL G ds vs → vs.length = ds.length
  | [], _, r => by rw [show _ = [] from r]; rfl
  | _ :: _, _, ⟨v, r, e, _, r2⟩ => by rw [e, List.length_cons, List.length_cons, RepL.length r2]
theorem RepL.get : ∀ {ds : List D} {vs : List V} {i : Nat} {d : D}, RepL G ds vs → ds[i]? = some d → ∃ v, vs[i]? = some v ∧ Rep G d v
  | [], _, _, _, _, h => by simp at h
  | _ :: _, _, 0, d, ⟨v, r, e, r1, _⟩, h => by
    have q := Option.some.inj h
    subst q
    exact ⟨v, by rw [e]; rfl, r1⟩
  | _ :: _, _, i + 1, d, ⟨v, r, e, _, r2⟩, h => by
    obtain ⟨u, hu, ru⟩ := RepL.get (i := i) r2 h
    exact ⟨u, by rw [e]; exact hu, ru⟩
theorem RepL.of_get : ∀ {ds : List D} {vs : List V} {i : Nat} {v : V}, RepL G ds vs → vs[i]? = some v → ∃ d, ds[i]? = some d ∧ Rep G d v := fun {ds vs i v} r h => by
  have hl := r.length
  have hi : i < ds.length := by
    obtain ⟨q, _⟩ := List.getElem?_eq_some_iff.mp h
    omega
  obtain ⟨u, hu, ru⟩ := r.get (List.getElem?_eq_getElem hi)
  rw [h] at hu
  cases hu
  exact ⟨_, List.getElem?_eq_getElem hi, ru⟩
theorem RepL.append : ∀ {as bs : List D} {us vs : List V}, RepL G as us → RepL G bs vs → RepL G (as ++ bs) (us ++ vs)
  | [], _, _, _, r, s => by rw [show _ = [] from r]; exact s
  | _ :: _, _, _, _, ⟨v, r, e, r1, r2⟩, s => by rw [e]; exact ⟨v, _, rfl, r1, RepL.append r2 s⟩
theorem RepL.take : ∀ {ds : List D} {vs : List V} (n : Nat), RepL G ds vs → RepL G (ds.take n) (vs.take n)
  | _, _, 0, _ => by simp [RepL]
  | [], _, n + 1, r => by rw [show _ = [] from r]; simp [RepL]
  | _ :: _, _, n + 1, ⟨v, r, e, r1, r2⟩ => by rw [e]; exact ⟨v, _, rfl, r1, RepL.take n r2⟩
theorem RepL.drop : ∀ {ds : List D} {vs : List V} (n : Nat), RepL G ds vs → RepL G (ds.drop n) (vs.drop n)
  | _, _, 0, r => r
  | [], _, n + 1, r => by rw [show _ = [] from r]; simp [RepL]
  | _ :: _, _, n + 1, ⟨v, r, e, r1, r2⟩ => by rw [e]; exact RepL.drop n r2
theorem RepL.set {d : D} {v : V} (h : Rep G d v) : ∀ {ds : List D} {vs : List V} (i : Nat), RepL G ds vs → RepL G (ds.set i d) (vs.set i v)
  | [], _, _, r => by rw [show _ = [] from r]; simp [RepL]
  | _ :: _, _, 0, ⟨u, r, e, _, r2⟩ => by rw [e]; exact ⟨v, r, rfl, h, r2⟩
  | _ :: _, _, i + 1, ⟨u, r, e, r1, r2⟩ => by rw [e]; exact ⟨u, _, rfl, r1, RepL.set h i r2⟩
theorem RepL.eraseIdx : ∀ {ds : List D} {vs : List V} (i : Nat), RepL G ds vs → RepL G (ds.eraseIdx i) (vs.eraseIdx i)
  | [], _, _, r => by rw [show _ = [] from r]; simp [RepL]
  | _ :: _, _, 0, ⟨u, r, e, _, r2⟩ => by rw [e]; exact r2
  | _ :: _, _, i + 1, ⟨u, r, e, r1, r2⟩ => by rw [e]; exact ⟨u, _, rfl, r1, RepL.eraseIdx i r2⟩
theorem RepL.dropLast : ∀ {ds : List D} {vs : List V}, RepL G ds vs → RepL G ds.dropLast vs.dropLast
  | ds, vs, r => by
    have hl := r.length
    rw [List.dropLast_eq_take, List.dropLast_eq_take, hl]
    exact r.take _
theorem RepL.reverse : ∀ {ds : List D} {vs : List V}, RepL G ds vs → RepL G ds.reverse vs.reverse
  | [], _, r => by rw [show _ = [] from r]; exact RepL.nil
  | _ :: _, _, ⟨u, r, e, r1, r2⟩ => by rw [e, List.reverse_cons, List.reverse_cons]; exact (RepL.reverse r2).append (.cons r1 .nil)
theorem RepL.snoc {d : D} {v : V} {ds : List D} {vs : List V} (h : RepL G ds vs) (q : Rep G d v) : RepL G (ds ++ [d]) (vs ++ [v]) := h.append (.cons q .nil)
theorem RepL.map_int : ∀ {ns : List Int} {vs : List V}, RepL G (ns.map D.int) vs → vs = ns.map V.int
  | [], _, r => r
  | _ :: _, _, ⟨u, r, e, r1, r2⟩ => by rw [e, show u = _ from r1, RepL.map_int r2]; rfl
theorem RepL.map_bl : ∀ {ns : List Bool} {vs : List V}, RepL G (ns.map D.bl) vs → vs = ns.map V.bl
  | [], _, r => r
  | _ :: _, _, ⟨u, r, e, r1, r2⟩ => by rw [e, show u = _ from r1, RepL.map_bl r2]; rfl
theorem RepL.map_str : ∀ {ns : List Str} {vs : List V}, RepL G (ns.map D.str) vs → vs = ns.map V.str
  | [], _, r => r
  | _ :: _, _, ⟨u, r, e, r1, r2⟩ => by rw [e, show u = _ from r1, RepL.map_str r2]; rfl
theorem RepL.ints : ∀ (ns : List Int), RepL G (ns.map D.int) (ns.map V.int)
  | [] => rfl
  | _ :: r => .cons rfl (RepL.ints r)
theorem RepL.strs : ∀ (ns : List Str), RepL G (ns.map D.str) (ns.map V.str)
  | [] => rfl
  | _ :: r => .cons rfl (RepL.strs r)
theorem RepL.replicate {d : D} {v : V} (h : Rep G d v) : ∀ n, RepL G (List.replicate n d) (List.replicate n v)
  | 0 => rfl
  | n + 1 => .cons h (RepL.replicate h n)
theorem RepL.repFlat {ds : List D} {vs : List V} (h : RepL G ds vs) : ∀ n, RepL G (List.replicate n ds).flatten (List.replicate n vs).flatten
  | 0 => rfl
  | n + 1 => by
    rw [List.replicate_succ, List.replicate_succ, List.flatten_cons, List.flatten_cons]
    exact h.append (RepL.repFlat h n)
end

/-! ### cells -/
inductive Cell where
  | lst (ds : List D)
  | ins (C : Addr) (fs : List (Str × D))
abbrev Store := Addr → Option Cell
def updS (μ : Store) (a : Addr) (c : Cell) : Store := fun b => if b = a then some c else μ b
def delS (μ : Store) (a : Addr) : Store := fun b => if b = a then none else μ b
theorem updS_same {μ : Store} {a : Addr} {c : Cell} : updS μ a c a = some c := by unfold updS; rw [if_pos rfl]
theorem updS_ne {μ : Store} {a b : Addr} {c : Cell} (h : b ≠ a) : updS μ a c b = μ b := by unfold updS; rw [if_neg h]
theorem updS_upd {μ : Store} {a : Addr} {c d : Cell} : updS (updS μ a c) a d = updS μ a d := by
  funext b; unfold updS; split <;> rfl
theorem delS_same {μ : Store} {a : Addr} : delS μ a a = none := by unfold delS; rw [if_pos rfl]
theorem delS_ne {μ : Store} {a b : Addr} (h : b ≠ a) : delS μ a b = μ b := by unfold delS; rw [if_neg h]
theorem delS_upd {μ : Store} {a : Addr} {c : Cell} (h : μ a = none) : delS (updS μ a c) a = μ := by
  funext b; unfold delS updS; split
  · next e => rw [e, h]
  · rfl
theorem updS_self {μ : Store} {a : Addr} {c : Cell} (h : μ a = some c) : updS μ a c = μ := by
  funext b; unfold updS; split
  · next e => rw [e, h]
  · rfl
theorem updS_comm {μ : Store} {a b : Addr} {c d : Cell} (h : a ≠ b) : updS (updS μ a c) b d = updS (updS μ b d) a c := by
  funext x; unfold updS
  by_cases h1 : x = a
  · by_cases h2 : x = b
    · exact absurd (h1.symm.trans h2) h
    · rw [if_neg h2, if_pos h1, if_pos h1]
  · by_cases h2 : x = b
    · rw [if_pos h2, if_neg h1, if_pos h2]
    · rw [if_neg h2, if_neg h1, if_neg h1, if_neg h2]
def SubS (μ μ' : Store) : Prop := ∀ a c, μ a = some c → μ' a = some c
theorem SubS.refl (μ : Store) : SubS μ μ := fun _ _ h => h
theorem SubS.upd {μ μ' : Store} {a : Addr} {c : Cell} (h : SubS μ μ') (n : μ a = none) : SubS μ (updS μ' a c) := fun b d e => by
  rw [updS_ne (fun q => by subst q; rw [n] at e; cases e)]
  exact h b d e
theorem SubS.del {μ μ' : Store} {a : Addr} (h : SubS μ μ') (n : μ a = none) : SubS μ (delS μ' a) := fun b d e => by
  rw [delS_ne (fun q => by subst q; rw [n] at e; cases e)]
  exact h b d e
theorem SubS.upd2 {μ μ' : Store} {a : Addr} {c : Cell} (h : SubS μ μ') : SubS (updS μ a c) (updS μ' a c) := fun b d e => by
  by_cases q : b = a
  · subst q; rw [updS_same] at e ⊢; exact e
  · rw [updS_ne q] at e ⊢; exact h b d e
theorem SubS.none {μ μ' : Store} {a : Addr} (h : SubS μ μ') (n : μ' a = Option.none) : μ a = Option.none := by
  cases e : μ a with
  | none => rfl
  | some c => rw [h a c e] at n; cases n

def RepF (G : Hp) : List (Str × D) → List (Str × V) → Prop
  | [], ys => ys = []
  | (f, d) :: r, ys => ∃ v s, ys = (f, v) :: s ∧ Rep G d v ∧ RepF G r s
theorem RepF.mono {G G' : Hp} (h : Grow G G') : ∀ {fs : List (Str × D)} {ys : List (Str × V)}, RepF G fs ys → RepF G' fs ys
  | [], _, r => r
  | (_, _) :: _, _, ⟨v, s, e, r1, r2⟩ => ⟨v, s, e, r1.mono h, RepF.mono h r2⟩
theorem RepF.lookup {G : Hp} {f : Str} {d : D} : ∀ {fs : List (Str × D)} {ys : List (Str × V)}, RepF G fs ys → fs.lookup f = some d → ∃ v, ys.lookup f = some v ∧ Rep G d v
  | [], _, _, h => by cases h
  | (g, x) :: r, _, ⟨v, s, e, r1, r2⟩, h => by
    subst e
    unfold List.lookup at h ⊢
    cases q : f == g with
    | true =>
      rw [q] at h
      cases h
      exact ⟨v, rfl, r1⟩
    | false =>
      rw [q] at h
      exact RepF.lookup r2 h
theorem RepF.none {G : Hp} {f : Str} : ∀ {fs : List (Str × D)} {ys : List (Str × V)}, RepF G fs ys → fs.lookup f = Option.none → ys.lookup f = Option.none
  | [], _, r, _ => by rw [show _ = [] from r]; rfl
  | (g, x) :: r, _, ⟨v, s, e, r1, r2⟩, h => by
    subst e
    unfold List.lookup at h ⊢
    cases q : f == g with
    | true => rw [q] at h; cases h
    | false =>
      rw [q] at h
      exact RepF.none r2 h
theorem RepF.length {G : Hp} : ∀ {fs : List (Str × D)} {ys : List (Str × V)}, RepF G fs ys → ys.length = fs.length
  | [], _, r => by rw [show _ = [] from r]; rfl
  | (_, _) :: _, _, ⟨v, s, e, r1, r2⟩ => by rw [e, List.length_cons, List.length_cons, RepF.length r2]
def putFD (f : Str) (v : D) : List (Str × D) → List (Str × D)
  | [] => [(f, v)]
  | (g, x) :: r => if g = f then (g, v) :: r else (g, x) :: putFD f v r
theorem RepF.put {G : Hp} {f : Str} {d : D} {v : V} (q : Rep G d v) : ∀ {fs : List (Str × D)} {ys : List (Str × V)}, RepF G fs ys → RepF G (putFD f d fs) (putF f v ys)
  | [], _, r => by rw [show _ = [] from r]; exact ⟨v, [], rfl, q, rfl⟩
  | (g, x) :: r, _, ⟨u, s, e, r1, r2⟩ => by
    subst e
    unfold putFD putF
    by_cases h : g = f
    · rw [if_pos h, if_pos h]; exact ⟨v, s, rfl, q, r2⟩
    · rw [if_neg h, if_neg h]; exact ⟨u, _, rfl, r1, RepF.put q r2⟩

def CellOk (G H : Hp) (a : Addr) : Cell → Prop
  | .lst ds => ∃ xs, H a = some (.lst xs) ∧ RepL G ds xs
  | .ins C fs => ∃ dx ys, H a = some (.ins C dx ys) ∧ RepF G fs ys
theorem CellOk.mono {G G' H H' : Hp} {a : Addr} {c : Cell} (h : Grow G G') (e : H' a = H a) (k : CellOk G H a c) : CellOk G' H' a c := by
  cases c with
  | lst ds => obtain ⟨xs, h1, h2⟩ := k; exact ⟨xs, e.trans h1, h2.mono h⟩
  | ins C fs => obtain ⟨dx, ys, h1, h2⟩ := k; exact ⟨dx, ys, e.trans h1, h2.mono h⟩
theorem CellOk.there {G H : Hp} {a : Addr} {c : Cell} (k : CellOk G H a c) : H a ≠ none := by
  cases c with
  | lst ds => obtain ⟨xs, h1, h2⟩ := k; rw [h1]; intro z; cases z
  | ins C fs => obtain ⟨dx, ys, h1, h2⟩ := k; rw [h1]; intro z; cases z

/-! ### the state -/
/-- G: what never changes; μ: the cells -/
structure Wd (G : Hp) (μ : Store) (H : Hp) : Prop where
  sub : ∀ a o, G a = some o → H a = some o
  out : ∀ a c, μ a = some c → G a = none
  cell : ∀ a c, μ a = some c → CellOk G H a c
/-- a def's entry -/
structure En where
  G : Hp
  μ : Store
  H : Hp
/-- from a def's entry on -/
structure Run (N : En) (G : Hp) (μ : Store) (H : Hp) : Prop where
  gg : ∀ a o, N.G a = some o → G a = some o
  st : ∀ a o, N.H a = some o → N.μ a = none → H a = some o
  nw : ∀ a, N.H a ≠ none → N.G a = none → G a = none
  dm : ∀ a, N.H a ≠ none → H a ≠ none
  md : ∀ a, μ a ≠ none → N.μ a ≠ none ∨ N.H a = none
def RepE (G : Hp) (ρ : List (Option D)) (σ : St) : Prop := ∀ (i : Nat) (d : D), ρ[i]? = some (some d) → ∃ v, σ[i]? = some (some v) ∧ Rep G d v
structure Cf (N : En) (ρ : List (Option D)) (μ : Store) (σ : St) (G H : Hp) : Prop where
  wd : Wd G μ H
  run : Run N G μ H
  len : ρ.length = σ.length
  env : RepE G ρ σ
/-- what is between two states: the unchanging part grows, what is in neither part stays so -/
structure Fr (G : Hp) (μ : Store) (H : Hp) (G' : Hp) (μ' : Store) (H' : Hp) : Prop where
  gg : Grow G G'
  fr : ∀ a o, H a = some o → G a = none → μ a = none → H' a = some o ∧ G' a = none ∧ μ' a = none
  dm : ∀ a, H' a = none → H a = none
theorem Fr.refl (G : Hp) (μ : Store) (H : Hp) : Fr G μ H G μ H := ⟨Grow.refl _, fun _ _ h g m => ⟨h, g, m⟩, fun _ h => h⟩
theorem Fr.trans {G G1 G2 : Hp} {μ μ1 μ2 : Store} {H H1 H2 : Hp} (a : Fr G μ H G1 μ1 H1) (b : Fr G1 μ1 H1 G2 μ2 H2) : Fr G μ H G2 μ2 H2 :=
  ⟨a.gg.trans b.gg, fun c o h g m => let ⟨h1, g1, m1⟩ := a.fr c o h g m; b.fr c o h1 g1 m1, fun c h => a.dm c (b.dm c h)⟩
theorem RepE.mono {G G' : Hp} {ρ : List (Option D)} {σ : St} (h : Grow G G') (r : RepE G ρ σ) : RepE G' ρ σ := fun i d e => let ⟨v, h1, h2⟩ := r i d e; ⟨v, h1, h2.mono h⟩
theorem Run.refl (G : Hp) (μ : Store) (H : Hp) : Run ⟨G, μ, H⟩ G μ H := ⟨fun _ _ h => h, fun _ _ h _ => h, fun _ _ h => h, fun _ h => h, fun _ h => .inl h⟩
theorem Run.trans {N : En} {G G' H H' : Hp} {μ μ' : Store} (r : Run N G μ H) (s : Run ⟨G, μ, H⟩ G' μ' H') : Run N G' μ' H' where
  gg := fun a o h => s.gg a o (r.gg a o h)
  st := fun a o h m => s.st a o (r.st a o h m) (by
    show μ a = none
    cases e : μ a with
    | none => rfl
    | some c =>
      rcases r.md a (by rw [e]; intro z; cases z) with q | q
      · exact absurd m q
      · rw [h] at q; cases q)
  nw := fun a h g => s.nw a (r.dm a h) (r.nw a h g)
  dm := fun a h => s.dm a (r.dm a h)
  md := fun a h => by
    rcases s.md a h with q | q
    · exact r.md a q
    · refine .inr ?_
      cases e : N.H a with
      | none => rfl
      | some o => exact absurd q (r.dm a (by rw [e]; intro z; cases z))
theorem Run.fr {G G' H H' : Hp} {μ μ' : Store} (s : Run ⟨G, μ, H⟩ G' μ' H') : Fr G μ H G' μ' H' where
  gg := s.gg
  fr := fun a o h g m => ⟨s.st a o h m, s.nw a (by show H a ≠ none; rw [h]; intro z; cases z) g, by
    cases e : μ' a with
    | none => rfl
    | some c =>
      rcases s.md a (by rw [e]; intro z; cases z) with q | q
      · exact absurd m q
      · rw [show H a = none from q] at h; cases h⟩
  dm := fun a h => by
    cases e : H a with
    | none => rfl
    | some o => exact absurd h (s.dm a (by show H a ≠ none; rw [e]; intro z; cases z))
theorem upd_dm {H : Hp} {p : Addr} {o : HO} : ∀ a, upd H p o a = none → H a = none := fun a h => by
  by_cases q : a = p
  · subst q; rw [upd_same] at h; cases h
  · rw [upd_ne q] at h; exact h
section
variable {N : En} {ρ : List (Option D)} {μ : Store} {σ : St} {G H : Hp}
theorem Cf.fresh (c : Cf N ρ μ σ G H) {p : Addr} (h : H p = none) : G p = none ∧ μ p = none ∧ N.H p = none := by
  refine ⟨?_, ?_, ?_⟩
  · cases e : G p with
    | none => rfl
    | some o => rw [c.wd.sub p o e] at h; cases h
  · cases e : μ p with
    | none => rfl
    | some o => exact absurd h (c.wd.cell p o e).there
  · cases e : N.H p with
    | none => rfl
    | some o => exact absurd h (c.run.dm p (by rw [e]; intro z; cases z))
/-- a new object that never changes -/
theorem Cf.newG (c : Cf N ρ μ σ G H) {p : Addr} (h : H p = none) (o : HO) : Cf N ρ μ σ (upd G p o) (upd H p o) ∧ Fr G μ H (upd G p o) μ (upd H p o) := by
  obtain ⟨g, m, n⟩ := c.fresh h
  have gr : Grow G (upd G p o) := fun a u e => by rw [upd_ne (ne_of_none e g)]; exact e
  have keep : ∀ a u, H a = some u → upd H p o a = some u := fun a u e => by rw [upd_ne (ne_of_none e h)]; exact e
  refine ⟨⟨⟨fun a u e => ?_, fun a d e => ?_, fun a d e => ?_⟩, ⟨fun a u e => gr a u (c.run.gg a u e), fun a u e z => keep a u (c.run.st a u e z), fun a e z => ?_, fun a e => ?_, c.run.md⟩, c.len, c.env.mono gr⟩, ⟨gr, fun a u e z y => ⟨keep a u e, ?_, y⟩, upd_dm⟩⟩
  · by_cases q : a = p
    · subst q; rw [upd_same] at e ⊢; exact e
    · rw [upd_ne q] at e ⊢; exact c.wd.sub a u e
  · have q : a ≠ p := fun z => by subst z; rw [m] at e; cases e
    rw [upd_ne q]; exact c.wd.out a d e
  · have q : a ≠ p := fun z => by subst z; rw [m] at e; cases e
    exact (c.wd.cell a d e).mono gr (upd_ne q)
  · have q : a ≠ p := fun z => by subst z; exact e n
    rw [upd_ne q]; exact c.run.nw a e z
  · have q : a ≠ p := fun z => by subst z; exact e n
    rw [upd_ne q]; exact c.run.dm a e
  · have q : a ≠ p := ne_of_none e h
    rw [upd_ne q]; exact z
/-- an object beside both parts -/
theorem Cf.newU (c : Cf N ρ μ σ G H) {p : Addr} (h : H p = none) (o : HO) : Cf N ρ μ σ G (upd H p o) ∧ Fr G μ H G μ (upd H p o) := by
  obtain ⟨g, m, n⟩ := c.fresh h
  have keep : ∀ a u, H a = some u → upd H p o a = some u := fun a u e => by rw [upd_ne (ne_of_none e h)]; exact e
  refine ⟨⟨⟨fun a u e => keep a u (c.wd.sub a u e), c.wd.out, fun a d e => ?_⟩, ⟨c.run.gg, fun a u e z => keep a u (c.run.st a u e z), c.run.nw, fun a e => ?_, c.run.md⟩, c.len, c.env⟩, ⟨Grow.refl _, fun a u e z y => ⟨keep a u e, z, y⟩, upd_dm⟩⟩
  · have q : a ≠ p := fun z => by subst z; rw [m] at e; cases e
    exact (c.wd.cell a d e).mono (Grow.refl _) (upd_ne q)
  · have q : a ≠ p := fun z => by subst z; exact e n
    rw [upd_ne q]; exact c.run.dm a e
/-- an object beside both parts is changed -/
theorem Cf.chgU (c : Cf N ρ μ σ G H) {p : Addr} (g : G p = none) (m : μ p = none) (n : N.H p = none) (o : HO) : Cf N ρ μ σ G (upd H p o) := by
  refine ⟨⟨fun a u e => ?_, c.wd.out, fun a d e => ?_⟩, ⟨c.run.gg, fun a u e z => ?_, c.run.nw, fun a e => ?_, c.run.md⟩, c.len, c.env⟩
  · rw [upd_ne (ne_of_none e g)]; exact c.wd.sub a u e
  · have q : a ≠ p := fun z => by subst z; rw [m] at e; cases e
    exact (c.wd.cell a d e).mono (Grow.refl _) (upd_ne q)
  · have q : a ≠ p := fun z => by subst z; rw [n] at e; cases e
    rw [upd_ne q]; exact c.run.st a u e z
  · have q : a ≠ p := fun z => by subst z; exact e n
    rw [upd_ne q]; exact c.run.dm a e
/-- an object beside both parts becomes one that never changes -/
theorem Cf.toG (c : Cf N ρ μ σ G H) {p : Addr} {o : HO} (h : H p = some o) (g : G p = none) (m : μ p = none) (n : N.H p = none) : Cf N ρ μ σ (upd G p o) H := by
  have gr : Grow G (upd G p o) := fun a u e => by rw [upd_ne (ne_of_none e g)]; exact e
  refine ⟨⟨fun a u e => ?_, fun a d e => ?_, fun a d e => ?_⟩, ⟨fun a u e => gr a u (c.run.gg a u e), c.run.st, fun a e z => ?_, c.run.dm, c.run.md⟩, c.len, c.env.mono gr⟩
  · by_cases q : a = p
    · subst q; rw [upd_same] at e; cases e; exact h
    · rw [upd_ne q] at e; exact c.wd.sub a u e
  · have q : a ≠ p := fun z => by subst z; rw [m] at e; cases e
    rw [upd_ne q]; exact c.wd.out a d e
  · exact (c.wd.cell a d e).mono gr rfl
  · have q : a ≠ p := fun z => by subst z; exact e n
    rw [upd_ne q]; exact c.run.nw a e z
/-- an object beside both parts becomes a cell -/
theorem Cf.toS (c : Cf N ρ μ σ G H) {p : Addr} {d : Cell} (h : CellOk G H p d) (g : G p = none) (m : μ p = none) (n : N.H p = none) : Cf N ρ (updS μ p d) σ G H := by
  refine ⟨⟨c.wd.sub, fun a e z => ?_, fun a e z => ?_⟩, ⟨c.run.gg, c.run.st, c.run.nw, c.run.dm, fun a e => ?_⟩, c.len, c.env⟩
  · by_cases q : a = p
    · subst q; exact g
    · rw [updS_ne q] at z; exact c.wd.out a e z
  · by_cases q : a = p
    · subst q; rw [updS_same] at z; cases z; exact h
    · rw [updS_ne q] at z; exact c.wd.cell a e z
  · by_cases q : a = p
    · subst q; exact .inr n
    · rw [updS_ne q] at e; exact c.run.md a e
/-- a cell is written -/
theorem Cf.write (c : Cf N ρ μ σ G H) {p : Addr} {d d' : Cell} {o : HO} (m : μ p = some d) (h : CellOk G (upd H p o) p d') : Cf N ρ (updS μ p d') σ G (upd H p o) ∧ Fr G μ H G (updS μ p d') (upd H p o) := by
  have g := c.wd.out p d m
  refine ⟨⟨⟨fun a u e => ?_, fun a e z => ?_, fun a e z => ?_⟩, ⟨c.run.gg, fun a u e z => ?_, c.run.nw, fun a e => ?_, fun a e => ?_⟩, c.len, c.env⟩, ⟨Grow.refl _, fun a u e z y => ?_, upd_dm⟩⟩
  · rw [upd_ne (ne_of_none e g)]; exact c.wd.sub a u e
  · by_cases q : a = p
    · subst q; exact g
    · rw [updS_ne q] at z; exact c.wd.out a e z
  · by_cases q : a = p
    · subst q; rw [updS_same] at z; cases z; exact h
    · rw [updS_ne q] at z; exact (c.wd.cell a e z).mono (Grow.refl _) (upd_ne q)
  · by_cases q : a = p
    · subst q
      rcases c.run.md a (by rw [m]; intro z; cases z) with k | k
      · exact absurd z k
      · rw [k] at e; cases e
    · rw [upd_ne q]; exact c.run.st a u e z
  · by_cases q : a = p
    · subst q; rw [upd_same]; intro z; cases z
    · rw [upd_ne q]; exact c.run.dm a e
  · by_cases q : a = p
    · subst q; exact c.run.md a (by rw [m]; intro z; cases z)
    · rw [updS_ne q] at e; exact c.run.md a e
  · have q : a ≠ p := fun k => by subst k; rw [m] at y; cases y
    rw [upd_ne q, updS_ne q]; exact ⟨e, z, y⟩
/-- a cell of this def's own making becomes data -/
theorem Cf.freeze (c : Cf N ρ μ σ G H) {p : Addr} {d : Cell} {o : HO} (m : μ p = some d) (h : H p = some o) (n : N.H p = none) : Cf N ρ (delS μ p) σ (upd G p o) H ∧ Fr G μ H (upd G p o) (delS μ p) H := by
  have g := c.wd.out p d m
  have gr : Grow G (upd G p o) := fun a u e => by rw [upd_ne (ne_of_none e g)]; exact e
  refine ⟨⟨⟨fun a u e => ?_, fun a e z => ?_, fun a e z => ?_⟩, ⟨fun a u e => gr a u (c.run.gg a u e), c.run.st, fun a e z => ?_, c.run.dm, fun a e => ?_⟩, c.len, c.env.mono gr⟩, ⟨gr, fun a u e z y => ?_, fun _ h => h⟩⟩
  · by_cases q : a = p
    · subst q; rw [upd_same] at e; cases e; exact h
    · rw [upd_ne q] at e; exact c.wd.sub a u e
  · have q : a ≠ p := fun k => by subst k; rw [delS_same] at z; cases z
    rw [delS_ne q] at z; rw [upd_ne q]; exact c.wd.out a e z
  · have q : a ≠ p := fun k => by subst k; rw [delS_same] at z; cases z
    rw [delS_ne q] at z; exact (c.wd.cell a e z).mono gr rfl
  · have q : a ≠ p := fun k => by subst k; exact e n
    rw [upd_ne q]; exact c.run.nw a e z
  · have q : a ≠ p := fun k => by subst k; exact e delS_same
    rw [delS_ne q] at e; exact c.run.md a e
  · have q : a ≠ p := fun k => by subst k; rw [m] at y; cases y
    rw [upd_ne q, delS_ne q]; exact ⟨e, z, y⟩
theorem Cf.less (c : Cf N ρ μ σ G H) {μ' : Store} (h : SubS μ' μ) : Cf N ρ μ' σ G H :=
  ⟨⟨c.wd.sub, fun a d e => c.wd.out a d (h a d e), fun a d e => c.wd.cell a d (h a d e)⟩, ⟨c.run.gg, c.run.st, c.run.nw, c.run.dm, fun a e => by
    cases q : μ' a with
    | none => exact absurd q e
    | some d => exact c.run.md a (by rw [h a d q]; intro z; cases z)⟩, c.len, c.env⟩
theorem Cf.set (c : Cf N ρ μ σ G H) (i : Nat) {d : D} {v : V} (r : Rep G d v) : Cf N (ρ.set i (some d)) μ (σ.set i (some v)) G H := by
  refine ⟨c.wd, c.run, by rw [List.length_set, List.length_set, c.len], fun j e h => ?_⟩
  by_cases q : i = j
  · subst q
    obtain ⟨hi, _⟩ := List.getElem?_eq_some_iff.mp h
    rw [List.length_set] at hi
    rw [List.getElem?_set_self hi] at h
    have h2 : i < σ.length := by rw [← c.len]; exact hi
    cases h
    exact ⟨v, by rw [List.getElem?_set_self h2], r⟩
  · rw [List.getElem?_set_ne q] at h
    rw [List.getElem?_set_ne q]
    exact c.env j e h
end
end DL
set_option Elab.async false
set_option linter.all false
set_option maxRecDepth 100000
namespace DL
open PySem PySem.Spec L2

/-! ### judgements -/
abbrev QD := D → Store → Prop
abbrev Env := List (Option D)
def WE (N : En) (t : TE) (ρ : Env) (μ : Store) (Q : QD) : Prop :=
  ∀ σ G H, Cf N ρ μ σ G H → ∀ Qv : VK, (∀ d μ' v G' H', Q d μ' → Rep G' d v → Cf N ρ μ' σ G' H' → Fr G μ H G' μ' H' → Qv v H') → t σ H Qv
/-- a new list -/
def WEn (N : En) (t : TE) (ρ : Env) (μ : Store) (Q : List D → Store → Prop) : Prop :=
  ∀ σ G H, Cf N ρ μ σ G H → ∀ Qv : VK, (∀ ds μ' p xs G' H', Q ds μ' → Cf N ρ μ' σ G' H' → H' p = some (.lst xs) → G' p = none → μ' p = none → N.H p = none → RepL G' ds xs → Fr G μ H G' μ' H' → H p = none → Qv (.ref p) H') → t σ H Qv
def WT (N : En) (t : TT) (ρ : Env) (μ : Store) (Q : Bool → Store → Prop) : Prop :=
  ∀ σ G H, Cf N ρ μ σ G H → ∀ Qv : Bool → Hp → Prop, (∀ b μ' G' H', Q b μ' → Cf N ρ μ' σ G' H' → Fr G μ H G' μ' H' → Qv b H') → t σ H Qv
def WA (N : En) (t : TA) (ρ : Env) (μ : Store) (Q : List D → Store → Prop) : Prop :=
  ∀ σ G H, Cf N ρ μ σ G H → ∀ Qv : List V → Hp → Prop, (∀ ds μ' vs G' H', Q ds μ' → RepL G' ds vs → Cf N ρ μ' σ G' H' → Fr G μ H G' μ' H' → Qv vs H') → t σ H Qv
def WO (N : En) (t : TO) (ρ : Env) (μ : Store) (Q : Option Int → Store → Prop) : Prop :=
  ∀ σ G H, Cf N ρ μ σ G H → ∀ Qv : Option Int → Hp → Prop, (∀ b μ' G' H', Q b μ' → Cf N ρ μ' σ G' H' → Fr G μ H G' μ' H' → Qv b H') → t σ H Qv
structure EnD where
  nx : Env → Store → Prop
  rt : QD
  bk : Env → Store → Prop := fun _ _ => False
  ct : Env → Store → Prop := fun _ _ => False
structure EndsOk (N : En) (G0 : Hp) (D : EnD) (E : Ends) : Prop where
  nx : ∀ ρ μ σ G H, D.nx ρ μ → Cf N ρ μ σ G H → Grow G0 G → E.nx σ H
  rt : ∀ d μ v ρ σ G H, D.rt d μ → Rep G d v → Cf N ρ μ σ G H → Grow G0 G → E.rt v H
  bk : ∀ ρ μ σ G H, D.bk ρ μ → Cf N ρ μ σ G H → Grow G0 G → E.bk σ H
  ct : ∀ ρ μ σ G H, D.ct ρ μ → Cf N ρ μ σ G H → Grow G0 G → E.ct σ H
theorem EndsOk.mono {N : En} {G0 G1 : Hp} {D : EnD} {E : Ends} (h : Grow G0 G1) (e : EndsOk N G0 D E) : EndsOk N G1 D E :=
  ⟨fun ρ μ σ G H a b c => e.nx ρ μ σ G H a b (h.trans c), fun d μ v ρ σ G H a r b c => e.rt d μ v ρ σ G H a r b (h.trans c), fun ρ μ σ G H a b c => e.bk ρ μ σ G H a b (h.trans c), fun ρ μ σ G H a b c => e.ct ρ μ σ G H a b (h.trans c)⟩
def WS (N : En) (t : TS) (ρ : Env) (μ : Store) (D : EnD) : Prop :=
  ∀ σ G H, Cf N ρ μ σ G H → ∀ E : Ends, EndsOk N G D E → t E σ H
/-- a target; js: the slots it stores -/
def WG (N : En) (g : TG) (js : List Nat) (d : D) (ρ : Env) (μ : Store) (Q : Env → Store → Prop) : Prop :=
  ∀ σ G H v, Cf N ρ μ σ G H → Rep G d v → ∀ Qv : L2.St → Hp → Prop, (∀ ρ' μ' σ' G' H', Q ρ' μ' → Cf N ρ' μ' σ' G' H' → Fr G μ H G' μ' H' → (∀ vs : List Nat, (∀ j ∈ js, j ∈ vs) → wipe σ' vs = wipe σ vs) → Qv σ' H') → g v σ H Qv
def WGs (N : En) (g : TGs) (js : List Nat) (ds : List D) (ρ : Env) (μ : Store) (Q : Env → Store → Prop) : Prop :=
  ∀ σ G H vs, Cf N ρ μ σ G H → RepL G ds vs → ∀ Qv : L2.St → Hp → Prop, (∀ ρ' μ' σ' G' H', Q ρ' μ' → Cf N ρ' μ' σ' G' H' → Fr G μ H G' μ' H' → (∀ vs : List Nat, (∀ j ∈ js, j ∈ vs) → wipe σ' vs = wipe σ vs) → Qv σ' H') → g vs σ H Qv
/-- what is walked: the data ds, as long as S holds of the cells -/
structure ItOk (N : En) (G0 : Hp) (J : It) (S : Store → Prop) (ds : List D) : Prop where
  go : ∀ i d ρ μ σ G H, Grow G0 G → S μ → Cf N ρ μ σ G H → ds[i]? = some d → J.go i H ∧ ∀ x H', J.yld i H x H' → ∃ G', Cf N ρ μ σ G' H' ∧ Fr G μ H G' μ H' ∧ Rep G' d x
  stop : ∀ ρ μ σ G H, Grow G0 G → S μ → Cf N ρ μ σ G H → J.stop ds.length H
def WI (N : En) (t : TI) (ρ : Env) (μ : Store) (Q : (Store → Prop) → List D → Store → Prop) : Prop :=
  ∀ σ G H, Cf N ρ μ σ G H → ∀ R : It → Hp → Prop, (∀ S ds μ' J G' H', Q S ds μ' → S μ' → ItOk N G' J S ds → Cf N ρ μ' σ G' H' → Fr G μ H G' μ' H' → R J H') → t σ H R

section
variable {N : En} {ρ : Env} {μ : Store}
theorem WE.imp {t : TE} {Q Q' : QD} (h : WE N t ρ μ Q) (k : ∀ d μ', Q d μ' → Q' d μ') : WE N t ρ μ Q' := fun σ G H c Qv q => h σ G H c Qv fun d μ' v G' H' a => q d μ' v G' H' (k d μ' a)
theorem WT.imp {t : TT} {Q Q' : Bool → Store → Prop} (h : WT N t ρ μ Q) (k : ∀ d μ', Q d μ' → Q' d μ') : WT N t ρ μ Q' := fun σ G H c Qv q => h σ G H c Qv fun d μ' G' H' a => q d μ' G' H' (k d μ' a)
theorem WA.imp {t : TA} {Q Q' : List D → Store → Prop} (h : WA N t ρ μ Q) (k : ∀ d μ', Q d μ' → Q' d μ') : WA N t ρ μ Q' := fun σ G H c Qv q => h σ G H c Qv fun d μ' v G' H' a => q d μ' v G' H' (k d μ' a)
theorem WEn.imp {t : TE} {Q Q' : List D → Store → Prop} (h : WEn N t ρ μ Q) (k : ∀ d μ', Q d μ' → Q' d μ') : WEn N t ρ μ Q' := fun σ G H c Qv q => h σ G H c Qv fun d μ' p xs G' H' a => q d μ' p xs G' H' (k d μ' a)
theorem WG.imp {g : TG} {js : List Nat} {d : D} {Q Q' : Env → Store → Prop} (h : WG N g js d ρ μ Q) (k : ∀ r m, Q r m → Q' r m) : WG N g js d ρ μ Q' := fun σ G H v c r Qv q => h σ G H v c r Qv fun ρ' μ' σ' G' H' a => q ρ' μ' σ' G' H' (k ρ' μ' a)
theorem WS.imp {t : TS} {D D' : EnD} (h : WS N t ρ μ D) (k : ∀ r m, D.nx r m → D'.nx r m) (k2 : ∀ r m, D.rt r m → D'.rt r m) (k3 : ∀ r m, D.bk r m → D'.bk r m) (k4 : ∀ r m, D.ct r m → D'.ct r m) : WS N t ρ μ D' :=
  fun σ G H c E e => h σ G H c E ⟨fun a b c d f g => e.nx a b c d f (k _ _ g), fun a b c d f g h i => e.rt a b c d f g h (k2 _ _ i), fun a b c d f g => e.bk a b c d f (k3 _ _ g), fun a b c d f g => e.ct a b c d f (k4 _ _ g)⟩

/-! ### expressions -/
theorem WE_var {i : Nat} {d : D} {Q : QD} (h : ρ[i]? = some (some d)) (q : Q d μ) : WE N (tVar i) ρ μ Q := fun σ G H c Qv k => by
  obtain ⟨v, h1, h2⟩ := c.env i d h
  exact ⟨v, h1, k d μ v G H q h2 c (Fr.refl _ _ _)⟩
theorem WE_int {i : Int} {Q : QD} (q : Q (.int i) μ) : WE N (tC (.int i)) ρ μ Q := fun σ G H c Qv k => k _ μ _ G H q rfl c (Fr.refl _ _ _)
theorem WE_bl {i : Bool} {Q : QD} (q : Q (.bl i) μ) : WE N (tC (.bl i)) ρ μ Q := fun σ G H c Qv k => k _ μ _ G H q rfl c (Fr.refl _ _ _)
theorem WE_str {i : Str} {Q : QD} (q : Q (.str i) μ) : WE N (tC (.str i)) ρ μ Q := fun σ G H c Qv k => k _ μ _ G H q rfl c (Fr.refl _ _ _)
theorem WE_non {Q : QD} (q : Q .non μ) : WE N (tC .non) ρ μ Q := fun σ G H c Qv k => k _ μ _ G H q rfl c (Fr.refl _ _ _)
theorem WE_ty {n : String} {Q : QD} (q : Q (.ty n) μ) : WE N (tC (.ty n)) ρ μ Q := fun σ G H c Qv k => k _ μ _ G H q rfl c (Fr.refl _ _ _)
theorem WE_bind {ta : TE} {k : V → Hp → VK → Prop} {Q : QD} {R : D → Store → Prop} (ha : WE N ta ρ μ R)
    (hk : ∀ d μ1, R d μ1 → ∀ σ G H v, Cf N ρ μ1 σ G H → Rep G d v → ∀ Qv : VK, (∀ d' μ' v' G' H', Q d' μ' → Rep G' d' v' → Cf N ρ μ' σ G' H' → Fr G μ1 H G' μ' H' → Qv v' H') → k v H Qv) :
    WE N (fun σ H Qv => ta σ H fun v H1 => k v H1 Qv) ρ μ Q := fun σ G H c Qv q => by
  refine ha σ G H c _ fun d μ1 v G1 H1 a r c1 f1 => ?_
  exact hk d μ1 a σ G1 H1 v c1 r Qv fun d' μ' v' G' H' x y z w => q d' μ' v' G' H' x y z (f1.trans w)
/-- two values, their data; the rule r by values does what rd says by data -/
def L2r (r : R2) (rd : D → D → Store → QD → Prop) : Prop :=
  ∀ N ρ μ σ G H x y dx dy Q, Cf N ρ μ σ G H → Rep G dx x → Rep G dy y → rd dx dy μ Q → ∀ Qv : VK, (∀ d μ' v G' H', Q d μ' → Rep G' d v → Cf N ρ μ' σ G' H' → Fr G μ H G' μ' H' → Qv v H') → r x y H Qv
theorem WE_op {r : R2} {rd : D → D → Store → QD → Prop} (l : L2r r rd) {ta tb : TE} {Q : QD} (h : WE N ta ρ μ fun x μ1 => WE N tb ρ μ1 fun y μ2 => rd x y μ2 Q) : WE N (tOp r ta tb) ρ μ Q := fun σ G H c Qv q => by
  refine h σ G H c _ fun dx μ1 x G1 H1 h1 r1 c1 f1 => ?_
  refine h1 σ G1 H1 c1 _ fun dy μ2 y G2 H2 h2 r2 c2 f2 => ?_
  exact l N ρ μ2 σ G2 H2 x y dx dy Q c2 (r1.mono f2.gg) r2 h2 Qv fun d μ' v G' H' x y z w => q d μ' v G' H' x y z ((f1.trans f2).trans w)
def L2n (r : R2) (rd : D → D → Store → (List D → Store → Prop) → Prop) : Prop :=
  ∀ N ρ μ σ G H x y dx dy Q, Cf N ρ μ σ G H → Rep G dx x → Rep G dy y → rd dx dy μ Q → ∀ Qv : VK, (∀ ds μ' p xs G' H', Q ds μ' → Cf N ρ μ' σ G' H' → H' p = some (.lst xs) → G' p = none → μ' p = none → N.H p = none → RepL G' ds xs → Fr G μ H G' μ' H' → H p = none → Qv (.ref p) H') → r x y H Qv

theorem WEn_op {r : R2} {rd : D → D → Store → (List D → Store → Prop) → Prop} (l : L2n r rd) {ta tb : TE} {Q : List D → Store → Prop} (h : WE N ta ρ μ fun x μ1 => WE N tb ρ μ1 fun y μ2 => rd x y μ2 Q) : WEn N (tOp r ta tb) ρ μ Q := fun σ G H c Qv q => by
  refine h σ G H c _ fun dx μ1 x G1 H1 h1 r1 c1 f1 => ?_
  refine h1 σ G1 H1 c1 _ fun dy μ2 y G2 H2 h2 r2 c2 f2 => ?_
  exact l N ρ μ2 σ G2 H2 x y dx dy Q c2 (r1.mono f2.gg) r2 h2 Qv fun ds μ' p xs G' H' a b c d e f g h k => q ds μ' p xs G' H' a b c d e f g ((f1.trans f2).trans h) ((f1.trans f2).dm p k)
/-- a new list as data -/
theorem WE_frozen {t : TE} {Q : QD} (h : WEn N t ρ μ fun ds μ' => Q (.lst ds) μ') : WE N t ρ μ Q := fun σ G H c Qv q => by
  refine h σ G H c Qv fun ds μ' p xs G' H' a c' hp g m n r f hn => ?_
  have c2 := c'.toG hp g m n
  have gr : Grow G' (upd G' p (.lst xs)) := fun b u e => by rw [upd_ne (ne_of_none e g)]; exact e
  refine q (.lst ds) μ' (.ref p) _ H' a ⟨p, xs, rfl, upd_same, r.mono gr⟩ c2 ⟨f.gg.trans gr, fun b o e1 e2 e3 => ?_, f.dm⟩
  obtain ⟨k1, k2, k3⟩ := f.fr b o e1 e2 e3
  exact ⟨k1, by rw [upd_ne (ne_of_none e1 hn)]; exact k2, k3⟩
/-- a new list as a cell -/
theorem WE_cell {t : TE} {Q : QD} (h : WEn N t ρ μ fun ds μ' => ∀ p, N.H p = none → μ' p = none → Q (.ptr p) (updS μ' p (.lst ds))) : WE N t ρ μ Q := fun σ G H c Qv q => by
  refine h σ G H c Qv fun ds μ' p xs G' H' a c' hp g m n r f hn => ?_
  have c2 := c'.toS (d := .lst ds) ⟨xs, hp, r⟩ g m n
  refine q (.ptr p) _ (.ref p) G' H' (a p n m) rfl c2 ⟨f.gg, fun b o e1 e2 e3 => ?_, f.dm⟩
  obtain ⟨k1, k2, k3⟩ := f.fr b o e1 e2 e3
  exact ⟨k1, k2, by rw [updS_ne (ne_of_none e1 hn)]; exact k3⟩
/-- a cell of one's own becomes data -/
theorem WE_freeze {t : TE} {Q : QD} (h : WE N t ρ μ fun d μ' => ∃ p ds, d = .ptr p ∧ N.H p = none ∧ μ' p = some (.lst ds) ∧ Q (.lst ds) (delS μ' p)) : WE N t ρ μ Q := fun σ G H c Qv q => by
  refine h σ G H c Qv fun d μ' v G' H' a r c' f => ?_
  obtain ⟨p, ds, rfl, n, m, a⟩ := a
  obtain ⟨xs, hp, rr⟩ := c'.wd.cell p _ m
  have g := c'.wd.out p _ m
  obtain ⟨c2, f2⟩ := c'.freeze m hp n
  cases (show v = V.ref p from r)
  have gr : Grow G' (upd G' p (.lst xs)) := fun b u e => by rw [upd_ne (ne_of_none e g)]; exact e
  exact q (.lst ds) _ (.ref p) _ H' a ⟨p, xs, rfl, upd_same, rr.mono gr⟩ c2 (f.trans f2)

/-! ### arguments, displays -/
theorem WA_nil {Q : List D → Store → Prop} (q : Q [] μ) : WA N tNil ρ μ Q := fun σ G H c Qv k => k [] μ [] G H q RepL.nil c (Fr.refl _ _ _)
theorem WA_cons {te : TE} {ta : TA} {Q : List D → Store → Prop} (h : WE N te ρ μ fun d μ1 => WA N ta ρ μ1 fun ds μ2 => Q (d :: ds) μ2) : WA N (tCons te ta) ρ μ Q := fun σ G H c Qv q => by
  refine h σ G H c _ fun d μ1 v G1 H1 h1 r1 c1 f1 => ?_
  refine h1 σ G1 H1 c1 _ fun ds μ2 vs G2 H2 h2 r2 c2 f2 => ?_
  exact q (d :: ds) μ2 (v :: vs) G2 H2 h2 (.cons (r1.mono f2.gg) r2) c2 (f1.trans f2)
theorem WE_tup {ta : TA} {Q : QD} (h : WA N ta ρ μ fun ds μ1 => ds.length ≤ sizeLine ∧ Q (.tup ds) μ1) : WE N (tTup ta) ρ μ Q := fun σ G H c Qv q => by
  refine h σ G H c _ fun ds μ1 vs G1 H1 h1 r1 c1 f1 => ?_
  refine ⟨by rw [r1.length]; exact h1.1, fun p hp => ?_⟩
  obtain ⟨c2, f2⟩ := c1.newG hp (.tup vs)
  exact q (.tup ds) μ1 (.ref p) _ _ h1.2 ⟨p, vs, rfl, upd_same, r1.mono f2.gg⟩ c2 (f1.trans f2)
theorem WEn_lst {ta : TA} {Q : List D → Store → Prop} (h : WA N ta ρ μ fun ds μ1 => ds.length ≤ sizeLine ∧ Q ds μ1) : WEn N (tLst ta) ρ μ Q := fun σ G H c Qv q => by
  refine h σ G H c _ fun ds μ1 vs G1 H1 h1 r1 c1 f1 => ?_
  refine ⟨by rw [r1.length]; exact h1.1, fun p hp => ?_⟩
  obtain ⟨c2, f2⟩ := c1.newU hp (.lst vs)
  obtain ⟨g, m, n⟩ := c1.fresh hp
  exact q ds μ1 p vs _ _ h1.2 c2 upd_same g m n r1 (f1.trans f2) (f1.dm p hp)

/-! ### tests -/
theorem WT_val {t : TE} {Q : Bool → Store → Prop} (h : WE N t ρ μ fun d μ' => ∃ b, d = .bl b ∧ Q b μ') : WT N (tB t) ρ μ Q := fun σ G H c Qv q => by
  refine h σ G H c _ fun d μ' v G' H' a r c' f => ?_
  obtain ⟨b, rfl, a⟩ := a
  exact ⟨b, r, q b μ' G' H' a c' f⟩
theorem WT_test {t : TE} {Q : Bool → Store → Prop} (h : WE N t ρ μ fun d μ' => ∃ b, d = .bl b ∧ Q b μ') : WT N (tTest t) ρ μ Q := WT_val h
theorem WT_and {t u : TT} {Q : Bool → Store → Prop} (h : WT N t ρ μ fun b μ' => if b = true then WT N u ρ μ' Q else Q false μ') : WT N (tAnd t u) ρ μ Q := fun σ G H c Qv q => by
  refine h σ G H c _ fun b μ' G' H' a c' f => ?_
  cases b with
  | true => exact a σ G' H' c' Qv fun b μ2 G2 H2 a2 c2 f2 => q b μ2 G2 H2 a2 c2 (f.trans f2)
  | false => exact q false μ' G' H' a c' f
theorem WT_or {t u : TT} {Q : Bool → Store → Prop} (h : WT N t ρ μ fun b μ' => if b = true then Q true μ' else WT N u ρ μ' Q) : WT N (tOr t u) ρ μ Q := fun σ G H c Qv q => by
  refine h σ G H c _ fun b μ' G' H' a c' f => ?_
  cases b with
  | false => exact a σ G' H' c' Qv fun b μ2 G2 H2 a2 c2 f2 => q b μ2 G2 H2 a2 c2 (f.trans f2)
  | true => exact q true μ' G' H' a c' f
theorem WT_not {t : TT} {Q : Bool → Store → Prop} (h : WT N t ρ μ fun b μ' => Q (!b) μ') : WT N (tNot t) ρ μ Q := fun σ G H c Qv q =>
  h σ G H c _ fun b μ' G' H' a c' f => q (!b) μ' G' H' a c' f
theorem WT_yes {Q : Bool → Store → Prop} (h : Q true μ) : WT N tYes ρ μ Q := fun σ G H c Qv q => q true μ G H h c (Fr.refl _ _ _)
theorem WE_andV {t u : TE} {Q : QD} (h : WE N t ρ μ fun d μ' => ∃ b, d = .bl b ∧ if b = true then WE N u ρ μ' Q else Q (.bl false) μ') : WE N (tAndV t u) ρ μ Q := fun σ G H c Qv q => by
  refine h σ G H c _ fun d μ' v G' H' a r c' f => ?_
  obtain ⟨b, rfl, a⟩ := a
  refine ⟨b, r, ?_⟩
  cases b with
  | true => exact a σ G' H' c' Qv fun d μ2 v G2 H2 a2 r2 c2 f2 => q d μ2 v G2 H2 a2 r2 c2 (f.trans f2)
  | false => exact q (.bl false) μ' _ G' H' a rfl c' f
theorem WE_orV {t u : TE} {Q : QD} (h : WE N t ρ μ fun d μ' => ∃ b, d = .bl b ∧ if b = true then Q (.bl true) μ' else WE N u ρ μ' Q) : WE N (tOrV t u) ρ μ Q := fun σ G H c Qv q => by
  refine h σ G H c _ fun d μ' v G' H' a r c' f => ?_
  obtain ⟨b, rfl, a⟩ := a
  refine ⟨b, r, ?_⟩
  cases b with
  | false => exact a σ G' H' c' Qv fun d μ2 v G2 H2 a2 r2 c2 f2 => q d μ2 v G2 H2 a2 r2 c2 (f.trans f2)
  | true => exact q (.bl true) μ' _ G' H' a rfl c' f
theorem WE_notV {t : TE} {Q : QD} (h : WE N t ρ μ fun d μ' => ∃ b, d = .bl b ∧ Q (.bl (!b)) μ') : WE N (tNotV t) ρ μ Q := fun σ G H c Qv q => by
  refine h σ G H c _ fun d μ' v G' H' a r c' f => ?_
  obtain ⟨b, rfl, a⟩ := a
  exact ⟨b, r, q (.bl (!b)) μ' _ G' H' a rfl c' f⟩
theorem WE_if {t : TT} {ta tb : TE} {Q : QD} (h : WT N t ρ μ fun b μ' => if b = true then WE N ta ρ μ' Q else WE N tb ρ μ' Q) : WE N (tIf t ta tb) ρ μ Q := fun σ G H c Qv q => by
  refine h σ G H c _ fun b μ' G' H' a c' f => ?_
  cases b with
  | false => exact a σ G' H' c' Qv fun d μ2 v G2 H2 a2 r2 c2 f2 => q d μ2 v G2 H2 a2 r2 c2 (f.trans f2)
  | true => exact a σ G' H' c' Qv fun d μ2 v G2 H2 a2 r2 c2 f2 => q d μ2 v G2 H2 a2 r2 c2 (f.trans f2)
theorem WE_chain {r r' : R2} {rd rd' : D → D → Store → QD → Prop} (l : L2r r rd) (l' : L2r r' rd') {ta tb tc : TE} {Q : QD}
    (h : WE N ta ρ μ fun x μ1 => WE N tb ρ μ1 fun y μ2 => rd x y μ2 fun z μ3 => ∃ k, z = .bl k ∧ if k = true then WE N tc ρ μ3 fun w μ4 => rd' y w μ4 Q else Q (.bl false) μ3) : WE N (tChain r r' ta tb tc) ρ μ Q := fun σ G H c Qv q => by
  refine h σ G H c _ fun dx μ1 x G1 H1 h1 r1 c1 f1 => ?_
  refine h1 σ G1 H1 c1 _ fun dy μ2 y G2 H2 h2 r2 c2 f2 => ?_
  refine l N ρ μ2 σ G2 H2 x y dx dy _ c2 (r1.mono f2.gg) r2 h2 _ fun d μ3 v G3 H3 a r3 c3 f3 => ?_
  obtain ⟨k, rfl, a⟩ := a
  refine ⟨k, r3, ?_⟩
  cases k with
  | true =>
    refine a σ G3 H3 c3 _ fun dw μ4 w G4 H4 a4 r4 c4 f4 => ?_
    exact l' N ρ μ4 σ G4 H4 y w dy dw Q c4 ((r2.mono f3.gg).mono f4.gg) r4 a4 Qv fun d μ5 v5 G5 H5 a5 r5 c5 f5 => q d μ5 v5 G5 H5 a5 r5 c5 ((((f1.trans f2).trans f3).trans f4).trans f5)
  | false => exact q (.bl false) μ3 _ G3 H3 a rfl c3 ((f1.trans f2).trans f3)

/-! ### calls of built-ins, methods of built-in types, slices -/
def LCr (r : List V → Hp → VK → Prop) (rd : List D → Store → QD → Prop) : Prop :=
  ∀ N ρ μ σ G H xs ds Q, Cf N ρ μ σ G H → RepL G ds xs → rd ds μ Q → ∀ Qv : VK, (∀ d μ' v G' H', Q d μ' → Rep G' d v → Cf N ρ μ' σ G' H' → Fr G μ H G' μ' H' → Qv v H') → r xs H Qv
def LCn (r : List V → Hp → VK → Prop) (rd : List D → Store → (List D → Store → Prop) → Prop) : Prop :=
  ∀ N ρ μ σ G H zs es Q, Cf N ρ μ σ G H → RepL G es zs → rd es μ Q → ∀ Qv : VK, (∀ ds μ' p xs G' H', Q ds μ' → Cf N ρ μ' σ G' H' → H' p = some (.lst xs) → G' p = none → μ' p = none → N.H p = none → RepL G' ds xs → Fr G μ H G' μ' H' → H p = none → Qv (.ref p) H') → r zs H Qv
theorem WE_cb {r : List V → Hp → VK → Prop} {rd : List D → Store → QD → Prop} (l : LCr r rd) {ta : TA} {Q : QD} (h : WA N ta ρ μ fun ds μ1 => rd ds μ1 Q) : WE N (tCB r ta) ρ μ Q := fun σ G H c Qv q => by
  refine h σ G H c _ fun ds μ1 xs G1 H1 h1 r1 c1 f1 => ?_
  exact l N ρ μ1 σ G1 H1 xs ds Q c1 r1 h1 Qv fun d μ' v G' H' x y z w => q d μ' v G' H' x y z (f1.trans w)
theorem WEn_cb {r : List V → Hp → VK → Prop} {rd : List D → Store → (List D → Store → Prop) → Prop} (l : LCn r rd) {ta : TA} {Q : List D → Store → Prop} (h : WA N ta ρ μ fun ds μ1 => rd ds μ1 Q) : WEn N (tCB r ta) ρ μ Q := fun σ G H c Qv q => by
  refine h σ G H c _ fun ds μ1 xs G1 H1 h1 r1 c1 f1 => ?_
  exact l N ρ μ1 σ G1 H1 xs ds Q c1 r1 h1 Qv fun ds μ' p xs G' H' a b c d e f g h k => q ds μ' p xs G' H' a b c d e f g (f1.trans h) (f1.dm p k)
theorem WO_none {Q : Option Int → Store → Prop} (h : Q none μ) : WO N tNoPart ρ μ Q := fun σ G H c Qv q => q none μ G H h c (Fr.refl _ _ _)
theorem WO_some {t : TE} {Q : Option Int → Store → Prop} (h : WE N t ρ μ fun d μ' => ∃ i, d = .int i ∧ Q (some i) μ') : WO N (tPart t) ρ μ Q := fun σ G H c Qv q => by
  refine h σ G H c _ fun d μ' v G' H' a r c' f => ?_
  obtain ⟨i, rfl, a⟩ := a
  exact ⟨i, r, q (some i) μ' G' H' a c' f⟩
def LSr (r : V → Option Int → Option Int → Hp → VK → Prop) (rd : D → Option Int → Option Int → Store → QD → Prop) : Prop :=
  ∀ N ρ μ σ G H x dx lo hi Q, Cf N ρ μ σ G H → Rep G dx x → rd dx lo hi μ Q → ∀ Qv : VK, (∀ d μ' v G' H', Q d μ' → Rep G' d v → Cf N ρ μ' σ G' H' → Fr G μ H G' μ' H' → Qv v H') → r x lo hi H Qv
def LSn (r : V → Option Int → Option Int → Hp → VK → Prop) (rd : D → Option Int → Option Int → Store → (List D → Store → Prop) → Prop) : Prop :=
  ∀ N ρ μ σ G H x dx lo hi Q, Cf N ρ μ σ G H → Rep G dx x → rd dx lo hi μ Q → ∀ Qv : VK, (∀ ds μ' p xs G' H', Q ds μ' → Cf N ρ μ' σ G' H' → H' p = some (.lst xs) → G' p = none → μ' p = none → N.H p = none → RepL G' ds xs → Fr G μ H G' μ' H' → H p = none → Qv (.ref p) H') → r x lo hi H Qv
theorem WE_sl {r : V → Option Int → Option Int → Hp → VK → Prop} {rd : D → Option Int → Option Int → Store → QD → Prop} (l : LSr r rd) {te : TE} {tl th : TO} {Q : QD} (h : WE N te ρ μ fun x μ1 => WO N tl ρ μ1 fun lo μ2 => WO N th ρ μ2 fun hi μ3 => rd x lo hi μ3 Q) : WE N (tSl r te tl th) ρ μ Q := fun σ G H c Qv q => by
  refine h σ G H c _ fun dx μ1 x G1 H1 h1 r1 c1 f1 => ?_
  refine h1 σ G1 H1 c1 _ fun lo μ2 G2 H2 h2 c2 f2 => ?_
  refine h2 σ G2 H2 c2 _ fun hi μ3 G3 H3 h3 c3 f3 => ?_
  exact l N ρ μ3 σ G3 H3 x dx lo hi Q c3 ((r1.mono f2.gg).mono f3.gg) h3 Qv fun d μ' v G' H' x y z w => q d μ' v G' H' x y z (((f1.trans f2).trans f3).trans w)
theorem WEn_sl {r : V → Option Int → Option Int → Hp → VK → Prop} {rd : D → Option Int → Option Int → Store → (List D → Store → Prop) → Prop} (l : LSn r rd) {te : TE} {tl th : TO} {Q : List D → Store → Prop} (h : WE N te ρ μ fun x μ1 => WO N tl ρ μ1 fun lo μ2 => WO N th ρ μ2 fun hi μ3 => rd x lo hi μ3 Q) : WEn N (tSl r te tl th) ρ μ Q := fun σ G H c Qv q => by
  refine h σ G H c _ fun dx μ1 x G1 H1 h1 r1 c1 f1 => ?_
  refine h1 σ G1 H1 c1 _ fun lo μ2 G2 H2 h2 c2 f2 => ?_
  refine h2 σ G2 H2 c2 _ fun hi μ3 G3 H3 h3 c3 f3 => ?_
  exact l N ρ μ3 σ G3 H3 x dx lo hi Q c3 ((r1.mono f2.gg).mono f3.gg) h3 Qv fun ds μ' p xs G' H' a b c d e f g h k => q ds μ' p xs G' H' a b c d e f g (((f1.trans f2).trans f3).trans h) (((f1.trans f2).trans f3).dm p k)
/-- x.m(xs) of a list: x a list that stands in the heap -/
def LMr (r : V → List V → Hp → VK → Prop) (rd : D → List D → Store → QD → Prop) : Prop :=
  ∀ N ρ μ σ G H x dx xs ds Q, Cf N ρ μ σ G H → Rep G dx x → RepL G ds xs → rd dx ds μ Q → ∀ Qv : VK, (∀ d μ' v G' H', Q d μ' → Rep G' d v → Cf N ρ μ' σ G' H' → Fr G μ H G' μ' H' → Qv v H') → r x xs H Qv
/-- the list that d stands for -/
def listOf (μ : Store) : D → Option (List D)
  | .lst ds => some ds
  | .ptr p => match μ p with
    | some (.lst ds) => some ds
    | _ => none
  | _ => none
theorem listOf_ptr {μ : Store} {p : Addr} {ds : List D} (h : μ p = some (.lst ds)) : listOf μ (.ptr p) = some ds := by
  simp only [listOf, h]
theorem Cf.list {σ : L2.St} {G H : Hp} (c : Cf N ρ μ σ G H) {d : D} {v : V} {ds : List D} (h : listOf μ d = some ds) (r : Rep G d v) : ∃ a xs, v = .ref a ∧ H a = some (.lst xs) ∧ RepL G ds xs := by
  cases d with
  | lst es =>
    cases h
    obtain ⟨a, xs, e, g, rr⟩ := r
    exact ⟨a, xs, e, c.wd.sub _ _ g, rr⟩
  | ptr p =>
    cases m : μ p with
    | none => simp [listOf, m] at h
    | some cl =>
      cases cl with
      | lst es =>
        rw [listOf_ptr m] at h
        cases h
        obtain ⟨xs, hx, rr⟩ := c.wd.cell p _ m
        exact ⟨p, xs, r, hx, rr⟩
      | ins C fs => simp [listOf, m] at h
  | _ => simp [listOf] at h
theorem Cf.tup {σ : L2.St} {G H : Hp} (c : Cf N ρ μ σ G H) {v : V} {ds : List D} (r : Rep G (.tup ds) v) : ∃ a xs, v = .ref a ∧ H a = some (.tup xs) ∧ RepL G ds xs := by
  obtain ⟨a, xs, e, g, rr⟩ := r
  exact ⟨a, xs, e, c.wd.sub _ _ g, rr⟩
/-- a method of a list -/
theorem WE_bm {K : PySem.W.Frag} {r : V → List V → Hp → VK → Prop} {rd : D → List D → Store → QD → Prop} (l : LMr r rd) {to : TE} {ta : TA} {Q : QD}
    (h : WE N to ρ μ fun x μ1 => (∃ es, listOf μ1 x = some es) ∧ WA N ta ρ μ1 fun ds μ2 => rd x ds μ2 Q) : WE N (tBM K "list" r to ta) ρ μ Q := fun σ G H c Qv q => by
  refine h σ G H c _ fun dx μ1 x G1 H1 h1 r1 c1 f1 => ?_
  obtain ⟨⟨es, he⟩, h1⟩ := h1
  obtain ⟨a, xs, e, ha, _⟩ := c1.list he r1
  refine ⟨by rw [e]; exact .inl ⟨rfl, xs, SqL.of ha⟩, ?_⟩
  refine h1 σ G1 H1 c1 _ fun ds μ2 vs G2 H2 h2 r2 c2 f2 => ?_
  exact l N ρ μ2 σ G2 H2 x dx vs ds Q c2 (r1.mono f2.gg) r2 h2 Qv fun d μ' v G' H' x y z w => q d μ' v G' H' x y z ((f1.trans f2).trans w)
theorem WE_bm0 {K : PySem.W.Frag} {r : V → List V → Hp → VK → Prop} {rd : D → List D → Store → QD → Prop} (l : LMr r rd) {to : TE} {Q : QD}
    (h : WE N to ρ μ fun x μ1 => (∃ es, listOf μ1 x = some es) ∧ rd x [] μ1 Q) : WE N (tBM0 K "list" r to) ρ μ Q := fun σ G H c Qv q => by
  refine h σ G H c _ fun dx μ1 x G1 H1 h1 r1 c1 f1 => ?_
  obtain ⟨⟨es, he⟩, h1⟩ := h1
  obtain ⟨a, xs, e, ha, _⟩ := c1.list he r1
  refine ⟨by rw [e]; exact .inl ⟨rfl, xs, SqL.of ha⟩, ?_⟩
  exact l N ρ μ1 σ G1 H1 x dx [] [] Q c1 r1 RepL.nil h1 Qv fun d μ' v G' H' x y z w => q d μ' v G' H' x y z (f1.trans w)
/-- a method of a text -/
theorem WE_bmS {K : PySem.W.Frag} {r : V → List V → Hp → VK → Prop} {rd : D → List D → Store → QD → Prop} (l : LMr r rd) {to : TE} {ta : TA} {Q : QD}
    (h : WE N to ρ μ fun x μ1 => (∃ z, x = .str z) ∧ WA N ta ρ μ1 fun ds μ2 => rd x ds μ2 Q) : WE N (tBM K "str" r to ta) ρ μ Q := fun σ G H c Qv q => by
  refine h σ G H c _ fun dx μ1 x G1 H1 h1 r1 c1 f1 => ?_
  obtain ⟨⟨z, rfl⟩, h1⟩ := h1
  refine ⟨by rw [show x = V.str z from r1]; rfl, ?_⟩
  refine h1 σ G1 H1 c1 _ fun ds μ2 vs G2 H2 h2 r2 c2 f2 => ?_
  exact l N ρ μ2 σ G2 H2 x (.str z) vs ds Q c2 (r1.mono f2.gg) r2 h2 Qv fun d μ' v G' H' x y z w => q d μ' v G' H' x y z ((f1.trans f2).trans w)

/-! ### targets -/
theorem wipe_set {σ : L2.St} {i : Nat} {x : Option V} : ∀ {vs : List Nat}, i ∈ vs → wipe (σ.set i x) vs = wipe σ vs
  | [], h => nomatch h
  | v :: vs, h => by
    unfold wipe
    by_cases q : i ∈ vs
    · rw [wipe_set q]
    · have e : i = v := by
        rcases List.mem_cons.mp h with k | k
        · exact k
        · exact absurd k q
      subst e
      have go : ∀ (us : List Nat), i ∉ us → (wipe (σ.set i x) us).set i none = (wipe σ us).set i none := by
        intro us
        induction us with
        | nil => intro _; unfold wipe; rw [List.set_set]
        | cons u us ih =>
          intro hu
          have h1 : u ≠ i := fun z => hu (by rw [z]; exact List.mem_cons_self)
          have h2 : i ∉ us := fun z => hu (List.mem_cons_of_mem _ z)
          unfold wipe
          rw [List.set_comm _ _ h1, ih h2, List.set_comm _ _ (Ne.symm h1)]
      exact go vs q
theorem WG_name {i : Nat} {d : D} {Q : Env → Store → Prop} (h : Q (ρ.set i (some d)) μ) : WG N (gName i) [i] d ρ μ Q := fun σ G H v c r Qv q =>
  q _ μ _ G H h (c.set i r) (Fr.refl _ _ _) fun vs hv => wipe_set (hv i (List.mem_singleton.mpr rfl))
theorem WGs_nil {Q : Env → Store → Prop} (h : Q ρ μ) : WGs N gNil [] [] ρ μ Q := fun σ G H vs c r Qv q =>
  ⟨r, q ρ μ σ G H h c (Fr.refl _ _ _) fun _ _ => rfl⟩
theorem WGs_cons {g : TG} {gs : TGs} {js ks : List Nat} {d : D} {ds : List D} {Q : Env → Store → Prop} (h : WG N g js d ρ μ fun ρ1 μ1 => WGs N gs ks ds ρ1 μ1 Q) : WGs N (gCons g gs) (js ++ ks) (d :: ds) ρ μ Q := fun σ G H vs c r Qv q => by
  obtain ⟨v, rest, e, r1, r2⟩ := r
  refine ⟨v, rest, e, ?_⟩
  refine h σ G H v c r1 _ fun ρ1 μ1 σ1 G1 H1 h1 c1 f1 w1 => ?_
  refine h1 σ1 G1 H1 rest c1 (r2.mono f1.gg) Qv fun ρ2 μ2 σ2 G2 H2 h2 c2 f2 w2 => ?_
  exact q ρ2 μ2 σ2 G2 H2 h2 c2 (f1.trans f2) fun vs hv => (w2 vs fun j hj => hv j (List.mem_append_right _ hj)).trans (w1 vs fun j hj => hv j (List.mem_append_left _ hj))
theorem WG_tup {K : PySem.W.Frag} {n : Nat} {gs : TGs} {js : List Nat} {ds : List D} {Q : Env → Store → Prop} (hn : ds.length = n) (h : WGs N gs js ds ρ μ Q) : WG N (gTup K n gs) js (.tup ds) ρ μ Q := fun σ G H v c r Qv q => by
  obtain ⟨a, xs, e, ha, rr⟩ := c.tup r
  exact ⟨a, xs, e, SqT.of ha, by rw [rr.length]; exact hn, h σ G H xs c rr Qv q⟩
def LPr (t : TSet) (td : D → D → D → Store → (Store → Prop) → Prop) : Prop :=
  ∀ N ρ μ σ G H o i v dO dI dV Q, Cf N ρ μ σ G H → Rep G dO o → Rep G dI i → Rep G dV v → td dO dI dV μ Q → ∀ Qv : Hp → Prop, (∀ μ' G' H', Q μ' → Cf N ρ μ' σ G' H' → Fr G μ H G' μ' H' → Qv H') → t o i v H Qv
theorem WG_sub {to ti : TE} {t : TSet} {td : D → D → D → Store → (Store → Prop) → Prop} (l : LPr t td) {d : D} {Q : Env → Store → Prop}
    (h : WE N to ρ μ fun o μ1 => WE N ti ρ μ1 fun i μ2 => td o i d μ2 fun μ3 => Q ρ μ3) : WG N (gSub to ti t) [] d ρ μ Q := fun σ G H v c r Qv q => by
  refine h σ G H c _ fun dO μ1 o G1 H1 h1 r1 c1 f1 => ?_
  refine h1 σ G1 H1 c1 _ fun dI μ2 i G2 H2 h2 r2 c2 f2 => ?_
  exact l N ρ μ2 σ G2 H2 o i v dO dI d _ c2 (r1.mono f2.gg) r2 ((r.mono f1.gg).mono f2.gg) h2 _ fun μ' G' H' a c' f => q ρ μ' σ G' H' a c' ((f1.trans f2).trans f) fun _ _ => rfl
end
end DL
set_option Elab.async false
set_option linter.all false
set_option maxRecDepth 100000
namespace DL
open PySem PySem.Spec L2
section
variable {N : En} {ρ : Env} {μ : Store} {D : EnD}

/-! ### statements -/
theorem WS_next (h : D.nx ρ μ) : WS N tNext ρ μ D := fun σ G H c E e => e.nx ρ μ σ G H h c (Grow.refl _)
theorem WS_seq {t u : TS} (h : WS N t ρ μ { D with nx := fun ρ' μ' => WS N u ρ' μ' D }) : WS N (tSeq t u) ρ μ D := fun σ G H c E e =>
  h σ G H c { E with nx := u E } ⟨fun ρ' μ' σ' G' H' a c' g => a σ' G' H' c' E (e.mono g), e.rt, e.bk, e.ct⟩
theorem WS_break (h : D.bk ρ μ) : WS N tBreak ρ μ D := fun σ G H c E e => e.bk ρ μ σ G H h c (Grow.refl _)
theorem WS_cont (h : D.ct ρ μ) : WS N tCont ρ μ D := fun σ G H c E e => e.ct ρ μ σ G H h c (Grow.refl _)
theorem WS_drop {t : TE} (h : WE N t ρ μ fun _ μ' => D.nx ρ μ') : WS N (tDrop t) ρ μ D := fun σ G H c E e =>
  h σ G H c _ fun d μ' v G' H' a r c' f => e.nx ρ μ' σ G' H' a c' f.gg
theorem WS_ret {t : TE} (h : WE N t ρ μ fun d μ' => D.rt d μ') : WS N (tRet t) ρ μ D := fun σ G H c E e =>
  h σ G H c _ fun d μ' v G' H' a r c' f => e.rt d μ' v ρ σ G' H' a r c' f.gg
theorem WS_retN (h : D.rt .non μ) : WS N tRetN ρ μ D := fun σ G H c E e => e.rt .non μ .non ρ σ G H h rfl c (Grow.refl _)
theorem WS_if {t : TT} {a b : TS} (h : WT N t ρ μ fun k μ' => if k = true then WS N a ρ μ' D else WS N b ρ μ' D) : WS N (tIfS t a b) ρ μ D := fun σ G H c E e => by
  refine h σ G H c _ fun k μ' G' H' q c' f => ?_
  cases k with
  | true => exact q σ G' H' c' E (e.mono f.gg)
  | false => exact q σ G' H' c' E (e.mono f.gg)
theorem WS_never (h : False) : WS N tNever ρ μ D := h.elim
theorem WS_asg {t : TE} {g : TG} {js : List Nat} (h : WE N t ρ μ fun d μ' => WG N g js d ρ μ' D.nx) : WS N (tAsg t g) ρ μ D := fun σ G H c E e => by
  refine h σ G H c _ fun d μ' v G' H' a r c' f => ?_
  exact a σ G' H' v c' r _ fun ρ2 μ2 σ2 G2 H2 a2 c2 f2 _ => e.nx ρ2 μ2 σ2 G2 H2 a2 c2 (f.gg.trans f2.gg)
/-- x = e -/
theorem WS_set {t : TE} {i : Nat} (h : WE N t ρ μ fun d μ' => D.nx (ρ.set i (some d)) μ') : WS N (tAsg t (gName i)) ρ μ D :=
  WS_asg (h.imp fun d μ' q => WG_name q)
theorem WS_aug {i : Nat} {t : TE} {r : TIp} {rd : DL.D → DL.D → Store → QD → Prop} (l : L2r r rd) {x : DL.D} (hx : ρ[i]? = some (some x)) (h : WE N t ρ μ fun y μ1 => rd x y μ1 fun z μ2 => D.nx (ρ.set i (some z)) μ2) : WS N (tAug i t r) ρ μ D := fun σ G H c E e => by
  obtain ⟨xv, h1, r1⟩ := c.env i x hx
  refine ⟨xv, h1, h σ G H c _ fun dy μ1 y G1 H1 a r2 c1 f1 => ?_⟩
  exact l N ρ μ1 σ G1 H1 xv y x dy _ c1 (r1.mono f1.gg) r2 a _ fun d μ' v G' H' q rr c' f' => e.nx _ μ' _ G' H' q (c'.set i rr) (f1.gg.trans f'.gg)
theorem WS_augS {to ti te : TE} {tget : V → V → Hp → VK → Prop} {tip : TIp} {tset : TSet} {gd id : DL.D → DL.D → Store → QD → Prop} {sd : DL.D → DL.D → DL.D → Store → (Store → Prop) → Prop} (lg : L2r tget gd) (li : L2r tip id) (ls : LPr tset sd)
    (h : WE N to ρ μ fun o μ1 => WE N ti ρ μ1 fun i μ2 => gd o i μ2 fun x μ3 => WE N te ρ μ3 fun y μ4 => id x y μ4 fun z μ5 => sd o i z μ5 fun μ6 => D.nx ρ μ6) : WS N (tAugS to ti te tget tip tset) ρ μ D := fun σ G H c E e => by
  refine h σ G H c _ fun dO μ1 o G1 H1 h1 r1 c1 f1 => ?_
  refine h1 σ G1 H1 c1 _ fun dI μ2 i G2 H2 h2 r2 c2 f2 => ?_
  refine lg N ρ μ2 σ G2 H2 o i dO dI _ c2 (r1.mono f2.gg) r2 h2 _ fun dX μ3 x G3 H3 h3 r3 c3 f3 => ?_
  refine h3 σ G3 H3 c3 _ fun dY μ4 y G4 H4 h4 r4 c4 f4 => ?_
  refine li N ρ μ4 σ G4 H4 x y dX dY _ c4 (r3.mono f4.gg) r4 h4 _ fun dZ μ5 z G5 H5 h5 r5 c5 f5 => ?_
  have g25 : Grow G2 G5 := (f3.gg.trans f4.gg).trans f5.gg
  refine ls N ρ μ5 σ G5 H5 o i z dO dI dZ _ c5 ((r1.mono f2.gg).mono g25) (r2.mono g25) r5 h5 _ fun μ6 G6 H6 q c6 f6 => ?_
  exact e.nx ρ μ6 σ G6 H6 q c6 (((f1.gg.trans f2.gg).trans g25).trans f6.gg)

/-! ### loops -/
theorem WS_for {wi : TI} {g : TG} {tb : TS} {js : List Nat} (h : WI N wi ρ μ fun S ds μ1 => ∃ Inv : Nat → Env → Store → Prop, Inv 0 ρ μ1 ∧ (∀ i ρ' μ', i ≤ ds.length → Inv i ρ' μ' → S μ') ∧
      (∀ i d ρ' μ', ds[i]? = some d → Inv i ρ' μ' → WG N g js d ρ' μ' fun ρ2 μ2 => WS N tb ρ2 μ2 ⟨Inv (i + 1), D.rt, D.nx, Inv (i + 1)⟩) ∧ (∀ ρ' μ', Inv ds.length ρ' μ' → D.nx ρ' μ')) : WS N (tFor wi g tb) ρ μ D := fun σ G H c E e => by
  refine h σ G H c _ fun S ds μ1 J G1 H1 q s1 ok c1 f1 => ?_
  obtain ⟨Inv, h0, hS, hs, hd⟩ := q
  refine ⟨fun i m σ' H' => m = ds.length - i ∧ i ≤ ds.length ∧ ∃ ρ' μ' G', Inv i ρ' μ' ∧ Cf N ρ' μ' σ' G' H' ∧ Grow G1 G', ⟨ds.length, by omega, Nat.zero_le _, ρ, μ1, G1, h0, c1, Grow.refl _⟩, ?_⟩
  rintro i m σ' H' ⟨rfl, hi, ρ', μ', G', inv, c', g'⟩
  by_cases hlt : i < ds.length
  · have hx : ds[i]? = some ds[i] := List.getElem?_eq_getElem hlt
    obtain ⟨hgo, hy⟩ := ok.go i ds[i] ρ' μ' σ' G' H' g' (hS i ρ' μ' hi inv) c' hx
    refine .inr ⟨hgo, fun σ2 H2 => ∃ ρ2 μ2 G2, Inv (i + 1) ρ2 μ2 ∧ Cf N ρ2 μ2 σ2 G2 H2 ∧ Grow G1 G2, fun σ2 H2 ⟨ρ2, μ2, G2, a, b, c⟩ => ⟨ds.length - (i + 1), by omega, rfl, hlt, ρ2, μ2, G2, a, b, c⟩, fun x H2 y => ?_⟩
    obtain ⟨G2, c2, f2, r2⟩ := hy x H2 y
    refine hs i ds[i] ρ' μ' hx inv σ' G2 H2 x c2 r2 _ fun ρ3 μ3 σ3 G3 H3 q3 c3 f3 _ => ?_
    have g3 : Grow G1 G3 := (g'.trans f2.gg).trans f3.gg
    refine q3 σ3 G3 H3 c3 _ ⟨fun ρ4 μ4 σ4 G4 H4 a b c => ⟨ρ4, μ4, G4, a, b, g3.trans c⟩, fun d μ4 v ρ4 σ4 G4 H4 a r b c => e.rt d μ4 v ρ4 σ4 G4 H4 a r b ((f1.gg.trans g3).trans c),
      fun ρ4 μ4 σ4 G4 H4 a b c => e.nx ρ4 μ4 σ4 G4 H4 a b ((f1.gg.trans g3).trans c), fun ρ4 μ4 σ4 G4 H4 a b c => ⟨ρ4, μ4, G4, a, b, g3.trans c⟩⟩
  · have e2 : i = ds.length := by omega
    subst e2
    exact .inl ⟨ok.stop ρ' μ' σ' G' H' g' (hS _ ρ' μ' hi inv) c', e.nx ρ' μ' σ' G' H' (hd ρ' μ' inv) c' (f1.gg.trans g')⟩
theorem WS_while {t : TT} {tb : TS} (Inv : Nat → Env → Store → Prop) (h0 : ∃ m, Inv m ρ μ)
    (hs : ∀ m ρ' μ', Inv m ρ' μ' → WT N t ρ' μ' fun b μ2 => if b = true then WS N tb ρ' μ2 ⟨fun ρ3 μ3 => ∃ m', m' < m ∧ Inv m' ρ3 μ3, D.rt, D.nx, fun ρ3 μ3 => ∃ m', m' < m ∧ Inv m' ρ3 μ3⟩ else D.nx ρ' μ2) : WS N (tWhile t tb) ρ μ D := fun σ G H c E e => by
  obtain ⟨m0, i0⟩ := h0
  refine ⟨fun m σ' H' => ∃ ρ' μ' G', Inv m ρ' μ' ∧ Cf N ρ' μ' σ' G' H' ∧ Grow G G', ⟨m0, ρ, μ, G, i0, c, Grow.refl _⟩, ?_⟩
  rintro m σ' H' ⟨ρ', μ', G', inv, c', g'⟩
  refine hs m ρ' μ' inv σ' G' H' c' _ fun b μ2 G2 H2 q c2 f2 => ?_
  cases b with
  | true =>
    refine ⟨fun σ3 H3 => ∃ m', m' < m ∧ ∃ ρ3 μ3 G3, Inv m' ρ3 μ3 ∧ Cf N ρ3 μ3 σ3 G3 H3 ∧ Grow G G3, fun σ3 H3 ⟨m', hm, ρ3, μ3, G3, a⟩ => ⟨m', hm, ρ3, μ3, G3, a⟩, ?_⟩
    have g2 := g'.trans f2.gg
    exact q σ' G2 H2 c2 _ ⟨fun ρ4 μ4 σ4 G4 H4 ⟨m', hm, a⟩ b c => ⟨m', hm, ρ4, μ4, G4, a, b, g2.trans c⟩, fun d μ4 v ρ4 σ4 G4 H4 a r b c => e.rt d μ4 v ρ4 σ4 G4 H4 a r b (g2.trans c),
      fun ρ4 μ4 σ4 G4 H4 a b c => e.nx ρ4 μ4 σ4 G4 H4 a b (g2.trans c), fun ρ4 μ4 σ4 G4 H4 ⟨m', hm, a⟩ b c => ⟨m', hm, ρ4, μ4, G4, a, b, g2.trans c⟩⟩
  | false => exact e.nx ρ' μ2 σ' G2 H2 q c2 (g'.trans f2.gg)

/-! ### comprehensions -/
def wipeD (ρ : Env) : List Nat → Env
  | [] => ρ
  | v :: vs => (wipeD ρ vs).set v none
theorem wipeD_length (ρ : Env) : ∀ vs : List Nat, (wipeD ρ vs).length = ρ.length
  | [] => rfl
  | v :: vs => by unfold wipeD; rw [List.length_set, wipeD_length ρ vs]
theorem RepE.wipe {G : Hp} {σ : L2.St} (hl : ρ.length = σ.length) (r : RepE G ρ σ) : ∀ vs : List Nat, RepE G (wipeD ρ vs) (wipe σ vs)
  | [] => r
  | v :: vs => fun i d h => by
    unfold wipeD at h
    by_cases q : v = i
    · subst q
      by_cases hv : v < (wipeD ρ vs).length
      · rw [List.getElem?_set_self hv] at h; cases h
      · rw [List.getElem?_eq_none (by simpa using hv)] at h; cases h
    · rw [List.getElem?_set_ne q] at h
      obtain ⟨x, h1, h2⟩ := RepE.wipe hl r vs i d h
      exact ⟨x, by unfold L2.wipe; rw [List.getElem?_set_ne q]; exact h1, h2⟩
theorem Cf.wipe {σ : L2.St} {G H : Hp} (c : Cf N ρ μ σ G H) (vs : List Nat) : Cf N (wipeD ρ vs) μ (wipe σ vs) G H :=
  ⟨c.wd, c.run, by rw [wipeD_length, wipe_length, c.len], c.env.wipe c.len vs⟩
theorem Cf.back {σ σ2 : L2.St} {G H G2 H2 : Hp} {ρ2 : Env} {μ0 μ2 : Store} (c : Cf N ρ μ0 σ G H) (g : Grow G G2) (c2 : Cf N ρ2 μ2 σ2 G2 H2) : Cf N ρ μ2 σ G2 H2 := ⟨c2.wd, c2.run, c.len, c.env.mono g⟩
theorem WEn_lc {wi : TI} {g : TG} {tt : TT} {te : TE} {vs js : List Nat} {Q : List DL.D → Store → Prop} (hjs : ∀ j ∈ js, j ∈ vs) (h : WI N wi ρ μ fun S ds μ1 => ∃ Inv : Nat → List DL.D → Store → Prop, Inv 0 [] μ1 ∧ (∀ i acc μ', i ≤ ds.length → Inv i acc μ' → S μ') ∧
      (∀ i d acc μ', ds[i]? = some d → Inv i acc μ' → WG N g js d (wipeD ρ vs) μ' fun ρ2 μ2 => WT N tt ρ2 μ2 fun b μ3 => if b = true then WE N te ρ2 μ3 fun y μ4 => acc.length < sizeLine ∧ Inv (i + 1) (acc ++ [y]) μ4 else Inv (i + 1) acc μ3) ∧
      (∀ acc μ', Inv ds.length acc μ' → Q acc μ')) : WEn N (tLc wi g tt te vs) ρ μ Q := fun σ G H c Qv q => by
  refine h σ G H c _ fun S ds μ1 J G1 H1 a s1 ok c1 f1 => ?_
  obtain ⟨Inv, h0, hS, hs, hd⟩ := a
  intro p hp
  obtain ⟨g1, m1, n1⟩ := c1.fresh hp
  obtain ⟨cp, fp⟩ := c1.newU hp (.lst [])
  refine ⟨fun i m H' => m = ds.length - i ∧ i ≤ ds.length ∧ ∃ acc accV μ' G', Inv i acc μ' ∧ Cf N ρ μ' σ G' H' ∧ Fr G μ H G' μ' H' ∧ Grow G1 G' ∧ H' p = some (.lst accV) ∧ G' p = none ∧ μ' p = none ∧ RepL G' acc accV,
    ⟨ds.length, by omega, Nat.zero_le _, [], [], μ1, G1, h0, cp, f1.trans fp, Grow.refl _, upd_same, g1, m1, RepL.nil⟩, ?_⟩
  rintro i m H' ⟨rfl, hi, acc, accV, μ', G', inv, c', fr', g', hp', gp', mp', ra⟩
  by_cases hlt : i < ds.length
  · have hx : ds[i]? = some ds[i] := List.getElem?_eq_getElem hlt
    obtain ⟨hgo, hy⟩ := ok.go i ds[i] ρ μ' σ G' H' g' (hS i acc μ' hi inv) c' hx
    refine .inr ⟨hgo, fun H2 => ∃ acc accV μ2 G2, Inv (i + 1) acc μ2 ∧ Cf N ρ μ2 σ G2 H2 ∧ Fr G μ H G2 μ2 H2 ∧ Grow G1 G2 ∧ H2 p = some (.lst accV) ∧ G2 p = none ∧ μ2 p = none ∧ RepL G2 acc accV,
      fun H2 ⟨x1, x2, x3, x4, y⟩ => ⟨ds.length - (i + 1), by omega, rfl, hlt, x1, x2, x3, x4, y⟩, fun x H2 y => ?_⟩
    obtain ⟨G2, c2, f2, r2⟩ := hy x H2 y
    obtain ⟨p2, pg2, pm2⟩ := f2.fr p _ hp' gp' mp'
    refine hs i ds[i] acc μ' hx inv (L2.wipe σ vs) G2 H2 x (c2.wipe vs) r2 _ fun ρ3 μ3 σ3 G3 H3 q3 c3 f3 w3 => ?_
    obtain ⟨p3, pg3, pm3⟩ := f3.fr p _ p2 pg2 pm2
    have ww : L2.wipe (L2.wipe σ vs) vs = L2.wipe σ vs := by
      have go : ∀ us : List Nat, (∀ u ∈ us, u ∈ vs) → L2.wipe (L2.wipe σ vs) us = L2.wipe σ vs := by
        intro us
        induction us with
        | nil => intro _; rfl
        | cons u us ih =>
          intro hu
          show (L2.wipe (L2.wipe σ vs) us).set u none = L2.wipe σ vs
          rw [ih fun z hz => hu z (List.mem_cons_of_mem _ hz)]
          have hm : u ∈ vs := hu u List.mem_cons_self
          refine List.ext_getElem? fun k => ?_
          by_cases e : u = k
          · subst e
            by_cases hl : u < (L2.wipe σ vs).length
            · rw [List.getElem?_set_self hl]
              cases z : (L2.wipe σ vs)[u]? with
              | none => rw [List.getElem?_eq_none_iff] at z; omega
              | some o =>
                cases o with
                | none => first | rfl | exact z.symm
                | some v => exact absurd hm (wipe_some z).2
            · rw [List.getElem?_eq_none (by simpa using hl), List.getElem?_eq_none (by simpa using hl)]
          · rw [List.getElem?_set_ne e]
      exact go vs fun _ z => z
    refine ⟨by rw [w3 vs hjs, ww], ?_⟩
    refine q3 σ3 G3 H3 c3 _ fun b μ4 G4 H4 q4 c4 f4 => ?_
    obtain ⟨p4, pg4, pm4⟩ := f4.fr p _ p3 pg3 pm3
    have gr4 : Grow G' G4 := (f2.gg.trans f3.gg).trans f4.gg
    have fr4 : Fr G μ H G4 μ4 H4 := ((fr'.trans f2).trans f3).trans f4
    cases b with
    | false => exact ⟨acc, accV, μ4, G4, q4, c'.back gr4 c4, fr4, g'.trans gr4, p4, pg4, pm4, ra.mono gr4⟩
    | true =>
      refine q4 σ3 G4 H4 c4 _ fun d μ5 v G5 H5 q5 r5 c5 f5 => ?_
      obtain ⟨p5, pg5, pm5⟩ := f5.fr p _ p4 pg4 pm4
      have gr5 : Grow G' G5 := gr4.trans f5.gg
      refine ⟨accV, p5, by rw [ra.length]; exact q5.1, acc ++ [d], accV ++ [v], μ5, G5, q5.2, (c'.back gr5 c5).chgU pg5 pm5 n1 _, ⟨(fr4.trans f5).gg, fun b o e1 e2 e3 => ?_, fun b e1 => (fr4.trans f5).dm b (upd_dm b e1)⟩, g'.trans gr5, upd_same, pg5, pm5, (ra.mono gr5).snoc r5⟩
      obtain ⟨k1, k2, k3⟩ := (fr4.trans f5).fr b o e1 e2 e3
      refine ⟨?_, k2, k3⟩
      have hb : b ≠ p := fun z => by
        subst z
        rw [f1.dm b hp] at e1; cases e1
      rw [upd_ne hb]; exact k1
  · have e2 : i = ds.length := by omega
    subst e2
    exact .inl ⟨ok.stop ρ μ' σ G' H' g' (hS _ acc μ' hi inv) c', q acc μ' p accV G' H' (hd acc μ' inv) c' hp' gp' mp' n1 ra fr' (f1.dm p hp)⟩
/-- each item's value by a function that changes nothing -/
theorem WEn_map {wi : TI} {g : TG} {te : TE} {vs js : List Nat} {Q : List DL.D → Store → Prop} (hjs : ∀ j ∈ js, j ∈ vs) (h : WI N wi ρ μ fun _ ds μ1 => ds.length ≤ sizeLine ∧ ∃ f : DL.D → DL.D, (∀ d ∈ ds, WG N g js d (wipeD ρ vs) μ1 fun ρ2 μ2 => WE N te ρ2 μ2 fun y μ4 => y = f d ∧ μ4 = μ1) ∧ Q (ds.map f) μ1) : WEn N (tLc wi g tYes te vs) ρ μ Q := by
  refine WEn_lc hjs fun σ G H c R k => h σ G H c R fun S ds μ1 J G' H' ⟨hl, f, h1, h2⟩ s => k S ds μ1 J G' H' ⟨fun i acc μ' => acc = (ds.take i).map f ∧ μ' = μ1, ⟨by simp, rfl⟩, fun i acc μ' _ e => by rw [e.2]; exact s, fun i d acc μ' hd e => ?_, fun acc μ' e => ?_⟩ s
  · obtain ⟨rfl, rfl⟩ := e
    refine (h1 d (List.mem_of_getElem? hd)).imp fun ρ2 μ2 q => WT_yes ?_
    rw [if_pos rfl]
    refine q.imp fun y μ4 e => ?_
    obtain ⟨rfl, rfl⟩ := e
    obtain ⟨hi, _⟩ := List.getElem?_eq_some_iff.mp hd
    refine ⟨?_, ?_, rfl⟩
    · rw [List.length_map, List.length_take]; omega
    · rw [List.take_add_one, hd, List.map_append]; rfl
  · rw [e.1, e.2, List.take_length]; exact h2
/-- .. and with tests -/
theorem WEn_filter {wi : TI} {g : TG} {tt : TT} {te : TE} {vs js : List Nat} {Q : List DL.D → Store → Prop} (hjs : ∀ j ∈ js, j ∈ vs) (h : WI N wi ρ μ fun _ ds μ1 => ds.length ≤ sizeLine ∧ ∃ (p : DL.D → Bool) (f : DL.D → DL.D), (∀ d ∈ ds, WG N g js d (wipeD ρ vs) μ1 fun ρ2 μ2 => WT N tt ρ2 μ2 fun b μ3 => b = p d ∧ μ3 = μ1 ∧ (b = true → WE N te ρ2 μ3 fun y μ4 => y = f d ∧ μ4 = μ1)) ∧ Q ((ds.filter p).map f) μ1) : WEn N (tLc wi g tt te vs) ρ μ Q := by
  refine WEn_lc hjs fun σ G H c R k => h σ G H c R fun S ds μ1 J G' H' ⟨hl, p, f, h1, h2⟩ s => k S ds μ1 J G' H' ⟨fun i acc μ' => acc = ((ds.take i).filter p).map f ∧ μ' = μ1, ⟨by simp, rfl⟩, fun i acc μ' _ e => by rw [e.2]; exact s, fun i d acc μ' hd e => ?_, fun acc μ' e => ?_⟩ s
  · obtain ⟨rfl, rfl⟩ := e
    refine (h1 d (List.mem_of_getElem? hd)).imp fun ρ2 μ2 q => q.imp fun b μ3 e => ?_
    obtain ⟨rfl, rfl, q⟩ := e
    obtain ⟨hi, _⟩ := List.getElem?_eq_some_iff.mp hd
    have tk : ds.take (i + 1) = ds.take i ++ [d] := by rw [List.take_add_one, hd]; rfl
    cases hp : p d with
    | true =>
      rw [if_pos rfl]
      refine (q hp).imp fun y μ4 e => ?_
      obtain ⟨rfl, rfl⟩ := e
      refine ⟨?_, ?_, rfl⟩
      · rw [List.length_map]
        refine Nat.lt_of_le_of_lt (List.length_filter_le _ _) ?_
        rw [List.length_take]; omega
      · rw [tk, List.filter_append, List.map_append]; simp [hp]
    | false =>
      rw [if_neg Bool.false_ne_true]
      refine ⟨?_, rfl⟩
      rw [tk, List.filter_append, List.map_append]; simp [hp]
  · rw [e.1, e.2, List.take_length]; exact h2
end
end DL
set_option Elab.async false
set_option linter.all false
set_option maxRecDepth 100000
namespace DL
open PySem PySem.Spec L2
section
variable {N : En} {ρ : Env} {μ : Store} {K : PySem.W.Frag}

/-! ### what is walked -/
theorem WI_list {tl : TE} {Q : (Store → Prop) → List D → Store → Prop} (h : WE N tl ρ μ fun d μ1 => ∃ ds, listOf μ1 d = some ds ∧ Q (fun m => listOf m d = some ds) ds μ1) : WI N (iList K tl) ρ μ Q := fun σ G H c R k => by
  refine h σ G H c _ fun d μ1 v G1 H1 q r c1 f1 => ?_
  obtain ⟨ds, hl, q⟩ := q
  obtain ⟨a, xs, e, ha, rr⟩ := c1.list hl r
  refine ⟨a, e, ⟨xs, SqL.of ha⟩, k _ ds μ1 _ G1 H1 q hl ⟨?_, ?_⟩ c1 f1⟩
  · intro i x ρ2 μ2 σ2 G2 H2 g s c2 hx
    obtain ⟨a2, xs2, e2, ha2, rr2⟩ := c2.list s (r.mono g)
    have ea : a2 = a := V.ref.inj (e2.symm.trans e)
    subst ea
    obtain ⟨y, hy, ry⟩ := rr2.get hx
    refine ⟨⟨xs2, y, SqL.of ha2, hy⟩, fun z H3 ⟨eh, hz⟩ => ?_⟩
    subst eh
    have ez : z = y := Option.some.inj ((hz xs2 (SqL.of ha2)).symm.trans hy)
    subst ez
    exact ⟨G2, c2, Fr.refl _ _ _, ry⟩
  · intro ρ2 μ2 σ2 G2 H2 g s c2
    obtain ⟨a2, xs2, e2, ha2, rr2⟩ := c2.list s (r.mono g)
    have ea : a2 = a := V.ref.inj (e2.symm.trans e)
    subst ea
    exact ⟨xs2, SqL.of ha2, by rw [rr2.length]; exact Nat.le_refl _⟩
theorem WI_tup {tl : TE} {Q : (Store → Prop) → List D → Store → Prop} (h : WE N tl ρ μ fun d μ1 => ∃ ds, d = .tup ds ∧ Q (fun _ => True) ds μ1) : WI N (iTup K tl) ρ μ Q := fun σ G H c R k => by
  refine h σ G H c _ fun d μ1 v G1 H1 q r c1 f1 => ?_
  obtain ⟨ds, rfl, q⟩ := q
  obtain ⟨a, xs, e, ha, rr⟩ := r
  have hs : ∀ {G2 H2 : Hp}, Grow G1 G2 → (∀ a o, G2 a = some o → H2 a = some o) → SqT K H2 a xs := fun g s => SqT.of (s a _ (g a _ ha))
  refine ⟨a, e, ⟨xs, hs (Grow.refl _) c1.wd.sub⟩, k _ ds μ1 _ G1 H1 q trivial ⟨?_, ?_⟩ c1 f1⟩
  · intro i x ρ2 μ2 σ2 G2 H2 g s c2 hx
    obtain ⟨y, hy, ry⟩ := rr.get hx
    refine ⟨⟨xs, y, hs g c2.wd.sub, hy⟩, fun z H3 ⟨eh, hz⟩ => ?_⟩
    subst eh
    have ez : z = y := Option.some.inj ((hz xs (hs g c2.wd.sub)).symm.trans hy)
    subst ez
    exact ⟨G2, c2, Fr.refl _ _ _, ry.mono g⟩
  · intro ρ2 μ2 σ2 G2 H2 g s c2
    exact ⟨xs, hs g c2.wd.sub, by rw [rr.length]; exact Nat.le_refl _⟩
def rangeD (lo : Int) (n : Nat) : List D := (List.range n).map fun (i : Nat) => D.int (lo + (i : Int))
theorem rangeD_length (lo : Int) (n : Nat) : (rangeD lo n).length = n := by unfold rangeD; rw [List.length_map, List.length_range]
theorem rangeD_get {lo : Int} {n i : Nat} {d : D} (h : (rangeD lo n)[i]? = some d) : i < n ∧ d = .int (lo + (i : Int)) := by
  have hi : i < n := by
    obtain ⟨q, _⟩ := List.getElem?_eq_some_iff.mp h
    rw [rangeD_length] at q; exact q
  unfold rangeD at h
  rw [List.getElem?_map, List.getElem?_range hi] at h
  exact ⟨hi, (Option.some.inj h).symm⟩
theorem itr_ok {G1 : Hp} {lo : Int} {n : Nat} : ItOk N G1 (Itr lo n) (fun _ => True) (rangeD lo n) where
  go := fun i d ρ2 μ2 σ2 G2 H2 g s c2 hx => by
    obtain ⟨hi, rfl⟩ := rangeD_get hx
    refine ⟨hi, fun z H3 ⟨eh, hz⟩ => ?_⟩
    subst eh hz
    exact ⟨G2, c2, Fr.refl _ _ _, rfl⟩
  stop := fun ρ2 μ2 σ2 G2 H2 g s c2 => by rw [rangeD_length]; exact Nat.le_refl _
theorem WI_range1 {ta : TA} {Q : (Store → Prop) → List D → Store → Prop} (h : WA N ta ρ μ fun ds μ1 => ∃ j : Int, ds = [.int j] ∧ -(2 ^ 62) ≤ j ∧ j < 2 ^ 62 ∧ Q (fun _ => True) (rangeD 0 j.toNat) μ1) : WI N (iRng1 ta) ρ μ Q := fun σ G H c R k => by
  refine h σ G H c _ fun ds μ1 vs G1 H1 q r c1 f1 => ?_
  obtain ⟨j, rfl, b1, b2, q⟩ := q
  have e : vs = [.int j] := RepL.map_int (ns := [j]) r
  exact ⟨j, e, b1, b2, k _ _ μ1 _ G1 H1 q trivial itr_ok c1 f1⟩
theorem WI_range2 {ta : TA} {Q : (Store → Prop) → List D → Store → Prop} (h : WA N ta ρ μ fun ds μ1 => ∃ i j : Int, ds = [.int i, .int j] ∧ (-(2 ^ 62) ≤ i ∧ i < 2 ^ 62 ∧ -(2 ^ 62) ≤ j ∧ j < 2 ^ 62) ∧ Q (fun _ => True) (rangeD i (j - i).toNat) μ1) : WI N (iRng2 ta) ρ μ Q := fun σ G H c R k => by
  refine h σ G H c _ fun ds μ1 vs G1 H1 q r c1 f1 => ?_
  obtain ⟨i, j, rfl, b, q⟩ := q
  have e : vs = [.int i, .int j] := RepL.map_int (ns := [i, j]) r
  exact ⟨i, j, e, b, k _ _ μ1 _ G1 H1 q trivial itr_ok c1 f1⟩
def signsD (x : Str) : List D := x.cps.toList.map fun c => D.str ⟨#[c]⟩
theorem WI_str {te : TE} {Q : (Store → Prop) → List D → Store → Prop} (h : WE N te ρ μ fun d μ1 => ∃ x, d = .str x ∧ Q (fun _ => True) (signsD x) μ1) : WI N (iStr te) ρ μ Q := fun σ G H c R k => by
  refine h σ G H c _ fun d μ1 v G1 H1 q r c1 f1 => ?_
  obtain ⟨x, rfl, q⟩ := q
  have hl : (signsD x).length = x.cps.size := by unfold signsD; rw [List.length_map, Array.length_toList]
  refine ⟨x, r, k _ _ μ1 _ G1 H1 q trivial ⟨?_, ?_⟩ c1 f1⟩
  · intro i d ρ2 μ2 σ2 G2 H2 g s c2 hx
    have hi : i < x.cps.size := by
      obtain ⟨q, _⟩ := List.getElem?_eq_some_iff.mp hx
      rw [hl] at q; exact q
    refine ⟨hi, fun z H3 ⟨eh, cc, hc, hz⟩ => ?_⟩
    subst eh hz
    unfold signsD at hx
    rw [List.getElem?_map, Array.getElem?_toList, hc] at hx
    have e := Option.some.inj hx
    subst e
    exact ⟨G2, c2, Fr.refl _ _ _, rfl⟩
  · intro ρ2 μ2 σ2 G2 H2 g s c2
    rw [hl]; exact Nat.le_refl _
def enumD (ds : List D) : List D := (List.range ds.length).map fun (i : Nat) => D.tup [.int (i : Int), ds.getD i .non]
theorem enumD_length (ds : List D) : (enumD ds).length = ds.length := by unfold enumD; rw [List.length_map, List.length_range]
theorem enumD_get {ds : List D} {i : Nat} {d : D} (h : (enumD ds)[i]? = some d) : ∃ e, ds[i]? = some e ∧ d = .tup [.int (i : Int), e] := by
  have hi : i < ds.length := by
    obtain ⟨q, _⟩ := List.getElem?_eq_some_iff.mp h
    rw [enumD_length] at q; exact q
  unfold enumD at h
  rw [List.getElem?_map, List.getElem?_range hi] at h
  refine ⟨ds[i], List.getElem?_eq_getElem hi, ?_⟩
  have e : ds.getD i D.non = ds[i] := by rw [List.getD_eq_getElem?_getD, List.getElem?_eq_getElem hi]; rfl
  rw [← Option.some.inj h]
  show D.tup [D.int (i : Int), ds.getD i D.non] = _
  rw [e]
theorem WI_enum {ta : TA} {Q : (Store → Prop) → List D → Store → Prop} (h : WA N ta ρ μ fun es μ1 => ∃ d ds, es = [d] ∧ listOf μ1 d = some ds ∧ Q (fun m => listOf m d = some ds) (enumD ds) μ1) : WI N (iEnum K ta) ρ μ Q := fun σ G H c R k => by
  refine h σ G H c _ fun es μ1 vs G1 H1 q r c1 f1 => ?_
  obtain ⟨d, ds, rfl, hl, q⟩ := q
  obtain ⟨v, rest, rfl, r, rfl⟩ := r
  obtain ⟨a, xs, e, ha, rr⟩ := c1.list hl r
  subst e
  refine ⟨a, xs, rfl, SqL.of ha, k _ _ μ1 _ G1 H1 q hl ⟨?_, ?_⟩ c1 f1⟩
  · intro i x ρ2 μ2 σ2 G2 H2 g s c2 hx
    obtain ⟨a2, xs2, e2, ha2, rr2⟩ := c2.list s (r.mono g)
    cases e2
    obtain ⟨x', hx', rfl⟩ := enumD_get hx
    obtain ⟨y, hy, ry⟩ := rr2.get hx'
    refine ⟨⟨xs2, y, SqL.of ha2, hy⟩, fun z H3 ⟨T, w, ez, hT, eh, hw⟩ => ?_⟩
    subst eh ez
    have ew : w = y := Option.some.inj ((hw xs2 (SqL.of ha2)).symm.trans hy)
    subst ew
    obtain ⟨c3, f3⟩ := c2.newG hT (.tup [.int (i : Int), w])
    exact ⟨_, c3, f3, T, _, rfl, upd_same, .cons rfl (.cons (ry.mono f3.gg) .nil)⟩
  · intro ρ2 μ2 σ2 G2 H2 g s c2
    obtain ⟨a2, xs2, e2, ha2, rr2⟩ := c2.list s (r.mono g)
    cases e2
    exact ⟨xs2, SqL.of ha2, by rw [rr2.length, enumD_length]; exact Nat.le_refl _⟩
def zipD (as bs : List D) : List D := (as.zip bs).map fun p => D.tup [p.1, p.2]
theorem zipD_length (as bs : List D) : (zipD as bs).length = min as.length bs.length := by unfold zipD; rw [List.length_map, List.length_zip]
theorem zipD_get {as bs : List D} {i : Nat} {d : D} (h : (zipD as bs)[i]? = some d) : ∃ a b, as[i]? = some a ∧ bs[i]? = some b ∧ d = .tup [a, b] := by
  unfold zipD at h
  rw [List.getElem?_map] at h
  cases q : (as.zip bs)[i]? with
  | none => rw [q] at h; cases h
  | some p =>
    rw [q] at h
    obtain ⟨h1, h2⟩ := List.getElem?_zip_eq_some.mp q
    exact ⟨p.1, p.2, h1, h2, (Option.some.inj h).symm⟩
theorem WI_zipT {ta : TA} {Q : (Store → Prop) → List D → Store → Prop} (h : WA N ta ρ μ fun es μ1 => ∃ as bs, es = [.tup as, .tup bs] ∧ Q (fun _ => True) (zipD as bs) μ1) : WI N (RZ.iZipA K ta) ρ μ Q := fun σ G H c R k => by
  refine h σ G H c _ fun es μ1 vs G1 H1 q r c1 f1 => ?_
  obtain ⟨as, bs, rfl, q⟩ := q
  obtain ⟨v, r1, rfl, ⟨a, xs, rfl, ha, ra⟩, w, r2, rfl, ⟨b, ys, rfl, hb, rb⟩, rfl⟩ := r
  have s1 : ∀ {G2 H2 : Hp}, Grow G1 G2 → (∀ a o, G2 a = some o → H2 a = some o) → SqT K H2 a xs := fun g s => SqT.of (s a _ (g a _ ha))
  have s2 : ∀ {G2 H2 : Hp}, Grow G1 G2 → (∀ a o, G2 a = some o → H2 a = some o) → SqT K H2 b ys := fun g s => SqT.of (s b _ (g b _ hb))
  refine ⟨a, b, xs, ys, rfl, .inr ⟨s1 (Grow.refl _) c1.wd.sub, s2 (Grow.refl _) c1.wd.sub, k _ _ μ1 _ G1 H1 q trivial ⟨?_, ?_⟩ c1 f1⟩⟩
  · intro i x ρ2 μ2 σ2 G2 H2 g s c2 hx
    obtain ⟨dx, dy, h1, h2, rfl⟩ := zipD_get hx
    obtain ⟨y1, hy1, ry1⟩ := ra.get h1
    obtain ⟨y2, hy2, ry2⟩ := rb.get h2
    refine ⟨⟨xs, ys, y1, y2, s1 g c2.wd.sub, s2 g c2.wd.sub, hy1, hy2⟩, fun z H3 ⟨T, w1, w2, ez, hT, eh, k1, k2⟩ => ?_⟩
    subst eh ez
    have e1 : w1 = y1 := Option.some.inj ((k1 xs (s1 g c2.wd.sub)).symm.trans hy1)
    have e2 : w2 = y2 := Option.some.inj ((k2 ys (s2 g c2.wd.sub)).symm.trans hy2)
    subst e1 e2
    obtain ⟨c3, f3⟩ := c2.newG hT (.tup [w1, w2])
    exact ⟨_, c3, f3, T, _, rfl, upd_same, .cons ((ry1.mono g).mono f3.gg) (.cons ((ry2.mono g).mono f3.gg) .nil)⟩
  · intro ρ2 μ2 σ2 G2 H2 g s c2
    refine ⟨xs, ys, s1 g c2.wd.sub, s2 g c2.wd.sub, ?_⟩
    rw [zipD_length, ra.length, rb.length]; omega
theorem WI_zipL {ta : TA} {Q : (Store → Prop) → List D → Store → Prop} (h : WA N ta ρ μ fun es μ1 => ∃ d e as bs, es = [d, e] ∧ listOf μ1 d = some as ∧ listOf μ1 e = some bs ∧ Q (fun m => listOf m d = some as ∧ listOf m e = some bs) (zipD as bs) μ1) : WI N (RZ.iZipA K ta) ρ μ Q := fun σ G H c R k => by
  refine h σ G H c _ fun es μ1 vs G1 H1 q r c1 f1 => ?_
  obtain ⟨d, e, as, bs, rfl, l1, l2, q⟩ := q
  obtain ⟨v, r0, rfl, rv, w, r2, rfl, rw_, rfl⟩ := r
  obtain ⟨a, xs, rfl, ha, ra⟩ := c1.list l1 rv
  obtain ⟨b, ys, rfl, hb, rb⟩ := c1.list l2 rw_
  refine ⟨a, b, xs, ys, rfl, .inl ⟨SqL.of ha, SqL.of hb, k _ _ μ1 _ G1 H1 q ⟨l1, l2⟩ ⟨?_, ?_⟩ c1 f1⟩⟩
  · intro i x ρ2 μ2 σ2 G2 H2 g s c2 hx
    obtain ⟨a2, xs2, e2, ha2, ra2⟩ := c2.list s.1 (rv.mono g)
    obtain ⟨b2, ys2, e3, hb2, rb2⟩ := c2.list s.2 (rw_.mono g)
    cases e2
    cases e3
    obtain ⟨dx, dy, h1, h2, rfl⟩ := zipD_get hx
    obtain ⟨y1, hy1, ry1⟩ := ra2.get h1
    obtain ⟨y2, hy2, ry2⟩ := rb2.get h2
    refine ⟨⟨xs2, ys2, y1, y2, SqL.of ha2, SqL.of hb2, hy1, hy2⟩, fun z H3 ⟨T, w1, w2, ez, hT, eh, k1, k2⟩ => ?_⟩
    subst eh ez
    have e1 : w1 = y1 := Option.some.inj ((k1 xs2 (SqL.of ha2)).symm.trans hy1)
    have e2 : w2 = y2 := Option.some.inj ((k2 ys2 (SqL.of hb2)).symm.trans hy2)
    subst e1 e2
    obtain ⟨c3, f3⟩ := c2.newG hT (.tup [w1, w2])
    exact ⟨_, c3, f3, T, _, rfl, upd_same, .cons (ry1.mono f3.gg) (.cons (ry2.mono f3.gg) .nil)⟩
  · intro ρ2 μ2 σ2 G2 H2 g s c2
    obtain ⟨a2, xs2, e2, ha2, ra2⟩ := c2.list s.1 (rv.mono g)
    obtain ⟨b2, ys2, e3, hb2, rb2⟩ := c2.list s.2 (rw_.mono g)
    cases e2
    cases e3
    refine ⟨xs2, ys2, SqL.of ha2, SqL.of hb2, ?_⟩
    rw [zipD_length, ra2.length, rb2.length]; omega

/-! ### operators -/
theorem L2r.or {r r' : R2} {rd rd' : D → D → Store → QD → Prop} (l : L2r r rd) (l' : L2r r' rd') : L2r (fun x y H Q => r x y H Q ∨ r' x y H Q) (fun x y μ Q => rd x y μ Q ∨ rd' x y μ Q) :=
  fun N ρ μ σ G H x y dx dy Q c rx ry h Qv k => h.elim (fun q => .inl (l N ρ μ σ G H x y dx dy Q c rx ry q Qv k)) fun q => .inr (l' N ρ μ σ G H x y dx dy Q c rx ry q Qv k)
def dInt (g : Int → Int → D) : D → D → Store → QD → Prop := fun x y μ Q => ∃ i j, x = .int i ∧ y = .int j ∧ Q (g i j) μ
def dIntC (C : Int → Int → Prop) (g : Int → Int → D) : D → D → Store → QD → Prop := fun x y μ Q => ∃ i j, x = .int i ∧ y = .int j ∧ C i j ∧ Q (g i j) μ
theorem lInt {g : Int → Int → Int} : L2r (rI0 fun i j => .int (g i j)) (dInt fun i j => .int (g i j)) := fun N ρ μ σ G H x y dx dy Q c rx ry h Qv k => by
  obtain ⟨i, j, rfl, rfl, q⟩ := h
  exact ⟨i, j, rx, ry, k _ μ _ G H q rfl c (Fr.refl _ _ _)⟩
theorem lIntB {g : Int → Int → Bool} : L2r (rI0 fun i j => .bl (g i j)) (dInt fun i j => .bl (g i j)) := fun N ρ μ σ G H x y dx dy Q c rx ry h Qv k => by
  obtain ⟨i, j, rfl, rfl, q⟩ := h
  exact ⟨i, j, rx, ry, k _ μ _ G H q rfl c (Fr.refl _ _ _)⟩
theorem lIntC {C : Int → Int → Prop} {g : Int → Int → Int} : L2r (rI C fun i j => .int (g i j)) (dIntC C fun i j => .int (g i j)) := fun N ρ μ σ G H x y dx dy Q c rx ry h Qv k => by
  obtain ⟨i, j, rfl, rfl, hc, q⟩ := h
  exact ⟨i, j, rx, ry, hc, k _ μ _ G H q rfl c (Fr.refl _ _ _)⟩
def dCatS : D → D → Store → QD → Prop := fun x y μ Q => ∃ a b, x = .str a ∧ y = .str b ∧ a.length + b.length ≤ sizeLine ∧ Q (.str (a ++ b)) μ
theorem lCatS : L2r (fun x y H Q => ∃ i j, x = .str i ∧ y = .str j ∧ i.length + j.length ≤ sizeLine ∧ Q (.str (i ++ j)) H) dCatS := fun N ρ μ σ G H x y dx dy Q c rx ry h Qv k => by
  obtain ⟨i, j, rfl, rfl, hc, q⟩ := h
  exact ⟨i, j, rx, ry, hc, k _ μ _ G H q rfl c (Fr.refl _ _ _)⟩
def dCatT : D → D → Store → QD → Prop := fun x y μ Q => ∃ as bs, x = .tup as ∧ y = .tup bs ∧ as.length + bs.length ≤ sizeLine ∧ Q (.tup (as ++ bs)) μ
theorem lCatT : L2r (rCatA K) dCatT := fun N ρ μ σ G H x y dx dy Q c rx ry h Qv k => by
  obtain ⟨as, bs, rfl, rfl, hc, q⟩ := h
  obtain ⟨a, xs, rfl, ga, ra⟩ := rx
  obtain ⟨b, ys, rfl, gb, rb⟩ := ry
  refine ⟨a, b, xs, ys, rfl, rfl, SqT.of (c.wd.sub _ _ ga), SqT.of (c.wd.sub _ _ gb), by rw [ra.length, rb.length]; exact hc, fun e => ?_, fun _ e => ?_, fun _ _ p hp => ?_⟩
  · have z : as = [] := List.eq_nil_of_length_eq_zero (by rw [← ra.length, e]; rfl)
    subst z
    exact k _ μ _ G H q ⟨b, ys, rfl, gb, rb⟩ c (Fr.refl _ _ _)
  · have z : bs = [] := List.eq_nil_of_length_eq_zero (by rw [← rb.length, e]; rfl)
    subst z
    rw [List.append_nil] at q
    exact k _ μ _ G H q ⟨a, xs, rfl, ga, ra⟩ c (Fr.refl _ _ _)
  · obtain ⟨c2, f2⟩ := c.newG hp (.tup (xs ++ ys))
    exact k _ μ _ _ _ q ⟨p, _, rfl, upd_same, (ra.append rb).mono f2.gg⟩ c2 f2
def dCatL : D → D → Store → (List D → Store → Prop) → Prop := fun x y μ Q => ∃ as bs, listOf μ x = some as ∧ listOf μ y = some bs ∧ as.length + bs.length ≤ sizeLine ∧ Q (as ++ bs) μ
theorem lCatL : L2n rCat dCatL := fun N ρ μ σ G H x y dx dy Q c rx ry h Qv k => by
  obtain ⟨as, bs, h1, h2, hc, q⟩ := h
  obtain ⟨a, xs, rfl, ga, ra⟩ := c.list h1 rx
  obtain ⟨b, ys, rfl, gb, rb⟩ := c.list h2 ry
  refine ⟨a, b, xs, ys, rfl, rfl, ga, gb, by rw [ra.length, rb.length]; exact hc, fun p hp => ?_⟩
  obtain ⟨c2, f2⟩ := c.newU hp (.lst (xs ++ ys))
  obtain ⟨g, m, n⟩ := c.fresh hp
  exact k _ μ p _ G _ q c2 upd_same g m n (ra.append rb) f2 hp
def dRepL : D → D → Store → (List D → Store → Prop) → Prop := fun x y μ Q => ∃ as n, listOf μ x = some as ∧ y = .int n ∧ -(2 ^ 63) ≤ n ∧ n < 2 ^ 63 ∧ as.length * n.toNat ≤ sizeLine ∧ Q (List.replicate n.toNat as).flatten μ
theorem lRepL : L2n rRep dRepL := fun N ρ μ σ G H x y dx dy Q c rx ry h Qv k => by
  obtain ⟨as, n, h1, rfl, b1, b2, b3, q⟩ := h
  obtain ⟨a, xs, rfl, ga, ra⟩ := c.list h1 rx
  refine ⟨a, n, xs, rfl, ry, ga, b1, b2, by rw [ra.length]; exact b3, fun p hp => ?_⟩
  obtain ⟨c2, f2⟩ := c.newU hp (.lst (List.replicate n.toNat xs).flatten)
  obtain ⟨g, m, n⟩ := c.fresh hp
  exact k _ μ p _ G _ q c2 upd_same g m n (ra.repFlat _) f2 hp
/-- the items that d stands for: a list, a tuple -/
def seqOf (μ : Store) : D → Option (List D)
  | .tup ds => some ds
  | d => listOf μ d
theorem seqOf_list {μ : Store} {d : D} {ds : List D} (h : listOf μ d = some ds) : seqOf μ d = some ds := by
  cases d <;> first | exact h | (simp [listOf] at h)
theorem seqOf_cases {μ : Store} {d : D} {ds : List D} (h : seqOf μ d = some ds) : d = .tup ds ∨ listOf μ d = some ds := by
  cases d with
  | tup es => exact .inl (congrArg D.tup (Option.some.inj h))
  | non => exact .inr h
  | bl b => exact .inr h
  | int b => exact .inr h
  | str b => exact .inr h
  | ty b => exact .inr h
  | ptr b => exact .inr h
  | lst b => exact .inr h
  | opq b => exact .inr h
theorem Cf.seq {σ : L2.St} {G H : Hp} (c : Cf N ρ μ σ G H) {d : D} {v : V} {ds : List D} (h : seqOf μ d = some ds) (r : Rep G d v) : ∃ a xs, v = .ref a ∧ (SqL K H a xs ∨ SqT K H a xs) ∧ RepL G ds xs := by
  rcases seqOf_cases h with rfl | h
  · obtain ⟨a, xs, e, ha, rr⟩ := c.tup r
    exact ⟨a, xs, e, .inr (SqT.of ha), rr⟩
  · obtain ⟨a, xs, e, ha, rr⟩ := c.list h r
    exact ⟨a, xs, e, .inl (SqL.of ha), rr⟩
def dLen : List D → Store → QD → Prop := fun xs μ Q => ∃ d ds, xs = [d] ∧ seqOf μ d = some ds ∧ Q (.int ds.length) μ
theorem lLen : LCr (fun xs H Q => ∃ p ys, xs = [.ref p] ∧ (SqL K H p ys ∨ SqT K H p ys) ∧ Q (.int ys.length) H) dLen := fun N ρ μ σ G H xs ds Q c r h Qv k => by
  obtain ⟨d, es, rfl, hs, q⟩ := h
  obtain ⟨v, rest, rfl, r, rfl⟩ := r
  obtain ⟨a, ys, rfl, hq, rr⟩ := c.seq (K := K) hs r
  refine ⟨a, ys, rfl, hq, k _ μ _ G H q ?_ c (Fr.refl _ _ _)⟩
  rw [rr.length]; rfl
def dLenS : List D → Store → QD → Prop := fun xs μ Q => ∃ z, xs = [.str z] ∧ z.length ≤ sizeLine ∧ Q (.int z.length) μ
theorem lLenS : LCr (fun xs H Q => ∃ z, xs = [.str z] ∧ z.length ≤ sizeLine ∧ Q (.int z.length) H) dLenS := fun N ρ μ σ G H xs ds Q c r h Qv k => by
  obtain ⟨z, rfl, hs, q⟩ := h
  have e : xs = [.str z] := RepL.map_str (ns := [z]) r
  exact ⟨z, e, hs, k _ μ _ G H q rfl c (Fr.refl _ _ _)⟩
theorem LCr.or {r r' : List V → Hp → VK → Prop} {rd rd' : List D → Store → QD → Prop} (l : LCr r rd) (l' : LCr r' rd') : LCr (fun xs H Q => r xs H Q ∨ r' xs H Q) (fun xs μ Q => rd xs μ Q ∨ rd' xs μ Q) :=
  fun N ρ μ σ G H xs ds Q c rx h Qv k => h.elim (fun q => .inl (l N ρ μ σ G H xs ds Q c rx q Qv k)) fun q => .inr (l' N ρ μ σ G H xs ds Q c rx q Qv k)
/-- d[i] of a list, a tuple, a text -/
def dIx : D → D → Store → QD → Prop := fun x y μ Q => (∃ ds i e, seqOf μ x = some ds ∧ y = .int i ∧ atI ds i = some e ∧ Q e μ) ∨ ∃ z i c, x = .str z ∧ y = .int i ∧ z.length ≤ sizeLine ∧ atI z.cps.toList i = some c ∧ Q (.str ⟨#[c]⟩) μ
theorem atI_rep {G : Hp} {ds : List D} {xs : List V} {i : Int} {e : D} (r : RepL G ds xs) (h : atI ds i = some e) : ∃ v, atI xs i = some v ∧ Rep G e v := by
  unfold atI at h ⊢
  rw [r.length]
  cases q : ixN ds.length i with
  | none => rw [q] at h; cases h
  | some j =>
    rw [q] at h
    exact r.get h
theorem lIx : L2r (rIx K) dIx := fun N ρ μ σ G H x y dx dy Q c rx ry h Qv k => by
  rcases h with ⟨ds, i, e, h1, rfl, h2, q⟩ | ⟨z, i, cc, rfl, rfl, hz, h2, q⟩
  · obtain ⟨a, xs, rfl, hs, rr⟩ := c.seq (K := K) h1 rx
    obtain ⟨v, hv, rv⟩ := atI_rep rr h2
    rcases hs with hs | hs
    · exact .inl ⟨a, xs, i, v, rfl, ry, hs, hv, k _ μ _ G H q rv c (Fr.refl _ _ _)⟩
    · exact .inr (.inl ⟨a, xs, i, v, rfl, ry, hs, hv, k _ μ _ G H q rv c (Fr.refl _ _ _)⟩)
  · exact .inr (.inr ⟨z, i, cc, rx, ry, hz, h2, k _ μ _ G H q rfl c (Fr.refl _ _ _)⟩)
end
end DL
set_option Elab.async false
set_option linter.all false
set_option maxRecDepth 100000
namespace DL
open PySem PySem.Spec L2

/-! ### data as the library's data -/
mutual
def toPy : D → PyData
  | .non => .none
  | .bl b => .bool b
  | .int i => .int i
  | .str x => .str x
  | .ty _ => .none
  | .ptr _ => .none
  | .tup ds => .tuple (toPyL ds)
  | .lst ds => .list (toPyL ds)
  | .opq _ => .none
def toPyL : List D → List PyData
  | [] => []
  | d :: ds => toPy d :: toPyL ds
end
mutual
/-- no pointer, no class -/
def plain : D → Bool
  | .ty _ => false
  | .ptr _ => false
  | .tup ds => plainL ds
  | .lst ds => plainL ds
  | .opq _ => false
  | _ => true
def plainL : List D → Bool
  | [] => true
  | d :: ds => plain d && plainL ds
end
mutual
theorem Rep.dp {K : PySem.W.Frag} {G H : Hp} (s : ∀ a o, G a = some o → H a = some o) : ∀ {d : D} {v : V}, plain d = true → Rep G d v → Dp K H v (toPy d)
  | .non, _, _, r => by cases (show _ = V.non from r); exact .non
  | .bl b, _, _, r => by cases (show _ = V.bl b from r); exact .bl b
  | .int b, _, _, r => by cases (show _ = V.int b from r); exact .int b
  | .str b, _, _, r => by cases (show _ = V.str b from r); exact .str b
  | .ty _, _, h, _ => by simp [plain] at h
  | .ptr _, _, h, _ => by simp [plain] at h
  | .tup ds, _, h, ⟨a, xs, e, g, r⟩ => by rw [e]; exact .tup (SqT.of (s _ _ g)) (RepL.dp s (by simpa [plain] using h) r)
  | .lst ds, _, h, ⟨a, xs, e, g, r⟩ => by rw [e]; exact .lst (SqL.of (s _ _ g)) (RepL.dp s (by simpa [plain] using h) r)
  | .opq _, _, h, _ => by simp [plain] at h
theorem RepL.dp {K : PySem.W.Frag} {G H : Hp} (s : ∀ a o, G a = some o → H a = some o) : ∀ {ds : List D} {vs : List V}, plainL ds = true → RepL G ds vs → DpAll K H vs (toPyL ds)
  | [], _, _, r => by rw [show _ = [] from r]; exact .nil
  | d :: ds, _, h, ⟨v, w, e, r1, r2⟩ => by
    rw [e]
    have h' : plain d = true ∧ plainL ds = true := by simpa [plainL] using h
    exact .cons (Rep.dp s h'.1 r1) (RepL.dp s h'.2 r2)
end
def eqD (x y : D) : Bool := PyData.eqv (toPy x) (toPy y)
def shp (x : D) : Bool := plain x && SeqAt.shaped (toPy x)
section
variable {N : En} {ρ : Env} {μ : Store} {K : PySem.W.Frag}
def dEq : D → D → Store → QD → Prop := fun x y μ Q => shp x = true ∧ shp y = true ∧ Q (.bl (eqD x y)) μ
def dNe : D → D → Store → QD → Prop := fun x y μ Q => shp x = true ∧ shp y = true ∧ Q (.bl (!eqD x y)) μ
theorem shp_plain {x : D} (h : shp x = true) : plain x = true := (Bool.and_eq_true_iff.mp h).1
theorem shp_shaped {x : D} (h : shp x = true) : SeqAt.shaped (toPy x) = true := (Bool.and_eq_true_iff.mp h).2
theorem lEq : L2r (rEqD K) dEq := fun N ρ μ σ G H x y dx dy Q c rx ry h Qv k =>
  ⟨toPy dx, toPy dy, rx.dp c.wd.sub (shp_plain h.1), ry.dp c.wd.sub (shp_plain h.2.1), shp_shaped h.1, shp_shaped h.2.1, k _ μ _ G H h.2.2 rfl c (Fr.refl _ _ _)⟩
theorem lNe : L2r (rNeD K) dNe := fun N ρ μ σ G H x y dx dy Q c rx ry h Qv k =>
  ⟨toPy dx, toPy dy, rx.dp c.wd.sub (shp_plain h.1), ry.dp c.wd.sub (shp_plain h.2.1), shp_shaped h.1, shp_shaped h.2.1, k _ μ _ G H h.2.2 rfl c (Fr.refl _ _ _)⟩
def isNonD : D → Bool
  | .non => true
  | _ => false
theorem Rep.isNon {G : Hp} {d : D} {v : V} (r : Rep G d v) : decide (v = V.non) = isNonD d := by
  cases d with
  | non => rw [show v = V.non from r]; rfl
  | bl b => rw [show v = V.bl b from r]; rfl
  | int b => rw [show v = V.int b from r]; rfl
  | str b => rw [show v = V.str b from r]; rfl
  | ty b => rw [show v = V.ty b from r]; rfl
  | ptr b => rw [show v = V.ref b from r]; rfl
  | tup ds => obtain ⟨a, xs, e, _⟩ := r; rw [e]; rfl
  | lst ds => obtain ⟨a, xs, e, _⟩ := r; rw [e]; rfl
  | opq _ => obtain ⟨a, e, _⟩ := r; rw [e]; rfl
def dIsN : D → D → Store → QD → Prop := fun x y μ Q => y = .non ∧ Q (.bl (isNonD x)) μ
def dNotN : D → D → Store → QD → Prop := fun x y μ Q => y = .non ∧ Q (.bl (!isNonD x)) μ
theorem lIsN : L2r (fun x y H Q => y = .non ∧ Q (.bl (decide (x = .non))) H) dIsN := fun N ρ μ σ G H x y dx dy Q c rx ry h Qv k => by
  obtain ⟨rfl, q⟩ := h
  exact ⟨ry, k _ μ _ G H q (by rw [rx.isNon]; rfl) c (Fr.refl _ _ _)⟩
theorem lNotN : L2r (fun x y H Q => y = .non ∧ Q (.bl (!decide (x = .non))) H) dNotN := fun N ρ μ σ G H x y dx dy Q c rx ry h Qv k => by
  obtain ⟨rfl, q⟩ := h
  exact ⟨ry, k _ μ _ G H q (by rw [rx.isNon]; rfl) c (Fr.refl _ _ _)⟩
/-- flat values in a list or a tuple -/
def flat : D → Bool
  | .non => true
  | .bl _ => true
  | .int _ => true
  | .str _ => true
  | _ => false
def eqF : D → D → Bool
  | .non, .non => true
  | .bl a, .bl b => a == b
  | .bl a, .int b => (if a then 1 else 0) == b
  | .int a, .bl b => a == (if b then 1 else 0)
  | .int a, .int b => a == b
  | .str a, .str b => a == b
  | _, _ => false
theorem Rep.flat {G : Hp} {d : D} {v : V} (h : DL.flat d = true) (r : Rep G d v) : flatV v = true := by
  cases d with
  | non => rw [show v = V.non from r]; rfl
  | bl b => rw [show v = V.bl b from r]; rfl
  | int b => rw [show v = V.int b from r]; rfl
  | str b => rw [show v = V.str b from r]; rfl
  | ty b => cases h
  | ptr b => cases h
  | tup ds => cases h
  | lst ds => cases h
  | opq _ => cases h
theorem Rep.eqF {G : Hp} {d e : D} {v w : V} (h : DL.flat d = true) (h' : DL.flat e = true) (r : Rep G d v) (r' : Rep G e w) : eqV v w = DL.eqF d e := by
  cases d <;> first | (cases h; done) | (cases e <;> first | (cases h'; done) | (rw [show v = _ from r, show w = _ from r']; rfl))
theorem RepL.allFlat {G : Hp} : ∀ {ds : List D} {vs : List V}, ds.all DL.flat = true → RepL G ds vs → vs.all flatV = true
  | [], _, _, r => by rw [show _ = [] from r]; rfl
  | d :: ds, _, h, ⟨v, w, e, r1, r2⟩ => by
    rw [List.all_cons, Bool.and_eq_true] at h
    rw [e, List.all_cons, r1.flat h.1, RepL.allFlat h.2 r2]; rfl
theorem RepL.inF {G : Hp} {x : D} {xv : V} (hx : DL.flat x = true) (rx : Rep G x xv) : ∀ {ds : List D} {vs : List V}, ds.all DL.flat = true → RepL G ds vs → inV xv vs = ds.any fun y => DL.eqF y x
  | [], _, _, r => by rw [show _ = [] from r]; rfl
  | d :: ds, _, h, ⟨v, w, e, r1, r2⟩ => by
    rw [List.all_cons, Bool.and_eq_true] at h
    have ih := RepL.inF hx rx h.2 r2
    unfold inV at ih ⊢
    rw [e, List.any_cons, List.any_cons, ih, r1.eqF h.1 hx rx]
def dIn (neg : Bool) : D → D → Store → QD → Prop := fun x y μ Q => ∃ ds, seqOf μ y = some ds ∧ flat x = true ∧ ds.all flat = true ∧ Q (.bl (if neg then !(ds.any fun e => eqF e x) else ds.any fun e => eqF e x)) μ
theorem lIn {neg : Bool} : L2r (rIn K neg) (dIn neg) := fun N ρ μ σ G H x y dx dy Q c rx ry h Qv k => by
  obtain ⟨ds, hs, hx, hd, q⟩ := h
  obtain ⟨a, xs, rfl, hq, rr⟩ := c.seq (K := K) hs ry
  refine ⟨a, xs, rfl, hq, rx.flat hx, rr.allFlat hd, ?_⟩
  rw [rr.inF hx rx hd]
  exact k _ μ _ G H q rfl c (Fr.refl _ _ _)
def dInSign (neg : Bool) : D → D → Store → QD → Prop := fun x y μ Q => ∃ c z, x = .str ⟨#[c]⟩ ∧ y = .str z ∧ Q (.bl (if neg then !decide (c ∈ z.cps.toList) else decide (c ∈ z.cps.toList))) μ
theorem lInSign : L2r (fun x y H Q => ∃ (c : Nat) (z : Str), x = .str ⟨#[c]⟩ ∧ y = .str z ∧ Q (.bl (decide (c ∈ z.cps.toList))) H) (dInSign false) := fun N ρ μ σ G H x y dx dy Q c rx ry h Qv k => by
  obtain ⟨cc, z, rfl, rfl, q⟩ := h
  exact ⟨cc, z, rx, ry, k _ μ _ G H q rfl c (Fr.refl _ _ _)⟩
theorem lNotInSign : L2r (fun x y H Q => ∃ (c : Nat) (z : Str), x = .str ⟨#[c]⟩ ∧ y = .str z ∧ Q (.bl (!decide (c ∈ z.cps.toList))) H) (dInSign true) := fun N ρ μ σ G H x y dx dy Q c rx ry h Qv k => by
  obtain ⟨cc, z, rfl, rfl, q⟩ := h
  exact ⟨cc, z, rx, ry, k _ μ _ G H q rfl c (Fr.refl _ _ _)⟩

/-! ### slices -/
def cutD (xs : List D) (lo hi : Option Int) : List D := (xs.drop (HT.sIx xs.length 0 lo)).take (HT.sIx xs.length xs.length hi - HT.sIx xs.length 0 lo)
theorem RepL.cut {G : Hp} {ds : List D} {vs : List V} (r : RepL G ds vs) (lo hi : Option Int) : RepL G (cutD ds lo hi) (cutV vs lo hi) := by
  unfold cutD cutV
  rw [r.length]
  exact (r.drop _).take _
def dSlT : D → Option Int → Option Int → Store → QD → Prop := fun x lo hi μ Q => ∃ ds, x = .tup ds ∧ Q (.tup (cutD ds lo hi)) μ
theorem cutD_whole {ds : List D} {lo hi : Option Int} (h1 : HT.sIx ds.length 0 lo = 0) (h2 : HT.sIx ds.length ds.length hi = ds.length) : cutD ds lo hi = ds := by
  unfold cutD
  rw [h1, h2, List.drop_zero, Nat.sub_zero, List.take_length]
theorem lSlT : LSr (rSlA K) dSlT := fun N ρ μ σ G H x dx lo hi Q c rx h Qv k => by
  obtain ⟨ds, rfl, q⟩ := h
  obtain ⟨a, xs, rfl, ga, ra⟩ := rx
  refine ⟨a, xs, rfl, SqT.of (c.wd.sub _ _ ga), fun e => ?_, fun _ p hp => ?_⟩
  · rw [ra.length] at e
    rw [cutD_whole e.1 e.2] at q
    exact k _ μ _ G H q ⟨a, xs, rfl, ga, ra⟩ c (Fr.refl _ _ _)
  · obtain ⟨c2, f2⟩ := c.newG hp (.tup (cutV xs lo hi))
    exact k _ μ _ _ _ q ⟨p, _, rfl, upd_same, (ra.cut lo hi).mono f2.gg⟩ c2 f2
def dSlL : D → Option Int → Option Int → Store → (List D → Store → Prop) → Prop := fun x lo hi μ Q => ∃ ds, listOf μ x = some ds ∧ Q (cutD ds lo hi) μ
theorem lSlL : LSn (rSlL K) dSlL := fun N ρ μ σ G H x dx lo hi Q c rx h Qv k => by
  obtain ⟨ds, h1, q⟩ := h
  obtain ⟨a, xs, rfl, ga, ra⟩ := c.list h1 rx
  refine ⟨a, xs, rfl, SqL.of ga, fun p hp => ?_⟩
  obtain ⟨c2, f2⟩ := c.newU hp (.lst (cutV xs lo hi))
  obtain ⟨g, m, n⟩ := c.fresh hp
  exact k _ μ p _ G _ q c2 upd_same g m n (ra.cut lo hi) f2 hp
def dSlS : D → Option Int → Option Int → Store → QD → Prop := fun x lo hi μ Q => ∃ z, x = .str z ∧ z.length ≤ sizeLine ∧ Q (.str (cutS z lo hi)) μ
theorem lSlS : LSr rSlS dSlS := fun N ρ μ σ G H x dx lo hi Q c rx h Qv k => by
  obtain ⟨z, rfl, hz, q⟩ := h
  exact ⟨z, rx, hz, k _ μ _ G H q rfl c (Fr.refl _ _ _)⟩

/-! ### methods of lists -/
def dAppend : D → List D → Store → QD → Prop := fun x ds μ Q => ∃ p es y, x = .ptr p ∧ ds = [y] ∧ μ p = some (.lst es) ∧ es.length < sizeLine ∧ Q .non (updS μ p (.lst (es ++ [y])))
theorem lAppend : LMr rAppend dAppend := fun N ρ μ σ G H x dx xs ds Q c rx rs h Qv k => by
  obtain ⟨p, es, y, rfl, rfl, m, hl, q⟩ := h
  obtain ⟨v, rest, rfl, ry, rfl⟩ := rs
  obtain ⟨xs, hx, rr⟩ := c.wd.cell p _ m
  have w := c.write (d' := .lst (es ++ [y])) (o := .lst (xs ++ [v])) m ⟨_, upd_same, rr.snoc ry⟩
  exact ⟨p, xs, v, rx, rfl, hx, by rw [rr.length]; exact hl, k _ _ _ G _ q rfl w.1 w.2⟩
def dExtend : D → List D → Store → QD → Prop := fun x ds μ Q => ∃ p es y fs, x = .ptr p ∧ ds = [y] ∧ μ p = some (.lst es) ∧ listOf μ y = some fs ∧ es.length + fs.length ≤ sizeLine ∧ Q .non (updS μ p (.lst (es ++ fs)))
theorem lExtend : LMr rExtend dExtend := fun N ρ μ σ G H x dx xs ds Q c rx rs h Qv k => by
  obtain ⟨p, es, y, fs, rfl, rfl, m, hy, hl, q⟩ := h
  obtain ⟨v, rest, rfl, ry, rfl⟩ := rs
  obtain ⟨xs, hx, rr⟩ := c.wd.cell p _ m
  obtain ⟨b, zs, rfl, hb, rz⟩ := c.list hy ry
  have w := c.write (d' := .lst (es ++ fs)) (o := .lst (xs ++ zs)) m ⟨_, upd_same, rr.append rz⟩
  exact ⟨p, b, xs, zs, rx, rfl, hx, hb, by rw [rr.length, rz.length]; exact hl, k _ _ _ G _ q rfl w.1 w.2⟩
def dPopAt : D → List D → Store → QD → Prop := fun x ds μ Q => ∃ p es i j y, x = .ptr p ∧ ds = [.int i] ∧ μ p = some (.lst es) ∧ -(2 ^ 63) ≤ i ∧ i < 2 ^ 63 ∧ seqIndex? i es.length = some j ∧ es[j]? = some y ∧ Q y (updS μ p (.lst (es.eraseIdx j)))
theorem lPopAt : LMr rPopAt dPopAt := fun N ρ μ σ G H x dx xs ds Q c rx rs h Qv k => by
  obtain ⟨p, es, i, j, y, rfl, rfl, m, b1, b2, hj, hy, q⟩ := h
  obtain ⟨v, rest, rfl, ry, rfl⟩ := rs
  obtain ⟨xs, hx, rr⟩ := c.wd.cell p _ m
  obtain ⟨z, hz, rz⟩ := rr.get hy
  have w := c.write (d' := .lst (es.eraseIdx j)) (o := .lst (xs.eraseIdx j)) m ⟨_, upd_same, rr.eraseIdx j⟩
  exact ⟨p, xs, i, j, z, rx, by rw [show v = V.int i from ry], hx, b1, b2, by rw [rr.length]; exact hj, hz, k _ _ _ G _ q rz w.1 w.2⟩
def dPop : D → List D → Store → QD → Prop := fun x ds μ Q => ∃ p es y, x = .ptr p ∧ ds = [] ∧ μ p = some (.lst es) ∧ es[es.length - 1]? = some y ∧ Q y (updS μ p (.lst es.dropLast))
theorem lPop : LMr rPop dPop := fun N ρ μ σ G H x dx xs ds Q c rx rs h Qv k => by
  obtain ⟨p, es, y, rfl, rfl, m, hy, q⟩ := h
  obtain ⟨xs, hx, rr⟩ := c.wd.cell p _ m
  obtain ⟨z, hz, rz⟩ := rr.get hy
  have w := c.write (d' := .lst es.dropLast) (o := .lst xs.dropLast) m ⟨_, upd_same, rr.dropLast⟩
  exact ⟨p, xs, z, rx, rs, hx, by rw [rr.length]; exact hz, k _ _ _ G _ q rz w.1 w.2⟩
def dSetL : D → D → D → Store → (Store → Prop) → Prop := fun o i v μ Q => ∃ p es k j, o = .ptr p ∧ i = .int k ∧ μ p = some (.lst es) ∧ ixN es.length k = some j ∧ Q (updS μ p (.lst (es.set j v)))
theorem lSetL : LPr rSetL dSetL := fun N ρ μ σ G H o i v dO dI dV Q c ro ri rv h Qv k => by
  obtain ⟨p, es, n, j, rfl, rfl, m, hj, q⟩ := h
  obtain ⟨xs, hx, rr⟩ := c.wd.cell p _ m
  have w := c.write (d' := .lst (es.set j dV)) (o := .lst (xs.set j v)) m ⟨_, upd_same, rr.set rv j⟩
  exact ⟨p, xs, n, j, ro, ri, hx, by rw [rr.length]; exact hj, k _ G _ q w.1 w.2⟩
/-- d[i] of a list, as an augmented store reads it -/
def dIxL : D → D → Store → QD → Prop := fun x y μ Q => ∃ ds i e, listOf μ x = some ds ∧ y = .int i ∧ atI ds i = some e ∧ Q e μ
theorem lIxL : L2r (rIxL K) dIxL := fun N ρ μ σ G H x y dx dy Q c rx ry h Qv k => by
  obtain ⟨ds, i, e, h1, rfl, h2, q⟩ := h
  obtain ⟨a, xs, rfl, hs, rr⟩ := c.list h1 rx
  obtain ⟨v, hv, rv⟩ := atI_rep rr h2
  exact ⟨a, xs, i, v, rfl, ry, SqL.of hs, hv, k _ μ _ G H q rv c (Fr.refl _ _ _)⟩

/-! ### built-ins -/
def dTupleOf : List D → Store → QD → Prop := fun xs μ Q => ∃ d ds, xs = [d] ∧ seqOf μ d = some ds ∧ Q (.tup ds) μ
theorem lTupleOf : LCr (fun xs H Q => ∃ p ys, xs = [.ref p] ∧ ((SqL K H p ys ∧ ∀ l, H l = none → Q (.ref l) (upd H l (.tup ys))) ∨ (SqT K H p ys ∧ Q (.ref p) H))) dTupleOf := fun N ρ μ σ G H xs ds Q c r h Qv k => by
  obtain ⟨d, es, rfl, hs, q⟩ := h
  obtain ⟨v, rest, rfl, r, rfl⟩ := r
  rcases seqOf_cases hs with rfl | hl
  · obtain ⟨a, ys, rfl, ga, ra⟩ := r
    exact ⟨a, ys, rfl, .inr ⟨SqT.of (c.wd.sub _ _ ga), k _ μ _ G H q ⟨a, ys, rfl, ga, ra⟩ c (Fr.refl _ _ _)⟩⟩
  · obtain ⟨a, ys, rfl, ga, ra⟩ := c.list hl r
    refine ⟨a, ys, rfl, .inl ⟨SqL.of ga, fun l hl => ?_⟩⟩
    obtain ⟨c2, f2⟩ := c.newG hl (.tup ys)
    exact k _ μ _ _ _ q ⟨l, _, rfl, upd_same, ra.mono f2.gg⟩ c2 f2
def dListOf : List D → Store → (List D → Store → Prop) → Prop := fun xs μ Q => ∃ d ds, xs = [d] ∧ seqOf μ d = some ds ∧ Q ds μ
theorem lListOf : LCn (fun xs H Q => ∃ p ys, xs = [.ref p] ∧ (SqL K H p ys ∨ SqT K H p ys) ∧ ∀ l, H l = none → Q (.ref l) (upd H l (.lst ys))) dListOf := fun N ρ μ σ G H xs ds Q c r h Qv k => by
  obtain ⟨d, es, rfl, hs, q⟩ := h
  obtain ⟨v, rest, rfl, r, rfl⟩ := r
  obtain ⟨a, ys, rfl, hq, rr⟩ := c.seq (K := K) hs r
  refine ⟨a, ys, rfl, hq, fun p hp => ?_⟩
  obtain ⟨c2, f2⟩ := c.newU hp (.lst ys)
  obtain ⟨g, m, n⟩ := c.fresh hp
  exact k _ μ p _ G _ q c2 upd_same g m n rr f2 hp
def dSum : List D → Store → QD → Prop := fun xs μ Q => ∃ (d : D) (ns : List Int), xs = [d] ∧ listOf μ d = some (ns.map D.int) ∧ Q (.int ns.sum) μ
theorem lSum : LCr (rSum K) dSum := fun N ρ μ σ G H xs ds Q c r h Qv k => by
  obtain ⟨d, ns, rfl, hs, q⟩ := h
  obtain ⟨v, rest, rfl, r, rfl⟩ := r
  obtain ⟨a, ys, rfl, ga, ra⟩ := c.list hs r
  exact ⟨a, ns, rfl, by rw [← ra.map_int]; exact SqL.of ga, k _ μ _ G H q rfl c (Fr.refl _ _ _)⟩
def dMax : List D → Store → QD → Prop := fun xs μ Q => ∃ (d : D) (ns : List Int), xs = [d] ∧ listOf μ d = some (ns.map D.int) ∧ 0 < ns.length ∧ ∀ m, m ∈ ns → (∀ y, y ∈ ns → y ≤ m) → Q (.int m) μ
theorem lMax : LCr (rMax K) dMax := fun N ρ μ σ G H xs ds Q c r h Qv k => by
  obtain ⟨d, ns, rfl, hs, h0, q⟩ := h
  obtain ⟨v, rest, rfl, r, rfl⟩ := r
  obtain ⟨a, ys, rfl, ga, ra⟩ := c.list hs r
  exact ⟨a, ns, rfl, by rw [← ra.map_int]; exact SqL.of ga, h0, fun m h1 h2 => k _ μ _ G H (q m h1 h2) rfl c (Fr.refl _ _ _)⟩
def dMin : List D → Store → QD → Prop := fun xs μ Q => ∃ (d : D) (ns : List Int), xs = [d] ∧ listOf μ d = some (ns.map D.int) ∧ 0 < ns.length ∧ ∀ m, m ∈ ns → (∀ y, y ∈ ns → m ≤ y) → Q (.int m) μ
theorem lMin : LCr (rMin K) dMin := fun N ρ μ σ G H xs ds Q c r h Qv k => by
  obtain ⟨d, ns, rfl, hs, h0, q⟩ := h
  obtain ⟨v, rest, rfl, r, rfl⟩ := r
  obtain ⟨a, ys, rfl, ga, ra⟩ := c.list hs r
  exact ⟨a, ns, rfl, by rw [← ra.map_int]; exact SqL.of ga, h0, fun m h1 h2 => k _ μ _ G H (q m h1 h2) rfl c (Fr.refl _ _ _)⟩
def dAll : List D → Store → QD → Prop := fun xs μ Q => ∃ (d : D) (bs : List Bool), xs = [d] ∧ listOf μ d = some (bs.map D.bl) ∧ Q (.bl (bs.all id)) μ
theorem lAll : LCr (rAll K) dAll := fun N ρ μ σ G H xs ds Q c r h Qv k => by
  obtain ⟨d, ns, rfl, hs, q⟩ := h
  obtain ⟨v, rest, rfl, r, rfl⟩ := r
  obtain ⟨a, ys, rfl, ga, ra⟩ := c.list hs r
  exact ⟨a, ns, rfl, by rw [← ra.map_bl]; exact SqL.of ga, k _ μ _ G H q rfl c (Fr.refl _ _ _)⟩
def dAbs : List D → Store → QD → Prop := fun xs μ Q => ∃ i, xs = [.int i] ∧ Q (.int (if i < 0 then -i else i)) μ
theorem lAbs : LCr (fun xs H Q => ∃ i, xs = [.int i] ∧ Q (.int (if i < 0 then -i else i)) H) dAbs := fun N ρ μ σ G H xs ds Q c r h Qv k => by
  obtain ⟨i, rfl, q⟩ := h
  exact ⟨i, RepL.map_int (ns := [i]) r, k _ μ _ G H q rfl c (Fr.refl _ _ _)⟩
def dIntOf : List D → Store → QD → Prop := fun xs μ Q => ∃ i, xs = [.int i] ∧ Q (.int i) μ
theorem lIntOf : LCr (fun xs H Q => (∃ i, xs = [.int i] ∧ Q (.int i) H) ∨ ∃ k, xs = [.bl k] ∧ Q (.int (if k then 1 else 0)) H) dIntOf := fun N ρ μ σ G H xs ds Q c r h Qv k => by
  obtain ⟨i, rfl, q⟩ := h
  exact .inl ⟨i, RepL.map_int (ns := [i]) r, k _ μ _ G H q rfl c (Fr.refl _ _ _)⟩
def dMin2 : List D → Store → QD → Prop := fun xs μ Q => ∃ i j, xs = [.int i, .int j] ∧ Q (.int (if j < i then j else i)) μ
theorem lMin2 : LCr (fun xs H Q => ∃ i j, xs = [.int i, .int j] ∧ Q (.int (if j < i then j else i)) H) dMin2 := fun N ρ μ σ G H xs ds Q c r h Qv k => by
  obtain ⟨i, j, rfl, q⟩ := h
  exact ⟨i, j, RepL.map_int (ns := [i, j]) r, k _ μ _ G H q rfl c (Fr.refl _ _ _)⟩
def dMax2 : List D → Store → QD → Prop := fun xs μ Q => ∃ i j, xs = [.int i, .int j] ∧ Q (.int (if j > i then j else i)) μ
theorem lMax2 : LCr (fun xs H Q => ∃ i j, xs = [.int i, .int j] ∧ Q (.int (if j > i then j else i)) H) dMax2 := fun N ρ μ σ G H xs ds Q c r h Qv k => by
  obtain ⟨i, j, rfl, q⟩ := h
  exact ⟨i, j, RepL.map_int (ns := [i, j]) r, k _ μ _ G H q rfl c (Fr.refl _ _ _)⟩
def tyName (μ : Store) : D → Option String
  | .non => some "NoneType"
  | .bl _ => some "bool"
  | .int _ => some "int"
  | .str _ => some "str"
  | .tup _ => some "tuple"
  | .lst _ => some "list"
  | .ptr p => match μ p with
    | some (.lst _) => some "list"
    | _ => none
  | .ty _ => none
  | .opq _ => none
theorem Cf.tyX {σ : L2.St} {G H : Hp} (c : Cf N ρ μ σ G H) {d : D} {v : V} {n : String} (h : tyName μ d = some n) (r : Rep G d v) : TyX K H v (.type n) := by
  cases d with
  | non => cases h; rw [show v = V.non from r]; exact .base .non
  | bl b => cases h; rw [show v = V.bl b from r]; exact .base (.bl b)
  | int b => cases h; rw [show v = V.int b from r]; exact .base (.int b)
  | str b => cases h; rw [show v = V.str b from r]; exact .base (.str b)
  | ty b => cases h
  | tup ds => cases h; obtain ⟨a, xs, rfl, ga, ra⟩ := r; exact .base (.tup (c.wd.sub _ _ ga))
  | lst ds => cases h; obtain ⟨a, xs, rfl, ga, ra⟩ := r; exact .base (.lst (c.wd.sub _ _ ga))
  | opq _ => cases h
  | ptr p =>
    cases m : μ p with
    | none => simp [tyName, m] at h
    | some cl =>
      cases cl with
      | ins C fs => simp [tyName, m] at h
      | lst es =>
        simp [tyName, m] at h
        subst h
        obtain ⟨xs, hx, rr⟩ := c.wd.cell p _ m
        rw [show v = V.ref p from r]
        exact .base (.lst hx)
def dIsi : List D → Store → QD → Prop := fun xs μ Q => ∃ d T n b, xs = [d, .ty T] ∧ tyName μ d = some n ∧ kitB n T = some b ∧ Q (.bl b) μ
theorem lIsi : LCr (rIsi K) dIsi := fun N ρ μ σ G H xs ds Q c r h Qv k => by
  obtain ⟨d, T, n, b, rfl, hn, hb, q⟩ := h
  obtain ⟨v, rest, rfl, rv, w, r2, rfl, rw_, rfl⟩ := r
  rw [show w = V.ty T from rw_]
  exact ⟨v, .ty T, _, _, b, rfl, .ty T, c.tyX hn rv, kit_ty hb, k _ μ _ G H q rfl c (Fr.refl _ _ _)⟩
end
end DL
set_option Elab.async false
set_option linter.all false
set_option maxRecDepth 100000
namespace DL
open PySem PySem.Spec L2

/-! ### defs -/
/-- what a def does with its arguments' data and the cells -/
abbrev FS := List D → Store → QD → Prop
def spOf (F : FS) : Sp := fun vs H Q _ => ∃ G μ ds R, Wd G μ H ∧ RepL G ds vs ∧ F ds μ R ∧ ∀ d μ' v G' H', R d μ' → Wd G' μ' H' → Run ⟨G, μ, H⟩ G' μ' H' → Rep G' d v → Q v H'
section
variable {N : En} {ρ : Env} {μ : Store} {K : PySem.W.Frag}
theorem WE_call {F : FS} {E : XK} {ta : TA} {Q : QD} (h : WA N ta ρ μ fun ds μ1 => F ds μ1 Q) : WE N (tCall (spOf F) [] E ta) ρ μ Q := fun σ G H c Qv q => by
  refine h σ G H c _ fun ds μ1 vs G1 H1 h1 r1 c1 f1 => ?_
  refine ⟨G1, μ1, ds, Q, c1.wd, by rw [List.append_nil]; exact r1, h1, fun d μ' v G' H' a wd run r => ?_⟩
  exact q d μ' v G' H' a r ⟨wd, c1.run.trans run, c1.len, c1.env.mono run.gg⟩ (f1.trans run.fr)
theorem WE_meth {C : Addr} {m : Str} {F : FS} {E : XK} {to : TE} {ta : TA} {Q : QD}
    (h : WE N to ρ μ fun x μ1 => ∃ p fs, x = .ptr p ∧ μ1 p = some (.ins C fs) ∧ fs.lookup m = none ∧ WA N ta ρ μ1 fun ds μ2 => F (.ptr p :: ds) μ2 Q) : WE N (tMeth C m (spOf F) [] E to ta) ρ μ Q := fun σ G H c Qv q => by
  refine h σ G H c _ fun dx μ1 x G1 H1 h1 r1 c1 f1 => ?_
  obtain ⟨p, fs, rfl, m1, l, h1⟩ := h1
  obtain ⟨dx, ys, hx, rf⟩ := c1.wd.cell p _ m1
  refine ⟨p, dx, ys, r1, hx, rf.none l, ?_⟩
  refine h1 σ G1 H1 c1 _ fun ds μ2 vs G2 H2 h2 r2 c2 f2 => ?_
  refine ⟨G2, μ2, .ptr p :: ds, Q, c2.wd, by rw [List.append_nil]; exact .cons r1 r2, h2, fun d μ' v G' H' a wd run r => ?_⟩
  exact q d μ' v G' H' a r ⟨wd, c2.run.trans run, c2.len, c2.env.mono run.gg⟩ ((f1.trans f2).trans run.fr)
theorem WE_make {C : Addr} {F : FS} {E : XK} {ta : TA} {Q : QD}
    (h : WA N ta ρ μ fun ds μ1 => ∀ p, N.H p = none → μ1 p = none → F (.ptr p :: ds) (updS μ1 p (.ins C [])) fun d μ2 => d = .non ∧ Q (.ptr p) μ2) : WE N (tMake C (spOf F) [] E ta) ρ μ Q := fun σ G H c Qv q => by
  refine h σ G H c _ fun ds μ1 vs G1 H1 h1 r1 c1 f1 => ?_
  intro x dx hx hdx hne
  obtain ⟨c2, f2⟩ := c1.newU hdx (.own x)
  have hx2 : upd H1 dx (.own x) x = none := by rw [upd_ne (Ne.symm hne)]; exact hx
  obtain ⟨c3, f3⟩ := c2.newU hx2 (.ins C dx [])
  obtain ⟨g, m, n⟩ := c1.fresh hx
  have c4 := c3.toS (d := .ins C []) ⟨dx, [], upd_same, rfl⟩ g m n
  refine ⟨G1, _, .ptr x :: ds, _, c4.wd, by rw [List.append_nil]; exact .cons rfl r1, h1 x n m, fun d μ' v G' H' a wd run r => ?_⟩
  obtain ⟨rfl, a⟩ := a
  refine ⟨r, q (.ptr x) μ' (.ref x) G' H' a rfl ⟨wd, c4.run.trans run, c1.len, c1.env.mono run.gg⟩ ⟨f1.gg.trans run.gg, fun b o e1 e2 e3 => ?_, fun b e1 => f1.dm b (f2.dm b (f3.dm b (run.fr.dm b e1)))⟩⟩
  obtain ⟨k1, k2, k3⟩ := f1.fr b o e1 e2 e3
  obtain ⟨k1, k2, k3⟩ := f2.fr b o k1 k2 k3
  have hb : b ≠ x := fun z => by subst z; rw [hx2] at k1; cases k1
  obtain ⟨k1, k2, k3⟩ := f3.fr b o k1 k2 k3
  exact run.fr.fr b o k1 k2 (by rw [updS_ne hb]; exact k3)
theorem WE_fld {C : Addr} {f : Str} {to : TE} {Q : QD} (cl : Cls K C) (na : NoAttr K C f) (h : WE N to ρ μ fun x μ1 => ∃ p fs d, x = .ptr p ∧ μ1 p = some (.ins C fs) ∧ fs.lookup f = some d ∧ Q d μ1) : WE N (tFld K to f) ρ μ Q := fun σ G H c Qv q => by
  refine h σ G H c _ fun dx μ1 x G1 H1 h1 r1 c1 f1 => ?_
  obtain ⟨p, fs, d, rfl, m1, l, a⟩ := h1
  obtain ⟨dx, ys, hx, rf⟩ := c1.wd.cell p _ m1
  obtain ⟨v, hv, rv⟩ := rf.lookup l
  exact ⟨p, C, dx, ys, v, r1, hx, cl, na, hv, q d μ1 v G1 H1 a rv c1 f1⟩
theorem WS_fld {C : Addr} {f : Str} {to tv : TE} {D : EnD} (cl : Cls K C) (na : NoAttr K C f) (h : WE N tv ρ μ fun y μ1 => WE N to ρ μ1 fun x μ2 => ∃ p fs, x = .ptr p ∧ μ2 p = some (.ins C fs) ∧ fs.length < 1000 ∧ D.nx ρ (updS μ2 p (.ins C (putFD f y fs)))) : WS N (sFld K to tv f) ρ μ D := fun σ G H c E e => by
  refine h σ G H c _ fun dy μ1 y G1 H1 h1 r1 c1 f1 => ?_
  refine h1 σ G1 H1 c1 _ fun dx μ2 x G2 H2 h2 r2 c2 f2 => ?_
  obtain ⟨p, fs, rfl, m2, hl, a⟩ := h2
  obtain ⟨dx, ys, hx, rf⟩ := c2.wd.cell p _ m2
  have w := c2.write (d' := .ins C (putFD f dy fs)) (o := .ins C dx (putF f y ys)) m2 ⟨dx, _, upd_same, rf.put (r1.mono f2.gg)⟩
  exact ⟨p, C, dx, ys, r2, hx, cl, na, by rw [rf.length]; exact hl, e.nx ρ _ σ G2 _ a w.1 ((f1.gg.trans f2.gg).trans w.2.gg)⟩
/-- a local list becomes data, between two statements -/
theorem WS_freeze {t : TS} {D : EnD} (i : Nat) {p : Addr} {ds : List DL.D} (hi : ρ[i]? = some (some (.ptr p))) (hm : μ p = some (.lst ds)) (hn : N.H p = none) (h : WS N t (ρ.set i (some (.lst ds))) (delS μ p) D) : WS N t ρ μ D := fun σ G H c E e => by
  obtain ⟨xs, hp, rr⟩ := c.wd.cell p _ hm
  have g := c.wd.out p _ hm
  obtain ⟨c2, f2⟩ := c.freeze hm hp hn
  obtain ⟨v, hv, rv⟩ := c.env i _ hi
  have gr : Grow G (upd G p (.lst xs)) := fun b u e => by rw [upd_ne (ne_of_none e g)]; exact e
  have c3 := c2.set i (d := .lst ds) (v := v) ⟨p, xs, rv, upd_same, rr.mono gr⟩
  have es : σ.set i (some v) = σ := by
    refine List.ext_getElem? fun k => ?_
    by_cases z : i = k
    · subst z
      have hl : i < σ.length := by
        obtain ⟨q, _⟩ := List.getElem?_eq_some_iff.mp hv
        exact q
      rw [List.getElem?_set_self hl, hv]
    · rw [List.getElem?_set_ne z]
  rw [es] at c3
  exact h σ _ H c3 E (e.mono gr)
end

section
variable {K : PySem.W.Frag}
def startD (n : Nat) (ds : List D) : Env := ds.map some ++ List.replicate (n - ds.length) none
theorem startD_cf {N : En} {ds : List D} {vs : List V} {Nn : List Str} (wd : Wd N.G N.μ N.H) (r : RepL N.G ds vs) : Cf N (startD Nn.length ds) N.μ (L2.start Nn vs) N.G N.H := by
  refine ⟨wd, Run.refl N.G N.μ N.H, ?_, fun i d h => ?_⟩
  · unfold startD L2.start
    rw [List.length_append, List.length_append, List.length_map, List.length_map, List.length_replicate, List.length_replicate, r.length]
  · unfold startD at h
    have hi : i < ds.length := by
      rcases Nat.lt_or_ge i ds.length with q | q
      · exact q
      · rw [List.getElem?_append_right (by simpa using q), List.getElem?_replicate] at h
        split at h <;> cases h
    rw [List.getElem?_append_left (by simpa using hi), List.getElem?_map, List.getElem?_eq_getElem hi] at h
    have e := Option.some.inj (Option.some.inj h)
    obtain ⟨v, hv, rv⟩ := r.get (List.getElem?_eq_getElem hi)
    rw [e] at rv
    refine ⟨v, ?_, rv⟩
    unfold L2.start
    have hv2 : i < vs.length := by rw [r.length]; exact hi
    rw [List.getElem?_append_left (by simpa using hv2), List.getElem?_map, hv]; rfl
def retE (μ0 : Store) (R : QD) : EnD := ⟨fun _ μ' => ∃ m, SubS m μ' ∧ R .non m, fun d μ' => ∃ m, SubS m μ' ∧ R d m, fun _ _ => False, fun _ _ => False⟩
theorem fn_data {P : Program} {w : World} {mg : Str → Option Value} {base : Heap} {x qual : Str} {params : Arguments} {body : List Stmt} {scope : Scope} {f : Addr} {fd : FuncData} {Nn ps : List Str} {k : Nat} {F : FS}
    (Fd : FunD K x qual params body scope [] [] f fd) (S : FnScope Nn ps scope) (hlen : ∀ ds μ R, F ds μ R → ds.length = ps.length)
    (hb : ∀ (cdv : Value) (A : Around) (outer : List PySem.Env) (s : Shared) (H : Hp) (E : XK), Room k (A.deeper (PyProof.Rows.envOfC qual scope s.heap.objs.size f cdv)) →
      ∃ t, PSs (cxOf CX0 P w K mg base Nn qual scope f cdv A outer s H E).nox body t ∧ ∀ (N : En) (ds : List D) (R : QD), F ds N.μ R → WS N t (startD Nn.length ds) N.μ (retE N.μ R)) : FnOk P w K mg base CX0 (k + 1) f fd ps (spOf F) := by
  refine Fd.ok S (fun vs H Q E h => ?_) fun cdv A outer s H vs Q E hr h => ?_
  · obtain ⟨G, μ, ds, R, wd, r, hF, _⟩ := h
    rw [r.length, hlen ds μ R hF]
  · obtain ⟨G, μ, ds, R, wd, r, hF, q⟩ := h
    obtain ⟨t, ht, hw⟩ := hb cdv A outer s H E hr
    refine ⟨t, ht.nox, ?_⟩
    have c : Cf ⟨G, μ, H⟩ (startD Nn.length ds) μ (L2.start Nn vs) G H := startD_cf (N := ⟨G, μ, H⟩) wd r
    refine hw ⟨G, μ, H⟩ ds R hF _ G H c _ ⟨fun ρ μ2 σ2 G2 H2 ⟨m, sm, a⟩ c2 g => ?_, fun d μ2 v ρ σ2 G2 H2 ⟨m, sm, a⟩ rv c2 g => ?_, fun ρ μ2 σ2 G2 H2 z => z.elim, fun ρ μ2 σ2 G2 H2 z => z.elim⟩
    · exact q .non m .non G2 H2 a (c2.less sm).wd (c2.less sm).run rfl
    · exact q d m v G2 H2 a (c2.less sm).wd (c2.less sm).run rv
/-- a def that callers know: its promise over data -/
structure Has (P : Program) (w : World) (K : PySem.W.Frag) (mg : Str → Option Value) (base : Heap) (x : Str) (k : Nat) (ps : List Str) (F : FS) : Prop where
  ex : ∃ f fd, mg x = some (.ref f) ∧ PySem.W.keepIn K (.ref f) = true ∧ Binds K fd ps [] ∧ FnOk P w K mg base CX0 k f fd ps (spOf F)
theorem pe_fn {X : Cx} {x : Str} {k : Nat} {ps : List Str} {F : FS} {p pos : Pos} {e : Expr} {es : List Expr} {t : TA} (h : Has X.prog X.w X.K X.mg X.base x k ps F) (hr : Room k X.A) (hg : Gl X x) (ha : PA X (e :: es) t) (hdb : (x == ("__debug__" : Str)) = false := by decide)
    (he : starEach (e :: es) X.env = (false, eval e X.env) :: starEach es X.env := by rfl) (hpl : (backTo pos (starEach es X.env)).any (·.1) = false := by rfl) : PE X (.Call (.Name x p) (e :: es) [] pos) (tCall (spOf F) [] E0 t) := by
  obtain ⟨f, fd, h1, h2, h3, h4⟩ := h.ex
  exact pe_call h4 hr hg h1 h2 h3 .nil pass0 ha hdb he hpl
theorem pe_fn0 {X : Cx} {x : Str} {k : Nat} {ps : List Str} {F : FS} {p pos : Pos} (h : Has X.prog X.w X.K X.mg X.base x k ps F) (hr : Room k X.A) (hg : Gl X x) (hdb : (x == ("__debug__" : Str)) = false := by decide) : PE X (.Call (.Name x p) [] [] pos) (tCall (spOf F) [] E0 tNil) := by
  obtain ⟨f, fd, h1, h2, h3, h4⟩ := h.ex
  exact pe_call0 h4 hr hg h1 h2 h3 .nil pass0 hdb

/-! ### [e for a in .. for b in .. if ..] that changes nothing -/
theorem wipe_idem {σ : L2.St} (vs : List Nat) : L2.wipe (L2.wipe σ vs) vs = L2.wipe σ vs := by
  have go : ∀ us : List Nat, (∀ u ∈ us, u ∈ vs) → L2.wipe (L2.wipe σ vs) us = L2.wipe σ vs := by
    intro us
    induction us with
    | nil => intro _; rfl
    | cons u us ih =>
      intro hu
      show (L2.wipe (L2.wipe σ vs) us).set u none = L2.wipe σ vs
      rw [ih fun z hz => hu z (List.mem_cons_of_mem _ hz)]
      have hm : u ∈ vs := hu u List.mem_cons_self
      refine List.ext_getElem? fun k => ?_
      by_cases e : u = k
      · subst e
        by_cases hl : u < (L2.wipe σ vs).length
        · rw [List.getElem?_set_self hl]
          cases z : (L2.wipe σ vs)[u]? with
          | none => rw [List.getElem?_eq_none_iff] at z; omega
          | some o =>
            cases o with
            | none => rfl
            | some v => exact absurd hm (wipe_some z).2
        · rw [List.getElem?_eq_none (by simpa using hl), List.getElem?_eq_none (by simpa using hl)]
      · rw [List.getElem?_set_ne e]
  exact go vs fun _ z => z
end
section
variable {N : En} {ρ : Env} {μ : Store}
/-- what stands while a list grows at p -/
structure Gr (μ : Store) (N : En) (ρ : Env) (μ1 : Store) (σ : L2.St) (G H G1 : Hp) (p : Addr) (acc : List D) (G' H' : Hp) : Prop where
  cf : Cf N ρ μ1 σ G' H'
  fr : ∀ b o, H b = some o → G b = none → μ b = none → H' b = some o ∧ G' b = none ∧ μ1 b = none
  gg : Grow G1 G'
  dm : ∀ b, H' b = none → H b = none
  at_ : ∃ accV, H' p = some (.lst accV) ∧ RepL G' acc accV
  np : G' p = none
theorem WEn_lc2 {wi wi1 : TI} {g g1 : TG} {tt1 : TT} {te : TE} {vs vs1 js js1 : List Nat} {Q : List D → Store → Prop} {α β : Type} (hjs : ∀ j ∈ js, j ∈ vs) (hjs1 : ∀ j ∈ js1, j ∈ vs1)
    (h : WI N wi ρ μ fun _ ds μ1 => ∃ (xs : List α) (enc : α → D) (es : α → List β) (enc1 : β → D) (pr : α → β → Bool) (f : α → β → D), ds = xs.map enc ∧ (xs.flatMap fun d => ((es d).filter (pr d)).map (f d)).length ≤ sizeLine ∧
      (∀ d ∈ xs, WG N g js (enc d) (wipeD ρ vs) μ1 fun ρ2 μ2 => μ2 = μ1 ∧ WI N wi1 ρ2 μ1 fun _ as μ3 => as = (es d).map enc1 ∧ μ3 = μ1 ∧ ∀ e ∈ es d, WG N g1 js1 (enc1 e) (wipeD ρ2 vs1) μ1 fun ρ3 μ4 => WT N tt1 ρ3 μ4 fun b μ5 => b = pr d e ∧ μ5 = μ1 ∧ (pr d e = true → WE N te ρ3 μ1 fun y μ6 => y = f d e ∧ μ6 = μ1)) ∧
      Q (xs.flatMap fun d => ((es d).filter (pr d)).map (f d)) μ1) : WEn N (tLc2 wi g tYes wi1 g1 tt1 te vs vs1) ρ μ Q := fun σ G H c Qv q => by
  refine h σ G H c _ fun S ds μ1 J G1 H1 a s1 ok c1 f1 => ?_
  obtain ⟨xs, enc, es, enc1, pr, f, eds, hlen, hs, hQ⟩ := a
  have hdl : ds.length = xs.length := by rw [eds, List.length_map]
  intro p hp
  obtain ⟨g1_, m1, n1⟩ := c1.fresh hp
  obtain ⟨cp, fp⟩ := c1.newU hp (.lst [])
  have f0 := f1.trans fp
  generalize hF : (fun d => ((es d).filter (pr d)).map (f d)) = Fd at hlen hQ
  have lenT : ∀ i, ((xs.take i).flatMap Fd).length ≤ sizeLine := fun i => by
    refine Nat.le_trans ?_ hlen
    have e : xs.flatMap Fd = (xs.take i).flatMap Fd ++ (xs.drop i).flatMap Fd := by rw [← List.flatMap_append, List.take_append_drop]
    rw [e, List.length_append]; exact Nat.le_add_right _ _
  refine ⟨fun i m H' => m = xs.length - i ∧ i ≤ xs.length ∧ ∃ G', Gr μ N ρ μ1 σ G H G1 p ((xs.take i).flatMap Fd) G' H',
    ⟨xs.length, by omega, Nat.zero_le _, G1, ⟨cp, f0.fr, Grow.refl _, f0.dm, ⟨[], upd_same, RepL.nil⟩, g1_⟩⟩, ?_⟩
  rintro i m H' ⟨rfl, hi, G', k'⟩
  by_cases hlt : i < xs.length
  · have hx : xs[i]? = some xs[i] := List.getElem?_eq_getElem hlt
    have hxd : ds[i]? = some (enc xs[i]) := by rw [eds, List.getElem?_map, hx]; rfl
    obtain ⟨hgo, hy⟩ := ok.go i (enc xs[i]) ρ μ1 σ G' H' k'.gg s1 k'.cf hxd
    refine .inr ⟨hgo, fun H2 => ∃ G2, Gr μ N ρ μ1 σ G H G1 p ((xs.take (i + 1)).flatMap Fd) G2 H2, fun H2 ⟨G2, z⟩ => ⟨xs.length - (i + 1), by omega, rfl, hlt, G2, z⟩, fun x H2 y => ?_⟩
    obtain ⟨G2, c2, f2, r2⟩ := hy x H2 y
    obtain ⟨accV, hp', ra⟩ := k'.at_
    obtain ⟨p2, pg2, pm2⟩ := f2.fr p _ hp' k'.np m1
    refine hs xs[i] (List.getElem_mem hlt) (L2.wipe σ vs) G2 H2 x (c2.wipe vs) r2 _ fun ρ3 μ3 σ3 G3 H3 q3 c3 f3 w3 => ?_
    obtain ⟨rfl, q3⟩ := q3
    obtain ⟨p3, pg3, pm3⟩ := f3.fr p _ p2 pg2 pm2
    refine ⟨by rw [w3 vs hjs, wipe_idem], ?_⟩
    unfold tYes
    dsimp only
    rw [if_pos rfl]
    refine q3 σ3 G3 H3 c3 _ fun S1 as μ4 J1 G4 H4 q4 s4 ok1 c4 f4 => ?_
    obtain ⟨eas, rfl, hs1⟩ := q4
    have hasl : as.length = (es xs[i]).length := by rw [eas, List.length_map]
    obtain ⟨p4, pg4, pm4⟩ := f4.fr p _ p3 pg3 pm3
    have gr4 : Grow G' G4 := (f2.gg.trans f3.gg).trans f4.gg
    have fr4 := (f2.trans f3).trans f4
    have frB : ∀ b o, H b = some o → G b = none → μ b = none → H4 b = some o ∧ G4 b = none ∧ μ4 b = none := fun b o e1 e2 e3 => by
      obtain ⟨k1, k2, k3⟩ := k'.fr b o e1 e2 e3
      exact fr4.fr b o k1 k2 k3
    refine ⟨fun j k H5 => k = (es xs[i]).length - j ∧ j ≤ (es xs[i]).length ∧ ∃ G5, Gr μ N ρ3 μ4 σ3 G H G4 p ((xs.take i).flatMap Fd ++ (((es xs[i]).take j).filter (pr xs[i])).map (f xs[i])) G5 H5,
      ⟨(es xs[i]).length, by omega, Nat.zero_le _, G4, ⟨c4, frB, Grow.refl _, fun b e => k'.dm b (fr4.dm b e), ⟨accV, p4, by simpa using ra.mono gr4⟩, pg4⟩⟩, ?_⟩
    rintro j k H5 ⟨rfl, hj, G5, k5⟩
    by_cases hlj : j < (es xs[i]).length
    · have hxj : (es xs[i])[j]? = some (es xs[i])[j] := List.getElem?_eq_getElem hlj
      have hxa : as[j]? = some (enc1 (es xs[i])[j]) := by rw [eas, List.getElem?_map, hxj]; rfl
      obtain ⟨hgo1, hy1⟩ := ok1.go j (enc1 (es xs[i])[j]) ρ3 μ4 σ3 G5 H5 k5.gg s4 k5.cf hxa
      refine .inr ⟨hgo1, fun H6 => ∃ G6, Gr μ N ρ3 μ4 σ3 G H G4 p ((xs.take i).flatMap Fd ++ (((es xs[i]).take (j + 1)).filter (pr xs[i])).map (f xs[i])) G6 H6, fun H6 ⟨G6, z⟩ => ⟨(es xs[i]).length - (j + 1), by omega, rfl, hlj, G6, z⟩, fun x1 H6 y1 => ?_⟩
      obtain ⟨G6, c6, f6, r6⟩ := hy1 x1 H6 y1
      obtain ⟨accV5, hp5, ra5⟩ := k5.at_
      obtain ⟨p6, pg6, pm6⟩ := f6.fr p _ hp5 k5.np pm4
      refine hs1 (es xs[i])[j] (List.getElem_mem hlj) (L2.wipe σ3 vs1) G6 H6 x1 (c6.wipe vs1) r6 _ fun ρ7 μ7 σ7 G7 H7 q7 c7 f7 w7 => ?_
      obtain ⟨p7, pg7, pm7⟩ := f7.fr p _ p6 pg6 pm6
      refine ⟨by rw [w7 vs1 hjs1, wipe_idem], ?_⟩
      refine q7 σ7 G7 H7 c7 _ fun b μ8 G8 H8 q8 c8 f8 => ?_
      obtain ⟨rfl, rfl, q8⟩ := q8
      obtain ⟨p8, pg8, pm8⟩ := f8.fr p _ p7 pg7 pm7
      have gr8 : Grow G5 G8 := (f6.gg.trans f7.gg).trans f8.gg
      have fr8 := (f6.trans f7).trans f8
      have tk : (es xs[i]).take (j + 1) = (es xs[i]).take j ++ [(es xs[i])[j]] := by rw [List.take_add_one, hxj]; rfl
      have frC : ∀ b o, H b = some o → G b = none → μ b = none → H8 b = some o ∧ G8 b = none ∧ μ8 b = none := fun b o e1 e2 e3 => by
        obtain ⟨k1, k2, k3⟩ := k5.fr b o e1 e2 e3
        exact fr8.fr b o k1 k2 k3
      cases hpr : pr xs[i] (es xs[i])[j] with
      | false =>
        rw [if_neg Bool.false_ne_true]
        refine ⟨G8, ⟨k5.cf.back gr8 c8, frC, k5.gg.trans gr8, fun b e => k5.dm b (fr8.dm b e), ⟨accV5, p8, ?_⟩, pg8⟩⟩
        rw [tk, List.filter_append, List.map_append]
        simpa [hpr] using ra5.mono gr8
      | true =>
        rw [if_pos rfl]
        refine q8 hpr σ7 G8 H8 c8 _ fun dd μ9 v G9 H9 q9 r9 c9 f9 => ?_
        obtain ⟨rfl, rfl⟩ := q9
        obtain ⟨p9, pg9, pm9⟩ := f9.fr p _ p8 pg8 pm8
        have gr9 := gr8.trans f9.gg
        have bound : ((xs.take i).flatMap Fd ++ (((es xs[i]).take j).filter (pr xs[i])).map (f xs[i])).length < sizeLine := by
          have l1 := lenT (i + 1)
          have e1 : xs.take (i + 1) = xs.take i ++ [xs[i]] := by rw [List.take_add_one, hx]; rfl
          rw [e1, List.flatMap_append, List.flatMap_singleton, ← hF, List.length_append, List.length_map] at l1
          rw [← hF, List.length_append, List.length_map]
          have e2 : es xs[i] = (es xs[i]).take j ++ ((es xs[i])[j] :: (es xs[i]).drop (j + 1)) := by rw [← List.drop_eq_getElem_cons hlj, List.take_append_drop]
          have e3 : ((es xs[i]).filter (pr xs[i])).length = (((es xs[i]).take j).filter (pr xs[i])).length + (((es xs[i])[j] :: (es xs[i]).drop (j + 1)).filter (pr xs[i])).length := by
            rw [← List.length_append, ← List.filter_append, ← e2]
          have e4 : 0 < (((es xs[i])[j] :: (es xs[i]).drop (j + 1)).filter (pr xs[i])).length := by
            rw [List.filter_cons_of_pos hpr]; exact Nat.succ_pos _
          omega
        refine ⟨accV5, p9, by rw [ra5.length]; exact bound, G9, ⟨(k5.cf.back gr9 c9).chgU pg9 pm9 n1 _, fun b o e1 e2 e3 => ?_, k5.gg.trans gr9, fun b e => k5.dm b (fr8.dm b (f9.dm b (upd_dm b e))), ⟨accV5 ++ [v], upd_same, ?_⟩, pg9⟩⟩
        · obtain ⟨k1, k2, k3⟩ := frC b o e1 e2 e3
          obtain ⟨k1, k2, k3⟩ := f9.fr b o k1 k2 k3
          have hb : b ≠ p := fun z => by
            subst z
            rw [f1.dm b hp] at e1; cases e1
          exact ⟨by rw [upd_ne hb]; exact k1, k2, k3⟩
        · rw [tk, List.filter_append, List.map_append, ← List.append_assoc]
          have one : ([(es xs[i])[j]].filter (pr xs[i])).map (f xs[i]) = [f xs[i] (es xs[i])[j]] := by simp [hpr]
          rw [one]
          exact (ra5.mono gr9).snoc r9
    · have ej : j = (es xs[i]).length := by omega
      subst ej
      refine .inl ⟨by rw [← hasl]; exact ok1.stop ρ3 μ4 σ3 G5 H5 k5.gg s4 k5.cf, G5, ⟨k'.cf.back (gr4.trans k5.gg) k5.cf, k5.fr, (k'.gg.trans gr4).trans k5.gg, k5.dm, ?_, k5.np⟩⟩
      have e1 : xs.take (i + 1) = xs.take i ++ [xs[i]] := by rw [List.take_add_one, hx]; rfl
      obtain ⟨aV, h1, h2⟩ := k5.at_
      refine ⟨aV, h1, ?_⟩
      rw [e1, List.flatMap_append, List.flatMap_singleton]
      rw [List.take_length] at h2
      rw [← hF] at h2 ⊢
      exact h2
  · have e2 : i = xs.length := by omega
    subst e2
    obtain ⟨aV, h1, h2⟩ := k'.at_
    rw [List.take_length] at h2
    exact .inl ⟨by rw [← hdl]; exact ok.stop ρ μ1 σ G' H' k'.gg s1 k'.cf, q _ μ1 p aV G' H' hQ k'.cf h1 k'.np m1 n1 h2 ⟨f1.gg.trans k'.gg, k'.fr, k'.dm⟩ (f1.dm p hp)⟩
end
end DL
set_option Elab.async false
set_option linter.all false
set_option maxRecDepth 100000
namespace DL
open PySem PySem.Spec L2
section
variable {X : Cx}

/-! ### rules of the layer, joined, so that the derivation follows the syntax alone -/
abbrev rAddI : R2 := rI0 fun i j => .int (i + j)
abbrev rAddS : R2 := fun x y H Q => ∃ i j, x = .str i ∧ y = .str j ∧ i.length + j.length ≤ sizeLine ∧ Q (.str (i ++ j)) H
def rAddAny (K : PySem.W.Frag) : R2 := fun x y H Q => rAddI x y H Q ∨ rAddS x y H Q ∨ rCatA K x y H Q ∨ rCat x y H Q
theorem opAdd : OpR X (binaryOp .Add) (rAddAny X.K) := OpR.or op_add (OpR.or op_add_str (OpR.or op_catA op_cat))
abbrev rMulI : R2 := rI CMul fun i j => .int (i * j)
def rMulAny : R2 := fun x y H Q => rMulI x y H Q ∨ rRep x y H Q
theorem opMul : OpR X (binaryOp .Mult) rMulAny := OpR.or op_mul op_rep
abbrev rInSg : R2 := fun x y H Q => ∃ (c : Nat) (z : Str), x = .str ⟨#[c]⟩ ∧ y = .str z ∧ Q (.bl (decide (c ∈ z.cps.toList))) H
abbrev rNotInSg : R2 := fun x y H Q => ∃ (c : Nat) (z : Str), x = .str ⟨#[c]⟩ ∧ y = .str z ∧ Q (.bl (!decide (c ∈ z.cps.toList))) H
def rInAny (K : PySem.W.Frag) : R2 := fun x y H Q => rIn K false x y H Q ∨ rInSg x y H Q
def rNotInAny (K : PySem.W.Frag) : R2 := fun x y H Q => rIn K true x y H Q ∨ rNotInSg x y H Q
theorem opIn : OpR X (compareOp .In) (rInAny X.K) := OpR.or op_in_seq op_in_sign
theorem opNotIn : OpR X (compareOp .NotIn) (rNotInAny X.K) := OpR.or op_notIn_seq op_notIn_sign
def rLenAny (K : PySem.W.Frag) : List V → Hp → VK → Prop := fun xs H Q => (∃ p ys, xs = [.ref p] ∧ (SqL K H p ys ∨ SqT K H p ys) ∧ Q (.int ys.length) H) ∨ ∃ z, xs = [.str z] ∧ z.length ≤ sizeLine ∧ Q (.int z.length) H
theorem callLen : CallR X (.builtin "len") (rLenAny X.K) := CallR.or call_len_seq call_len_str
def rSlAny (K : PySem.W.Frag) : V → Option Int → Option Int → Hp → VK → Prop := fun x a b H Q => rSlL K x a b H Q ∨ rSlA K x a b H Q ∨ rSlS x a b H Q
theorem slAny : SlR X (rSlAny X.K) := SlR.or sl_list (SlR.or sl_tupA sl_str)
def rSumT : List V → Hp → VK → Prop := fun vs H Q => ∃ (a : Addr) (ns : List Int), vs = [V.ref a] ∧ H a = some (.tup (ns.map V.int)) ∧ Q (.int ns.sum) H
theorem cr_sumT (hc : X.calm = true) : CallR X (.builtin "sum") rSumT := by
  intro pins s σ H vs us Q I r h
  obtain ⟨a, ns, rfl, hs, q⟩ := h
  obtain ⟨_, its, rv, hl⟩ := (show ObjOk X.prog X.w H s.heap a (.tup (ns.map V.int)) from I.hok a _ hs)
  rw [Vals.ref1 r]
  obtain ⟨xs, e⟩ := rv.ints.allInts.items
  have hn : PySem.numsOf (PySem.intItems xs).toList = ns := by rw [← e]; exact rv.ints.numsOf
  rw [PySem.nums_intItems] at hn
  have ht : s.heap.IsTuple a (PySem.intItems xs) := by
    obtain ⟨o, h1, h2, n, h3⟩ := hl
    exact ⟨o, h1, h2, n, by rw [h3, ← e]⟩
  refine PySem.W.ktm_sumG (I.ok.hd hc) ht fun h' tk t' hk => ?_
  rw [PySem.preSum_eq, List.take_of_length_le (by simp), hn]
  exact ⟨.int _, H, I.kept hk, ⟨_, rfl⟩, q⟩
def rSumAny (K : PySem.W.Frag) : List V → Hp → VK → Prop := fun xs H Q => rSum K xs H Q ∨ rSumT xs H Q
theorem callSum (hc : X.calm = true) : CallR X (.builtin "sum") (rSumAny X.K) := CallR.or (cr_sum hc) (cr_sumT hc)
def rGetL (K : PySem.W.Frag) : V → V → Hp → VK → Prop := fun x y H Q => ∃ p xs i v, x = .ref p ∧ y = .int i ∧ 0 ≤ i ∧ SqL K H p xs ∧ atI xs i = some v ∧ Q v H
theorem get_list : PGet X (rGetL X.K) := fun pins s σ H o i ov iv Q I ro ri h => by
  obtain ⟨p, xs, n, z, rfl, rfl, h0, hq, he, q⟩ := h
  cases ro
  obtain ⟨t, rfl⟩ := ri
  obtain ⟨its, r, pl, hz⟩ := I.list hq
  obtain ⟨j, h1, h2, h3, h4, h5⟩ := atI_get he
  obtain ⟨u, hu, ru⟩ := r.get h2
  have hj : n.toNat = j := by
    have e := seqIndex_of h0 h5
    rw [e] at h1
    exact Option.some.inj h1
  have hn := line63
  refine wpAny_getItem_list pl.isList h0 (by omega) (x := u) (by rw [hj]; simpa using hu) ⟨z, H, I, ru, q⟩
theorem PI.or {tg e : Expr} {wi wi' : TI} (h : PI X tg e wi) (h' : PI X tg e wi') : PI X tg e (fun σ H R => wi σ H R ∨ wi' σ H R) :=
  ⟨fun pins s σ H R I q => q.elim (h.run pins s σ H R I) (h'.run pins s σ H R I)⟩
def iAny (K : PySem.W.Frag) (te : TE) : TI := fun σ H R => iList K te σ H R ∨ iTup K te σ H R ∨ iStr te σ H R
theorem piAny {tg e : Expr} {te : TE} (h : PE X e te) : PI X tg e (iAny X.K te) := PI.or (pi_list h) (PI.or (pi_tup h) (pi_str h))
theorem pe_gstr {x : Str} {z : Str} {pos : Pos} (hg : Gl X x) (h : ∃ t, X.mg x = some (.str z t)) (hd : (x == ("__debug__" : Str)) = false := by decide) : PE X (.Name x pos) (tC (.str z)) := by
  obtain ⟨t, h⟩ := h
  exact pe_glob hg h ⟨_, rfl⟩ hd
theorem pe_gint {x : Str} {z : Int} {pos : Pos} (hg : Gl X x) (h : ∃ t, X.mg x = some (.int z t)) (hd : (x == ("__debug__" : Str)) = false := by decide) : PE X (.Name x pos) (tC (.int z)) := by
  obtain ⟨t, h⟩ := h
  exact pe_glob hg h ⟨_, rfl⟩ hd
theorem pe_bty (n : String) {x : Str} {pos : Pos} (hg : Gl X x) (hm : X.mg x = none) (hv : bootBuiltins x = some (.type n)) (hn : x ≠ "__name__" := by decide) (hd : (x == ("__debug__" : Str)) = false := by decide) : PE X (.Name x pos) (tC (.ty n)) := pe_bltn hg hm hv rfl hn hd
end
/-- a method that callers know; a class that is made -/
structure HasM (P : Program) (w : World) (K : PySem.W.Frag) (mg : Str → Option Value) (base : Heap) (C : Addr) (m : Str) (k : Nat) (ps : List Str) (F : FS) : Prop where
  ex : ∃ f fd, Meth K C m f ∧ Binds K fd ps [] ∧ FnOk P w K mg base CX0 k f fd ps (spOf F)
  cl : Cls K C
structure HasK (P : Program) (w : World) (K : PySem.W.Frag) (mg : Str → Option Value) (base : Heap) (x : Str) (C : Addr) (k : Nat) (ps : List Str) (F : FS) : Prop where
  ex : ∃ f fd, Mk K C f ∧ mg x = some (.ref C) ∧ Binds K fd ps [] ∧ FnOk P w K mg base CX0 k f fd ps (spOf F)
section
variable {X : Cx}
theorem pe_me {C : Addr} {m : Str} {k : Nat} {ps : List Str} {F : FS} {pos apos : Pos} {o e : Expr} {es : List Expr} {ta : TE} {t : TA} {pl : Sem Bool} (he : PE X o ta) (h : HasM X.prog X.w X.K X.mg X.base C m k ps F) (hr : Room k X.A) (ha : PA X (e :: es) t)
    (hst : starEach (e :: es) X.env = (false, eval e X.env) :: starEach es X.env := by rfl) (hpl : (backTo pos (starEach es X.env)).any (·.1) = false := by rfl)
    (ht : eval (.Call (.Attribute o m apos) (e :: es) [] pos) X.env = (do
      let ov ← eval o X.env
      standAt apos.atName
      let (f, first) ← holding [ov] (getMethod ov m pl)
      callWith pos f first (backTo pos (starEach (e :: es) X.env)) (backToKw pos (keywordEach [] X.env))) := by rfl) : PE X (.Call (.Attribute o m apos) (e :: es) [] pos) (tMeth C m (spOf F) [] E0 ta t) := by
  obtain ⟨f, fd, h1, h2, h3⟩ := h.ex
  exact pe_meth he h.cl h1 h3 hr h2 .nil pass0 ha hst hpl ht
theorem pe_me0 {C : Addr} {m : Str} {k : Nat} {ps : List Str} {F : FS} {pos apos : Pos} {o : Expr} {ta : TE} {pl : Sem Bool} (he : PE X o ta) (h : HasM X.prog X.w X.K X.mg X.base C m k ps F) (hr : Room k X.A)
    (ht : eval (.Call (.Attribute o m apos) [] [] pos) X.env = (do
      let ov ← eval o X.env
      standAt apos.atName
      let (f, first) ← holding [ov] (getMethod ov m pl)
      callWith pos f first (backTo pos (starEach [] X.env)) (backToKw pos (keywordEach [] X.env))) := by rfl) : PE X (.Call (.Attribute o m apos) [] [] pos) (tMeth C m (spOf F) [] E0 ta tNil) := by
  obtain ⟨f, fd, h1, h2, h3⟩ := h.ex
  exact pe_meth0 he h.cl h1 h3 hr h2 .nil pass0 ht
theorem pe_mk {C : Addr} {x : Str} {k : Nat} {ps : List Str} {F : FS} {p pos : Pos} {e : Expr} {es : List Expr} {t : TA} (h : HasK X.prog X.w X.K X.mg X.base x C k ps F) (hr : Room (k + 1) X.A) (hg : Gl X x) (ha : PA X (e :: es) t) (hdb : (x == ("__debug__" : Str)) = false := by decide)
    (he : starEach (e :: es) X.env = (false, eval e X.env) :: starEach es X.env := by rfl) (hpl : (backTo pos (starEach es X.env)).any (·.1) = false := by rfl) : PE X (.Call (.Name x p) (e :: es) [] pos) (tMake C (spOf F) [] E0 t) := by
  obtain ⟨f, fd, h1, h2, h3, h4⟩ := h.ex
  exact pe_make h1 h4 hr hg h2 h3 .nil pass0 ha hdb he hpl
end

section
variable {N : En} {ρ : Env} {μ : Store} {K : PySem.W.Frag}
/-! ### the joined rules by data -/
theorem L2r.inl {r r' : R2} {rd : D → D → Store → QD → Prop} (l : L2r r rd) : L2r (fun x y H Q => r x y H Q ∨ r' x y H Q) rd := fun N ρ μ σ G H x y dx dy Q c rx ry h Qv k => .inl (l N ρ μ σ G H x y dx dy Q c rx ry h Qv k)
theorem L2r.inr {r r' : R2} {rd : D → D → Store → QD → Prop} (l : L2r r' rd) : L2r (fun x y H Q => r x y H Q ∨ r' x y H Q) rd := fun N ρ μ σ G H x y dx dy Q c rx ry h Qv k => .inr (l N ρ μ σ G H x y dx dy Q c rx ry h Qv k)
theorem L2n.inl {r r' : R2} {rd : D → D → Store → (List D → Store → Prop) → Prop} (l : L2n r rd) : L2n (fun x y H Q => r x y H Q ∨ r' x y H Q) rd := fun N ρ μ σ G H x y dx dy Q c rx ry h Qv k => .inl (l N ρ μ σ G H x y dx dy Q c rx ry h Qv k)
theorem L2n.inr {r r' : R2} {rd : D → D → Store → (List D → Store → Prop) → Prop} (l : L2n r' rd) : L2n (fun x y H Q => r x y H Q ∨ r' x y H Q) rd := fun N ρ μ σ G H x y dx dy Q c rx ry h Qv k => .inr (l N ρ μ σ G H x y dx dy Q c rx ry h Qv k)
theorem LCr.inl {r r' : List V → Hp → VK → Prop} {rd : List D → Store → QD → Prop} (l : LCr r rd) : LCr (fun x H Q => r x H Q ∨ r' x H Q) rd := fun N ρ μ σ G H x dx Q c rx h Qv k => .inl (l N ρ μ σ G H x dx Q c rx h Qv k)
theorem LCr.inr {r r' : List V → Hp → VK → Prop} {rd : List D → Store → QD → Prop} (l : LCr r' rd) : LCr (fun x H Q => r x H Q ∨ r' x H Q) rd := fun N ρ μ σ G H x dx Q c rx h Qv k => .inr (l N ρ μ σ G H x dx Q c rx h Qv k)
theorem LSr.inl {r r' : V → Option Int → Option Int → Hp → VK → Prop} {rd : D → Option Int → Option Int → Store → QD → Prop} (l : LSr r rd) : LSr (fun x a b H Q => r x a b H Q ∨ r' x a b H Q) rd := fun N ρ μ σ G H x dx a b Q c rx h Qv k => .inl (l N ρ μ σ G H x dx a b Q c rx h Qv k)
theorem LSr.inr {r r' : V → Option Int → Option Int → Hp → VK → Prop} {rd : D → Option Int → Option Int → Store → QD → Prop} (l : LSr r' rd) : LSr (fun x a b H Q => r x a b H Q ∨ r' x a b H Q) rd := fun N ρ μ σ G H x dx a b Q c rx h Qv k => .inr (l N ρ μ σ G H x dx a b Q c rx h Qv k)
theorem LSn.inl {r r' : V → Option Int → Option Int → Hp → VK → Prop} {rd : D → Option Int → Option Int → Store → (List D → Store → Prop) → Prop} (l : LSn r rd) : LSn (fun x a b H Q => r x a b H Q ∨ r' x a b H Q) rd := fun N ρ μ σ G H x dx a b Q c rx h Qv k => .inl (l N ρ μ σ G H x dx a b Q c rx h Qv k)
theorem WI.inl {wi wi' : TI} {Q : (Store → Prop) → List D → Store → Prop} (h : WI N wi ρ μ Q) : WI N (fun σ H R => wi σ H R ∨ wi' σ H R) ρ μ Q := fun σ G H c R k => .inl (h σ G H c R k)
theorem WI.inr {wi wi' : TI} {Q : (Store → Prop) → List D → Store → Prop} (h : WI N wi' ρ μ Q) : WI N (fun σ H R => wi σ H R ∨ wi' σ H R) ρ μ Q := fun σ G H c R k => .inr (h σ G H c R k)
def dSumT : List D → Store → QD → Prop := fun xs μ Q => ∃ (ns : List Int), xs = [.tup (ns.map D.int)] ∧ Q (.int ns.sum) μ
theorem lSumT : LCr rSumT dSumT := fun N ρ μ σ G H xs ds Q c r h Qv k => by
  obtain ⟨ns, rfl, q⟩ := h
  obtain ⟨v, rest, rfl, r, rfl⟩ := r
  obtain ⟨a, ys, rfl, ga, ra⟩ := c.tup r
  exact ⟨a, ns, rfl, by rw [← ra.map_int]; exact ga, k _ μ _ G H q rfl c (Fr.refl _ _ _)⟩
def dJoin : D → D → Store → QD → Prop := fun x y μ Q => ∃ (a : Str) (ys : List Str), x = .str a ∧ seqOf μ y = some (ys.map D.str) ∧ (ys.map (·.length)).sum + ys.length * a.length ≤ 16777216 ∧ Q (.str (Txt.join a ys)) μ
theorem WE_join {to te : TE} {Q : QD} (h : WE N to ρ μ fun x μ1 => (∃ a, x = .str a) ∧ WE N te ρ μ1 fun y μ2 => dJoin x y μ2 Q) :
    WE N (tM1 (fun x xs H Q => ∃ a p, ∃ ys : List Str, x = .str a ∧ xs = [.ref p] ∧ (SqL K H p (ys.map V.str) ∨ SqT K H p (ys.map V.str)) ∧ (ys.map (·.length)).sum + ys.length * a.length ≤ 16777216 ∧ Q (.str (Txt.join a ys)) H) to te) ρ μ Q := fun σ G H c Qv q => by
  refine h σ G H c _ fun dx μ1 x G1 H1 h1 r1 c1 f1 => ?_
  obtain ⟨⟨a, rfl⟩, h1⟩ := h1
  refine ⟨⟨a, r1⟩, h1 σ G1 H1 c1 _ fun dy μ2 y G2 H2 h2 r2 c2 f2 => ?_⟩
  obtain ⟨a', ys, ea, hs, hl, a2⟩ := h2
  cases ea
  obtain ⟨p, xs, rfl, hq, rr⟩ := c2.seq (K := K) hs r2
  have e := rr.map_str
  subst e
  exact ⟨a, p, ys, r1, rfl, hq, hl, q _ μ2 _ G2 H2 a2 rfl c2 (f1.trans f2)⟩
theorem lAdd_int : L2r (rAddAny K) (dInt fun i j => .int (i + j)) := L2r.inl lInt
theorem lAdd_str : L2r (rAddAny K) dCatS := L2r.inr (L2r.inl lCatS)
theorem lAdd_tup : L2r (rAddAny K) dCatT := L2r.inr (L2r.inr (L2r.inl lCatT))
theorem lAdd_lst : L2n (rAddAny K) dCatL := L2n.inr (L2n.inr (L2n.inr lCatL))
theorem lMul_int : L2r rMulAny (dIntC CMul fun i j => .int (i * j)) := L2r.inl lIntC
theorem lMul_lst : L2n rMulAny dRepL := L2n.inr lRepL
theorem lIn_seq : L2r (rInAny K) (dIn false) := L2r.inl lIn
theorem lIn_sign : L2r (rInAny K) (dInSign false) := L2r.inr lInSign
theorem lNotIn_seq : L2r (rNotInAny K) (dIn true) := L2r.inl lIn
theorem lNotIn_sign : L2r (rNotInAny K) (dInSign true) := L2r.inr lNotInSign
theorem lLen_seq : LCr (rLenAny K) dLen := LCr.inl lLen
theorem lLen_str : LCr (rLenAny K) dLenS := LCr.inr lLenS
theorem lSl_lst : LSn (rSlAny K) dSlL := LSn.inl lSlL
theorem lSl_tup : LSr (rSlAny K) dSlT := LSr.inr (LSr.inl lSlT)
theorem lSl_str : LSr (rSlAny K) dSlS := LSr.inr (LSr.inr lSlS)
theorem lSum_lst : LCr (rSumAny K) dSum := LCr.inl lSum
theorem lSum_tup : LCr (rSumAny K) dSumT := LCr.inr lSumT
def dGetL : D → D → Store → QD → Prop := fun x y μ Q => ∃ ds i e, listOf μ x = some ds ∧ y = .int i ∧ 0 ≤ i ∧ atI ds i = some e ∧ Q e μ
theorem lGetL : L2r (rGetL K) dGetL := fun N ρ μ σ G H x y dx dy Q c rx ry h Qv k => by
  obtain ⟨ds, i, e, h1, rfl, h0, h2, q⟩ := h
  obtain ⟨a, xs, rfl, hs, rr⟩ := c.list h1 rx
  obtain ⟨v, hv, rv⟩ := atI_rep rr h2
  exact ⟨a, xs, i, v, rfl, ry, h0, SqL.of hs, hv, k _ μ _ G H q rv c (Fr.refl _ _ _)⟩
theorem WI_lst {te : TE} {Q : (Store → Prop) → List D → Store → Prop} (h : WE N te ρ μ fun d μ1 => ∃ ds, listOf μ1 d = some ds ∧ Q (fun m => listOf m d = some ds) ds μ1) : WI N (iAny K te) ρ μ Q := WI.inl (WI_list h)
theorem WI_tpl {te : TE} {Q : (Store → Prop) → List D → Store → Prop} (h : WE N te ρ μ fun d μ1 => ∃ ds, d = .tup ds ∧ Q (fun _ => True) ds μ1) : WI N (iAny K te) ρ μ Q := WI.inr (WI.inl (WI_tup h))
theorem WI_txt {te : TE} {Q : (Store → Prop) → List D → Store → Prop} (h : WE N te ρ μ fun d μ1 => ∃ x, d = .str x ∧ Q (fun _ => True) (signsD x) μ1) : WI N (iAny K te) ρ μ Q := WI.inr (WI.inr (WI_str h))
theorem lIp {f : Int → Int → Int} : L2r (ipI f) (dInt fun i j => .int (f i j)) := lInt
end
/-! ### repr of data, where nothing is being shown -/
section
variable {X : Cx}
def rRepr (K : PySem.W.Frag) : List V → Hp → VK → Prop := fun vs H Q => ∃ (a : Addr) (d : PyData), vs = [.ref a] ∧ Dp K H (.ref a) d ∧ d.showable = true ∧ d.hasDict = false ∧ d.depth ≤ 64 ∧ d.shown.length ≤ sizeLine ∧ Q (.str d.shown) H
theorem callReprG (hg : X.A.guards = some []) (hu : X.A.units + 66 < cLine) : CallR X (.builtin "repr") (rRepr X.K) := by
  intro pins s σ H vs us Q I r h
  obtain ⟨a, d, rfl, hd, h1, h2, h3, h4, q⟩ := h
  rw [Vals.ref1 r]
  obtain ⟨as, rd⟩ := Dp.reads I d (.ref a) (.ref a) hd rfl
  refine PySem.repr_of_reads' rd h1 (fun z => by rw [h2] at z; cases z) hg (by omega) (fun _ _ e => e) (fun h' u tk hk => ?_) h4
  exact ⟨.str _, H, I.kept hk, ⟨_, rfl⟩, q⟩
end
section
variable {N : En} {ρ : Env} {μ : Store} {K : PySem.W.Frag}
def dRepr : List D → Store → QD → Prop := fun xs μ Q => ∃ ds, xs = [.tup ds] ∧ plainL ds = true ∧ (toPy (.tup ds)).showable = true ∧ (toPy (.tup ds)).hasDict = false ∧ (toPy (.tup ds)).depth ≤ 64 ∧ (toPy (.tup ds)).shown.length ≤ sizeLine ∧ Q (.str (toPy (.tup ds)).shown) μ
theorem lRepr : LCr (rRepr K) dRepr := fun N ρ μ σ G H xs ds Q c r h Qv k => by
  obtain ⟨es, rfl, hp, h1, h2, h3, h4, q⟩ := h
  obtain ⟨v, rest, rfl, r, rfl⟩ := r
  have dp := Rep.dp (K := K) c.wd.sub (d := .tup es) (by simpa [plain] using hp) r
  obtain ⟨a, ys, rfl, ga, ra⟩ := r
  exact ⟨a, _, rfl, dp, h1, h2, h3, h4, k _ μ _ G H q rfl c (Fr.refl _ _ _)⟩
end
end DL
set_option Elab.async false
set_option linter.all false
set_option maxRecDepth 100000
namespace DL
open PySem PySem.Spec L2
/-! ### short forms -/
def isiT (n T : String) : Bool := n == T || (n == "bool" && T == "int")
def tyNames : List String := ["NoneType", "bool", "int", "str", "tuple", "list"]
theorem kit_tab : ∀ n ∈ tyNames, ∀ T ∈ ["int", "bool", "str", "tuple", "list", "dict"], kitB n T = some (isiT n T) := by decide +kernel
section
variable {N : En} {ρ : Env} {μ : Store} {K : PySem.W.Frag}
theorem tyName_in {d : D} {n : String} (h : tyName μ d = some n) : n ∈ tyNames := by
  cases d with
  | ptr p =>
    cases m : μ p with
    | none => simp [tyName, m] at h
    | some c => cases c <;> simp [tyName, m] at h; subst h; decide
  | ty b => cases h
  | opq b => cases h
  | _ => cases h; decide
theorem dIsi_i {d : D} {n T : String} {Q : QD} (hn : tyName μ d = some n) (hT : T ∈ ["int", "bool", "str", "tuple", "list", "dict"]) (h : Q (.bl (isiT n T)) μ) : dIsi [d, .ty T] μ Q :=
  ⟨d, T, n, _, rfl, hn, kit_tab n (tyName_in hn) T hT, h⟩
theorem dInt_i {g : Int → Int → D} {i j : Int} {Q : QD} (h : Q (g i j) μ) : dInt g (.int i) (.int j) μ Q := ⟨i, j, rfl, rfl, h⟩
theorem dIntC_i {C : Int → Int → Prop} {g : Int → Int → D} {i j : Int} {Q : QD} (hc : C i j) (h : Q (g i j) μ) : dIntC C g (.int i) (.int j) μ Q := ⟨i, j, rfl, rfl, hc, h⟩
theorem dCatS_i {a b : Str} {Q : QD} (hc : a.length + b.length ≤ sizeLine) (h : Q (.str (a ++ b)) μ) : dCatS (.str a) (.str b) μ Q := ⟨a, b, rfl, rfl, hc, h⟩
theorem dCatT_i {a b : List D} {Q : QD} (hc : a.length + b.length ≤ sizeLine) (h : Q (.tup (a ++ b)) μ) : dCatT (.tup a) (.tup b) μ Q := ⟨a, b, rfl, rfl, hc, h⟩
theorem dLen_i {d : D} {ds : List D} {Q : QD} (hs : seqOf μ d = some ds) (h : Q (.int ds.length) μ) : dLen [d] μ Q := ⟨d, ds, rfl, hs, h⟩
theorem dLenS_i {z : Str} {Q : QD} (hs : z.length ≤ sizeLine) (h : Q (.int z.length) μ) : dLenS [.str z] μ Q := ⟨z, rfl, hs, h⟩
theorem atI_nat {α : Type} {xs : List α} {j : Nat} {x : α} (h : xs[j]? = some x) : atI xs (j : Int) = some x := L2.atI_nat h
theorem dIx_i {d e : D} {ds : List D} {j : Nat} {Q : QD} (hs : seqOf μ d = some ds) (h : ds[j]? = some e) (q : Q e μ) : dIx d (.int (j : Int)) μ Q := .inl ⟨ds, j, e, hs, rfl, atI_nat h, q⟩
theorem dIx_z {d e : D} {ds : List D} {i : Int} {j : Nat} {Q : QD} (hs : seqOf μ d = some ds) (hi : i = (j : Int)) (h : ds[j]? = some e) (q : Q e μ) : dIx d (.int i) μ Q := by subst hi; exact dIx_i hs h q
theorem dIx_s {z : Str} {c : Nat} {i : Int} {j : Nat} {Q : QD} (hs : z.length ≤ sizeLine) (hi : i = (j : Int)) (h : z.cps.toList[j]? = some c) (q : Q (.str ⟨#[c]⟩) μ) : dIx (.str z) (.int i) μ Q := by
  subst hi; exact .inr ⟨z, j, c, rfl, rfl, hs, atI_nat h, q⟩
theorem dEq_i {x y : D} {Q : QD} (hx : shp x = true) (hy : shp y = true) (h : Q (.bl (eqD x y)) μ) : dEq x y μ Q := ⟨hx, hy, h⟩
theorem dNe_i {x y : D} {Q : QD} (hx : shp x = true) (hy : shp y = true) (h : Q (.bl (!eqD x y)) μ) : dNe x y μ Q := ⟨hx, hy, h⟩
theorem dIsN_i {x : D} {Q : QD} (h : Q (.bl (isNonD x)) μ) : dIsN x .non μ Q := ⟨rfl, h⟩
theorem dNotN_i {x : D} {Q : QD} (h : Q (.bl (!isNonD x)) μ) : dNotN x .non μ Q := ⟨rfl, h⟩
theorem dIn_i {x y : D} {ds : List D} {Q : QD} (hs : seqOf μ y = some ds) (hx : flat x = true) (hd : ds.all flat = true) (h : Q (.bl (ds.any fun e => eqF e x)) μ) : dIn false x y μ Q := ⟨ds, hs, hx, hd, h⟩
theorem dNotIn_i {x y : D} {ds : List D} {Q : QD} (hs : seqOf μ y = some ds) (hx : flat x = true) (hd : ds.all flat = true) (h : Q (.bl (!(ds.any fun e => eqF e x))) μ) : dIn true x y μ Q := ⟨ds, hs, hx, hd, h⟩
theorem dInSign_i {c : Nat} {z : Str} {Q : QD} (h : Q (.bl (decide (c ∈ z.cps.toList))) μ) : dInSign false (.str ⟨#[c]⟩) (.str z) μ Q := ⟨c, z, rfl, rfl, h⟩
theorem dSlT_i {ds : List D} {lo hi : Option Int} {Q : QD} (h : Q (.tup (cutD ds lo hi)) μ) : dSlT (.tup ds) lo hi μ Q := ⟨ds, rfl, h⟩
theorem dSlL_i {d : D} {ds : List D} {lo hi : Option Int} {Q : List D → Store → Prop} (hs : listOf μ d = some ds) (h : Q (cutD ds lo hi) μ) : dSlL d lo hi μ Q := ⟨ds, hs, h⟩
theorem dSlS_i {z : Str} {lo hi : Option Int} {Q : QD} (hz : z.length ≤ sizeLine) (h : Q (.str (cutS z lo hi)) μ) : dSlS (.str z) lo hi μ Q := ⟨z, rfl, hz, h⟩
theorem dAppend_i {p : Addr} {es : List D} {y : D} {Q : QD} (hm : μ p = some (.lst es)) (hl : es.length < sizeLine) (h : Q .non (updS μ p (.lst (es ++ [y])))) : dAppend (.ptr p) [y] μ Q := ⟨p, es, y, rfl, rfl, hm, hl, h⟩
theorem dExtend_i {p : Addr} {es fs : List D} {y : D} {Q : QD} (hm : μ p = some (.lst es)) (hy : listOf μ y = some fs) (hl : es.length + fs.length ≤ sizeLine) (h : Q .non (updS μ p (.lst (es ++ fs)))) : dExtend (.ptr p) [y] μ Q := ⟨p, es, y, fs, rfl, rfl, hm, hy, hl, h⟩
theorem ixN_nat {n j : Nat} (h : j < n) : ixN n (j : Int) = some j := by
  unfold ixN
  rw [if_pos (by omega), if_pos (by omega)]
  simp
theorem dSetL_i {p : Addr} {es : List D} {i : Int} {j : Nat} {v : D} {Q : Store → Prop} (hm : μ p = some (.lst es)) (hi : i = (j : Int)) (hj : j < es.length) (h : Q (updS μ p (.lst (es.set j v)))) : dSetL (.ptr p) (.int i) v μ Q := by
  subst hi; exact ⟨p, es, j, j, rfl, rfl, hm, ixN_nat hj, h⟩
theorem dTupleOf_i {d : D} {ds : List D} {Q : QD} (hs : seqOf μ d = some ds) (h : Q (.tup ds) μ) : dTupleOf [d] μ Q := ⟨d, ds, rfl, hs, h⟩
theorem dListOf_i {d : D} {ds : List D} {Q : List D → Store → Prop} (hs : seqOf μ d = some ds) (h : Q ds μ) : dListOf [d] μ Q := ⟨d, ds, rfl, hs, h⟩
theorem dAll_i {d : D} {bs : List Bool} {Q : QD} (hs : listOf μ d = some (bs.map D.bl)) (h : Q (.bl (bs.all id)) μ) : dAll [d] μ Q := ⟨d, bs, rfl, hs, h⟩
theorem dSumT_i {ns : List Int} {Q : QD} (h : Q (.int ns.sum) μ) : dSumT [.tup (ns.map D.int)] μ Q := ⟨ns, rfl, h⟩
theorem dAbs_i {i : Int} {Q : QD} (h : Q (.int (if i < 0 then -i else i)) μ) : dAbs [.int i] μ Q := ⟨i, rfl, h⟩
theorem dIntOf_i {i : Int} {Q : QD} (h : Q (.int i) μ) : dIntOf [.int i] μ Q := ⟨i, rfl, h⟩
theorem dMin2_i {i j : Int} {Q : QD} (h : Q (.int (if j < i then j else i)) μ) : dMin2 [.int i, .int j] μ Q := ⟨i, j, rfl, h⟩
theorem retE_i {μ0 : Store} {R : QD} {d : D} (h : R d μ0) (s : SubS μ0 μ) : (retE μ0 R).rt d μ := ⟨μ0, s, h⟩
/-! ### comprehensions over typed lists -/
theorem WEn_mapT {wi : TI} {g : TG} {te : TE} {vs js : List Nat} {Q : List D → Store → Prop} {α : Type} (hjs : ∀ j ∈ js, j ∈ vs) (h : WI N wi ρ μ fun _ ds μ1 => ∃ (xs : List α) (enc : α → D) (f : α → D), ds = xs.map enc ∧ xs.length ≤ sizeLine ∧
      (∀ x ∈ xs, WG N g js (enc x) (wipeD ρ vs) μ1 fun ρ2 μ2 => WE N te ρ2 μ2 fun y μ4 => y = f x ∧ μ4 = μ1) ∧ Q (xs.map f) μ1) : WEn N (tLc wi g tYes te vs) ρ μ Q := by
  refine WEn_lc hjs fun σ G H c R k => h σ G H c R fun S ds μ1 J G' H' ⟨xs, enc, f, e, hl, h1, h2⟩ s => k S ds μ1 J G' H' ⟨fun i acc μ' => acc = (xs.take i).map f ∧ μ' = μ1, ⟨by simp, rfl⟩, fun i acc μ' _ e => by rw [e.2]; exact s, fun i d acc μ' hd e2 => ?_, fun acc μ' e2 => ?_⟩ s
  · obtain ⟨rfl, rfl⟩ := e2
    subst e
    rw [List.getElem?_map] at hd
    cases hx : xs[i]? with
    | none => rw [hx] at hd; cases hd
    | some x =>
      rw [hx] at hd
      have ed := Option.some.inj hd
      subst ed
      refine (h1 x (List.mem_of_getElem? hx)).imp fun ρ2 μ2 q => WT_yes ?_
      rw [if_pos rfl]
      refine q.imp fun y μ4 e => ?_
      obtain ⟨rfl, rfl⟩ := e
      obtain ⟨hi, _⟩ := List.getElem?_eq_some_iff.mp hx
      refine ⟨?_, ?_, rfl⟩
      · rw [List.length_map, List.length_take]; omega
      · rw [List.take_add_one, hx, List.map_append]; rfl
  · rw [e2.1, e2.2, e, List.length_map, List.take_length]; exact h2
theorem WEn_filterT {wi : TI} {g : TG} {tt : TT} {te : TE} {vs js : List Nat} {Q : List D → Store → Prop} {α : Type} (hjs : ∀ j ∈ js, j ∈ vs) (h : WI N wi ρ μ fun _ ds μ1 => ∃ (xs : List α) (enc : α → D) (p : α → Bool) (f : α → D), ds = xs.map enc ∧ xs.length ≤ sizeLine ∧
      (∀ x ∈ xs, WG N g js (enc x) (wipeD ρ vs) μ1 fun ρ2 μ2 => WT N tt ρ2 μ2 fun b μ3 => b = p x ∧ μ3 = μ1 ∧ (p x = true → WE N te ρ2 μ1 fun y μ4 => y = f x ∧ μ4 = μ1)) ∧ Q ((xs.filter p).map f) μ1) : WEn N (tLc wi g tt te vs) ρ μ Q := by
  refine WEn_lc hjs fun σ G H c R k => h σ G H c R fun S ds μ1 J G' H' ⟨xs, enc, p, f, e, hl, h1, h2⟩ s => k S ds μ1 J G' H' ⟨fun i acc μ' => acc = ((xs.take i).filter p).map f ∧ μ' = μ1, ⟨by simp, rfl⟩, fun i acc μ' _ e => by rw [e.2]; exact s, fun i d acc μ' hd e2 => ?_, fun acc μ' e2 => ?_⟩ s
  · obtain ⟨rfl, rfl⟩ := e2
    subst e
    rw [List.getElem?_map] at hd
    cases hx : xs[i]? with
    | none => rw [hx] at hd; cases hd
    | some x =>
      rw [hx] at hd
      have ed := Option.some.inj hd
      subst ed
      have tk : xs.take (i + 1) = xs.take i ++ [x] := by rw [List.take_add_one, hx]; rfl
      obtain ⟨hi, _⟩ := List.getElem?_eq_some_iff.mp hx
      refine (h1 x (List.mem_of_getElem? hx)).imp fun ρ2 μ2 q => q.imp fun b μ3 e => ?_
      obtain ⟨rfl, rfl, q⟩ := e
      cases hp : p x with
      | true =>
        rw [if_pos rfl]
        refine (q hp).imp fun y μ4 e => ?_
        obtain ⟨rfl, rfl⟩ := e
        refine ⟨?_, ?_, rfl⟩
        · rw [List.length_map]
          refine Nat.lt_of_le_of_lt (List.length_filter_le _ _) ?_
          rw [List.length_take]; omega
        · rw [tk, List.filter_append, List.map_append]; simp [hp]
      | false =>
        rw [if_neg Bool.false_ne_true]
        refine ⟨?_, rfl⟩
        rw [tk, List.filter_append, List.map_append]; simp [hp]
  · rw [e2.1, e2.2, e, List.length_map, List.take_length]; exact h2
end
end DL
set_option Elab.async false
set_option linter.all false
set_option maxRecDepth 100000
namespace DL
open PySem PySem.Spec L2
section
variable {N : En} {ρ : Env} {μ : Store} {K : PySem.W.Frag}
/-! ### rules by the form of the data -/
def dAdd : D → D → Store → QD → Prop
  | .int i, .int j, μ, Q => Q (.int (i + j)) μ
  | .str a, .str b, μ, Q => a.length + b.length ≤ sizeLine ∧ Q (.str (a ++ b)) μ
  | .tup a, .tup b, μ, Q => a.length + b.length ≤ sizeLine ∧ Q (.tup (a ++ b)) μ
  | _, _, _, _ => False
theorem lAdd : L2r (rAddAny K) dAdd := fun N ρ μ σ G H x y dx dy Q c rx ry h Qv k => by
  cases dx <;> cases dy <;> first
    | (exact absurd h id)
    | (exact lAdd_int N ρ μ σ G H x y _ _ Q c rx ry ⟨_, _, rfl, rfl, h⟩ Qv k)
    | (exact lAdd_str N ρ μ σ G H x y _ _ Q c rx ry ⟨_, _, rfl, rfl, h⟩ Qv k)
    | (exact lAdd_tup N ρ μ σ G H x y _ _ Q c rx ry ⟨_, _, rfl, rfl, h⟩ Qv k)
theorem dAdd_i {i j : Int} {Q : QD} (h : Q (.int (i + j)) μ) : dAdd (.int i) (.int j) μ Q := h
theorem dAdd_s {a b : Str} {Q : QD} (hl : a.length + b.length ≤ sizeLine) (h : Q (.str (a ++ b)) μ) : dAdd (.str a) (.str b) μ Q := ⟨hl, h⟩
theorem dAdd_t {a b : List D} {Q : QD} (hl : a.length + b.length ≤ sizeLine) (h : Q (.tup (a ++ b)) μ) : dAdd (.tup a) (.tup b) μ Q := ⟨hl, h⟩
def dLenA (xs : List D) (μ : Store) (Q : QD) : Prop := dLen xs μ Q ∨ dLenS xs μ Q
theorem lLenA : LCr (rLenAny K) dLenA := fun N ρ μ σ G H xs ds Q c r h Qv k => h.elim (fun h => lLen_seq N ρ μ σ G H xs ds Q c r h Qv k) fun h => lLen_str N ρ μ σ G H xs ds Q c r h Qv k
theorem dLenA_i {d : D} {ds : List D} {Q : QD} (hs : seqOf μ d = some ds) (h : Q (.int ds.length) μ) : dLenA [d] μ Q := .inl (dLen_i hs h)
theorem dLenA_t {ds : List D} {Q : QD} (h : Q (.int ds.length) μ) : dLenA [.tup ds] μ Q := .inl (dLen_i rfl h)
theorem dLenA_l {ds : List D} {Q : QD} (h : Q (.int ds.length) μ) : dLenA [.lst ds] μ Q := .inl (dLen_i rfl h)
theorem dLenA_s {z : Str} {Q : QD} (hs : z.length ≤ sizeLine) (h : Q (.int z.length) μ) : dLenA [.str z] μ Q := .inr (dLenS_i hs h)
theorem dIx_t {e : D} {ds : List D} {i : Int} {j : Nat} {Q : QD} (hi : i = (j : Int)) (h : ds[j]? = some e) (q : Q e μ) : dIx (.tup ds) (.int i) μ Q := dIx_z rfl hi h q
theorem dIx_l {e : D} {ds : List D} {i : Int} {j : Nat} {Q : QD} (hi : i = (j : Int)) (h : ds[j]? = some e) (q : Q e μ) : dIx (.lst ds) (.int i) μ Q := dIx_z rfl hi h q
theorem dIx_p {p : Addr} {e : D} {ds : List D} {i : Int} {j : Nat} {Q : QD} (hm : μ p = some (.lst ds)) (hi : i = (j : Int)) (h : ds[j]? = some e) (q : Q e μ) : dIx (.ptr p) (.int i) μ Q := dIx_z (seqOf_list (listOf_ptr hm)) hi h q
theorem WS_set_i {t : TE} {i : Nat} {D : EnD} (h : WE N t ρ μ fun d μ' => D.nx (ρ.set i (some d)) μ') : WS N (tAsg t (gName i)) ρ μ D := WS_set h
end
end DL
set_option Elab.async false
set_option linter.all false
set_option maxRecDepth 100000
/-! rules with the written part K named apart: a comprehension's block may use them -/
namespace DL
open PySem PySem.Spec L2
section
variable {X : Cx} {K : PySem.W.Frag}
theorem kEq (hK : X.K = K) (hu : X.A.units + 64 < cLine) : OpR X (compareOp .Eq) (rEqD K) := by subst hK; exact op_eqD hu
theorem kNe (hK : X.K = K) (hu : X.A.units + 64 < cLine) : OpR X (compareOp .NotEq) (rNeD K) := by subst hK; exact op_neD hu
theorem kIn (hK : X.K = K) : OpR X (compareOp .In) (rInAny K) := by subst hK; exact opIn
theorem kNotIn (hK : X.K = K) : OpR X (compareOp .NotIn) (rNotInAny K) := by subst hK; exact opNotIn
theorem kAdd (hK : X.K = K) : OpR X (binaryOp .Add) (rAddAny K) := by subst hK; exact opAdd
theorem kLen (hK : X.K = K) : CallR X (.builtin "len") (rLenAny K) := by subst hK; exact callLen
theorem kSl (hK : X.K = K) : SlR X (rSlAny K) := by subst hK; exact slAny
theorem kSum (hK : X.K = K) (hc : X.calm = true) : CallR X (.builtin "sum") (rSumAny K) := by subst hK; exact callSum hc
theorem kGet (hK : X.K = K) : PGet X (rGetL K) := by subst hK; exact get_list
theorem kIx (hK : X.K = K) : IxR X (rIx K) := by subst hK; exact ix_seq
theorem kIsi (hK : X.K = K) : CallR X (.builtin "isinstance") (rIsi K) := by subst hK; exact call_isi
def rListOf (K : PySem.W.Frag) : List V → Hp → VK → Prop := fun xs H Q => ∃ p ys, xs = [.ref p] ∧ (SqL K H p ys ∨ SqT K H p ys) ∧ ∀ l, H l = none → Q (.ref l) (upd H l (.lst ys))
theorem kListOf (hK : X.K = K) : CallR X (.type "list") (rListOf K) := by subst hK; exact call_list_of
def rTupleOf (K : PySem.W.Frag) : List V → Hp → VK → Prop := fun xs H Q => ∃ p ys, xs = [.ref p] ∧ ((SqL K H p ys ∧ ∀ l, H l = none → Q (.ref l) (upd H l (.tup ys))) ∨ (SqT K H p ys ∧ Q (.ref p) H))
theorem kTupleOf (hK : X.K = K) : CallR X (.type "tuple") (rTupleOf K) := by subst hK; exact call_tuple_of
theorem kAll (hK : X.K = K) (hc : X.calm = true) : CallR X (.builtin "all") (rAll K) := by subst hK; exact cr_all hc
theorem kAnyB (hK : X.K = K) (hc : X.calm = true) : CallR X (.builtin "any") (rAny K) := by subst hK; exact cr_any hc
theorem kMax (hK : X.K = K) (hc : X.calm = true) : CallR X (.builtin "max") (rMax K) := by subst hK; exact cr_max hc
theorem kMin (hK : X.K = K) (hc : X.calm = true) : CallR X (.builtin "min") (rMin K) := by subst hK; exact cr_min hc
theorem kWalk {tg e : Expr} {te : TE} (hK : X.K = K) (h : PE X e te) : PI X tg e (iAny K te) := by subst hK; exact piAny h
theorem kEnum {e : Expr} {ta : TA} {p pos tpos : Pos} {elts : List Expr} {kk : Nat} (hK : X.K = K) (hg : Gl X "enumerate") (hm : X.mg "enumerate" = none) (ha : PA X [e] ta) (hs : starEach [e] X.env = [(false, eval e X.env)] := by rfl) :
    PI X (.Tuple elts kk tpos) (.Call (.Name "enumerate" p) [e] [] pos) (iEnum K ta) := by subst hK; exact pi_enum hg hm ha hs
theorem kZip {e e2 : Expr} {ta : TA} {p pos tpos : Pos} {elts : List Expr} {kk : Nat} (hK : X.K = K) (hg : Gl X "zip") (hm : X.mg "zip" = none) (ha : PA X [e, e2] ta)
    (hs : starEach [e, e2] X.env = (false, eval e X.env) :: starEach [e2] X.env := by rfl) (hpl : (backTo pos (starEach [e2] X.env)).any (·.1) = false := by rfl) :
    PI X (.Tuple elts kk tpos) (.Call (.Name "zip" p) [e, e2] [] pos) (RZ.iZipA K ta) := by subst hK; exact RZ.pi_zipA hg hm ha hs hpl
theorem kFld {e : Expr} {f : Str} {pos : Pos} {ta : TE} (hK : X.K = K) (he : PE X e ta) (hb : attributeBase e f X.env (eval e X.env) = eval e X.env) : PE X (.Attribute e f pos) (tFld K ta f) := by subst hK; exact pe_fld he hb
theorem kSetFld {o value : Expr} {f : Str} {pos pos' : Pos} {ta tv : TE} (hK : X.K = K) (ha : PE X o ta) (hv : PE X value tv) (hs : swapsWith value (some (.Attribute o f pos')) pos.line X.env = pure false) : PS X (.Assign [.Attribute o f pos'] value pos) (sFld K ta tv f) := by subst hK; exact ps_fld ha hv hs
def tJoin (K : PySem.W.Frag) (to te : TE) : TE := tM1 (fun x xs H Q => ∃ a p, ∃ ys : List Str, x = .str a ∧ xs = [.ref p] ∧ (SqL K H p (ys.map V.str) ∨ SqT K H p (ys.map V.str)) ∧ (ys.map (·.length)).sum + ys.length * a.length ≤ 16777216 ∧ Q (.str (Txt.join a ys)) H) to te
theorem kJoin {o e : Expr} {to te : TE} {apos pos : Pos} (hK : X.K = K) (ho : PE X o to) (he : PE X e te) (hs : starEach [e] X.env = [(false, eval e X.env)] := by rfl) (hbase : attributeBase o "join" X.env (eval o X.env) = eval o X.env := by rfl) (hline : (apos.endLine == pos.line) = true := by rfl) :
    PE X (.Call (.Attribute o "join" apos) [e] [] pos) (tJoin K to te) := by subst hK; exact pe_join ho he hs hbase hline
theorem kTup {es : List Expr} {k : Nat} {pos : Pos} {t : TGs} {n : Nat} (hK : X.K = K) (hc : X.calm = true) (h : PGs X es t) (hn : (assignEach es X.env).length = n := by rfl) (hst : (assignEach es X.env).findIdx? (·.1) = none := by rfl) : PG X (.Tuple es k pos) (gTup K n t) := by
  subst hK
  exact pg_tup hc h hn hst
theorem kBm {T name id : String} {r : V → List V → Hp → VK → Prop} {o e : Expr} {es : List Expr} {to : TE} {t : TA} {apos cpos : Pos} (hK : X.K = K) (pa : PlainAttrs T) (slot : Slot T name id) (hty : typeOf (.builtin id) = pure (.type "method_descriptor")) (hm : MtR X id r) (ho : PE X o to) (ha : PA X (e :: es) t)
    (hbase : attributeBase o name X.env (eval o X.env) = eval o X.env := by rfl)
    (hfew : ((backTo cpos (starEach (e :: es) X.env)).all (fun x => !x.1) && (backToKw cpos (keywordEach [] X.env)).all (fun x => x.1.isSome)
      && decide ((e :: es).length + ([] : List Keyword).length + (if ([] : List Keyword).isEmpty then 0 else 1) < 30)) = true := by rfl)
    (hline : (apos.endLine == cpos.line) = true := by rfl) (hs : starEach (e :: es) X.env = (false, eval e X.env) :: starEach es X.env := by rfl) (hplain : (backTo cpos (starEach es X.env)).any (·.1) = false := by rfl) :
    PE X (.Call (.Attribute o name apos) (e :: es) [] cpos) (tBM K T r to t) := by
  subst hK
  exact pe_bm pa slot hty hm ho ha hbase hfew hline hs hplain
theorem kBm0 {T name id : String} {r : V → List V → Hp → VK → Prop} {o : Expr} {to : TE} {apos cpos : Pos} (hK : X.K = K) (pa : PlainAttrs T) (slot : Slot T name id) (hty : typeOf (.builtin id) = pure (.type "method_descriptor")) (hm : MtR X id r) (ho : PE X o to)
    (hbase : attributeBase o name X.env (eval o X.env) = eval o X.env := by rfl) (hline : (apos.endLine == cpos.line) = true := by rfl) : PE X (.Call (.Attribute o name apos) [] [] cpos) (tBM0 K T r to) := by
  subst hK
  exact pe_bm0 pa slot hty hm ho hbase hline
end
section
variable {N : En} {ρ : Env} {μ : Store} {K : PySem.W.Frag}
theorem lTupleOfK : LCr (rTupleOf K) dTupleOf := lTupleOf
theorem lListOfK : LCn (rListOf K) dListOf := lListOf
theorem WE_joinK {to te : TE} {Q : QD} (h : WE N to ρ μ fun x μ1 => (∃ a, x = .str a) ∧ WE N te ρ μ1 fun y μ2 => dJoin x y μ2 Q) : WE N (tJoin K to te) ρ μ Q := WE_join h
end
end DL
set_option Elab.async false
set_option linter.all false
set_option maxRecDepth 100000
namespace DL
open PySem PySem.Spec L2
theorem iteN {c A B : Prop} [Decidable c] (h : ¬ c) (b : B) : if c then A else B := by rw [if_neg h]; exact b
theorem iteY {c A B : Prop} [Decidable c] (h : c) (b : A) : if c then A else B := by rw [if_pos h]; exact b
theorem dec_t {c : Prop} [Decidable c] (h : c) : decide c = true := decide_eq_true h
section
variable {N : En} {ρ : Env} {μ : Store} {K : PySem.W.Frag}
/-- all([e for x in xs]), each of which is True -/
theorem WE_allT {wi : TI} {g : TG} {te : TE} {vs js : List Nat} {Q : QD} {α : Type} (hjs : ∀ j ∈ js, j ∈ vs) (h : WI N wi ρ μ fun _ ds μ1 => ∃ (xs : List α) (enc : α → D), ds = xs.map enc ∧ xs.length ≤ sizeLine ∧
      (∀ x ∈ xs, WG N g js (enc x) (wipeD ρ vs) μ1 fun ρ2 μ2 => WE N te ρ2 μ2 fun y μ4 => y = .bl true ∧ μ4 = μ1) ∧ Q (.bl true) μ1) : WE N (tCB (rAll K) (tCons (tLc wi g tYes te vs) tNil)) ρ μ Q := by
  refine WE_cb lAll (WA_cons (WE_frozen (WEn_mapT hjs fun σ G H c R k => h σ G H c R fun S ds μ1 J G' H' ⟨xs, enc, e, hl, h1, h2⟩ s => k S ds μ1 J G' H' ⟨xs, enc, fun _ => .bl true, e, hl, h1, WA_nil ⟨.lst (xs.map fun _ => .bl true), xs.map fun _ => true, rfl, ?_, ?_⟩⟩ s)))
  · show some _ = some _
    rw [List.map_map]; rfl
  · have e2 : (xs.map fun _ => true).all id = true := by simp
    rw [e2]; exact h2
/-- all(..) of a comprehension by a test p -/
theorem WE_allP {wi : TI} {g : TG} {te : TE} {vs js : List Nat} {Q : QD} {α : Type} (hjs : ∀ j ∈ js, j ∈ vs) (h : WI N wi ρ μ fun _ ds μ1 => ∃ (xs : List α) (enc : α → D) (p : α → Bool), ds = xs.map enc ∧ xs.length ≤ sizeLine ∧
      (∀ x ∈ xs, WG N g js (enc x) (wipeD ρ vs) μ1 fun ρ2 μ2 => WE N te ρ2 μ2 fun y μ4 => y = .bl (p x) ∧ μ4 = μ1) ∧ Q (.bl (xs.all p)) μ1) : WE N (tCB (rAll K) (tCons (tLc wi g tYes te vs) tNil)) ρ μ Q := by
  refine WE_cb lAll (WA_cons (WE_frozen (WEn_mapT hjs fun σ G H c R k => h σ G H c R fun S ds μ1 J G' H' ⟨xs, enc, p, e, hl, h1, h2⟩ s => k S ds μ1 J G' H' ⟨xs, enc, fun x => .bl (p x), e, hl, h1, WA_nil ⟨.lst (xs.map fun x => .bl (p x)), xs.map p, rfl, ?_, ?_⟩⟩ s)))
  · show some _ = some _
    rw [List.map_map]; rfl
  · have e2 : (xs.map p).all id = xs.all p := by rw [List.all_map]; rfl
    rw [e2]; exact h2
/-- all([e for a in .. for b in ..]) by a test p -/
theorem WE_all2P {wi wi1 : TI} {g g1 : TG} {te : TE} {vs vs1 js js1 : List Nat} {Q : QD} {α β : Type} (hjs : ∀ j ∈ js, j ∈ vs) (hjs1 : ∀ j ∈ js1, j ∈ vs1)
    (h : WI N wi ρ μ fun _ ds μ1 => ∃ (xs : List α) (enc : α → D) (es : α → List β) (enc1 : β → D) (p : β → Bool), ds = xs.map enc ∧ (xs.flatMap es).length ≤ sizeLine ∧
      (∀ d ∈ xs, WG N g js (enc d) (wipeD ρ vs) μ1 fun ρ2 μ2 => μ2 = μ1 ∧ WI N wi1 ρ2 μ1 fun _ as μ3 => as = (es d).map enc1 ∧ μ3 = μ1 ∧ ∀ e ∈ es d, WG N g1 js1 (enc1 e) (wipeD ρ2 vs1) μ1 fun ρ3 μ4 => μ4 = μ1 ∧ WE N te ρ3 μ1 fun y μ6 => y = .bl (p e) ∧ μ6 = μ1) ∧
      Q (.bl ((xs.flatMap es).all p)) μ1) : WE N (tCB (rAll K) (tCons (tLc2 wi g tYes wi1 g1 tYes te vs vs1) tNil)) ρ μ Q := by
  have fe : ∀ (xs : List α) (es : α → List β) (p : β → Bool), (xs.flatMap fun d => ((es d).filter fun _ => true).map fun e => D.bl (p e)) = ((xs.flatMap es).map p).map D.bl := fun xs es p => by
    induction xs with
    | nil => rfl
    | cons x r ih => rw [List.flatMap_cons, List.flatMap_cons, ih, List.map_append, List.map_append, List.map_map, List.map_map, List.filter_eq_self.mpr (fun _ _ => rfl)]; rfl
  refine WE_cb lAll (WA_cons (WE_frozen (WEn_lc2 hjs hjs1 fun σ G H c R k => h σ G H c R fun S ds μ1 J G' H' ⟨xs, enc, es, enc1, p, e, hl, h1, h2⟩ s => k S ds μ1 J G' H' ⟨xs, enc, es, enc1, fun _ _ => true, fun _ e => .bl (p e), e, ?_, fun d hd => (h1 d hd).imp fun ρ2 μ2 ⟨e2, q⟩ => ⟨e2, fun σ G H c R k => q σ G H c R fun S as μ3 J G' H' ⟨a1, a2, a3⟩ s => k S as μ3 J G' H' ⟨a1, a2, fun e he => (a3 e he).imp fun ρ3 μ4 q => WT_yes ⟨rfl, q.1, fun _ => q.2⟩⟩ s⟩, WA_nil ⟨_, (xs.flatMap es).map p, rfl, ?_, ?_⟩⟩ s)))
  · rw [fe, List.length_map, List.length_map]; exact hl
  · show some _ = some _
    rw [fe]
  · have e2 : ((xs.flatMap es).map p).all id = (xs.flatMap es).all p := by rw [List.all_map]; rfl
    rw [e2]; exact h2
end
end DL
set_option Elab.async false
set_option linter.all false
set_option maxRecDepth 100000
set_option maxHeartbeats 2000000
/-! set comprehensions of texts and ints -/
namespace DL
open PySem PySem.Spec L2 PpSet
/-- {elt for target in iter if ..}, elt an int or a text: D the new set -/
def tScK (P : Program) (w : World) (wi : TI) (g : TG) (tt : TT) (te : TE) (vs : List Nat) : TE := fun σ H Q => wi σ H fun J H1 => ∀ D, H1 D = none → ∃ W : Nat → Nat → Hp → Prop, (∃ m, W 0 m (upd H1 D (SetK P w D (fun _ => false) 0))) ∧ ∀ i m H, W i m H →
  (J.stop i H ∧ Q (.ref D) H) ∨ (J.go i H ∧ ∃ Nx : Hp → Prop, (∀ H', Nx H' → ∃ m', m' < m ∧ W (i + 1) m' H') ∧ ∀ x H', J.yld i H x H' → g x (wipe σ vs) H' fun σ2 H2 => wipe σ2 vs = wipe σ vs ∧ tt σ2 H2 fun b H3 =>
    if b = true then te σ2 H3 fun y H4 => ∃ (k : Key) (S : Key → Bool) (n : Nat), y = kV k ∧ H4 D = some (SetK P w D S n) ∧ n + 1 < scanBound ∧ Nx (upd H4 D (SetK P w D (fun j => S j || decide (j = k)) (if S k = true then n else n + 1))) else Nx H3)
section
variable {X : Cx}
theorem addK_ok {pins : List (Addr × Obj)} {σ : L2.St} {H : Hp} {s : Shared} {E : Value → Shared → Prop} {D : Addr} {S : Key → Bool} {n : Nat} {k : Key} {u : Value} {Q : Value → Shared → Prop} (I : Inv X pins σ H s) (r : RelV (kV k) u) (hD : H D = some (SetK X.prog X.w D S n)) (room : n + 1 < scanBound)
    (h : ∀ s', Inv X pins σ (upd H D (SetK X.prog X.w D (fun j => S j || decide (j = k)) (if S k = true then n else n + 1))) s' → Q .none s') : wpAny (model X.prog X.w) X.A (call (.builtin "set.add") [.ref D, u]) Q E s := by
  refine call_set_add (kV_is r) (key_scan r) (setK_get I hD) room fun h' sb new => ?_
  have he : ∃ u, h'.get? D = some u := let ⟨o, _, _, _, ho, _⟩ := new; ⟨o, ho⟩
  exact h _ (I.write (e := D) (t' := s.toks + 1) (by rw [hD]; trivial) (.inl rfl) (fun b u hb hu => (sb.2 b hb).trans hu) he (setK_new new))
theorem setK_empty (P : Program) (w : World) (h : Heap) : (h.push { cls := .type "set", dict := none, data := .set #[] 0 (.fresh 0 0 (!w.params.followText "set-order")) }).SetOf (mixKind P w) h.objs.size (fun _ => false) 0 :=
  ⟨_, #[], 0, _, Heap.get?_push_size _ rfl, ⟨rfl, rfl, rfl⟩, rfl, (fun e he => by simp at he), (fun k => by simp), (by decide), (by rfl), rfl⟩
theorem pe_scK {elt tg iter : Expr} {ifs : List Expr} {scope : Scope} {own : List (PySem.Str × Nat)} {pos : Pos} {wi : TI} {g : TG} {tt : TT} {te : TE} (hc : X.calm = true) (hN : X.N.Nodup) (hi : PI X tg iter wi) (ok : BlkOk X.N X.env.scope scope own)
    (hg : ∀ (s : Shared) (H : Hp) (C : Addr) (cl : List (PySem.Str × Addr)) (fp : List Addr), PG (X.blk s H scope (compEnvC scope cl C X.env) fp) tg g) (ht : ∀ (s : Shared) (H : Hp) (C : Addr) (cl : List (PySem.Str × Addr)) (fp : List Addr), PTs (X.blk s H scope (compEnvC scope cl C X.env) fp) ifs tt)
    (he : ∀ (s : Shared) (H : Hp) (C : Addr) (cl : List (PySem.Str × Addr)) (fp : List Addr), PE (X.blk s H scope (compEnvC scope cl C X.env) fp) elt te) (hs : ∀ x, foldedSetIterable iter X.env x = pure x := by intro _; rfl) :
    PE X (.SetComp elt [⟨tg, iter, ifs, 0⟩] scope pos) (tScK X.prog X.w wi g tt te (own.map (·.2))) := by
  refine ⟨fun pins s σ H Q I h => ?_⟩
  rw [eval_SetComp]
  have hfree : ∀ y ∈ scope.names, y.2 = .free → ∃ c, X.env.cells.lookup y.1 = some c := fun y hy e => by
    rcases ok.free y hy e with k | k
    · exact I.ok.has _ (.inl k)
    · exact I.ok.has _ (.inr k)
  refine wpAny_comprehension_free (use := none) rfl hs (closure_ok hfree) ok.kind (fun y hy e => by rw [ok.uniq y hy, e])
    (thn (hi.run pins s σ H _ I h) fun xv s1 hx => thn hx fun itv s2 h2 => ?_)
  obtain ⟨it, fp, tn, J, H2, e, I2, T, st2, f2, q⟩ := h2
  subst e
  refine newSet_ok (newEnv_comp ?_)
  generalize hD : s2.heap.objs.size = D
  have hDn : H2 D = none := I2.hok.fresh (Nat.le_of_eq hD)
  obtain ⟨W, ⟨m0, w0⟩, turn⟩ := q D hDn
  generalize hs3 : ({ s2 with heap := s2.heap.push { cls := .type "set", dict := none, data := .set #[] 0 (.fresh 0 0 (!X.w.params.followText "set-order")) } } : Shared) = s3
  have I3 : Inv X pins σ (upd H2 D (SetK X.prog X.w D (fun _ => false) 0)) s3 := by
    rw [← hs3]
    refine I2.laid (t' := s2.toks) (fun b o e => Heap.get?_push_of_some _ e) (Nat.le_of_eq hD) ?_
    rw [← hD]
    exact setK_new (setK_empty X.prog X.w s2.heap)
  have h3 : s3.heap = s2.heap.push { cls := .type "set", dict := none, data := .set #[] 0 (.fresh 0 0 (!X.w.params.followText "set-order")) } := by rw [← hs3]
  have f3 : ∀ b ∈ fp, FpOk X pins (upd H2 D (SetK X.prog X.w D (fun _ => false) 0)) b ∧ b < s3.heap.objs.size := fun b hb => by
    obtain ⟨o, e, _⟩ := T.obj _ _ st2 b hb
    have hlt := Heap.lt_size e
    refine ⟨⟨?_, (f2 b hb).2⟩, by rw [h3, Heap.size_push]; exact Nat.lt_succ_of_lt hlt⟩
    rw [upd_ne (by rw [← hD]; exact Nat.ne_of_lt hlt)]
    exact (f2 b hb).1
  have st3 : tn 0 s3.heap := T.keep _ _ _ st2 fun b _ o e => by rw [h3]; exact Heap.get?_push_of_some _ e
  have I4 := block_start I3 ok hN f3
  generalize hH3 : upd H2 D (SetK X.prog X.w D (fun _ => false) 0) = H3 at I3 I4 w0 f3
  have pg := hg s3 H3 s3.heap.objs.size (cellsFrom (s3.heap.objs.size + 1) scope.names (cloFrom X.env.cells scope.names [])) fp
  have pt := ht s3 H3 s3.heap.objs.size (cellsFrom (s3.heap.objs.size + 1) scope.names (cloFrom X.env.cells scope.names [])) fp
  have pe := he s3 H3 s3.heap.objs.size (cellsFrom (s3.heap.objs.size + 1) scope.names (cloFrom X.env.cells scope.names [])) fp
  have fin0 : ∀ C s' m H', Inv X pins σ H' s' → Q (.ref D) H' → s'.heap.Ns C m → FpOk X pins H' C → compPost (model X.prog X.w) X.A X.xe none (EP X pins σ Q) (.ref D) C (.ok .next) s' := fun C s' m H' I' q hn f => by
    obtain ⟨f0, f1, f2, f3, f4, f5⟩ := f
    exact ⟨m, hn, fun h'' sb => ⟨.ref D, H', I'.turned (t' := s'.toks) (fun b o hb e => (sb.2 b hb).trans e) f0 f1 f3 f4 f5, rfl, q⟩⟩
  show codeAny _ _ (.compStart (.SetComp elt [⟨tg, iter, ifs, 0⟩] scope pos) 0 (.ref it) (.ref D) (compEnvC scope (cellsFrom (s3.heap.objs.size + 1) scope.names (cloFrom X.env.cells scope.names [])) s3.heap.objs.size X.env)) (compPost (model X.prog X.w) X.A X.xe none (EP X pins σ Q) (.ref D) s3.heap.objs.size) { s3 with heap := pushCells (s3.heap.push { cls := .type "dict", data := .dict #[] }) scope.names }
  have nfp : ∀ b ∈ fp, H3 b = none := fun b hb => (f3 b hb).1.1
  generalize hce : compEnvC scope (cellsFrom (s3.heap.objs.size + 1) scope.names (cloFrom X.env.cells scope.names [])) s3.heap.objs.size X.env = ce at I4 pg pt pe ⊢
  have cL : ce.locals = s3.heap.objs.size := by subst hce; rfl
  generalize hs4 : ({ s3 with heap := pushCells (s3.heap.push { cls := .type "dict", data := .dict #[] }) scope.names } : Shared) = s4 at I4 ⊢
  have st4 : tn 0 s4.heap := T.keep _ _ _ st3 fun b _ o e => by rw [← hs4]; exact pushCells_keeps _ _ _ _ (Heap.get?_push_of_some _ e)
  have stat : ∀ {σ' : L2.St} {H' : Hp} {s' : Shared}, Inv (X.blk s3 H3 scope ce fp) [] σ' H' s' → (∀ b ∈ fp, H' b = none) → ∀ b ∈ fp, FpOk (X.blk s3 H3 scope ce fp) [] H' b := fun {σ' H' s'} I' hn b hb =>
    ⟨hn b hb, (I'.ok.exf b hb).1, I'.ok.exfs b hb, .inl hb, fun x c e => (I'.ok.exf b hb).2 x c e, fun p hp => absurd (show p ∈ ([] : List (Addr × Obj)) ++ [] from hp) (by simp)⟩
  have loop : codeAny (model X.prog X.w) X.A (.compLoop (.SetComp elt [⟨tg, iter, ifs, 0⟩] scope pos) 0 (.ref it) (.ref D) ce) (compPost (model X.prog X.w) X.A X.xe none (EP X pins σ Q) (.ref D) s3.heap.objs.size) s4 := by
    refine compLoopS_any (fun n s' => ∃ i H', Inv (X.blk s3 H3 scope ce fp) [] (wipe σ (own.map (·.2))) H' s' ∧ tn i s'.heap ∧ (∀ b ∈ fp, H' b = none) ∧ W i n H') ?_ m0 ⟨0, H3, I4, st4, nfp, w0⟩
    rintro n s5 ⟨i, H5, I5, st5, n5, w5⟩
    rcases turn i n H5 w5 with ⟨stop, qq⟩ | ⟨go, Nx, hNx, step⟩
    · have td := T.done (X.blk s3 H3 scope ce fp) rfl rfl rfl hc i [] s5 _ H5 (fun _ _ => False) I5 (stat I5 n5) st5 stop
      refine thnF td fun r s6 ⟨hr, I6⟩ => ?_
      subst hr
      have I7 : Inv X pins σ H5 s6 := I3.call' (ch := fp) I6.os I6.base I6.hok I6.bare fun b hb => ⟨(f3 b hb).1.2.2.2.1, (f3 b hb).1.2.1, (f3 b hb).1.2.2.2.2.1, (f3 b hb).1.2.2.2.2.2⟩
      have nC : H5 s3.heap.objs.size = none := by
        have z : H5 ce.locals = none := I6.free
        rw [cL] at z
        exact z
      obtain ⟨m, hn, _⟩ := I6.loc
      have hn : s6.heap.Ns ce.locals m := hn
      rw [cL] at hn
      exact fin0 s3.heap.objs.size s6 m H5 I7 qq hn (I3.fpOk (Nat.le_refl _) nC)
    · have ti := T.item (X.blk s3 H3 scope ce fp) rfl rfl rfl hc i [] s5 _ H5 (fun _ _ => False) I5 (stat I5 n5) st5 go
      refine thnF ti fun r s6 ⟨u, hr, h6⟩ => ?_
      subst hr
      refine thnF h6 fun _ s7 ⟨x, H7, I7, r7, y7, st7, n7⟩ => ?_
      have I7' := I7.pinned (stat I7 n7) (T.obj _ _ st7)
      refine thnF (pg.run _ s7 _ H7 x u _ I7' r7 (step x H7 y7)) fun _ s8 ⟨σ8, H8, I8, hw8, q8⟩ => ?_
      refine thnF (pt.run _ s8 σ8 H8 _ I8 q8) fun b s9 ⟨H9, I9, q9⟩ => ?_
      have fin : ∀ {s' : Shared} {H' : Hp}, Inv (X.blk s3 H3 scope ce fp) ([] ++ pinsAt fp s7.heap) σ8 H' s' → Nx H' → ∃ m, m < n ∧ ∃ i H', Inv (X.blk s3 H3 scope ce fp) [] (wipe σ (own.map (·.2))) H' s' ∧ tn i s'.heap ∧ (∀ b ∈ fp, H' b = none) ∧ W i m H' := fun {s' H'} I' nx => by
        obtain ⟨m', hm, w'⟩ := hNx H' nx
        have pin' : ∀ b ∈ fp, ∀ o, s7.heap.get? b = some o → s'.heap.get? b = some o ∧ H' b = none := fun b hb o e =>
          let z := I'.pin (b, o) (List.mem_append_right _ (List.mem_append_right _ (mem_pinsAt hb e)))
          ⟨z.1, z.2.1⟩
        have hl : (wipe σ (own.map (·.2))).length = σ8.length := by rw [← hw8, wipe_length]
        refine ⟨m', hm, i + 1, H', (I'.unpinned (pins := [])).weak hl (fun j v e => ?_), T.keep _ _ _ st7 fun b hb o e => (pin' b hb o e).1, fun b hb => ?_, w'⟩
        · rw [← hw8] at e
          exact (wipe_some e).1
        · obtain ⟨o, e, _⟩ := T.obj _ _ st7 b hb
          exact (pin' b hb o e).2
      cases b with
      | false =>
        simp only [Bool.false_eq_true, if_false] at q9 ⊢
        exact fin I9 q9
      | true =>
        simp only [if_true] at q9 ⊢
        refine thnF (pe.run _ s9 σ8 H9 _ I9 q9) fun z s10 ⟨yv, H10, I10, r10, k, S0, n0, ey, hD10, hz10, nx⟩ => ?_
        subst ey
        exact addK_ok (X := X.blk s3 H3 scope ce fp) I10 r10 hD10 hz10 fun s11 I11 => fin I11 nx
  exact codeAny_compStart_set loop (T.self X.A 0 _ _ _ st4 loop)
/-- len of a set -/
def rLenK (P : Program) (w : World) : List V → Hp → VK → Prop := fun xs H Q => ∃ (a : Addr) (S : Key → Bool) (n : Nat), xs = [.ref a] ∧ H a = some (SetK P w a S n) ∧ n < scanBound ∧ Q (.int n) H
theorem cr_lenK : CallR X (.builtin "len") (rLenK X.prog X.w) := by
  intro pins s σ H vs us Q I r h
  obtain ⟨a, S, n, rfl, ha, hn, q⟩ := h
  rw [Vals.ref1 r]
  obtain ⟨o, es, ep, t, ho, hex, hd, _, _, _, hf, hl⟩ := setK_get I ha
  have hb : es.size < 4096 := by rw [hl]; exact hn
  refine call_len_set ho hex hd hf (by omega) ⟨.int n, H, I.tok _, ⟨_, by rw [hl]⟩, q⟩
end
/-- each key once, in the order of first sight -/
def memK (k : Key) (l : List Key) : Bool := l.any fun j => decide (j = k)
theorem memK_iff {k : Key} {l : List Key} : memK k l = true ↔ k ∈ l := by
  unfold memK
  rw [List.any_eq_true]
  constructor
  · rintro ⟨j, h, e⟩
    rw [← of_decide_eq_true e]; exact h
  · intro h
    exact ⟨k, h, decide_eq_true rfl⟩
def nubK (l : List Key) : List Key := l.foldl (fun acc x => if memK x acc = true then acc else acc ++ [x]) []
theorem nubK_snoc (l : List Key) (k : Key) : nubK (l ++ [k]) = if memK k (nubK l) = true then nubK l else nubK l ++ [k] := by
  unfold nubK; rw [List.foldl_append]; rfl
theorem snoc_ind {α : Type} {P : List α → Prop} (h0 : P []) (hs : ∀ l x, P l → P (l ++ [x])) (l : List α) : P l := by
  rw [← List.reverse_reverse l]
  induction l.reverse with
  | nil => exact h0
  | cons x r ih => rw [List.reverse_cons]; exact hs _ _ ih
theorem nubK_length (l : List Key) : (nubK l).length ≤ l.length := by
  refine snoc_ind (P := fun l => (nubK l).length ≤ l.length) (Nat.le_refl _) (fun l x ih => ?_) l
  rw [nubK_snoc, List.length_append, List.length_singleton]
  split
  · omega
  · rw [List.length_append, List.length_singleton]; omega
theorem mem_nubK {x : Key} (l : List Key) : x ∈ nubK l ↔ x ∈ l := by
  refine snoc_ind (P := fun l => x ∈ nubK l ↔ x ∈ l) Iff.rfl (fun l y ih => ?_) l
  rw [nubK_snoc, List.mem_append, List.mem_singleton]
  split
  · rename_i h
    rw [ih]
    constructor
    · exact .inl
    · rintro (q | q)
      · exact q
      · subst q; exact ih.mp (memK_iff.mp h)
  · rw [List.mem_append, List.mem_singleton, ih]
theorem nubK_nodup {l : List Key} : l.Nodup → nubK l = l := by
  refine snoc_ind (P := fun l => l.Nodup → nubK l = l) (fun _ => rfl) (fun l y ih h => ?_) l
  rw [List.nodup_append] at h
  rw [nubK_snoc, ih h.1, if_neg]
  intro z
  exact h.2.2 y (memK_iff.mp z) y (List.mem_singleton.mpr rfl) rfl
theorem nubK_is_nodup (l : List Key) : (nubK l).Nodup := by
  refine snoc_ind (P := fun l => (nubK l).Nodup) List.nodup_nil (fun l y ih => ?_) l
  rw [nubK_snoc]
  split
  · exact ih
  · rename_i h
    rw [List.nodup_append]
    refine ⟨ih, by simp, fun a ha b hb e => ?_⟩
    rw [List.mem_singleton] at hb
    subst hb; subst e
    exact h (memK_iff.mpr ha)
/-- as many when each once: only if all are unlike -/
theorem nubK_eq {l : List Key} (h : (nubK l).length = l.length) : l.Nodup := by
  revert h
  refine snoc_ind (P := fun l => (nubK l).length = l.length → l.Nodup) (fun _ => List.nodup_nil) (fun l y ih => ?_) l
  rw [nubK_snoc, List.length_append, List.length_singleton]
  have := nubK_length l
  split
  · intro h; omega
  · rename_i h
    intro e
    rw [List.length_append, List.length_singleton] at e
    rw [List.nodup_append]
    refine ⟨ih (by omega), by simp, fun a ha b hb e => ?_⟩
    rw [List.mem_singleton] at hb
    subst hb; subst e
    exact h (memK_iff.mpr ((mem_nubK l).mpr ha))
def keyD : Key → D
  | .inl i => .int i
  | .inr x => .str x
theorem Rep.key {G : Hp} {k : Key} {v : V} (r : Rep G (keyD k) v) : v = kV k := by
  cases k <;> exact r
theorem wipe_wipe (σ : L2.St) (vs : List Nat) : L2.wipe (L2.wipe σ vs) vs = L2.wipe σ vs := by
  have go : ∀ us : List Nat, (∀ u ∈ us, u ∈ vs) → L2.wipe (L2.wipe σ vs) us = L2.wipe σ vs := by
    intro us
    induction us with
    | nil => intro _; rfl
    | cons u us ih =>
      intro hu
      show (L2.wipe (L2.wipe σ vs) us).set u none = L2.wipe σ vs
      rw [ih fun z hz => hu z (List.mem_cons_of_mem _ hz)]
      have hm : u ∈ vs := hu u List.mem_cons_self
      refine List.ext_getElem? fun k => ?_
      by_cases e : u = k
      · subst e
        by_cases hl : u < (L2.wipe σ vs).length
        · rw [List.getElem?_set_self hl]
          cases z : (L2.wipe σ vs)[u]? with
          | none => rw [List.getElem?_eq_none_iff] at z; omega
          | some o =>
            cases o with
            | none => first | rfl | exact z.symm
            | some v => exact absurd hm (wipe_some z).2
        · rw [List.getElem?_eq_none (by simpa using hl), List.getElem?_eq_none (by simpa using hl)]
      · rw [List.getElem?_set_ne e]
  exact go vs fun _ z => z
section
variable {N : En} {ρ : Env} {μ : Store}
/-- len({elt for target in iter}) -/
theorem WE_lenset {P : Program} {w : World} {wi : TI} {g : TG} {te : TE} {vs js : List Nat} {Q : QD} (α : Type) (hjs : ∀ j ∈ js, j ∈ vs)
    (h : WI N wi ρ μ fun S ds μ1 => ∃ (xs : List α) (enc : α → D) (key : α → Key), ds = xs.map enc ∧ xs.length + 1 < scanBound ∧ (∀ x ∈ xs, WG N g js (enc x) (wipeD ρ vs) μ1 fun ρ2 μ2 => WE N te ρ2 μ2 fun y μ4 => y = keyD (key x) ∧ μ4 = μ1) ∧ Q (.int (nubK (xs.map key)).length) μ1) :
    WE N (tCB (rLenK P w) (tCons (tScK P w wi g tYes te vs) tNil)) ρ μ Q := fun σ G H c Qv q => by
  refine h σ G H c _ fun S ds μ1 J G1 H1 a s1 ok c1 f1 => ?_
  obtain ⟨xs, enc, key, e, hl, hs, hd⟩ := a
  intro p hp
  obtain ⟨g1, m1, n1⟩ := c1.fresh hp
  have next : ∀ (l : List Key) (k : Key), SetK P w p (fun j => memK j (nubK l) || decide (j = k)) (if memK k (nubK l) = true then (nubK l).length else (nubK l).length + 1) = SetK P w p (fun j => memK j (nubK (l ++ [k]))) (nubK (l ++ [k])).length := fun l k => by
    have e1 : (fun j => memK j (nubK l) || decide (j = k)) = fun j => memK j (nubK (l ++ [k])) := by
      funext j
      rw [Bool.eq_iff_iff, Bool.or_eq_true, memK_iff, memK_iff, decide_eq_true_eq, mem_nubK, mem_nubK, List.mem_append, List.mem_singleton]
    rw [e1, nubK_snoc]
    congr 1
    split
    · rfl
    · rw [List.length_append]; rfl
  have e0 : SetK P w p (fun _ => false) 0 = SetK P w p (fun j => memK j (nubK [])) (nubK []).length := rfl
  rw [e0]
  obtain ⟨cp, fp⟩ := c1.newU hp (SetK P w p (fun j => memK j (nubK [])) (nubK []).length)
  refine ⟨fun i m H' => m = xs.length - i ∧ i ≤ xs.length ∧ ∃ G', Cf N ρ μ1 σ G' H' ∧ Fr G μ H G' μ1 H' ∧ Grow G1 G' ∧ H' p = some (SetK P w p (fun j => memK j (nubK ((xs.take i).map key))) (nubK ((xs.take i).map key)).length) ∧ G' p = none ∧ μ1 p = none,
    ⟨xs.length, by omega, Nat.zero_le _, G1, cp, f1.trans fp, Grow.refl _, upd_same, g1, m1⟩, ?_⟩
  rintro i m H' ⟨rfl, hi, G', c', fr', g', hp', gp', mp'⟩
  have el : ds.length = xs.length := by rw [e, List.length_map]
  have hsz : ∀ i, (nubK ((xs.take i).map key)).length + 1 < scanBound := fun i => by
    refine Nat.lt_of_le_of_lt ?_ hl
    have := nubK_length ((xs.take i).map key)
    rw [List.length_map, List.length_take] at this
    omega
  by_cases hlt : i < xs.length
  · have hx : ds[i]? = some (enc xs[i]) := by rw [e, List.getElem?_map, List.getElem?_eq_getElem hlt]; rfl
    obtain ⟨hgo, hy⟩ := ok.go i _ ρ μ1 σ G' H' g' s1 c' hx
    refine .inr ⟨hgo, fun H2 => ∃ G2, Cf N ρ μ1 σ G2 H2 ∧ Fr G μ H G2 μ1 H2 ∧ Grow G1 G2 ∧ H2 p = some (SetK P w p (fun j => memK j (nubK ((xs.take (i + 1)).map key))) (nubK ((xs.take (i + 1)).map key)).length) ∧ G2 p = none ∧ μ1 p = none,
      fun H2 y => ⟨xs.length - (i + 1), by omega, rfl, hlt, y⟩, fun x H2 y => ?_⟩
    obtain ⟨G2, c2, f2, r2⟩ := hy x H2 y
    obtain ⟨p2, pg2, pm2⟩ := f2.fr p _ hp' gp' mp'
    refine hs xs[i] (List.getElem_mem hlt) (L2.wipe σ vs) G2 H2 x (c2.wipe vs) r2 _ fun ρ3 μ3 σ3 G3 H3 q3 c3 f3 w3 => ?_
    obtain ⟨p3, pg3, pm3⟩ := f3.fr p _ p2 pg2 pm2
    refine ⟨by rw [w3 vs hjs, wipe_wipe], ?_⟩
    unfold tYes
    dsimp only
    rw [if_pos rfl]
    refine q3 σ3 G3 H3 c3 _ fun d μ5 v G5 H5 q5 r5 c5 f5 => ?_
    obtain ⟨rfl, rfl⟩ := q5
    obtain ⟨p5, pg5, pm5⟩ := f5.fr p _ p3 pg3 pm3
    have gr5 : Grow G' G5 := (f2.gg.trans f3.gg).trans f5.gg
    have fr5 : Fr G μ H G5 μ5 H5 := ((fr'.trans f2).trans f3).trans f5
    have tk : (xs.take (i + 1)).map key = (xs.take i).map key ++ [key xs[i]] := by rw [List.take_add_one, List.getElem?_eq_getElem hlt, List.map_append]; rfl
    refine ⟨key xs[i], fun j => memK j (nubK ((xs.take i).map key)), (nubK ((xs.take i).map key)).length, r5.key, p5, hsz i, G5, (c'.back gr5 c5).chgU pg5 pm5 n1 _, ⟨fr5.gg, fun b o e1 e2 e3 => ?_, fun b e1 => fr5.dm b (upd_dm b e1)⟩, g'.trans gr5, ?_, pg5, pm5⟩
    · obtain ⟨k1, k2, k3⟩ := fr5.fr b o e1 e2 e3
      refine ⟨?_, k2, k3⟩
      have hb : b ≠ p := fun z => by
        subst z
        rw [f1.dm b hp] at e1; cases e1
      rw [upd_ne hb]; exact k1
    · rw [upd_same, tk, next]
  · have e2 : i = xs.length := by omega
    subst e2
    rw [List.take_length] at hp'
    have hz := hsz xs.length
    rw [List.take_length] at hz
    refine .inl ⟨by rw [← el]; exact ok.stop ρ μ1 σ G' H' g' s1 c', ?_⟩
    exact ⟨p, _, _, rfl, hp', Nat.lt_of_succ_lt hz, q _ μ1 _ G' H' hd rfl c' fr'⟩
end
end DL
set_option Elab.async false
set_option linter.all false
set_option maxRecDepth 100000
/-! encodings of plain Lean values as data: equality -/
namespace DL
open PySem PySem.Spec L2
structure Cd {α : Type} (P : α → Prop) (n : Nat) (enc : α → D) : Prop where
  eq : ∀ a b, eqD (enc a) (enc b) = true ↔ a = b
  pl : ∀ a, plain (enc a) = true
  cl : ∀ a, P a → (toPy (enc a)).canLay0 = true
  dp : ∀ a, (toPy (enc a)).depth ≤ n
def okStr (x : Str) : Prop := PyData.strOk x = true
theorem cdInt : Cd (fun _ => True) 0 D.int := ⟨fun a b => by simp [eqD, toPy, PyData.eqv], fun a => rfl, fun a _ => rfl, fun a => Nat.le_refl _⟩
theorem cdNat : Cd (fun _ => True) 0 (fun (n : Nat) => D.int (n : Int)) := ⟨fun a b => by simp only [eqD, toPy, PyData.eqv, beq_iff_eq]; omega, fun a => rfl, fun a _ => rfl, fun a => Nat.le_refl _⟩
theorem cdBl : Cd (fun _ => True) 0 D.bl := ⟨fun a b => by simp [eqD, toPy, PyData.eqv], fun a => rfl, fun a _ => rfl, fun a => Nat.le_refl _⟩
theorem cdStr : Cd okStr 0 D.str := ⟨fun a b => by simp [eqD, toPy, PyData.eqv], fun a => rfl, fun a h => h, fun a => Nat.le_refl _⟩
section
variable {α β : Type} {P : α → Prop} {R : β → Prop} {n m : Nat} {enc : α → D} {enc' : β → D}
theorem Cd.up (c : Cd P n enc) (h : n ≤ m) : Cd P m enc := ⟨c.eq, c.pl, c.cl, fun a => Nat.le_trans (c.dp a) h⟩
theorem Cd.eqAll (c : Cd P n enc) : ∀ xs ys : List α, PyData.eqvAll (toPyL (xs.map enc)) (toPyL (ys.map enc)) = true ↔ xs = ys
  | [], [] => by simp [toPyL, PyData.eqvAll]
  | [], y :: ys => by simp [toPyL, PyData.eqvAll]
  | x :: xs, [] => by simp [toPyL, PyData.eqvAll]
  | x :: xs, y :: ys => by
    have e := c.eq x y
    unfold eqD at e
    simp only [List.map_cons, toPyL, PyData.eqvAll, Bool.and_eq_true, e, c.eqAll xs ys, List.cons.injEq]
theorem Cd.plAll (c : Cd P n enc) : ∀ xs : List α, plainL (xs.map enc) = true
  | [] => rfl
  | x :: xs => by simp only [List.map_cons, plainL, c.pl x, c.plAll xs, Bool.and_self]
theorem Cd.clAll (c : Cd P n enc) : ∀ xs : List α, (∀ x ∈ xs, P x) → PyData.canLayAll0 (toPyL (xs.map enc)) = true
  | [], _ => rfl
  | x :: xs, h => by simp only [List.map_cons, toPyL, PyData.canLayAll0, c.cl x (h x List.mem_cons_self), c.clAll xs fun y hy => h y (List.mem_cons_of_mem _ hy), Bool.and_self]
theorem Cd.dpAll (c : Cd P n enc) : ∀ xs : List α, PyData.depthAll (toPyL (xs.map enc)) ≤ n
  | [] => Nat.zero_le _
  | x :: xs => by
    simp only [List.map_cons, toPyL, PyData.depthAll]
    exact Nat.max_le.mpr ⟨c.dp x, c.dpAll xs⟩
theorem Cd.tup (c : Cd P n enc) : Cd (fun xs : List α => ∀ x ∈ xs, P x) (n + 1) (fun xs : List α => D.tup (xs.map enc)) :=
  ⟨fun a b => c.eqAll a b, fun a => c.plAll a, fun a h => c.clAll a h, fun a => Nat.succ_le_succ (c.dpAll a)⟩
theorem Cd.lst (c : Cd P n enc) : Cd (fun xs : List α => ∀ x ∈ xs, P x) (n + 1) (fun xs : List α => D.lst (xs.map enc)) :=
  ⟨fun a b => c.eqAll a b, fun a => c.plAll a, fun a h => c.clAll a h, fun a => Nat.succ_le_succ (c.dpAll a)⟩
theorem Cd.pair (c : Cd P n enc) (c' : Cd R n enc') : Cd (fun p => P p.1 ∧ R p.2) (n + 1) (fun p : α × β => D.tup [enc p.1, enc' p.2]) := by
  refine ⟨fun a b => ?_, fun a => ?_, fun a h => ?_, fun a => ?_⟩
  · have e1 := c.eq a.1 b.1
    have e2 := c'.eq a.2 b.2
    unfold eqD at e1 e2 ⊢
    simp only [toPy, toPyL, PyData.eqv, PyData.eqvAll, Bool.and_true, Bool.and_eq_true, e1, e2]
    exact ⟨fun h => Prod.ext h.1 h.2, fun h => by rw [h]; exact ⟨rfl, rfl⟩⟩
  · simp only [plain, plainL, c.pl, c'.pl, Bool.and_self]
  · simp only [toPy, toPyL, PyData.canLay0, PyData.canLayAll0, c.cl _ h.1, c'.cl _ h.2, Bool.and_self]
  · simp only [toPy, toPyL, PyData.depth, PyData.depthAll]
    have h1 := c.dp a.1
    have h2 := c'.dp a.2
    omega
theorem Cd.opt (c : Cd P n enc) (hne : ∀ a, eqD .non (enc a) = false ∧ eqD (enc a) .non = false) : Cd (fun o => ∀ a, o = some a → P a) n (fun o : Option α => o.elim D.non enc) := by
  refine ⟨fun a b => ?_, fun a => ?_, fun a h => ?_, fun a => ?_⟩
  · cases a with
    | none => cases b with
      | none => exact ⟨fun _ => rfl, fun _ => (by simp only [eqD, toPy, PyData.eqv] : eqD .non .non = true)⟩
      | some b => exact ⟨fun h => absurd ((hne b).1.symm.trans h) Bool.false_ne_true, fun h => by cases h⟩
    | some a => cases b with
      | none => exact ⟨fun h => absurd ((hne a).2.symm.trans h) Bool.false_ne_true, fun h => by cases h⟩
      | some b => exact (c.eq a b).trans ⟨fun h => by rw [h], fun h => Option.some.inj h⟩
  · cases a with
    | none => rfl
    | some a => exact c.pl a
  · cases a with
    | none => rfl
    | some a => exact c.cl a (h a rfl)
  · cases a with
    | none => exact Nat.zero_le _
    | some a => exact c.dp a
theorem Cd.shp (c : Cd P n enc) (hn : n ≤ 64) {a : α} (h : P a) : DL.shp (enc a) = true := by
  unfold DL.shp SeqAt.shaped
  rw [c.pl a, c.cl a h, decide_eq_true (Nat.le_trans (c.dp a) hn)]; rfl
theorem Cd.eqd (c : Cd P n enc) [DecidableEq α] (a b : α) : eqD (enc a) (enc b) = decide (a = b) := by
  rw [Bool.eq_iff_iff, c.eq, decide_eq_true_eq]
variable {μ : Store}
theorem dEq_c (c : Cd P n enc) (hn : n ≤ 64) [DecidableEq α] {a b : α} {Q : QD} (ha : P a) (hb : P b) (h : Q (.bl (decide (a = b))) μ) : dEq (enc a) (enc b) μ Q :=
  dEq_i (c.shp hn ha) (c.shp hn hb) (by rw [c.eqd]; exact h)
theorem dNe_c (c : Cd P n enc) (hn : n ≤ 64) [DecidableEq α] {a b : α} {Q : QD} (ha : P a) (hb : P b) (h : Q (.bl (!decide (a = b))) μ) : dNe (enc a) (enc b) μ Q :=
  dNe_i (c.shp hn ha) (c.shp hn hb) (by rw [c.eqd]; exact h)
end
section
variable {μ : Store}
theorem dEq_int {i j : Int} {Q : QD} (h : Q (.bl (decide (i = j))) μ) : dEq (.int i) (.int j) μ Q := dEq_c cdInt (by decide) trivial trivial h
theorem dNe_int {i j : Int} {Q : QD} (h : Q (.bl (!decide (i = j))) μ) : dNe (.int i) (.int j) μ Q := dNe_c cdInt (by decide) trivial trivial h
theorem dEq_str {i j : Str} {Q : QD} (hi : okStr i) (hj : okStr j) (h : Q (.bl (decide (i = j))) μ) : dEq (.str i) (.str j) μ Q := dEq_c cdStr (by decide) hi hj h
theorem dNe_str {i j : Str} {Q : QD} (hi : okStr i) (hj : okStr j) (h : Q (.bl (!decide (i = j))) μ) : dNe (.str i) (.str j) μ Q := dNe_c cdStr (by decide) hi hj h
end
section
variable {N : En} {ρ : Env} {μ : Store} {K : PySem.W.Frag}
def is2 (d : D) (k : D → D → Prop) : Prop := ∃ x y, d = .tup [x, y] ∧ k x y
theorem is2_i {x y : D} {k : D → D → Prop} (h : k x y) : is2 (.tup [x, y]) k := ⟨x, y, rfl, h⟩
def is3 (d : D) (k : D → D → D → Prop) : Prop := ∃ x y z, d = .tup [x, y, z] ∧ k x y z
theorem is3_i {x y z : D} {k : D → D → D → Prop} (h : k x y z) : is3 (.tup [x, y, z]) k := ⟨x, y, z, rfl, h⟩
theorem WS_asg2 {t : TE} {i j n : Nat} {E : EnD} (hn : n = 2) (h : WE N t ρ μ fun d μ' => is2 d fun x y => E.nx ((ρ.set i (some x)).set j (some y)) μ') : WS N (tAsg t (gTup K n (gCons (gName i) (gCons (gName j) gNil)))) ρ μ E := by
  subst hn
  refine WS_asg (js := [i] ++ ([j] ++ [])) (h.imp fun d μ' q => ?_)
  obtain ⟨x, y, rfl, q⟩ := q
  exact WG_tup rfl (WGs_cons (WG_name (WGs_cons (WG_name (WGs_nil q)))))
theorem WS_asg3 {t : TE} {i j k n : Nat} {E : EnD} (hn : n = 3) (h : WE N t ρ μ fun d μ' => is3 d fun x y z => E.nx (((ρ.set i (some x)).set j (some y)).set k (some z)) μ') : WS N (tAsg t (gTup K n (gCons (gName i) (gCons (gName j) (gCons (gName k) gNil))))) ρ μ E := by
  subst hn
  refine WS_asg (js := [i] ++ ([j] ++ ([k] ++ []))) (h.imp fun d μ' q => ?_)
  obtain ⟨x, y, z, rfl, q⟩ := q
  exact WG_tup rfl (WGs_cons (WG_name (WGs_cons (WG_name (WGs_cons (WG_name (WGs_nil q)))))))
/-- a cell that was not there at the start becomes data -/
theorem WE_thaw {t : TE} {Q : QD} (h : WE N t ρ μ fun d μ' => ∃ p ds, d = .ptr p ∧ N.μ p = none ∧ μ' p = some (.lst ds) ∧ Q (.lst ds) (delS μ' p)) : WE N t ρ μ Q := fun σ G H c Qv q => by
  refine h σ G H c Qv fun d μ' v G' H' a r c' f => ?_
  obtain ⟨p, ds, rfl, n, m, a⟩ := a
  have n' : N.H p = none := (c'.run.md p (by rw [m]; intro z; cases z)).resolve_left fun z => z n
  obtain ⟨xs, hp, rr⟩ := c'.wd.cell p _ m
  have g := c'.wd.out p _ m
  obtain ⟨c2, f2⟩ := c'.freeze m hp n'
  cases (show v = V.ref p from r)
  have gr : Grow G' (upd G' p (.lst xs)) := fun b u e => by rw [upd_ne (ne_of_none e g)]; exact e
  exact q (.lst ds) _ (.ref p) _ H' a ⟨p, xs, rfl, upd_same, rr.mono gr⟩ c2 (f.trans f2)
end
theorem small {n : Nat} (h : n ≤ 1000000) : n ≤ sizeLine := Nat.le_trans h (by decide)
theorem rangeD_nat (n : Nat) : rangeD 0 (n : Int).toNat = (List.range n).map fun (i : Nat) => D.int (i : Int) := by
  unfold rangeD
  rw [Int.toNat_natCast]
  congr 1
  funext i
  rw [Int.zero_add]
theorem rng_ok {n : Nat} (h : n ≤ 1000000000) : -(2 ^ 62) ≤ (n : Int) ∧ (n : Int) < 2 ^ 62 := by omega
/-- outside X the cells are as before -/
def Fm (X : List Addr) (μ μ' : Store) : Prop := ∀ a, a ∉ X → μ' a = μ a
theorem Fm.refl (X : List Addr) (μ : Store) : Fm X μ μ := fun _ _ => rfl
theorem Fm.trans {X : List Addr} {a b c : Store} (h : Fm X a b) (k : Fm X b c) : Fm X a c := fun x hx => (k x hx).trans (h x hx)
theorem Fm.upd {X : List Addr} {μ μ' : Store} {a : Addr} {c : Cell} (h : Fm X μ μ') (ha : a ∈ X) : Fm X μ (updS μ' a c) := fun x hx => by
  rw [updS_ne (fun e => hx (by rw [e]; exact ha))]; exact h x hx
theorem Fm.subS {X : List Addr} {μ0 μ μ' : Store} (f : Fm X μ μ') (h : SubS μ0 μ) (hn : ∀ a ∈ X, μ0 a = none) : SubS μ0 μ' := fun a c e => by
  rw [f a fun ha => by rw [hn a ha] at e; cases e]
  exact h a c e
theorem Fm.up {X Y : List Addr} {μ μ' : Store} (h : Fm X μ μ') (hs : ∀ a ∈ X, a ∈ Y) : Fm Y μ μ' := fun a ha => h a fun z => ha (hs a z)
section
variable {N : En} {ρ : DL.Env} {μ : Store}
/-- a list of new lists that stay cells -/
theorem WEn_mapC {wi : TI} {g : TG} {te : TE} {vs js : List Nat} {Q : List D → Store → Prop} {α : Type} (hjs : ∀ j ∈ js, j ∈ vs) (h : WI N wi ρ μ fun S ds μ1 => ∃ (xs : List α) (enc : α → D) (f : α → List D), ds = xs.map enc ∧ xs.length ≤ sizeLine ∧ (∀ μ', SubS μ1 μ' → S μ') ∧
      (∀ x ∈ xs, ∀ μ', SubS μ1 μ' → WG N g js (enc x) (wipeD ρ vs) μ' fun ρ2 μ2 => WEn N te ρ2 μ2 fun ds μ4 => ds = f x ∧ μ4 = μ') ∧
      (∀ (rows : List Addr) μ', rows.length = xs.length → rows.Nodup → (∀ r ∈ rows, μ1 r = none ∧ N.H r = none) → (∀ (i : Nat) (x : α), xs[i]? = some x → ∃ a, rows[i]? = some a ∧ μ' a = some (.lst (f x))) → Fm rows μ1 μ' → Q (rows.map .ptr) μ')) : WEn N (tLc wi g tYes te vs) ρ μ Q := by
  refine WEn_lc hjs fun σ G H c R k => h σ G H c R fun S ds μ1 J G' H' ⟨xs, enc, f, e, hl, hS, h1, h2⟩ s => k S ds μ1 J G' H' ⟨fun i acc μ' => i ≤ xs.length → ∃ rows : List Addr, acc = rows.map .ptr ∧ rows.length = i ∧ rows.Nodup ∧ (∀ r ∈ rows, μ1 r = none ∧ N.H r = none ∧ μ' r ≠ none) ∧ (∀ (j : Nat) (x : α), j < i → xs[j]? = some x → ∃ a, rows[j]? = some a ∧ μ' a = some (.lst (f x))) ∧ Fm rows μ1 μ',
    fun _ => ⟨[], rfl, rfl, List.nodup_nil, fun _ z => (nomatch z), fun j x z => absurd z (Nat.not_lt_zero _), Fm.refl _ _⟩, fun i acc μ' hi inv => ?_, fun i d acc μ' hd inv => ?_, fun acc μ' inv => ?_⟩ s
  · obtain ⟨rows, _, _, _, hn, _, fm⟩ := inv (by rw [e, List.length_map] at hi; exact hi)
    exact hS μ' (fm.subS (SubS.refl _) fun a ha => (hn a ha).1)
  · subst e
    rw [List.getElem?_map] at hd
    cases hx : xs[i]? with
    | none => rw [hx] at hd; cases hd
    | some x =>
      rw [hx] at hd
      have ed := Option.some.inj hd
      subst ed
      obtain ⟨hi, _⟩ := List.getElem?_eq_some_iff.mp hx
      obtain ⟨rows, rfl, hlen, nd, hn, hg, fm⟩ := inv (Nat.le_of_lt hi)
      have sub := fm.subS (SubS.refl _) fun a ha => (hn a ha).1
      refine (h1 x (List.mem_of_getElem? hx) μ' sub).imp fun ρ2 μ2 q => WT_yes ?_
      rw [if_pos rfl]
      refine WE_cell (q.imp fun ds μ4 e => ?_)
      obtain ⟨rfl, rfl⟩ := e
      intro p np mp
      have hp : p ∉ rows := fun z => (hn p z).2.2 mp
      refine ⟨by rw [List.length_map, hlen]; omega, fun _ => ⟨rows ++ [p], by rw [List.map_append]; rfl, by rw [List.length_append, hlen]; rfl, ?_, fun r hr => ?_, fun j y hj hy => ?_, fun a ha => ?_⟩⟩
      · rw [List.nodup_append]
        refine ⟨nd, by simp, fun a ha b hb z => ?_⟩
        rw [List.mem_singleton] at hb
        subst hb; subst z
        exact hp ha
      · rcases List.mem_append.mp hr with z | z
        · obtain ⟨k1, k2, k3⟩ := hn r z
          exact ⟨k1, k2, by rw [updS_ne fun y => hp (by rw [← y]; exact z)]; exact k3⟩
        · rw [List.mem_singleton] at z
          subst z
          exact ⟨by rw [← fm r hp]; exact mp, np, by rw [updS_same]; intro y; cases y⟩
      · by_cases z : j = i
        · subst z
          rw [hx] at hy
          cases hy
          exact ⟨p, by rw [List.getElem?_append_right (by omega), hlen, Nat.sub_self]; rfl, updS_same⟩
        · obtain ⟨a, k1, k2⟩ := hg j y (by omega) hy
          have ha := List.mem_of_getElem? k1
          exact ⟨a, by rw [List.getElem?_append_left (by omega)]; exact k1, by rw [updS_ne fun y => hp (by rw [← y]; exact ha)]; exact k2⟩
      · have z : a ≠ p := fun y => ha (by rw [y]; exact List.mem_append_right _ (List.mem_singleton.mpr rfl))
        rw [updS_ne z]
        exact fm a fun y => ha (List.mem_append_left _ y)
  · subst e
    obtain ⟨rows, rfl, hlen, nd, hn, hg, fm⟩ := inv (by rw [List.length_map]; exact Nat.le_refl _)
    rw [List.length_map] at hlen hg
    refine h2 rows μ' hlen nd (fun r hr => ⟨(hn r hr).1, (hn r hr).2.1⟩) (fun i x hx => hg i x ?_ hx) fm
    obtain ⟨hi, _⟩ := List.getElem?_eq_some_iff.mp hx
    exact hi
end
end DL
set_option Elab.async false
set_option linter.all false
set_option maxRecDepth 100000
namespace DL
open PySem PySem.Spec L2
/-- a list of ints that is only read (the script) -/
def sqi (K : PySem.W.Frag) (ns : List Int) : Hp → Addr → Prop := fun H a => SqL K H a (ns.map V.int)
section
variable {N : En} {ρ : DL.Env} {μ : Store} {K : PySem.W.Frag}
def dSlO (K : PySem.W.Frag) : D → Option Int → Option Int → Store → (List D → Store → Prop) → Prop := fun x lo hi μ Q => ∃ ns : List Int, x = .opq (sqi K ns) ∧ Q (cutD (ns.map D.int) lo hi) μ
theorem lSlO : LSn (rSlAny K) (dSlO K) := LSn.inl fun N ρ μ σ G H x dx lo hi Q c rx h Qv k => by
  obtain ⟨ns, rfl, q⟩ := h
  obtain ⟨a, rfl, ra⟩ := rx
  have hq : SqL K H a (ns.map V.int) := ra H c.wd.sub
  refine ⟨a, ns.map V.int, rfl, hq, fun p hp => ?_⟩
  obtain ⟨c2, f2⟩ := c.newU hp (.lst (cutV (ns.map V.int) lo hi))
  obtain ⟨g, m, n⟩ := c.fresh hp
  exact k _ μ p _ G _ q c2 upd_same g m n ((RepL.ints ns).cut lo hi) f2 hp
theorem WS_seqI {t u : TS} {E : EnD} (Inv : DL.Env → Store → Prop) (h : WS N t ρ μ { E with nx := Inv }) (h2 : ∀ ρ' μ', Inv ρ' μ' → WS N u ρ' μ' E) : WS N (tSeq t u) ρ μ E :=
  WS_seq (h.imp (fun r m a => h2 r m a) (fun _ _ a => a) (fun _ _ a => a) (fun _ _ a => a))
end
end DL
set_option Elab.async false
set_option linter.all false
set_option maxRecDepth 100000
set_option maxHeartbeats 1000000
/-! max, min of a tuple of ints -/
namespace DL
open PySem PySem.Spec L2
section
variable {prog : Program} {w : World} {A : Around} {E : Value → Shared → Prop} {s : Shared} {t : Addr}
theorem max_intTuple {xs : Array (Int × Tok)} {Q : Value → Shared → Prop} (hh : A.handled = none) (ht : s.heap.IsTuple t (intItems xs)) (hne : 0 < xs.size)
    (h : ∀ v h' tk, (intItems xs)[argBest (fun i j => decide (numAt xs i > numAt xs j)) (xs.size - 1)]? = some v → (∀ b o, s.heap.get? b = some o → h'.get? b = some o) → Q v { s with heap := h', toks := tk }) :
    wpAny (model prog w) A (call (.builtin "max") [.ref t]) Q E s := by
  obtain ⟨o, ho, hc, n, hd⟩ := id ht
  have hn : t ≠ s.heap.objs.size := Nat.ne_of_lt (Heap.lt_size ho)
  have hsz : (intItems xs).size = xs.size := by simp [intItems]
  have W := Walks.tuple (prog := prog) (w := w) (A := A.in1) hh s.heap.objs.size t hn (intItems xs)
  rw [hsz] at W
  refine call_max_walk (wpAny_pyIter_tuple ht ?_)
  refine ⟨s.heap.objs.size, _, _, _, _, _, _, rfl, W, ⟨⟨_, Heap.get?_push_size _ rfl, rfl, rfl⟩, ht.at fun o e => Heap.get?_push_of_some _ e⟩, fun b hb => ?_, hne, CmpOf.ints_gt (numAt xs) (fun _ _ => intItems_at), fun v h' tk hP hk => ?_⟩
  · rcases List.mem_cons.mp hb with rfl | hb
    · exact Heap.lt_size (Heap.get?_push_size _ rfl)
    · obtain rfl := List.mem_singleton.mp hb
      exact Heap.lt_size (Heap.get?_push_of_some _ ho)
  · exact h v h' tk hP fun b o e => hk b o (fun hb => absurd (Heap.lt_size e) ((List.mem_singleton.mp hb) ▸ Nat.lt_irrefl _)) (Heap.get?_push_of_some _ e)
theorem min_intTuple {xs : Array (Int × Tok)} {Q : Value → Shared → Prop} (hh : A.handled = none) (ht : s.heap.IsTuple t (intItems xs)) (hne : 0 < xs.size)
    (h : ∀ v h' tk, (intItems xs)[argBest (fun i j => decide (numAt xs i < numAt xs j)) (xs.size - 1)]? = some v → (∀ b o, s.heap.get? b = some o → h'.get? b = some o) → Q v { s with heap := h', toks := tk }) :
    wpAny (model prog w) A (call (.builtin "min") [.ref t]) Q E s := by
  obtain ⟨o, ho, hc, n, hd⟩ := id ht
  have hn : t ≠ s.heap.objs.size := Nat.ne_of_lt (Heap.lt_size ho)
  have hsz : (intItems xs).size = xs.size := by simp [intItems]
  have W := Walks.tuple (prog := prog) (w := w) (A := A.in1) hh s.heap.objs.size t hn (intItems xs)
  rw [hsz] at W
  refine call_min_walk (wpAny_pyIter_tuple ht ?_)
  refine ⟨s.heap.objs.size, _, _, _, _, _, _, rfl, W, ⟨⟨_, Heap.get?_push_size _ rfl, rfl, rfl⟩, ht.at fun o e => Heap.get?_push_of_some _ e⟩, fun b hb => ?_, hne, CmpOf.ints_lt (numAt xs) (fun _ _ => intItems_at), fun v h' tk hP hk => ?_⟩
  · rcases List.mem_cons.mp hb with rfl | hb
    · exact Heap.lt_size (Heap.get?_push_size _ rfl)
    · obtain rfl := List.mem_singleton.mp hb
      exact Heap.lt_size (Heap.get?_push_of_some _ ho)
  · exact h v h' tk hP fun b o e => hk b o (fun hb => absurd (Heap.lt_size e) ((List.mem_singleton.mp hb) ▸ Nat.lt_irrefl _)) (Heap.get?_push_of_some _ e)
end
section
variable {X : Cx}
def rMaxT : List V → Hp → VK → Prop := fun vs H Q => ∃ (a : Addr) (ns : List Int), vs = [V.ref a] ∧ H a = some (.tup (ns.map V.int)) ∧ 0 < ns.length ∧ ∀ m, m ∈ ns → (∀ y, y ∈ ns → y ≤ m) → Q (.int m) H
def rMinT : List V → Hp → VK → Prop := fun vs H Q => ∃ (a : Addr) (ns : List Int), vs = [V.ref a] ∧ H a = some (.tup (ns.map V.int)) ∧ 0 < ns.length ∧ ∀ m, m ∈ ns → (∀ y, y ∈ ns → m ≤ y) → Q (.int m) H
theorem cr_maxT (hc : X.calm = true) : CallR X (.builtin "max") rMaxT := by
  intro pins s σ H vs us Q I r h
  obtain ⟨a, ns, rfl, hs, h0, q⟩ := h
  obtain ⟨_, its, rv, hl⟩ := (show ObjOk X.prog X.w H s.heap a (.tup (ns.map V.int)) from I.hok a _ hs)
  rw [Vals.ref1 r]
  obtain ⟨xs, e⟩ := rv.ints.allInts.items
  have hn : PySem.numsOf (PySem.intItems xs).toList = ns := by rw [← e]; exact rv.ints.numsOf
  rw [PySem.nums_intItems] at hn
  subst hn
  have hsz : 0 < xs.size := by simpa using h0
  have ht : s.heap.IsTuple a (PySem.intItems xs) := by
    obtain ⟨o, h1, h2, n, h3⟩ := hl
    exact ⟨o, h1, h2, n, by rw [h3, ← e]⟩
  refine max_intTuple (I.ok.hd hc) ht hsz fun v h' tk hv hk => ?_
  obtain ⟨t, rfl⟩ := intItems_at hv
  obtain ⟨h1, h2⟩ := argBest_gt (numAt xs) (xs.size - 1)
  refine ⟨.int _, H, I.kept hk, ⟨_, rfl⟩, q _ ?_ fun a ha => ?_⟩
  · rw [numAt_eq]; exact PySem.getD_mem (by rw [List.length_map, Array.length_toList]; omega)
  · obtain ⟨j, hj, rfl⟩ := mem_getD ha
    rw [List.length_map, Array.length_toList] at hj
    rw [← numAt_eq]; exact h2 j (by omega)
theorem cr_minT (hc : X.calm = true) : CallR X (.builtin "min") rMinT := by
  intro pins s σ H vs us Q I r h
  obtain ⟨a, ns, rfl, hs, h0, q⟩ := h
  obtain ⟨_, its, rv, hl⟩ := (show ObjOk X.prog X.w H s.heap a (.tup (ns.map V.int)) from I.hok a _ hs)
  rw [Vals.ref1 r]
  obtain ⟨xs, e⟩ := rv.ints.allInts.items
  have hn : PySem.numsOf (PySem.intItems xs).toList = ns := by rw [← e]; exact rv.ints.numsOf
  rw [PySem.nums_intItems] at hn
  subst hn
  have hsz : 0 < xs.size := by simpa using h0
  have ht : s.heap.IsTuple a (PySem.intItems xs) := by
    obtain ⟨o, h1, h2, n, h3⟩ := hl
    exact ⟨o, h1, h2, n, by rw [h3, ← e]⟩
  refine min_intTuple (I.ok.hd hc) ht hsz fun v h' tk hv hk => ?_
  obtain ⟨t, rfl⟩ := intItems_at hv
  obtain ⟨h1, h2⟩ := argBest_lt (numAt xs) (xs.size - 1)
  refine ⟨.int _, H, I.kept hk, ⟨_, rfl⟩, q _ ?_ fun a ha => ?_⟩
  · rw [numAt_eq]; exact PySem.getD_mem (by rw [List.length_map, Array.length_toList]; omega)
  · obtain ⟨j, hj, rfl⟩ := mem_getD ha
    rw [List.length_map, Array.length_toList] at hj
    rw [← numAt_eq]; exact h2 j (by omega)
def rMaxAny (K : PySem.W.Frag) : List V → Hp → VK → Prop := fun xs H Q => rMax K xs H Q ∨ rMaxT xs H Q
def rMinAny (K : PySem.W.Frag) : List V → Hp → VK → Prop := fun xs H Q => rMin K xs H Q ∨ rMinT xs H Q
theorem kMaxA {K : PySem.W.Frag} (hK : X.K = K) (hc : X.calm = true) : CallR X (.builtin "max") (rMaxAny K) := by subst hK; exact CallR.or (cr_max hc) (cr_maxT hc)
theorem kMinA {K : PySem.W.Frag} (hK : X.K = K) (hc : X.calm = true) : CallR X (.builtin "min") (rMinAny K) := by subst hK; exact CallR.or (cr_min hc) (cr_minT hc)
end
section
variable {K : PySem.W.Frag}
def dMaxT : List D → Store → QD → Prop := fun xs μ Q => ∃ (ns : List Int), xs = [.tup (ns.map D.int)] ∧ 0 < ns.length ∧ ∀ m, m ∈ ns → (∀ y, y ∈ ns → y ≤ m) → Q (.int m) μ
def dMinT : List D → Store → QD → Prop := fun xs μ Q => ∃ (ns : List Int), xs = [.tup (ns.map D.int)] ∧ 0 < ns.length ∧ ∀ m, m ∈ ns → (∀ y, y ∈ ns → m ≤ y) → Q (.int m) μ
theorem lMaxT : LCr (rMaxAny K) dMaxT := LCr.inr fun N ρ μ σ G H xs ds Q c r h Qv k => by
  obtain ⟨ns, rfl, h0, q⟩ := h
  obtain ⟨v, rest, rfl, r, rfl⟩ := r
  obtain ⟨a, ys, rfl, ga, ra⟩ := c.tup r
  exact ⟨a, ns, rfl, by rw [← ra.map_int]; exact ga, h0, fun m h1 h2 => k _ μ _ G H (q m h1 h2) rfl c (Fr.refl _ _ _)⟩
theorem lMinT : LCr (rMinAny K) dMinT := LCr.inr fun N ρ μ σ G H xs ds Q c r h Qv k => by
  obtain ⟨ns, rfl, h0, q⟩ := h
  obtain ⟨v, rest, rfl, r, rfl⟩ := r
  obtain ⟨a, ys, rfl, ga, ra⟩ := c.tup r
  exact ⟨a, ns, rfl, by rw [← ra.map_int]; exact ga, h0, fun m h1 h2 => k _ μ _ G H (q m h1 h2) rfl c (Fr.refl _ _ _)⟩
theorem lMaxL : LCr (rMaxAny K) dMax := LCr.inl lMax
theorem lMinL : LCr (rMinAny K) dMin := LCr.inl lMin
end
section
variable {N : En} {ρ : DL.Env} {μ : Store}
theorem WE_neg {t : TE} {Q : QD} (h : WE N t ρ μ fun d μ1 => ∃ i, d = .int i ∧ Q (.int (-i)) μ1) : WE N (tUn (rU fun i => V.int (-i)) t) ρ μ Q := fun σ G H c Qv q => by
  refine h σ G H c _ fun d μ1 v G1 H1 a r c1 f1 => ?_
  obtain ⟨i, rfl, a⟩ := a
  exact ⟨i, r, q _ μ1 _ G1 H1 a rfl c1 f1⟩
end
end DL
set_option Elab.async false
set_option linter.all false
set_option maxRecDepth 100000
set_option maxHeartbeats 2000000
/-! a def that is entered where nothing is being shown (repr) -/
namespace DL
open PySem PySem.Spec PyProof.Rows L2
/-- as FnOk, where no guard of repr is set -/
structure FnG (P : Program) (w : World) (K : PySem.W.Frag) (mg : Str → Option Value) (base : Heap) (CX : CXT) (k : Nat) (f : Addr) (fd : FuncData) (ps : List Str) (sp : Sp) : Prop where
  run : ∀ (A : Around) (outer : List PySem.Env) (s : Shared) (H : Hp) (args : Args) (us : List Value) (vs : List V) (Q : VK) (E : XK), A.guards = some [] → Room k A → Env0 P w K mg base A outer s H → BindsTo s fd args (ps.zip us) → Vals vs us → sp vs H Q E →
    codeAny (model P w) A (.call (.ref f) args) (CR CX outer P w H s Q E) s
theorem FnOk.g {P : Program} {w : World} {K : PySem.W.Frag} {mg : Str → Option Value} {base : Heap} {CX : CXT} {k : Nat} {f : Addr} {fd : FuncData} {ps : List Str} {sp : Sp} (F : FnOk P w K mg base CX k f fd ps sp) : FnG P w K mg base CX k f fd ps sp :=
  ⟨fun A outer s H args us vs Q E _ hr => F.run A outer s H args us vs Q E hr⟩
theorem fnG {P : Program} {w : World} {K : PySem.W.Frag} {mg : Str → Option Value} {base : Heap} {CX : CXT} {x qual : Str} {params : Arguments} {body : List Stmt} {scope : Scope} {dvs : List V} {kws : List (Str × V)} {f : Addr} {fd : FuncData} {N ps : List Str} {k : Nat} {sp : Sp}
    (F : FunD K x qual params body scope dvs kws f fd) (S : FnScope N ps scope) (len : ∀ vs H Q E, sp vs H Q E → vs.length = ps.length)
    (hbody : ∀ (cdv : Value) (A : Around) (outer : List PySem.Env) (s : Shared) (H : Hp) (vs : List V) (Q : VK) (E : XK), (A.deeper (envOfC qual scope s.heap.objs.size f cdv)).guards = some [] → Room k (A.deeper (envOfC qual scope s.heap.objs.size f cdv)) → sp vs H Q E →
      ∃ t, PSs (cxOf CX P w K mg base N qual scope f cdv A outer s H E) body t ∧ t { nx := fun _ H' => Q .non H', rt := Q } (start N vs) H) : FnG P w K mg base CX (k + 1) f fd ps sp := by
  obtain ⟨oc, od, dV, kV, doc, pm, an, cdv, ct, osl, rfl, lk, hcd, _, _⟩ := F.ex
  refine ⟨fun A outer s H args us vs Q E hg hr e0 hb r hsp => ?_⟩
  have kin : K.In s.heap := e0.mod.kin.keeps fun b o e => (e0.bs b o e).1
  have lim : s.heap.NoLimit := e0.mod.nolimit.keeps fun b o e => (e0.bs b o e).1
  have kinds : ∀ y ∈ ps.zip us, scope.names.lookup y.1 = some .local ∨ (scope.names.lookup y.1 = some .cell ∧ ((cellsFrom (s.heap.objs.size + 1) scope.names []).lookup y.1).isSome = true) := fun ⟨n, v⟩ hy =>
    (S.par n (List.of_mem_zip hy).1).imp id fun q => ⟨q, PySem.W.cellsFrom_some _ _ _ (.inl q)⟩
  refine codeAny_call_function hr.depth (kin _ _ lk) rfl S.co S.gen rfl (PySem.W.codeRec_of kin hcd) (hb _ _ _ _ ?_)
  refine wpAny_newFunctionEnv_cells S.kind kinds fun env he s1 x => ?_
  subst he
  refine ⟨lim.keeps x.toInCall.keep, codeAny_func ?_⟩
  obtain ⟨t, ht, hq⟩ := hbody cdv A outer s H vs Q E (by first | exact hg | simpa [Around.deeper] using hg) (hr.deeper _) hsp
  have I : Inv (cxOf CX P w K mg base N qual scope f cdv A outer s H E) [] (start N vs) H s1 := inv_start S hr.hd e0 (len _ _ _ _ hsp) r x
  refine wpAny_mono (ht.run [] s1 (start N vs) H _ I hq) (fun fl s' hs => ?_) fun e s' hs => hs
  cases fl with
  | ret u =>
    obtain ⟨v, σ', H', J, rv, q⟩ := hs
    exact ⟨v, H', J.os, J.bare, J.base, J.hok, rv, q⟩
  | next =>
    obtain ⟨σ', H', J, q⟩ := hs
    exact ⟨V.non, H', J.os, J.bare, J.base, J.hok, rfl, q⟩
  | brk =>
    obtain ⟨_, _, _, q⟩ := hs
    exact False.elim q
  | cont =>
    obtain ⟨_, _, _, q⟩ := hs
    exact False.elim q
/-- the law's call from the claim's caller: F the law's promise there -/
theorem callG {P : Program} {w : World} {K : PySem.W.Frag} {mg mb : Str → Option Value} {k : Nat} {fa a : Addr} {fd : FuncData} {x : Str} {sp : Sp} {s₁ : Shared} {vs : List Value} {ns : List Int}
    (kin : K.In s₁.heap) (hns : s₁.heap.Ns mainGlobals mg) (hb : s₁.heap.Ns builtinsNs mb) (hbb : ∀ x : Str, x ≠ "__name__" → mb x = bootBuiltins x) (hlim : s₁.heap.NoLimit) (hg : s₁.gens = #[])
    (ha : s₁.heap.get? a = some { cls := .type "list", data := .seq vs.toArray }) (hi : IntsAre vs ns) (hl : ns.length ≤ sizeLine) (hr : Room k callerA)
    (F : ∀ base : Heap, K.In base → base.Ns mainGlobals mg → FnG P w K mg base CX0 k fa fd [x] sp) (hbind : ∀ (s : Shared) (u : Value), BindsTo s fd ⟨[u], []⟩ [(x, u)])
    (hsp : ∀ H : Hp, SqL K H a (ns.map V.int) → (∀ b, H b ≠ none → b = a) → sp [.ref a] H (fun v _ => v = .bl true) fun _ _ _ => False) :
    codeAny (model P w) callerA (.call (.ref fa) ⟨[.ref a], []⟩) (fun r s' => r = .ok (.ret (.bool true)) ∧ OldK s₁.heap s'.heap ∧ s'.os = s₁.os ∧ AllBare s'.gens) s₁ := by
  have rv := vals_ints hi
  have lenV := hi.length
  -- H tracks nothing, or the script as a thing known to the object
  have core : ∀ H : Hp, SqL K H a (ns.map V.int) → HOk P w H s₁.heap → (∀ b, H b ≠ none → b = a) → (H a ≠ none → K.lookup a = none) → (∀ b, H b = none ∨ ∃ o xs, H b = some (.frz o (.lst xs))) →
      codeAny (model P w) callerA (.call (.ref fa) ⟨[.ref a], []⟩) (fun r s' => r = .ok (.ret (.bool true)) ∧ OldK s₁.heap s'.heap ∧ s'.os = s₁.os ∧ AllBare s'.gens) s₁ := by
    intro H hS hok hA hK hO
    have free_of : ∀ {b : Addr} {o : Obj} {es : Array DictEntry} {ep : Nat}, s₁.heap.get? b = some o → o.data = .dict es ep → H b = none := fun {b o es ep} e d => by
      cases q : H b with
      | none => rfl
      | some u =>
        have e' : b = a := hA b (by rw [q]; simp)
        subst e'
        rw [ha] at e; cases e
        have d' : Data.seq vs.toArray _ = Data.dict es ep := d
        cases d'
    have ns_of : ∀ {b : Addr} {m : Str → Option Value}, s₁.heap.Ns b m → (hidT s₁.heap H).Ns b m := fun {b m} ⟨o, es, ep, e, d, r⟩ => ⟨o, es, ep, hidT_get e (free_of e d), d, r⟩
    have kin' : K.In (hidT s₁.heap H) := fun b o e => hidT_get (kin b o e) (by
      cases q : H b with
      | none => rfl
      | some u =>
        have e' : b = a := hA b (by rw [q]; simp)
        subst e'
        rw [hK (by rw [q]; simp)] at e; cases e)
    have hM : Mod K mg (hidT s₁.heap H) := ⟨kin', ns_of hns, ⟨mb, ns_of hb, hbb⟩, let ⟨mc, h1, h2⟩ := hlim; ⟨mc, ns_of h1, h2⟩⟩
    have e0 : Env0 P w K mg (hidT s₁.heap H) callerA [] s₁ H := ⟨rfl, hM, fun b o e => of_hidT e, Nat.le_of_eq (hidT_size _ _), trivial, fun b hb => absurd (show b ∈ ([] : List Addr) from hb) (by simp), hok, .of_eq hg⟩
    refine codeAny_mono ((F _ kin' (ns_of hns)).run callerA [] s₁ H ⟨[.ref a], []⟩ [.ref a] [.ref a] _ _ rfl hr e0 (hbind s₁ (.ref a)) (.cons rfl .nil) (hsp H hS hA)) fun r s' h => ?_
    cases r with
    | error e => exact (show False from h).elim
    | ok fl =>
      cases fl with
      | next => exact False.elim h
      | brk => exact False.elim h
      | cont => exact False.elim h
      | ret u =>
        obtain ⟨v, H', os, bare, un, hok', r', q⟩ := h
        have q' : v = .bl true := q
        subst q'
        obtain rfl : u = Value.bool true := r'
        refine ⟨rfl, OldK.of_keep fun b o e => ?_, os, bare⟩
        cases q : H b with
        | none => exact un.keep b o e q (by intro z; exact absurd (show b ∈ ([] : List Addr) from z) (by simp)) (by simp)
        | some u =>
          rcases hO b with z | ⟨ob, xs, z⟩
          · rw [q] at z; cases z
          · obtain ⟨e1, _⟩ := hok b _ z
            obtain ⟨e2, _⟩ := hok' b _ (un.frzs b ob _ z)
            rw [e] at e1; cases e1
            exact e2
  cases hk : K.lookup a with
  | some o =>
    have e := kin a o hk
    rw [ha] at e
    cases e
    exact core (fun _ => none) (.inr ⟨_, vs.toArray, _, hk, rfl, rfl, rfl, by rw [List.size_toArray, lenV]; exact hl, by simpa using rv⟩) (fun b u z => by have z' : (none : Option HO) = some u := z; cases z') (fun b z => absurd rfl z) (fun z => absurd rfl z) fun _ => .inl rfl
  | none =>
    refine core (fun b => if b = a then some (.frz { cls := .type "list", data := .seq vs.toArray } (.lst (ns.map V.int))) else none) (.inl (.inr ⟨{ cls := .type "list", data := .seq vs.toArray }, if_pos rfl⟩)) (fun b u z => ?_) (fun b z => ?_) (fun _ => hk) fun b => ?_
    · by_cases hb : b = a
      · have z' := (if_pos hb).symm.trans z
        cases z'
        subst hb
        exact ⟨ha, by rw [List.length_map]; exact hl, vs, _, rv, ha⟩
      · have z' := (if_neg hb).symm.trans z
        cases z'
    · by_cases hb : b = a
      · exact hb
      · exact absurd (if_neg hb) z
    · by_cases hb : b = a
      · exact .inr ⟨_, _, if_pos hb⟩
      · exact .inl (if_neg hb)
theorem walk_ofG {l : PySem.W.OpenLaw} {n k : Nat} {q : Program} {loose : List Str} {XP : (Str → Option Value) → Heap → Prop} {YP : World → Heap → Prop} {d : DefRec} {x : Str}
    (hn : l.most = some n) (hn2 : n ≤ sizeLine) (hdf : d.params.defaults = []) (hr : Room k callerA)
    (F : ∀ (w : World) (mg : Str → Option Value) (fa : Addr) (h : Heap), YP w h → h.Ns mainGlobals mg → mg d.name = some (.ref fa) →
      ∃ (K : PySem.W.Frag) (fd : FuncData) (sp : Sp), K.In h ∧ (∀ (s : Shared) (u : Value), BindsTo s fd ⟨[u], []⟩ [(x, u)]) ∧
        (∀ (H : Hp) (a : Addr) (ns : List Int), ns.length ≤ n → SqL K H a (ns.map V.int) → (∀ b, H b ≠ none → b = a) → sp [.ref a] H (fun v _ => v = .bl true) fun _ _ _ => False) ∧
        ∀ base : Heap, K.In base → base.Ns mainGlobals mg → FnG l.prog w K mg base CX0 k fa fd [x] sp) :
    PySem.W.WalkO q loose XP YP l.row.toRowW d [] (fun f vs => PySem.call f vs) := by
  refine Att.attach_call hn hdf fun w s₀ s₁ mg mb fa o pm cd doc a vs ns G Y ho hd hcd hmg hobj hints hlen hg => ?_
  obtain ⟨K, fd, sp, KX, hb, hsp, hF⟩ := F w mg fa _ Y G.T.g hmg
  exact callG KX G.T.g G.T.b G.T.builtins G.T.nolimit hg hobj hints (Nat.le_trans hlen hn2) hr hF hb fun H hS hA => hsp H a ns hlen hS hA
/-- the law's promise by data: R, what its body keeps -/
theorem fn_dataG {P : Program} {w : World} {K : PySem.W.Frag} {mg : Str → Option Value} {base : Heap} {x qual : Str} {params : Arguments} {body : List Stmt} {scope : Scope} {f : Addr} {fd : FuncData} {Nn ps : List Str} {k : Nat} {F : FS}
    (Fd : FunD K x qual params body scope [] [] f fd) (S : FnScope Nn ps scope) (hlen : ∀ ds μ R, F ds μ R → ds.length = ps.length)
    (hb : ∀ (cdv : Value) (A : Around) (outer : List PySem.Env) (s : Shared) (H : Hp) (E : XK), (A.deeper (PyProof.Rows.envOfC qual scope s.heap.objs.size f cdv)).guards = some [] → Room k (A.deeper (PyProof.Rows.envOfC qual scope s.heap.objs.size f cdv)) →
      ∃ t, PSs (cxOf CX0 P w K mg base Nn qual scope f cdv A outer s H E).nox body t ∧ ∀ (N : En) (ds : List D) (R : QD), F ds N.μ R → WS N t (startD Nn.length ds) N.μ (retE N.μ R)) : FnG P w K mg base CX0 (k + 1) f fd ps (spOf F) := by
  refine fnG Fd S (fun vs H Q E h => ?_) fun cdv A outer s H vs Q E hg hr h => ?_
  · obtain ⟨G, μ, ds, R, wd, r, hF, _⟩ := h
    rw [r.length, hlen ds μ R hF]
  · obtain ⟨G, μ, ds, R, wd, r, hF, q⟩ := h
    obtain ⟨t, ht, hw⟩ := hb cdv A outer s H E hg hr
    refine ⟨t, ht.nox, ?_⟩
    have c : Cf ⟨G, μ, H⟩ (startD Nn.length ds) μ (L2.start Nn vs) G H := startD_cf (N := ⟨G, μ, H⟩) wd r
    refine hw ⟨G, μ, H⟩ ds R hF _ G H c _ ⟨fun ρ μ2 σ2 G2 H2 ⟨m, sm, a⟩ c2 g => ?_, fun d μ2 v ρ σ2 G2 H2 ⟨m, sm, a⟩ rv c2 g => ?_, fun ρ μ2 σ2 G2 H2 z => z.elim, fun ρ μ2 σ2 G2 H2 z => z.elim⟩
    · exact q .non m .non G2 H2 a (c2.less sm).wd (c2.less sm).run rfl
    · exact q d m v G2 H2 a (c2.less sm).wd (c2.less sm).run rv
theorem Room.units66 {k : Nat} {A : Around} (r : Room k A) : A.units + 66 < cLine := by have := r.un; omega
theorem SqL.more {K : PySem.W.Frag} {H H' : Hp} {a : Addr} {xs : List V} (h : SqL K H a xs) (g : ∀ b o, H b = some o → H' b = some o) : SqL K H' a xs := by
  rcases h with h | h
  · refine .inl ?_
    rcases h with h | ⟨o, h⟩
    · exact .inl (g _ _ h)
    · exact .inr ⟨o, g _ _ h⟩
  · exact .inr h
/-- what a law promises -/
def F_law (K : PySem.W.Frag) : FS := fun ds μ Q => ∃ ns : List Int, ds = [.opq (sqi K ns)] ∧ ∀ μ', Q (.bl true) μ'
theorem law_sp {K : PySem.W.Frag} {H : Hp} {a : Addr} {ns : List Int} (hS : SqL K H a (ns.map V.int)) : spOf (F_law K) [.ref a] H (fun v _ => v = .bl true) fun _ _ _ => False :=
  ⟨H, fun _ => none, [.opq (sqi K ns)], fun d _ => d = .bl true, ⟨fun _ _ h => h, fun _ _ h => (by cases h), fun _ _ h => (by cases h)⟩, ⟨.ref a, [], rfl, ⟨a, rfl, fun G' g => SqL.more hS g⟩, rfl⟩, ⟨ns, rfl, fun _ => rfl⟩, fun d μ' v G' H' e _ _ r => by
    subst e; exact r⟩
end DL
set_option Elab.async false
set_option linter.all false
set_option maxRecDepth 100000
/-! What the shuffles work with, in plain Lean, and its data. -/
namespace G
open PySem L2 DL
abbrev Item := Option Str
abbrev Row := List Item
abbrev Hol := List Row
def encI : Item → D
  | none => .non
  | some x => .str x
def encR (r : Row) : D := .tup (r.map encI)
def encH (h : Hol) : D := .tup (h.map encR)
/-- the letters of names -/
def letters : List Nat := ("abcdefghijklmnopqrstuvwxyz" : Str).cps.toList
def isNm (x : Str) : Prop := 1 ≤ x.length ∧ x.length ≤ 8 ∧ ∀ c ∈ x.cps.toList, c ∈ letters
def OkL (ns : List Nat) : Prop := 1 ≤ ns.length ∧ ns.length ≤ 6 ∧ (∀ n ∈ ns, 1 ≤ n ∧ n ≤ 8) ∧ ns.sum ≤ 12
def lens (h : Hol) : List Nat := h.map List.length
def items (h : Hol) : List Str := h.flatMap fun r => r.filterMap id
def namesOk (h : Hol) : Prop := (∀ x ∈ items h, isNm x) ∧ (items h).Nodup
structure Valid (b g : Hol) : Prop where
  lb : OkL (lens b)
  lg : lens g = lens b
  nb : namesOk b
  ng : namesOk g
  sub : ∀ x ∈ items g, x ∈ items b
theorem line_big : 1000000 ≤ sizeLine := by decide
theorem isNm.line {x : Str} (h : isNm x) : x.length ≤ sizeLine := Nat.le_trans h.2.1 (Nat.le_trans (by decide) line_big)
theorem OkL.size {h : Hol} (k : OkL (lens h)) : h.length ≤ 6 ∧ (∀ r ∈ h, 1 ≤ r.length ∧ r.length ≤ 8) ∧ h.flatten.length ≤ 12 := by
  obtain ⟨h1, h2, h3, h4⟩ := k
  unfold lens at *
  rw [List.length_map] at h2
  refine ⟨h2, fun r hr => h3 _ (List.mem_map.mpr ⟨r, hr, rfl⟩), ?_⟩
  rw [List.length_flatten]; exact h4
theorem items_len (h : Hol) : (items h).length ≤ h.flatten.length := by
  unfold items
  induction h with
  | nil => exact Nat.le_refl _
  | cons r h ih =>
    rw [List.flatMap_cons, List.length_append, List.flatten_cons, List.length_append]
    have := List.length_filterMap_le id r
    omega
end G
set_option Elab.async false
set_option linter.all false
set_option maxRecDepth 100000
/-! the seats: the cells of the object, and what its methods do, in plain Lean -/
namespace G
open PySem L2 DL
def okI (i : Item) : Prop := ∀ x, i = some x → okStr x
theorem cdI : Cd okI 0 encI := by
  have e : encI = fun o : Option Str => o.elim D.non D.str := by funext o; cases o <;> rfl
  rw [e]
  exact cdStr.opt fun a => by simp [eqD, toPy, PyData.eqv]
abbrev Seat := Nat × Nat
abbrev Car := Seat × Nat
abbrev encP (p : Seat) : D := .tup [.int (p.1 : Int), .int (p.2 : Int)]
abbrev encC (c : Car) : D := .tup [encP c.1, .int (c.2 : Int)]
abbrev encN (n : Nat) : D := .int (n : Int)
structure SA where
  s : Addr
  h : Addr
  m : Addr
  t : Addr
  rows : List Addr
def SA.all (A : SA) : List Addr := A.s :: A.h :: A.m :: A.t :: A.rows
structure SS where
  held : Hol
  moved : List Nat
  trail : List Car
structure SeatsAt (C : Addr) (A : SA) (S : SS) (μ : Store) : Prop where
  nd : A.all.Nodup
  s : μ A.s = some (.ins C [("held", .ptr A.h), ("moved", .ptr A.m), ("trail", .ptr A.t)])
  h : μ A.h = some (.lst (A.rows.map .ptr))
  m : μ A.m = some (.lst (S.moved.map encN))
  t : μ A.t = some (.lst (S.trail.map encC))
  len : A.rows.length = S.held.length
  r : ∀ (i : Nat) (r : Row), S.held[i]? = some r → ∃ a, A.rows[i]? = some a ∧ μ a = some (.lst (r.map encI))
section
variable {C : Addr} {A : SA} {S : SS} {μ : Store}
theorem SA.ne (h : A.all.Nodup) : A.s ≠ A.h ∧ A.s ≠ A.m ∧ A.s ≠ A.t ∧ A.h ≠ A.m ∧ A.h ≠ A.t ∧ A.m ≠ A.t ∧ (∀ a ∈ A.rows, a ≠ A.s ∧ a ≠ A.h ∧ a ≠ A.m ∧ a ≠ A.t) ∧ A.rows.Nodup := by
  unfold SA.all at h
  simp only [List.nodup_cons, List.mem_cons, not_or] at h
  obtain ⟨⟨a, b, c, d⟩, ⟨e, f, g⟩, ⟨i, j⟩, k, l⟩ := h
  exact ⟨a, b, c, e, f, i, fun x hx => ⟨fun z => d (z ▸ hx), fun z => g (z ▸ hx), fun z => j (z ▸ hx), fun z => k (z ▸ hx)⟩, l⟩
theorem SA.m_in : A.m ∈ A.all := by simp [SA.all]
theorem SA.t_in : A.t ∈ A.all := by simp [SA.all]
theorem SA.r_in {a : Addr} (h : a ∈ A.rows) : a ∈ A.all := by simp [SA.all, h]
theorem SeatsAt.setM (K : SeatsAt C A S μ) (mv : List Nat) : SeatsAt C A { S with moved := mv } (updS μ A.m (.lst (mv.map encN))) := by
  obtain ⟨n1, n2, n3, n4, n5, n6, n7, n8⟩ := SA.ne K.nd
  refine ⟨K.nd, by rw [updS_ne n2]; exact K.s, by rw [updS_ne n4]; exact K.h, updS_same, by rw [updS_ne n6.symm]; exact K.t, K.len, fun i r h => ?_⟩
  obtain ⟨a, h1, h2⟩ := K.r i r h
  exact ⟨a, h1, by rw [updS_ne (n7 a (List.mem_of_getElem? h1)).2.2.1]; exact h2⟩
theorem SeatsAt.setT (K : SeatsAt C A S μ) (tr : List Car) : SeatsAt C A { S with trail := tr } (updS μ A.t (.lst (tr.map encC))) := by
  obtain ⟨n1, n2, n3, n4, n5, n6, n7, n8⟩ := SA.ne K.nd
  refine ⟨K.nd, by rw [updS_ne n3]; exact K.s, by rw [updS_ne n5]; exact K.h, by rw [updS_ne n6]; exact K.m, updS_same, K.len, fun i r h => ?_⟩
  obtain ⟨a, h1, h2⟩ := K.r i r h
  exact ⟨a, h1, by rw [updS_ne (n7 a (List.mem_of_getElem? h1)).2.2.2]; exact h2⟩
theorem SeatsAt.setR (K : SeatsAt C A S μ) {i : Nat} {a : Addr} (ha : A.rows[i]? = some a) (r : Row) : SeatsAt C A { S with held := S.held.set i r } (updS μ a (.lst (r.map encI))) := by
  obtain ⟨n1, n2, n3, n4, n5, n6, n7, n8⟩ := SA.ne K.nd
  have hm := n7 a (List.mem_of_getElem? ha)
  refine ⟨K.nd, by rw [updS_ne hm.1.symm]; exact K.s, by rw [updS_ne hm.2.1.symm]; exact K.h, by rw [updS_ne hm.2.2.1.symm]; exact K.m, by rw [updS_ne hm.2.2.2.symm]; exact K.t, by rw [List.length_set]; exact K.len, fun j q h => ?_⟩
  rw [List.getElem?_set] at h
  split at h
  · rename_i e
    subst e
    split at h
    · cases h; exact ⟨a, ha, updS_same⟩
    · cases h
  · rename_i e
    obtain ⟨b, h1, h2⟩ := K.r j q h
    refine ⟨b, h1, ?_⟩
    rw [updS_ne]; · exact h2
    intro z
    subst z
    obtain ⟨hi, e1⟩ := List.getElem?_eq_some_iff.mp ha
    obtain ⟨hj, e2⟩ := List.getElem?_eq_some_iff.mp h1
    exact e ((List.getElem_inj (h₀ := hi) (h₁ := hj) n8).mp (e1.trans e2.symm))
theorem SeatsAt.rows_get (K : SeatsAt C A S μ) {i : Nat} {r : Row} (h : S.held[i]? = some r) : ∃ a, A.rows[i]? = some a ∧ a ∈ A.rows ∧ (A.rows.map D.ptr)[i]? = some (.ptr a) ∧ μ a = some (.lst (r.map encI)) := by
  obtain ⟨a, h1, h2⟩ := K.r i r h
  exact ⟨a, h1, List.mem_of_getElem? h1, by rw [List.getElem?_map, h1]; rfl, h2⟩
end
section
variable {C : Addr} {A : SA} {S : SS} {μ : Store} {N : En} {ρ : DL.Env} {K : PySem.W.Frag} {i : Nat} {Q : QD}
theorem Wheld (cl : Cls K C) (na : NoAttr K C "held") (hi : ρ[i]? = some (some (.ptr A.s))) (hS : SeatsAt C A S μ) (h : Q (.ptr A.h) μ) : WE N (tFld K (tVar i) "held") ρ μ Q := WE_fld cl na (WE_var hi ⟨_, _, _, rfl, hS.s, rfl, h⟩)
theorem Wmoved (cl : Cls K C) (na : NoAttr K C "moved") (hi : ρ[i]? = some (some (.ptr A.s))) (hS : SeatsAt C A S μ) (h : Q (.ptr A.m) μ) : WE N (tFld K (tVar i) "moved") ρ μ Q := WE_fld cl na (WE_var hi ⟨_, _, _, rfl, hS.s, rfl, h⟩)
theorem Wtrail (cl : Cls K C) (na : NoAttr K C "trail") (hi : ρ[i]? = some (some (.ptr A.s))) (hS : SeatsAt C A S μ) (h : Q (.ptr A.t) μ) : WE N (tFld K (tVar i) "trail") ρ μ Q := WE_fld cl na (WE_var hi ⟨_, _, _, rfl, hS.s, rfl, h⟩)
theorem SeatsAt.ix_h (hS : SeatsAt C A S μ) {b : Nat} {r : Row} (hr : S.held[b]? = some r) (h : ∀ a, A.rows[b]? = some a → a ∈ A.rows → μ a = some (.lst (r.map encI)) → Q (.ptr a) μ) : dIx (.ptr A.h) (.int (b : Int)) μ Q := by
  obtain ⟨a, h1, h2, h3, h4⟩ := hS.rows_get hr
  exact dIx_p hS.h rfl h3 (h a h1 h2 h4)
theorem SeatsAt.ix_m (hS : SeatsAt C A S μ) {b k : Nat} (hr : S.moved[b]? = some k) (h : Q (.int (k : Int)) μ) : dIx (.ptr A.m) (.int (b : Int)) μ Q :=
  dIx_p hS.m rfl (by rw [List.getElem?_map, hr]; rfl) h
theorem dLen_row {a : Addr} {r : Row} (h : μ a = some (.lst (r.map encI))) (q : Q (.int (r.length : Int)) μ) : dLenA [.ptr a] μ Q := dLenA_i (seqOf_list (listOf_ptr h)) (by rw [List.length_map]; exact q)
end
/-! ### in plain Lean -/
def itemAt (g : Hol) (p : Seat) : Item := (g.getD p.1 []).getD p.2 none
def seatsOf (g : Hol) : List Seat := (List.range g.length).flatMap fun b => (List.range (g.getD b []).length).map fun a => (b, a)
def isSeat (g : Hol) (p : Seat) : Prop := ∃ r, g[p.1]? = some r ∧ p.2 < r.length
theorem mem_seatsOf {g : Hol} {p : Seat} : p ∈ seatsOf g ↔ isSeat g p := by
  unfold seatsOf isSeat
  rw [List.mem_flatMap]
  constructor
  · rintro ⟨b, hb, h⟩
    obtain ⟨a, ha, rfl⟩ := List.mem_map.mp h
    rw [List.mem_range] at hb ha
    refine ⟨g[b], List.getElem?_eq_getElem hb, ?_⟩
    rw [List.getD_eq_getElem?_getD, List.getElem?_eq_getElem hb] at ha
    exact ha
  · rintro ⟨r, h1, h2⟩
    obtain ⟨hb, e⟩ := List.getElem?_eq_some_iff.mp h1
    refine ⟨p.1, List.mem_range.mpr hb, List.mem_map.mpr ⟨p.2, ?_, rfl⟩⟩
    rw [List.mem_range, List.getD_eq_getElem?_getD, h1]
    exact h2
theorem isSeat.item {g : Hol} {p : Seat} (h : isSeat g p) : ∃ r, g[p.1]? = some r ∧ r[p.2]? = some (itemAt g p) := by
  obtain ⟨r, h1, h2⟩ := h
  refine ⟨r, h1, ?_⟩
  unfold itemAt
  rw [List.getD_eq_getElem?_getD, List.getD_eq_getElem?_getD, h1]
  show r[p.2]? = some ((r[p.2]?).getD none)
  rw [List.getElem?_eq_getElem h2]; rfl
def SS.carry (S : SS) (room : Seat) (b : Nat) : SS := { S with moved := S.moved.set b (S.moved.getD b 0 + 1), trail := S.trail ++ [(room, b)] }
def SS.len (S : SS) (b : Nat) : Nat := (S.held.getD b []).length
def SS.room (S : SS) (p : Seat) : Seat := (p.1, (p.2 + S.moved.getD p.1 0) % S.len p.1)
def SS.turn (S : SS) (b : Nat) : SS := S.carry (b, S.len b - 1) b
def SS.holders (S : SS) (i : Item) : List Seat := (seatsOf S.held).filter fun p => decide (itemAt S.held p = i)
def SS.free (S : SS) (p : Seat) : Bool := decide (itemAt S.held p = none) || decide (1 < (S.holders (itemAt S.held p)).length)
def SS.put (S : SS) (p : Seat) (i : Item) : SS := { S with held := S.held.set p.1 ((S.held.getD p.1 []).set p.2 i) }
def SS.turns (S : SS) (b k : Nat) : SS := { S with moved := S.moved.set b (S.moved.getD b 0 + k), trail := S.trail ++ List.replicate k ((b, S.len b - 1), b) }
def SS.write (S : SS) (p q : Seat) : SS :=
  let S1 := S.turns p.1 (S.len p.1 - 1 - (S.room p).2)
  (S1.carry (S1.room q) p.1).put p (itemAt S.held q)
def SS.backN (S : SS) (b : Nat) : Nat := (S.len b - S.moved.getD b 0 % S.len b) % S.len b
def SS.backTo (S : SS) : Nat → SS
  | 0 => S
  | n + 1 => (S.backTo n).turns n ((S.backTo n).backN n)
structure SOk (S : SS) : Prop where
  mv : S.moved.length = S.held.length
  rl : ∀ r ∈ S.held, 0 < r.length ∧ r.length ≤ 1000 ∧ ∀ j ∈ r, okI j
  hl : S.held.length ≤ 6
  sl : (seatsOf S.held).length ≤ 1000
  tl : S.trail.length ≤ 10000
theorem set_getD (l : List Nat) (b : Nat) : l.set b (l.getD b 0) = l := by
  refine List.ext_getElem? fun i => ?_
  rw [List.getElem?_set]
  split
  · rename_i e
    subst e
    split
    · rename_i h
      rw [List.getD_eq_getElem?_getD, List.getElem?_eq_getElem h]; rfl
    · rename_i h
      rw [List.getElem?_eq_none (by omega)]
  · rfl
theorem SS.turns_zero (S : SS) (b : Nat) : S.turns b 0 = S := by
  unfold SS.turns
  rw [Nat.add_zero, set_getD, List.replicate_zero, List.append_nil]
theorem SS.turns_held (S : SS) (b k : Nat) : (S.turns b k).held = S.held := rfl
theorem SS.turns_len (S : SS) (b k c : Nat) : (S.turns b k).len c = S.len c := rfl
theorem SS.turns_mv (S : SS) {b : Nat} (k : Nat) (h : b < S.moved.length) : (S.turns b k).moved[b]? = some (S.moved.getD b 0 + k) := by
  show (S.moved.set b _)[b]? = _
  rw [List.getElem?_set_self h]
theorem SS.turns_mvD (S : SS) {b : Nat} (k : Nat) (h : b < S.moved.length) : (S.turns b k).moved.getD b 0 = S.moved.getD b 0 + k := by
  rw [List.getD_eq_getElem?_getD, SS.turns_mv S k h]; rfl
theorem SS.turns_turn (S : SS) {b k : Nat} (h : b < S.moved.length) : (S.turns b k).turn b = S.turns b (k + 1) := by
  unfold SS.turn SS.carry
  rw [SS.turns_mvD S k h, SS.turns_len]
  unfold SS.turns
  dsimp only
  rw [List.set_set, List.append_assoc, List.replicate_succ', Nat.add_assoc]
theorem SOk.turns {S : SS} (h : SOk S) {b k : Nat} (hk : S.trail.length + k ≤ 10000) : SOk (S.turns b k) :=
  ⟨by show (S.moved.set _ _).length = _; rw [List.length_set]; exact h.mv, h.rl, h.hl, h.sl, by show (S.trail ++ _).length ≤ _; rw [List.length_append, List.length_replicate]; exact hk⟩
theorem SOk.carry {S : SS} (h : SOk S) {p : Seat} {b : Nat} (hk : S.trail.length + 1 ≤ 10000) : SOk (S.carry p b) :=
  ⟨by show (S.moved.set _ _).length = _; rw [List.length_set]; exact h.mv, h.rl, h.hl, h.sl, by show (S.trail ++ _).length ≤ _; rw [List.length_append]; exact hk⟩
theorem SOk.lt {S : SS} (h : SOk S) {p : Seat} (hp : isSeat S.held p) : p.1 < S.moved.length := by
  obtain ⟨r, h1, _⟩ := hp
  obtain ⟨h2, _⟩ := List.getElem?_eq_some_iff.mp h1
  rw [h.mv]; exact h2
theorem len_row {S : SS} {b : Nat} {r : Row} (h : S.held[b]? = some r) : S.len b = r.length := by
  unfold SS.len; rw [List.getD_eq_getElem?_getD, h]; rfl
theorem isSeat.row {g : Hol} {p : Seat} (h : isSeat g p) : ∃ r, g[p.1]? = some r ∧ p.2 < r.length ∧ r[p.2]? = some (itemAt g p) ∧ (g.getD p.1 []).length = r.length := by
  obtain ⟨r, h1, h2⟩ := h.item
  obtain ⟨r', h3, h4⟩ := h
  rw [h1] at h3
  cases h3
  refine ⟨r, h1, h4, h2, ?_⟩
  rw [List.getD_eq_getElem?_getD, h1]; rfl
theorem turns_room {S : SS} {p : Seat} {j : Nat} (hb : p.1 < S.moved.length) (h0 : 0 < S.len p.1) (hj : j ≤ S.len p.1 - 1 - (S.room p).2) : ((S.turns p.1 j).room p).2 = (S.room p).2 + j := by
  unfold SS.room at hj ⊢
  dsimp only at hj ⊢
  rw [SS.turns_mvD S j hb, SS.turns_len, ← Nat.add_assoc, Nat.add_mod]
  have h1 := Nat.mod_lt (p.2 + S.moved.getD p.1 0) h0
  rw [Nat.mod_eq_of_lt (a := j) (by omega), Nat.mod_eq_of_lt (by omega)]
theorem SS.backTo_held (S : SS) : ∀ n, (S.backTo n).held = S.held
  | 0 => rfl
  | n + 1 => by
    show (S.backTo n).held = S.held
    exact SS.backTo_held S n
theorem SS.backN_lt (S : SS) (b : Nat) (h : 0 < S.len b) : S.backN b < S.len b := Nat.mod_lt _ h
theorem SOk.backTo {S : SS} (ok : SOk S) : ∀ n, n ≤ S.held.length → S.trail.length + 1000 * n ≤ 10000 → SOk (S.backTo n) ∧ (S.backTo n).trail.length ≤ S.trail.length + 1000 * n
  | 0, _, _ => ⟨ok, Nat.le_refl _⟩
  | n + 1, hn, hl => by
    obtain ⟨ok1, h1⟩ := SOk.backTo ok n (by omega) (by omega)
    have hr : (S.backTo n).held[n]? = some S.held[n] := by rw [S.backTo_held]; exact List.getElem?_eq_getElem hn
    have e := len_row hr
    obtain ⟨r0, r1, _⟩ := ok.rl _ (List.getElem_mem hn)
    have h2 := (S.backTo n).backN_lt n (by omega)
    refine ⟨ok1.turns (by omega), ?_⟩
    show ((S.backTo n).trail ++ _).length ≤ _
    rw [List.length_append, List.length_replicate]
    omega
theorem back_mod {m n j : Nat} (h : 0 < n) (hj : j ≤ (n - m % n) % n) : (m + j) % n = 0 ↔ j = (n - m % n) % n := by
  have h1 := Nat.mod_lt m h
  rw [Nat.add_mod]
  by_cases z : m % n = 0
  · rw [z, Nat.sub_zero, Nat.mod_self] at hj ⊢
    have : j = 0 := by omega
    subst this
    simp
  · have e : (n - m % n) % n = n - m % n := Nat.mod_eq_of_lt (by omega)
    rw [e] at hj ⊢
    rw [Nat.mod_eq_of_lt (a := j) (by omega)]
    constructor
    · intro q
      by_cases l : j = n - m % n
      · exact l
      · rw [Nat.mod_eq_of_lt (by omega)] at q; omega
    · intro q
      subst q
      have : m % n + (n - m % n) = n := by omega
      rw [this, Nat.mod_self]
def keep (ws : List Str) : Item → Item
  | none => none
  | some x => if x ∈ ws then some x else none
def seats0 (b : Hol) (ws : List Str) : SS := ⟨b.map fun r => r.map (keep ws), b.map fun _ => 0, []⟩
theorem seats_init {C s h m t : Addr} {rows : List Addr} {μ0 μ1 : Store} {b : Hol} {ws : List Str} (hs : μ0 s = some (.ins C [])) (hlen : rows.length = b.length) (nd : rows.Nodup) (hn : ∀ r ∈ rows, μ0 r = none)
    (hg : ∀ (i : Nat) (x : Row), b[i]? = some x → ∃ a, rows[i]? = some a ∧ μ1 a = some (.lst ((x.map (keep ws)).map encI))) (fm : Fm rows μ0 μ1) {c1 c2 : Cell} {μ2 μ3 μ4 : Store}
    (e2 : μ2 = updS (updS μ1 h (.lst (rows.map .ptr))) s c1) (e3 : μ3 = updS (updS μ2 m (.lst (b.map fun _ => .int 0))) s c2) (e4 : μ4 = updS (updS μ3 t (.lst [])) s (.ins C [("held", .ptr h), ("moved", .ptr m), ("trail", .ptr t)]))
    (nh : μ1 h = none) (nm : μ2 m = none) (nt : μ3 t = none) : SeatsAt C ⟨s, h, m, t, rows⟩ (seats0 b ws) μ4 ∧ (∀ a ∈ SA.all ⟨s, h, m, t, rows⟩, a ≠ s → μ0 a = none) ∧ Fm (SA.all ⟨s, h, m, t, rows⟩) μ0 μ4 := by
  have sr : s ∉ rows := fun z => by rw [hn s z] at hs; cases hs
  have s1 : μ1 s ≠ none := by rw [fm s sr, hs]; intro z; cases z
  have rs : ∀ a ∈ rows, μ1 a ≠ none := fun a ha => by
    obtain ⟨i, hi, e⟩ := List.getElem_of_mem ha
    have hb : i < b.length := by omega
    obtain ⟨a', k1, k2⟩ := hg i b[i] (List.getElem?_eq_getElem hb)
    rw [List.getElem?_eq_getElem hi, e] at k1
    cases k1
    rw [k2]; intro z; cases z
  have hsn : h ≠ s := fun z => s1 (by rw [← z]; exact nh)
  have hr : h ∉ rows := fun z => rs h z nh
  have m2s : m ≠ s := fun z => by rw [e2, z, updS_same] at nm; cases nm
  have m2h : m ≠ h := fun z => by rw [e2, z, updS_ne hsn, updS_same] at nm; cases nm
  have m1 : μ1 m = none := by rw [e2, updS_ne m2s, updS_ne m2h] at nm; exact nm
  have mr : m ∉ rows := fun z => rs m z m1
  have t3s : t ≠ s := fun z => by rw [e3, z, updS_same] at nt; cases nt
  have t3m : t ≠ m := fun z => by rw [e3, z, updS_ne m2s, updS_same] at nt; cases nt
  have t2 : μ2 t = none := by rw [e3, updS_ne t3s, updS_ne t3m] at nt; exact nt
  have t2h : t ≠ h := fun z => by rw [e2, z, updS_ne hsn, updS_same] at t2; cases t2
  have t1 : μ1 t = none := by rw [e2, updS_ne t3s, updS_ne t2h] at t2; exact t2
  have tr : t ∉ rows := fun z => rs t z t1
  have get : ∀ a, a ≠ s → a ≠ h → a ≠ m → a ≠ t → μ4 a = μ1 a := fun a h1 h2 h3 h4 => by
    rw [e4, updS_ne h1, updS_ne h4, e3, updS_ne h1, updS_ne h3, e2, updS_ne h1, updS_ne h2]
  refine ⟨⟨?_, ?_, ?_, ?_, ?_, ?_, fun i r hi => ?_⟩, fun a ha hne => ?_, fun a ha => ?_⟩
  · unfold SA.all
    simp only [List.nodup_cons, List.mem_cons, not_or]
    exact ⟨⟨hsn.symm, m2s.symm, t3s.symm, sr⟩, ⟨m2h.symm, t2h.symm, hr⟩, ⟨t3m.symm, mr⟩, tr, nd⟩
  · rw [e4, updS_same]
  · rw [e4, updS_ne hsn, updS_ne t2h.symm, e3, updS_ne hsn, updS_ne m2h.symm, e2, updS_ne hsn, updS_same]
  · rw [e4, updS_ne m2s, updS_ne t3m.symm, e3, updS_ne m2s, updS_same]
    show some (Cell.lst _) = some (Cell.lst ((b.map fun _ => 0).map encN))
    rw [List.map_map]; rfl
  · rw [e4, updS_ne t3s, updS_same]; rfl
  · show rows.length = (b.map _).length
    rw [List.length_map]; exact hlen
  · have hi' : (b.map fun r => r.map (keep ws))[i]? = some r := hi
    rw [List.getElem?_map] at hi'
    cases z : b[i]? with
    | none => rw [z] at hi'; cases hi'
    | some x =>
      rw [z] at hi'
      have ex := Option.some.inj hi'
      subst ex
      obtain ⟨a, k1, k2⟩ := hg i x z
      have ha := List.mem_of_getElem? k1
      refine ⟨a, k1, ?_⟩
      rw [get a (fun y => sr (y ▸ ha)) (fun y => hr (y ▸ ha)) (fun y => mr (y ▸ ha)) (fun y => tr (y ▸ ha))]
      exact k2
  · unfold SA.all at ha
    simp only [List.mem_cons] at ha
    rcases ha with z | z | z | z | z
    · exact absurd z hne
    · subst z; rw [← fm _ hr]; exact nh
    · subst z; rw [← fm _ mr]; exact m1
    · subst z; rw [← fm _ tr]; exact t1
    · exact hn a z
  · unfold SA.all at ha
    simp only [List.mem_cons, not_or] at ha
    rw [get a ha.1 ha.2.1 ha.2.2.1 ha.2.2.2.1]
    exact fm a ha.2.2.2.2
theorem any_str (ws : List Str) (x : Str) : ((ws.map D.str).any fun e => eqF e (.str x)) = decide (x ∈ ws) := by
  rw [Bool.eq_iff_iff, List.any_eq_true, decide_eq_true_eq]
  constructor
  · rintro ⟨d, hd, e⟩
    obtain ⟨y, hy, rfl⟩ := List.mem_map.mp hd
    have e2 : (y == x) = true := e
    rw [beq_iff_eq] at e2
    rw [← e2]; exact hy
  · intro h
    exact ⟨.str x, List.mem_map.mpr ⟨x, h, rfl⟩, (show (x == x) = true from beq_self_eq_true x)⟩
theorem any_str_non (ws : List Str) : ((ws.map D.str).any fun e => eqF e .non) = false := by
  rw [List.any_eq_false]
  intro d hd
  obtain ⟨y, _, rfl⟩ := List.mem_map.mp hd
  exact Bool.false_ne_true
theorem flat_strs (ws : List Str) : (ws.map D.str).all flat = true := by
  rw [List.all_eq_true]
  intro d hd
  obtain ⟨y, _, rfl⟩ := List.mem_map.mp hd
  rfl
end G
set_option Elab.async false
set_option linter.all false
set_option maxRecDepth 100000
/-! carries done by the law; that the seats tell where names are -/
namespace G
open PySem L2 DL
def putH (h : Hol) (b : Nat) (i : Item) : Hol := h.set b (i :: (h.getD b []).dropLast)
def doneC (h : Hol) (t : List Car) : Hol := t.foldl (fun h c => putH h c.2 (itemAt h c.1)) h
theorem doneC_snoc (h : Hol) (t : List Car) (c : Car) : doneC h (t ++ [c]) = putH (doneC h t) c.2 (itemAt (doneC h t) c.1) := by
  unfold doneC; rw [List.foldl_append]; rfl
theorem lens_getD (h : Hol) (b : Nat) : (lens h).getD b 0 = (h.getD b []).length := by
  unfold lens
  rw [List.getD_eq_getElem?_getD, List.getD_eq_getElem?_getD, List.getElem?_map]
  cases h[b]? <;> rfl
theorem lens_length (h : Hol) : (lens h).length = h.length := by unfold lens; rw [List.length_map]
theorem isSeat_iff {h : Hol} {p : Seat} : isSeat h p ↔ p.2 < (h.getD p.1 []).length := by
  unfold isSeat
  rw [List.getD_eq_getElem?_getD]
  cases e : h[p.1]? with
  | none => simp
  | some r => simp
theorem isSeat_lens {h g : Hol} (e : lens h = lens g) {p : Seat} : isSeat h p ↔ isSeat g p := by
  rw [isSeat_iff, isSeat_iff, ← lens_getD, ← lens_getD, e]
theorem seatsOf_lens {h g : Hol} (e : lens h = lens g) : seatsOf h = seatsOf g := by
  unfold seatsOf
  have hl : h.length = g.length := by rw [← lens_length, ← lens_length, e]
  rw [hl]
  congr 1
  funext b
  rw [← lens_getD, ← lens_getD, e]
theorem isSeat.pos {h : Hol} {p : Seat} (k : isSeat h p) : 0 < (h.getD p.1 []).length := by
  rw [isSeat_iff] at k; omega
theorem isSeat.lt {h : Hol} {p : Seat} (k : isSeat h p) : p.1 < h.length := by
  obtain ⟨r, h1, _⟩ := k
  exact (List.getElem?_eq_some_iff.mp h1).1
theorem getD_set {α : Type} (l : List α) (b c : Nat) (x d : α) : (l.set b x).getD c d = if b = c ∧ b < l.length then x else l.getD c d := by
  rw [List.getD_eq_getElem?_getD, List.getD_eq_getElem?_getD, List.getElem?_set]
  by_cases e : b = c
  · subst e
    by_cases h : b < l.length
    · rw [if_pos rfl, if_pos h, if_pos ⟨rfl, h⟩]; rfl
    · rw [if_pos rfl, if_neg h, if_neg fun z => h z.2, List.getElem?_eq_none (by omega)]
  · rw [if_neg e, if_neg fun z => e z.1]
theorem lens_putH {h : Hol} {b : Nat} {i : Item} (hb : 0 < (h.getD b []).length) : lens (putH h b i) = lens h := by
  refine List.ext_getElem? fun c => ?_
  unfold lens putH
  rw [List.getElem?_map, List.getElem?_map, List.getElem?_set]
  split
  · rename_i e
    subst e
    split
    · rename_i hl
      rw [List.getD_eq_getElem?_getD, List.getElem?_eq_getElem hl] at hb ⊢
      show some ((i :: h[b].dropLast).length) = some h[b].length
      rw [List.length_cons, List.length_dropLast]
      have hb' : 0 < h[b].length := hb
      congr 1; omega
    · rename_i hl
      rw [List.getElem?_eq_none (by omega)]
  · rfl
theorem itemAt_putH {h : Hol} {b : Nat} {i : Item} {p : Seat} (hp : isSeat h p) : itemAt (putH h b i) p = if p.1 = b then (if p.2 = 0 then i else itemAt h (b, p.2 - 1)) else itemAt h p := by
  have hl := hp.lt
  rw [isSeat_iff] at hp
  unfold itemAt putH
  rw [getD_set]
  by_cases e : p.1 = b
  · rw [if_pos e, if_pos ⟨e.symm, by omega⟩]
    cases hk : p.2 with
    | zero => rw [if_pos rfl]; rfl
    | succ k =>
      rw [if_neg (Nat.succ_ne_zero k)]
      rw [e] at hp
      show ((h.getD b []).dropLast).getD k none = (h.getD b []).getD (k + 1 - 1) none
      generalize h.getD b [] = row at hp ⊢
      rw [Nat.add_sub_cancel, List.getD_eq_getElem?_getD, List.getD_eq_getElem?_getD, List.getElem?_dropLast, if_pos (by omega)]
  · rw [if_neg e, if_neg fun z => e z.1.symm]
theorem mod_inj {a b m n : Nat} (ha : a < n) (hb : b < n) (e : (a + m) % n = (b + m) % n) : a = b := by
  have h1 := Nat.div_add_mod (a + m) n
  have h2 := Nat.div_add_mod (b + m) n
  rw [e] at h1
  generalize (b + m) % n = r at *
  generalize (a + m) / n = x at *
  generalize (b + m) / n = y at *
  rcases Nat.lt_trichotomy x y with z | z | z
  · have := Nat.mul_le_mul_left n (show x + 1 ≤ y from z)
    rw [Nat.mul_add] at this
    omega
  · subst z; omega
  · have := Nat.mul_le_mul_left n (show y + 1 ≤ x from z)
    rw [Nat.mul_add] at this
    omega
theorem mod_succ {a n : Nat} (h : 0 < n) : (a + 1) % n = if a % n = n - 1 then 0 else a % n + 1 := by
  have h1 := Nat.mod_lt a h
  rw [Nat.add_mod]
  split
  · rename_i e
    rw [e]
    by_cases n1 : n = 1
    · subst n1; rfl
    · rw [Nat.mod_eq_of_lt (a := 1) (by omega)]
      have : n - 1 + 1 = n := by omega
      rw [this, Nat.mod_self]
  · by_cases n1 : n = 1
    · subst n1; omega
    · rw [Nat.mod_eq_of_lt (a := 1) (by omega), Nat.mod_eq_of_lt (by omega)]
/-- b: where names were at first -/
structure Jm (b : Hol) (S : SS) : Prop where
  ln : lens S.held = lens b
  mv : S.moved.length = b.length
  dn : lens (doneC b S.trail) = lens b
section
variable {b : Hol} {S : SS} {p r : Seat} {c : Nat}
theorem SS.len_b (h : lens S.held = lens b) (c : Nat) : S.len c = (b.getD c []).length := by
  unfold SS.len; rw [← lens_getD, ← lens_getD, h]
theorem Jm.carry (J : Jm b S) (hc : 0 < (b.getD c []).length) : Jm b (S.carry r c) := by
  refine ⟨J.ln, by show (S.moved.set _ _).length = _; rw [List.length_set]; exact J.mv, ?_⟩
  show lens (doneC b (S.trail ++ [(r, c)])) = _
  rw [doneC_snoc, lens_putH]
  · exact J.dn
  · rw [← lens_getD, J.dn, lens_getD]; exact hc
theorem carry_mvD (S : SS) (r : Seat) (c d : Nat) (hc : c < S.moved.length) : (S.carry r c).moved.getD d 0 = if d = c then S.moved.getD c 0 + 1 else S.moved.getD d 0 := by
  show (S.moved.set c _).getD d 0 = _
  rw [getD_set]
  by_cases e : d = c
  · rw [if_pos ⟨e.symm, hc⟩, if_pos e]
  · rw [if_neg (fun z => e z.1.symm), if_neg e]
theorem room_seat (hp : isSeat S.held p) : isSeat S.held (S.room p) := by
  rw [isSeat_iff] at hp ⊢
  exact Nat.mod_lt _ (by show 0 < (S.held.getD p.1 []).length; omega)
/-- where a seat's room's thing is after a carry -/
theorem carry_at (J : Jm b S) (hp : isSeat S.held p) (hc : c < b.length) : itemAt (doneC b (S.carry r c).trail) ((S.carry r c).room p) = if p.1 = c ∧ (S.room p).2 = S.len c - 1 then itemAt (doneC b S.trail) r else itemAt (doneC b S.trail) (S.room p) := by
  have hcm : c < S.moved.length := by rw [J.mv]; exact hc
  have n0 : 0 < S.len p.1 := hp.pos
  have e1 : (S.carry r c).room p = (p.1, if p.1 = c then (if (S.room p).2 = S.len c - 1 then 0 else (S.room p).2 + 1) else (S.room p).2) := by
    unfold SS.room
    dsimp only
    rw [carry_mvD S r c p.1 hcm]
    show (p.1, (p.2 + _) % S.len p.1) = _
    by_cases e : p.1 = c
    · subst e
      rw [if_pos rfl, if_pos rfl, ← Nat.add_assoc, mod_succ n0]
    · rw [if_neg e, if_neg e]
  have hs : isSeat (doneC b S.trail) ((S.carry r c).room p) := by
    rw [isSeat_lens (J.dn.trans J.ln.symm)]
    exact room_seat (S := S.carry r c) hp
  show itemAt (doneC b (S.trail ++ [(r, c)])) _ = _
  rw [doneC_snoc, itemAt_putH hs, e1]
  dsimp only
  by_cases e : p.1 = c
  · rw [if_pos e, if_pos e]
    by_cases k : (S.room p).2 = S.len c - 1
    · rw [if_pos k, if_pos rfl, if_pos ⟨e, k⟩]
    · rw [if_neg k, if_neg (Nat.succ_ne_zero _), if_neg fun z => k z.2, Nat.add_sub_cancel]
      show itemAt _ (c, (S.room p).2) = itemAt _ (S.room p)
      have : S.room p = (c, (S.room p).2) := by rw [← e]; rfl
      rw [← this]
  · rw [if_neg e, if_neg e, if_neg fun z => e z.1]
    rfl
/-- where held tells a name, this name is in the seat's room -/
def Corr (b : Hol) (S : SS) : Prop := ∀ p x, isSeat S.held p → itemAt S.held p = some x → itemAt (doneC b S.trail) (S.room p) = some x
theorem Corr.turn (J : Jm b S) (C : Corr b S) (hc : c < b.length) : Corr b (S.turn c) := fun p x hp hx => by
  have hp' : isSeat S.held p := hp
  have hx' : itemAt S.held p = some x := hx
  unfold SS.turn
  rw [carry_at J hp' hc]
  split
  · rename_i e
    have : (c, S.len c - 1) = S.room p := by rw [← e.2, ← e.1]; rfl
    rw [this]
    exact C p x hp' hx'
  · exact C p x hp' hx'
theorem Corr.turns (J : Jm b S) (C : Corr b S) (hc : c < b.length) (h0 : 0 < (b.getD c []).length) : ∀ k, Jm b (S.turns c k) ∧ Corr b (S.turns c k)
  | 0 => by rw [SS.turns_zero]; exact ⟨J, C⟩
  | k + 1 => by
    obtain ⟨J1, C1⟩ := Corr.turns J C hc h0 k
    rw [← SS.turns_turn S (by rw [J.mv]; exact hc)]
    exact ⟨J1.carry h0, C1.turn J1 hc⟩
theorem itemAt_put (hp : isSeat S.held p) (i : Item) (q : Seat) : itemAt (S.put p i).held q = if q = p then i else itemAt S.held q := by
  have hl := hp.lt
  rw [isSeat_iff] at hp
  show itemAt (S.held.set p.1 ((S.held.getD p.1 []).set p.2 i)) q = _
  unfold itemAt
  rw [getD_set]
  by_cases e : p.1 = q.1
  · rw [if_pos ⟨e, hl⟩, getD_set, ← e]
    by_cases k : p.2 = q.2
    · rw [if_pos ⟨k, hp⟩, if_pos (Prod.ext e.symm k.symm)]
    · rw [if_neg fun z => k z.1, if_neg fun z => k (by rw [z])]
  · rw [if_neg fun z => e z.1, if_neg fun z => e (by rw [z])]
theorem lens_put (hp : isSeat S.held p) (i : Item) : lens (S.put p i).held = lens S.held := by
  show lens (S.held.set p.1 ((S.held.getD p.1 []).set p.2 i)) = _
  refine List.ext_getElem? fun c => ?_
  unfold lens
  rw [List.getElem?_map, List.getElem?_map, List.getElem?_set]
  split
  · rename_i e
    subst e
    rw [if_pos hp.lt, List.getD_eq_getElem?_getD, List.getElem?_eq_getElem hp.lt]
    show some (List.length (List.set _ _ _)) = some _
    rw [List.length_set]; rfl
  · rfl
theorem put_room (hp : isSeat S.held p) (i : Item) (q : Seat) : (S.put p i).room q = S.room q := by
  unfold SS.room
  have : (S.put p i).len q.1 = S.len q.1 := by
    unfold SS.len
    rw [← lens_getD, lens_put hp, lens_getD]
  rw [this]; rfl
theorem write_ok {q : Seat} (J : Jm b S) (C : Corr b S) (hp : isSeat S.held p) (hq : isSeat S.held q) : Jm b (S.write p q) ∧ Corr b (S.write p q) := by
  have hpb : isSeat b p := (isSeat_lens J.ln).mp hp
  have hc := hpb.lt
  have n0 : 0 < S.len p.1 := hp.pos
  obtain ⟨J1, C1⟩ := C.turns J hc hpb.pos (S.len p.1 - 1 - (S.room p).2)
  have hmv : p.1 < S.moved.length := by rw [J.mv]; exact hc
  have hr : ((S.turns p.1 (S.len p.1 - 1 - (S.room p).2)).room p).2 = S.len p.1 - 1 := by
    rw [turns_room hmv n0 (Nat.le_refl _)]
    have : (S.room p).2 < S.len p.1 := Nat.mod_lt _ n0
    omega
  unfold SS.write
  generalize hS1 : S.turns p.1 (S.len p.1 - 1 - (S.room p).2) = S1 at *
  have hheld : S1.held = S.held := by rw [← hS1]; rfl
  have hp1 : isSeat S1.held p := by rw [hheld]; exact hp
  have hq1 : isSeat S1.held q := by rw [hheld]; exact hq
  have hlen : S1.len p.1 = S.len p.1 := by unfold SS.len; rw [hheld]
  have J2 := J1.carry (r := S1.room q) hpb.pos
  have hp2 : isSeat (S1.carry (S1.room q) p.1).held p := hp1
  refine ⟨⟨(lens_put hp2 _).trans J2.ln, J2.mv, J2.dn⟩, fun p' x hp' hx => ?_⟩
  have hp'1 : isSeat S1.held p' := (isSeat_lens (lens_put hp2 _)).mp hp'
  rw [itemAt_put hp2] at hx
  rw [put_room hp2]
  show itemAt (doneC b (S1.carry (S1.room q) p.1).trail) _ = some x
  rw [carry_at J1 hp'1 hc]
  by_cases e : p' = p
  · subst e
    rw [if_pos rfl] at hx
    rw [if_pos ⟨rfl, by rw [hlen]; exact hr⟩]
    exact C1 q x hq1 (by rw [hheld]; exact hx)
  · rw [if_neg e] at hx
    rw [if_neg]
    · exact C1 p' x hp'1 hx
    · rintro ⟨k1, k2⟩
      rw [hlen, ← hr] at k2
      refine e (Prod.ext k1 ?_)
      unfold SS.room at k2
      dsimp only at k2
      rw [k1] at k2
      rw [isSeat_iff] at hp'1 hp1
      rw [k1] at hp'1
      exact mod_inj hp'1 hp1 k2
end
end G
set_option Elab.async false
set_option linter.all false
set_option maxRecDepth 100000
/-! the shuffle's loop in plain Lean -/
namespace G
open PySem L2 DL
theorem range_getD {α : Type} (l : List α) (d : α) : (List.range l.length).map (fun i => l.getD i d) = l := by
  refine List.ext_getElem? fun i => ?_
  rw [List.getElem?_map]
  by_cases h : i < l.length
  · rw [List.getElem?_range h, List.getElem?_eq_getElem h]
    show some (l.getD i d) = _
    rw [List.getD_eq_getElem?_getD, List.getElem?_eq_getElem h]; rfl
  · rw [List.getElem?_eq_none (by rw [List.length_range]; omega), List.getElem?_eq_none (by omega)]; rfl
theorem items_seats (g : Hol) : items g = (seatsOf g).filterMap (itemAt g) := by
  unfold items seatsOf
  rw [List.filterMap_flatMap]
  have e : g.flatMap (fun r => r.filterMap id) = ((List.range g.length).map fun b => g.getD b []).flatMap fun r => r.filterMap id := by rw [range_getD]
  rw [e, List.flatMap_map]
  congr 1
  funext b
  have e2 : (g.getD b []).filterMap id = ((List.range (g.getD b []).length).map fun a => (g.getD b []).getD a none).filterMap id := by rw [range_getD]
  rw [e2, List.filterMap_map, List.filterMap_map]
  rfl
theorem mem_items {g : Hol} {x : Str} : x ∈ items g ↔ ∃ p, isSeat g p ∧ itemAt g p = some x := by
  rw [items_seats, List.mem_filterMap]
  constructor
  · rintro ⟨p, h1, h2⟩; exact ⟨p, mem_seatsOf.mp h1, h2⟩
  · rintro ⟨p, h1, h2⟩; exact ⟨p, mem_seatsOf.mpr h1, h2⟩
theorem filterMap_inj {α β : Type} {f : α → Option β} {x : β} : ∀ {l : List α}, (l.filterMap f).Nodup → ∀ {p q : α}, p ∈ l → q ∈ l → f p = some x → f q = some x → p = q
  | [], _, p, q, hp, _, _, _ => nomatch hp
  | a :: l, nd, p, q, hp, hq, e1, e2 => by
    rw [List.filterMap_cons] at nd
    have nd' : (l.filterMap f).Nodup := by
      cases z : f a with
      | none => rw [z] at nd; exact nd
      | some y => rw [z] at nd; exact (List.nodup_cons.mp nd).2
    have no : ∀ r ∈ l, f a = some x → f r = some x → False := fun r hr z1 z2 => by
      rw [z1] at nd
      exact (List.nodup_cons.mp nd).1 (List.mem_filterMap.mpr ⟨r, hr, z2⟩)
    rcases List.mem_cons.mp hp with rfl | hp'
    · rcases List.mem_cons.mp hq with rfl | hq'
      · rfl
      · exact (no q hq' e1 e2).elim
    · rcases List.mem_cons.mp hq with rfl | hq'
      · exact (no p hp' e2 e1).elim
      · exact filterMap_inj nd' hp' hq' e1 e2
theorem seatsOf_nodup (g : Hol) : (seatsOf g).Nodup := by
  unfold seatsOf List.Nodup
  rw [List.pairwise_flatMap]
  refine ⟨fun b _ => ?_, ?_⟩
  · rw [List.pairwise_map]
    exact (List.nodup_range (n := (g.getD b []).length)).imp fun h e => h (Prod.mk.inj e).2
  · refine (List.nodup_range (n := g.length)).imp fun {x y} h => ?_
    intro p hp q hq e
    obtain ⟨a, _, rfl⟩ := List.mem_map.mp hp
    obtain ⟨c, _, rfl⟩ := List.mem_map.mp hq
    exact h (Prod.mk.inj e).1
theorem nodup_le {α : Type} [DecidableEq α] : ∀ {l m : List α}, l.Nodup → (∀ x ∈ l, x ∈ m) → l.length ≤ m.length
  | [], _, _, _ => Nat.zero_le _
  | a :: l, m, nd, h => by
    have hm := h a List.mem_cons_self
    obtain ⟨n1, n2⟩ := List.nodup_cons.mp nd
    have ih := nodup_le (l := l) (m := m.erase a) n2 fun x hx => (List.mem_erase_of_ne fun e => n1 (by rw [← e]; exact hx)).mpr (h x (List.mem_cons_of_mem _ hx))
    rw [List.length_erase_of_mem hm] at ih
    have : 0 < m.length := List.length_pos_of_mem hm
    rw [List.length_cons]; omega
theorem two_other {α : Type} [DecidableEq α] {l : List α} (nd : l.Nodup) (h : 1 < l.length) (p : α) : ∃ y ∈ l, y ≠ p := by
  match l, nd, h with
  | a :: b :: r, nd, _ =>
    have hab : a ≠ b := fun e => (List.nodup_cons.mp nd).1 (by rw [e]; exact List.mem_cons_self)
    by_cases e : a = p
    · exact ⟨b, by simp, fun z => hab (e.trans z.symm)⟩
    · exact ⟨a, by simp, e⟩
theorem one_only {α : Type} {l : List α} (h : l.length ≤ 1) {p q : α} (hp : p ∈ l) (hq : q ∈ l) : p = q := by
  match l, h with
  | [a], _ =>
    rw [List.mem_singleton] at hp hq
    rw [hp, hq]
theorem length_two {α : Type} {l : List α} {p q : α} (hp : p ∈ l) (hq : q ∈ l) (h : p ≠ q) : 1 < l.length := by
  match l, hp, hq with
  | [a], hp, hq =>
    rw [List.mem_singleton] at hp hq
    exact absurd (hp.trans hq.symm) h
  | a :: b :: r, _, _ => simp only [List.length_cons]; omega
def wr (g : Hol) (S : SS) (p : Seat) : Bool := !decide (itemAt g p = none) && !decide (itemAt S.held p = itemAt g p)
def wrong (g : Hol) (S : SS) : List Seat := (seatsOf S.held).filter (wr g S)
def spare (g : Hol) (S : SS) : List Seat := (seatsOf S.held).filter fun p => decide (itemAt g p = none)
def stepS (g : Hol) (S : SS) : SS :=
  match (wrong g S).filter S.free with
  | p :: _ => S.write p ((S.holders (itemAt g p)).headD (0, 0))
  | [] => S.write (((spare g S).filter S.free).headD (0, 0)) ((wrong g S).headD (0, 0))
def me (g : Hol) (S : SS) : Nat := 2 * (wrong g S).length + if ((wrong g S).filter S.free).isEmpty then 1 else 0
def fin (g : Hol) : Nat → SS → SS
  | 0, S => S
  | n + 1, S => if (wrong g S).isEmpty then S.backTo S.held.length else fin g n (stepS g S)
def carOk (b : Hol) (c : Car) : Prop := isSeat b c.1 ∧ c.2 < b.length
structure Iv (b g : Hol) (S : SS) : Prop where
  J : Jm b S
  C : Corr b S
  sub : ∀ p x, isSeat S.held p → itemAt S.held p = some x → x ∈ items g
  all : ∀ x ∈ items g, ∃ p, isSeat S.held p ∧ itemAt S.held p = some x
  rooms : ∀ c ∈ S.trail, carOk b c
structure Gd (b g : Hol) : Prop where
  lg : lens g = lens b
  nd : (items g).Nodup
  sp : ∃ p, isSeat g p ∧ itemAt g p = none
section
variable {b g : Hol} {S : SS} {p q : Seat}
theorem Iv.seat (I : Iv b g S) (k : Gd b g) {p : Seat} : isSeat S.held p ↔ isSeat g p := isSeat_lens (I.J.ln.trans k.lg.symm)
theorem mem_holders {i : Item} : p ∈ S.holders i ↔ isSeat S.held p ∧ itemAt S.held p = i := by
  unfold SS.holders
  rw [List.mem_filter, mem_seatsOf, decide_eq_true_eq]
theorem mem_wrong : p ∈ wrong g S ↔ isSeat S.held p ∧ itemAt g p ≠ none ∧ itemAt S.held p ≠ itemAt g p := by
  unfold wrong wr
  rw [List.mem_filter, mem_seatsOf, Bool.and_eq_true, Bool.not_eq_true', Bool.not_eq_true', decide_eq_false_iff_not, decide_eq_false_iff_not]
theorem mem_spare : p ∈ spare g S ↔ isSeat S.held p ∧ itemAt g p = none := by
  unfold spare
  rw [List.mem_filter, mem_seatsOf, decide_eq_true_eq]
theorem free_iff : S.free p = true ↔ itemAt S.held p = none ∨ 1 < (S.holders (itemAt S.held p)).length := by
  unfold SS.free
  rw [Bool.or_eq_true, decide_eq_true_eq, decide_eq_true_eq]
theorem write_held (hp : isSeat S.held p) (q r : Seat) : itemAt (S.write p q).held r = if r = p then itemAt S.held q else itemAt S.held r := by
  unfold SS.write
  exact itemAt_put (S := (S.turns p.1 (S.len p.1 - 1 - (S.room p).2)).carry ((S.turns p.1 (S.len p.1 - 1 - (S.room p).2)).room q) p.1) hp _ r
theorem write_lens (hp : isSeat S.held p) (q : Seat) : lens (S.write p q).held = lens S.held := by
  unfold SS.write
  exact lens_put (S := (S.turns p.1 (S.len p.1 - 1 - (S.room p).2)).carry ((S.turns p.1 (S.len p.1 - 1 - (S.room p).2)).room q) p.1) hp _
theorem write_trail (S : SS) (p q : Seat) : (S.write p q).trail = S.trail ++ (List.replicate (S.len p.1 - 1 - (S.room p).2) ((p.1, S.len p.1 - 1), p.1) ++ [((S.turns p.1 (S.len p.1 - 1 - (S.room p).2)).room q, p.1)]) := by
  rw [← List.append_assoc]; rfl
theorem Iv.write (I : Iv b g S) (hp : isSeat S.held p) (hq : isSeat S.held q) (hf : S.free p = true) : Iv b g (S.write p q) := by
  obtain ⟨J', C'⟩ := write_ok I.J I.C hp hq
  have hs : ∀ r, isSeat (S.write p q).held r ↔ isSeat S.held r := fun r => isSeat_lens (write_lens hp q)
  have hpb : isSeat b p := (isSeat_lens I.J.ln).mp hp
  refine ⟨J', C', fun r x hr hx => ?_, fun x hx => ?_, fun c hc => ?_⟩
  · rw [hs] at hr
    rw [write_held hp] at hx
    split at hx
    · exact I.sub q x hq hx
    · exact I.sub r x hr hx
  · obtain ⟨r, hr, e⟩ := I.all x hx
    by_cases z : r = p
    · subst z
      rw [free_iff, e] at hf
      rcases hf with z | z
      · cases z
      · have nd : (S.holders (some x)).Nodup := (seatsOf_nodup _).filter _
        obtain ⟨y, hy, hne⟩ := two_other nd z r
        rw [mem_holders] at hy
        exact ⟨y, (hs y).mpr hy.1, by rw [write_held hp, if_neg hne]; exact hy.2⟩
    · exact ⟨r, (hs r).mpr hr, by rw [write_held hp, if_neg z]; exact e⟩
  · rw [write_trail] at hc
    rcases List.mem_append.mp hc with z | z
    · exact I.rooms c z
    · rcases List.mem_append.mp z with z | z
      · rw [List.eq_of_mem_replicate z]
        refine ⟨?_, hpb.lt⟩
        rw [← isSeat_lens I.J.ln, isSeat_iff]
        show S.len p.1 - 1 < S.len p.1
        have : 0 < S.len p.1 := hp.pos
        omega
      · rw [List.mem_singleton] at z
        subst z
        exact ⟨(isSeat_lens I.J.ln).mp (room_seat (S := S.turns p.1 (S.len p.1 - 1 - (S.room p).2)) hq), hpb.lt⟩
/-- the first that is wrong and free -/
theorem Iv.stepA (I : Iv b g S) (k : Gd b g) {r : List Seat} (h : (wrong g S).filter S.free = p :: r) : ∃ q, (S.holders (itemAt g p)).head? = some q ∧ isSeat S.held p ∧ isSeat S.held q ∧ S.free p = true ∧ me g (S.write p q) < me g S := by
  have hm : p ∈ (wrong g S).filter S.free := by rw [h]; exact List.mem_cons_self
  obtain ⟨hw, hf⟩ := List.mem_filter.mp hm
  obtain ⟨hp, h1, h2⟩ := mem_wrong.mp hw
  obtain ⟨x, hx⟩ := Option.ne_none_iff_exists'.mp h1
  obtain ⟨q0, hq0, e0⟩ := I.all x (mem_items.mpr ⟨p, (I.seat k).mp hp, hx⟩)
  have hne : q0 ∈ S.holders (itemAt g p) := mem_holders.mpr ⟨hq0, e0.trans hx.symm⟩
  cases hh : S.holders (itemAt g p) with
  | nil => rw [hh] at hne; cases hne
  | cons q t =>
    have hq : q ∈ S.holders (itemAt g p) := by rw [hh]; exact List.mem_cons_self
    obtain ⟨hqs, hqe⟩ := mem_holders.mp hq
    refine ⟨q, rfl, hp, hqs, hf, ?_⟩
    have ew : wrong g (S.write p q) = (wrong g S).filter fun r => !decide (r = p) := by
      unfold wrong
      rw [seatsOf_lens (write_lens hp q), List.filter_filter]
      congr 1
      funext r
      unfold wr
      rw [write_held hp]
      by_cases e : r = p
      · subst e
        rw [if_pos rfl, hqe, decide_eq_true (rfl : itemAt g r = itemAt g r), decide_eq_true (rfl : r = r)]
        simp
      · rw [if_neg e, decide_eq_false e]
        simp
    have lt : (wrong g (S.write p q)).length < (wrong g S).length := by
      rw [ew, List.length_filter_lt_length_iff_exists]
      exact ⟨p, hw, by simp⟩
    unfold me
    rw [h]
    show 2 * _ + _ < 2 * _ + 0
    split <;> omega
/-- nothing wrong is free -/
theorem Iv.stepB (I : Iv b g S) (k : Gd b g) (h : (wrong g S).filter S.free = []) {q : Seat} {r : List Seat} (hw : wrong g S = q :: r) : ∃ p, ((spare g S).filter S.free).head? = some p ∧ isSeat S.held p ∧ isSeat S.held q ∧ S.free p = true ∧ me g (S.write p q) < me g S := by
  have hq : q ∈ wrong g S := by rw [hw]; exact List.mem_cons_self
  obtain ⟨hqs, hq1, hq2⟩ := mem_wrong.mp hq
  have nofree : ∀ p ∈ wrong g S, S.free p = false := fun p hp => by
    cases e : S.free p with
    | false => rfl
    | true =>
      have : p ∈ (wrong g S).filter S.free := List.mem_filter.mpr ⟨hp, e⟩
      rw [h] at this; cases this
  cases hs : (spare g S).filter S.free with
  | cons p t =>
    have hm : p ∈ (spare g S).filter S.free := by rw [hs]; exact List.mem_cons_self
    obtain ⟨hsp, hf⟩ := List.mem_filter.mp hm
    obtain ⟨hp, hp0⟩ := mem_spare.mp hsp
    refine ⟨p, rfl, hp, hqs, hf, ?_⟩
    have hne : q ≠ p := fun e => hq1 (e ▸ hp0)
    have ew : wrong g (S.write p q) = wrong g S := by
      unfold wrong
      rw [seatsOf_lens (write_lens hp q)]
      congr 1
      funext r
      unfold wr
      rw [write_held hp]
      by_cases e : r = p
      · subst e
        rw [hp0]; simp
      · rw [if_neg e]
    have fr : (S.write p q).free q = true := by
      rw [free_iff]
      refine .inr (length_two (p := q) (q := p) ?_ ?_ hne)
      · exact mem_holders.mpr ⟨(isSeat_lens (write_lens hp q)).mpr hqs, rfl⟩
      · refine mem_holders.mpr ⟨(isSeat_lens (write_lens hp q)).mpr hp, ?_⟩
        rw [write_held hp, write_held hp, if_pos rfl, if_neg hne]
    have ne : (wrong g (S.write p q)).filter (S.write p q).free ≠ [] := fun z => by
      have : q ∈ (wrong g (S.write p q)).filter (S.write p q).free := List.mem_filter.mpr ⟨by rw [ew]; exact hq, fr⟩
      rw [z] at this; cases this
    unfold me
    rw [h, ew]
    rw [ew] at ne
    cases z : (wrong g S).filter (S.write p q).free with
    | nil => exact absurd z ne
    | cons _ _ => show 2 * _ + 0 < 2 * _ + 1; omega
  | nil =>
    exfalso
    have nosp : ∀ p ∈ spare g S, S.free p = false := fun p hp => by
      cases e : S.free p with
      | false => rfl
      | true =>
        have : p ∈ (spare g S).filter S.free := List.mem_filter.mpr ⟨hp, e⟩
        rw [hs] at this; cases this
    -- each seat's name, and only there
    have right : ∀ p, isSeat S.held p → S.free p = false ∨ (itemAt g p ≠ none ∧ itemAt S.held p = itemAt g p) := fun p hp => by
      by_cases e : itemAt g p = none
      · exact .inl (nosp p (mem_spare.mpr ⟨hp, e⟩))
      · by_cases e2 : itemAt S.held p = itemAt g p
        · exact .inr ⟨e, e2⟩
        · exact .inl (nofree p (mem_wrong.mpr ⟨hp, e, e2⟩))
    have holds : ∀ p, isSeat S.held p → ∃ x, itemAt S.held p = some x := fun p hp => by
      rcases right p hp with e | ⟨e, e2⟩
      · cases z : itemAt S.held p with
        | some x => exact ⟨x, rfl⟩
        | none =>
          have : S.free p = true := free_iff.mpr (.inl z)
          rw [this] at e; cases e
      · obtain ⟨x, hx⟩ := Option.ne_none_iff_exists'.mp e
        exact ⟨x, e2.trans hx⟩
    have inj : ∀ p p' x, isSeat S.held p → isSeat S.held p' → itemAt S.held p = some x → itemAt S.held p' = some x → p = p' := fun p p' x hp hp' e e' => by
      have single : S.free p = false → p = p' := fun z => by
        have : ¬ (itemAt S.held p = none ∨ 1 < (S.holders (itemAt S.held p)).length) := fun y => by
          rw [← free_iff, z] at y; cases y
        refine one_only (l := S.holders (some x)) ?_ (mem_holders.mpr ⟨hp, e⟩) (mem_holders.mpr ⟨hp', e'⟩)
        rw [e] at this
        have := fun y => this (.inr y)
        omega
      have single' : S.free p' = false → p = p' := fun z => by
        have : ¬ (itemAt S.held p' = none ∨ 1 < (S.holders (itemAt S.held p')).length) := fun y => by
          rw [← free_iff, z] at y; cases y
        refine one_only (l := S.holders (some x)) ?_ (mem_holders.mpr ⟨hp, e⟩) (mem_holders.mpr ⟨hp', e'⟩)
        rw [e'] at this
        have := fun y => this (.inr y)
        omega
      rcases right p hp with z | ⟨_, z⟩
      · exact single z
      · rcases right p' hp' with z' | ⟨_, z'⟩
        · exact single' z'
        · have nd := k.nd
          rw [items_seats] at nd
          exact filterMap_inj nd (mem_seatsOf.mpr ((I.seat k).mp hp)) (mem_seatsOf.mpr ((I.seat k).mp hp')) (z.symm.trans e) (z'.symm.trans e')
    -- so there are as many names as seats
    have l1 : ((seatsOf S.held).filterMap (itemAt S.held)).length = (seatsOf S.held).length := by
      have go : ∀ l : List Seat, (∀ p ∈ l, isSeat S.held p) → (l.filterMap (itemAt S.held)).length = l.length := by
        intro l
        induction l with
        | nil => intro _; rfl
        | cons a l ih =>
          intro hl
          obtain ⟨x, hx⟩ := holds a (hl a List.mem_cons_self)
          rw [List.filterMap_cons, hx]
          show (List.filterMap _ l).length + 1 = _
          rw [ih fun p hp => hl p (List.mem_cons_of_mem _ hp), List.length_cons]
      exact go _ fun p hp => mem_seatsOf.mp hp
    have nd : ((seatsOf S.held).filterMap (itemAt S.held)).Nodup := by
      have go : ∀ l : List Seat, l.Nodup → (∀ p ∈ l, isSeat S.held p) → (l.filterMap (itemAt S.held)).Nodup := by
        intro l
        induction l with
        | nil => intro _ _; exact List.nodup_nil
        | cons a l ih =>
          intro hn hl
          obtain ⟨n1, n2⟩ := List.nodup_cons.mp hn
          obtain ⟨x, hx⟩ := holds a (hl a List.mem_cons_self)
          rw [List.filterMap_cons, hx]
          refine List.nodup_cons.mpr ⟨fun z => ?_, ih n2 fun p hp => hl p (List.mem_cons_of_mem _ hp)⟩
          obtain ⟨p, hp, e⟩ := List.mem_filterMap.mp z
          have := inj a p x (hl a List.mem_cons_self) (hl p (List.mem_cons_of_mem _ hp)) hx e
          exact n1 (this ▸ hp)
      exact go _ (seatsOf_nodup _) fun p hp => mem_seatsOf.mp hp
    have l2 := nodup_le (m := items g) nd fun x hx => by
      obtain ⟨p, hp, e⟩ := List.mem_filterMap.mp hx
      exact I.sub p x (mem_seatsOf.mp hp) e
    have l3 : (items g).length < (seatsOf S.held).length := by
      rw [items_seats, seatsOf_lens (I.J.ln.trans k.lg.symm)]
      obtain ⟨p, hp, hp0⟩ := k.sp
      have hpm := mem_seatsOf.mpr hp
      have go : ∀ l : List Seat, p ∈ l → (l.filterMap (itemAt g)).length < l.length := by
        intro l
        induction l with
        | nil => intro h; cases h
        | cons a l ih =>
          intro h
          rw [List.filterMap_cons, List.length_cons]
          rcases List.mem_cons.mp h with e | h'
          · subst e
            rw [hp0]
            exact Nat.lt_succ_of_le (List.length_filterMap_le _ _)
          · have := ih h'
            cases itemAt g a with
            | none => exact Nat.lt_succ_of_lt this
            | some x => exact Nat.succ_lt_succ this
      exact go _ hpm
    omega
end
end G
set_option Elab.async false
set_option linter.all false
set_option maxRecDepth 100000
namespace G
open PySem L2 DL
section
variable {b g : Hol} {S : SS} {p q : Seat}
theorem write_len_trail (hp : isSeat S.held p) : (S.write p q).trail.length ≤ S.trail.length + S.len p.1 := by
  rw [write_trail, List.length_append, List.length_append, List.length_replicate]
  have : 0 < S.len p.1 := hp.pos
  simp only [List.length_singleton]; omega
/-- a turn of the loop -/
theorem Iv.step (I : Iv b g S) (k : Gd b g) (h : wrong g S ≠ []) : ∃ p q, stepS g S = S.write p q ∧ isSeat S.held p ∧ isSeat S.held q ∧ S.free p = true ∧ me g (S.write p q) < me g S ∧
    (((wrong g S).filter S.free).head? = some p ∧ (S.holders (itemAt g p)).head? = some q ∨ (wrong g S).filter S.free = [] ∧ ((spare g S).filter S.free).head? = some p ∧ (wrong g S).head? = some q) := by
  unfold stepS
  cases hf : (wrong g S).filter S.free with
  | cons p r =>
    obtain ⟨q, h1, h2, h3, h4, h5⟩ := I.stepA k hf
    refine ⟨p, q, ?_, h2, h3, h4, h5, .inl ⟨rfl, h1⟩⟩
    show S.write p ((S.holders (itemAt g p)).headD (0, 0)) = _
    rw [List.headD_eq_head?_getD, h1]; rfl
  | nil =>
    cases hw : wrong g S with
    | nil => exact absurd hw h
    | cons q r =>
      obtain ⟨p, h1, h2, h3, h4, h5⟩ := I.stepB k hf hw
      refine ⟨p, q, ?_, h2, h3, h4, h5, .inr ⟨rfl, h1, rfl⟩⟩
      show S.write (((spare g S).filter S.free).headD (0, 0)) q = _
      rw [List.headD_eq_head?_getD, h1]; rfl
/-- the seats at first -/
theorem keep_itemAt (b : Hol) (ws : List Str) (p : Seat) : itemAt (b.map fun r => r.map (keep ws)) p = keep ws (itemAt b p) := by
  unfold itemAt
  rw [List.getD_eq_getElem?_getD, List.getD_eq_getElem?_getD, List.getD_eq_getElem?_getD, List.getD_eq_getElem?_getD, List.getElem?_map]
  cases b[p.1]? with
  | none => rfl
  | some r =>
    show ((r.map (keep ws))[p.2]?).getD none = keep ws ((r[p.2]?).getD none)
    rw [List.getElem?_map]
    cases r[p.2]? <;> rfl
theorem lens_keep (b : Hol) (ws : List Str) : lens (b.map fun r => r.map (keep ws)) = lens b := by
  unfold lens
  rw [List.map_map]
  congr 1
  funext r
  exact List.length_map _
theorem seats0_ok (v : ∀ x ∈ items g, x ∈ items b) : Iv b g (seats0 b (items g)) := by
  have hl := lens_keep b (items g)
  refine ⟨⟨hl, List.length_map _, rfl⟩, fun p x hp hx => ?_, fun p x hp hx => ?_, fun x hx => ?_, fun c hc => nomatch hc⟩
  · have hx' : keep (items g) (itemAt b p) = some x := by rw [← keep_itemAt]; exact hx
    have hr : (seats0 b (items g)).room p = p := by
      unfold SS.room
      have e : (seats0 b (items g)).moved.getD p.1 0 = 0 := by
        show (b.map fun _ => 0).getD p.1 0 = 0
        rw [List.getD_eq_getElem?_getD, List.getElem?_map]
        cases b[p.1]? <;> rfl
      rw [e, Nat.add_zero, Nat.mod_eq_of_lt (by rw [isSeat_iff] at hp; exact hp)]
    rw [hr]
    show itemAt b p = some x
    cases z : itemAt b p with
    | none => rw [z] at hx'; cases hx'
    | some y =>
      rw [z] at hx'
      unfold keep at hx'
      dsimp only at hx'
      split at hx'
      · exact hx'
      · cases hx'
  · have hx' : keep (items g) (itemAt b p) = some x := by rw [← keep_itemAt]; exact hx
    cases z : itemAt b p with
    | none => rw [z] at hx'; cases hx'
    | some y =>
      rw [z] at hx'
      unfold keep at hx'
      dsimp only at hx'
      split at hx'
      · cases hx'; assumption
      · cases hx'
  · obtain ⟨p, hp, e⟩ := mem_items.mp (v x hx)
    refine ⟨p, (isSeat_lens hl).mpr hp, ?_⟩
    show itemAt (b.map fun r => r.map (keep (items g))) p = some x
    rw [keep_itemAt, e]
    unfold keep
    dsimp only
    rw [if_pos hx]
/-- turned back -/
theorem turns_mvO (S : SS) (c k d : Nat) (h : d ≠ c) : (S.turns c k).moved.getD d 0 = S.moved.getD d 0 := by
  show (S.moved.set c _).getD d 0 = _
  rw [getD_set, if_neg fun z => h z.1.symm]
theorem backTo_ok (J : Jm b S) (C : Corr b S) (h0 : ∀ c, c < b.length → 0 < (b.getD c []).length) : ∀ n, n ≤ b.length → Jm b (S.backTo n) ∧ Corr b (S.backTo n) ∧ ∀ c, c < n → (S.backTo n).moved.getD c 0 % S.len c = 0
  | 0, _ => ⟨J, C, fun c h => absurd h (Nat.not_lt_zero c)⟩
  | n + 1, hn => by
    obtain ⟨J1, C1, h1⟩ := backTo_ok J C h0 n (by omega)
    obtain ⟨J2, C2⟩ := C1.turns J1 (c := n) (by omega) (h0 n (by omega)) ((S.backTo n).backN n)
    refine ⟨J2, C2, fun c hc => ?_⟩
    have hb : n < (S.backTo n).moved.length := by rw [J1.mv]; omega
    have el : ∀ c, (S.backTo n).len c = S.len c := fun c => by unfold SS.len; rw [S.backTo_held]
    by_cases e : c = n
    · subst e
      show ((S.backTo c).turns c _).moved.getD c 0 % _ = 0
      rw [SS.turns_mvD _ _ hb]
      have n0 : 0 < S.len c := by rw [SS.len_b J.ln]; exact h0 c (by omega)
      have := (back_mod (m := (S.backTo c).moved.getD c 0) (j := (S.backTo c).backN c) n0 (by unfold SS.backN; rw [el]; exact Nat.le_refl _)).mpr (by unfold SS.backN; rw [el])
      exact this
    · show ((S.backTo n).turns n _).moved.getD c 0 % _ = 0
      rw [turns_mvO _ _ _ _ e]
      exact h1 c (by omega)
theorem backTo_rooms (J : Jm b S) (C : Corr b S) (h0 : ∀ c, c < b.length → 0 < (b.getD c []).length) (hr : ∀ c ∈ S.trail, carOk b c) : ∀ n, n ≤ b.length → (∀ c ∈ (S.backTo n).trail, carOk b c) ∧ (S.backTo n).trail.length ≤ S.trail.length + (((b.take n).map fun r => r.length - 1).sum)
  | 0, _ => ⟨hr, by show S.trail.length ≤ S.trail.length + 0; omega⟩
  | n + 1, hn => by
    obtain ⟨h1, h2⟩ := backTo_rooms J C h0 hr n (by omega)
    have el : ∀ c, (S.backTo n).len c = S.len c := fun c => by unfold SS.len; rw [S.backTo_held]
    have nb : n < b.length := by omega
    have hb0 := h0 n nb
    have eL := SS.len_b J.ln n
    refine ⟨fun c hc => ?_, ?_⟩
    · rcases List.mem_append.mp (show c ∈ (S.backTo n).trail ++ _ from hc) with z | z
      · exact h1 c z
      · rw [List.eq_of_mem_replicate z]
        refine ⟨?_, nb⟩
        rw [isSeat_iff, el]
        show S.len n - 1 < (b.getD n []).length
        omega
    · show ((S.backTo n).trail ++ _).length ≤ _
      rw [List.length_append, List.length_replicate, List.take_add_one, List.getElem?_eq_getElem nb, List.map_append, List.sum_append]
      have h3 := (S.backTo n).backN_lt n (by rw [el, eL]; exact hb0)
      rw [el, eL] at h3
      have : (b.getD n []).length = b[n].length := by rw [List.getD_eq_getElem?_getD, List.getElem?_eq_getElem nb]; rfl
      show _ ≤ S.trail.length + (_ + (b[n].length - 1 + 0))
      omega
/-- what the loop comes to -/
def shufT (b g : Hol) : List Car := (fin g 100 (seats0 b (items g))).trail
structure Res (b g : Hol) (t : List Car) : Prop where
  len : t.length ≤ 1000
  ok : ∀ c ∈ t, carOk b c
  ln : lens (doneC b t) = lens b
  fits : ∀ p, isSeat b p → itemAt g p = none ∨ itemAt (doneC b t) p = itemAt g p
theorem sub_sum (b : Hol) : (b.map fun r => r.length - 1).sum ≤ (lens b).sum := by
  unfold lens
  induction b with
  | nil => exact Nat.le_refl _
  | cons r b ih => rw [List.map_cons, List.map_cons, List.sum_cons, List.sum_cons]; omega
theorem fin_ok (k : Gd b g) (ok : OkL (lens b)) : ∀ n S, Iv b g S → me g S < n → S.trail.length + 8 * me g S ≤ 300 → Res b g (fin g n S).trail
  | 0, S, _, h, _ => absurd h (Nat.not_lt_zero _)
  | n + 1, S, I, h, hl => by
    have h0 : ∀ c, c < b.length → 0 < (b.getD c []).length := fun c hc => by
      rw [List.getD_eq_getElem?_getD, List.getElem?_eq_getElem hc]
      exact (ok.size.2.1 _ (List.getElem_mem hc)).1
    show Res b g (if (wrong g S).isEmpty then S.backTo S.held.length else fin g n (stepS g S)).trail
    cases hw : wrong g S with
    | nil =>
      show Res b g (S.backTo S.held.length).trail
      have hL : S.held.length = b.length := by rw [← lens_length, I.J.ln, lens_length]
      rw [hL]
      obtain ⟨J1, C1, m1⟩ := backTo_ok I.J I.C h0 b.length (Nat.le_refl _)
      obtain ⟨r1, r2⟩ := backTo_rooms I.J I.C h0 I.rooms b.length (Nat.le_refl _)
      rw [List.take_length] at r2
      have ss := sub_sum b
      have os := ok.2.2.2
      refine ⟨by omega, r1, J1.dn, fun p hp => ?_⟩
      by_cases e : itemAt g p = none
      · exact .inl e
      · right
        have hps : isSeat S.held p := (isSeat_lens I.J.ln).mpr hp
        have e2 : itemAt S.held p = itemAt g p := by
          by_cases z : itemAt S.held p = itemAt g p
          · exact z
          · have : p ∈ wrong g S := mem_wrong.mpr ⟨hps, e, z⟩
            rw [hw] at this; cases this
        obtain ⟨x, hx⟩ := Option.ne_none_iff_exists'.mp e
        rw [hx] at e2 ⊢
        have hh := S.backTo_held b.length
        have key := C1 p x (by rw [hh]; exact hps) (by rw [hh]; exact e2)
        have hroom : (S.backTo b.length).room p = p := by
          unfold SS.room
          have el : (S.backTo b.length).len p.1 = S.len p.1 := by unfold SS.len; rw [hh]
          rw [el, Nat.add_mod, m1 p.1 hp.lt, Nat.add_zero, Nat.mod_mod, Nat.mod_eq_of_lt (by rw [isSeat_iff] at hps; exact hps)]
        rw [hroom] at key
        exact key
    | cons q r =>
      show Res b g (fin g n (stepS g S)).trail
      obtain ⟨p, q', e, hp, hq, hf, hm, _⟩ := I.step k (by rw [hw]; intro z; cases z)
      rw [e]
      have hlen : S.len p.1 ≤ 8 := by
        rw [SS.len_b I.J.ln, List.getD_eq_getElem?_getD, List.getElem?_eq_getElem ((isSeat_lens I.J.ln).mp hp).lt]
        exact (ok.size.2.1 _ (List.getElem_mem _)).2
      have ht := write_len_trail (q := q') hp
      exact fin_ok k ok n _ (I.write hp hq hf) (by omega) (by omega)
theorem seats_sum (g : Hol) : (seatsOf g).length = (lens g).sum := by
  unfold seatsOf lens
  rw [List.length_flatMap]
  have e : g.map List.length = ((List.range g.length).map fun b => g.getD b []).map List.length := by rw [range_getD]
  rw [e, List.map_map]
  congr 1
  refine List.map_congr_left fun b _ => ?_
  rw [List.length_map, List.length_range]; rfl
theorem me_le (g : Hol) (S : SS) : me g S ≤ 2 * (lens S.held).sum + 1 := by
  unfold me
  have h1 : (wrong g S).length ≤ (seatsOf S.held).length := List.length_filter_le _ _
  rw [seats_sum] at h1
  split <;> omega
theorem shuf_ok (k : Gd b g) (ok : OkL (lens b)) (v : ∀ x ∈ items g, x ∈ items b) : Res b g (shufT b g) := by
  have I := seats0_ok v
  have h1 := me_le g (seats0 b (items g))
  rw [I.J.ln] at h1
  have os := ok.2.2.2
  exact fin_ok k ok 100 _ I (by omega) (by show 0 + _ ≤ _; omega)
end
end G
namespace G
open PySem L2 DL
theorem letters_small : ∀ c ∈ letters, c < 0x110000 := by decide +kernel
theorem isNm.okStr {x : Str} (h : isNm x) : okStr x := by
  show x.cps.all (· < 0x110000) = true
  rw [← Array.all_toList, List.all_eq_true]
  intro c hc
  exact decide_eq_true (letters_small c (h.2.2 c hc))
section
variable {b g : Hol} {S : SS} {p q : Seat}
theorem okI_of (n : ∀ x ∈ items g, isNm x) {r : Row} (hr : r ∈ g) {i : Item} (hi : i ∈ r) : okI i := fun x e => by
  subst e
  exact (n x (by
    unfold items
    rw [List.mem_flatMap]
    exact ⟨r, hr, List.mem_filterMap.mpr ⟨some x, hi, rfl⟩⟩)).okStr
theorem Iv.sok (I : Iv b g S) (ok : OkL (lens b)) (n : ∀ x ∈ items g, isNm x) (hl : S.trail.length ≤ 10000) : SOk S := by
  have os := ok.size
  have ok2 : OkL (lens S.held) := by rw [I.J.ln]; exact ok
  have os2 := ok2.size
  refine ⟨?_, fun r hr => ⟨(os2.2.1 r hr).1, Nat.le_trans (os2.2.1 r hr).2 (by decide), fun i hi x e => ?_⟩, os2.1, ?_, hl⟩
  · rw [I.J.mv, ← lens_length, ← lens_length, I.J.ln]
  · subst e
    have : x ∈ items S.held := by
      unfold items
      rw [List.mem_flatMap]
      exact ⟨r, hr, List.mem_filterMap.mpr ⟨some x, hi, rfl⟩⟩
    obtain ⟨p, hp, e⟩ := mem_items.mp this
    exact (n x (I.sub p x hp e)).okStr
  · rw [seats_sum]
    have := ok2.2.2.2
    omega
theorem flat_I (i : Item) : flat (encI i) = true := by cases i <;> rfl
theorem wr_eq (i j : Item) : (!([D.non, encI i].any fun e => eqF e (encI j))) = (!decide (j = none) && !decide (i = j)) := by
  have e2 : eqF (encI i) (encI j) = decide (i = j) := by
    cases i with
    | none => cases j with
      | none => rfl
      | some y => rfl
    | some x => cases j with
      | none => rfl
      | some y =>
        show (x == y) = _
        rw [Bool.eq_iff_iff, beq_iff_eq, decide_eq_true_eq]
        exact ⟨fun h => by rw [h], fun h => Option.some.inj h⟩
  have e1 : eqF .non (encI j) = decide (j = none) := by cases j <;> rfl
  simp only [List.any_cons, List.any_nil, Bool.or_false, e1, e2, Bool.not_or]
end
end G
set_option Elab.async false
set_option linter.all false
set_option maxRecDepth 100000
/-! the dice -/
namespace G
open PySem L2 DL
structure Dice where
  cells : List Int
  i : Int
  c2 : Int
  c3 : Int
  c4 : Int
structure Dice.Ok (X : Dice) : Prop where
  cells : ∀ c ∈ X.cells, 0 ≤ c
  i : 0 ≤ X.i
  c2 : 0 ≤ X.c2
  c3 : 0 ≤ X.c3
  c3' : X.c3 < 2147483647
  c4 : 0 ≤ X.c4
abbrev diceD (X : Dice) : List D := [.lst (X.cells.map .int), .int X.i, .int X.c2, .int X.c3, .int X.c4]
def DiceAt (p : Addr) (μ : Store) : Prop := ∃ X : Dice, X.Ok ∧ μ p = some (.lst (diceD X))
theorem fmod_nn {a b : Int} (hb : 0 < b) : a.fmod b = a % b := Int.fmod_eq_emod_of_nonneg a (Int.le_of_lt hb)
theorem fmod_lt {a b : Int} (hb : 0 < b) : 0 ≤ a.fmod b ∧ a.fmod b < b := by
  rw [fmod_nn hb]; exact ⟨Int.emod_nonneg a (by omega), Int.emod_lt_of_pos a hb⟩
theorem fdiv_nn {a b : Int} (ha : 0 ≤ a) (hb : 0 < b) : 0 ≤ a.fdiv b := by
  rw [Int.fdiv_eq_ediv_of_nonneg _ (Int.le_of_lt hb)]; exact Int.ediv_nonneg ha (Int.le_of_lt hb)
end G
set_option Elab.async false
set_option linter.all false
set_option maxRecDepth 100000
/-! names that are drawn; all unlike -/
namespace G
open PySem L2 DL
theorem store_back {μ μ' : Store} {p q : Addr} {c : Cell} (hp : μ' p = some c) (f : Fm [p, q] μ μ') (hq : μ q = none) (hne : q ≠ p) : delS μ' q = updS μ p c := by
  funext a
  by_cases e : a = q
  · subst e; rw [delS_same, updS_ne hne, hq]
  · rw [delS_ne e]
    by_cases e2 : a = p
    · subst e2; rw [hp, updS_same]
    · rw [updS_ne e2]
      exact f a (by simp [e, e2])
def sgs : List Nat := ("abcdefghijklmn" : Str).cps.toList
theorem sgs_len : sgs.length = 14 := by decide
theorem sgs_letters : ∀ c ∈ sgs, c ∈ letters := by decide
theorem sgs_nodup : sgs.Nodup := by decide
def nxW (w : Str) (c : Nat) : Str := cutS w none (some 7) ++ ⟨#[c]⟩
theorem nxW_cps (w : Str) (c : Nat) : (nxW w c).cps.toList = w.cps.toList.take 7 ++ [c] := by
  have e : (cutS w none (some 7)).cps.toList = w.cps.toList.take 7 := by
    unfold cutS
    show ((w.cps.toList.drop 0).take (HT.sIx w.length w.length (some ((7 : Nat) : Int)) - 0)) = _
    rw [HT.sIx_nat, List.drop_zero, Nat.sub_zero]
    have hl : w.length = w.cps.toList.length := by simp [Str.length]
    rw [hl]
    rcases Nat.le_total 7 w.cps.toList.length with h | h
    · rw [Nat.min_eq_left h]
    · rw [Nat.min_eq_right h, List.take_of_length_le h, List.take_of_length_le (Nat.le_refl _)]
  show ((cutS w none (some 7)).cps ++ #[c]).toList = _
  rw [Array.toList_append, e]
theorem length_cps (w : Str) : w.length = w.cps.toList.length := by simp [Str.length]
theorem nxW_nm {w : Str} {c : Nat} (h : isNm w) (hc : c ∈ letters) : isNm (nxW w c) := by
  have e := nxW_cps w c
  refine ⟨?_, ?_, ?_⟩
  · rw [length_cps, e, List.length_append]; simp
  · rw [length_cps, e, List.length_append, List.length_take]; simp only [List.length_singleton]; omega
  · rw [e]
    intro d hd
    rcases List.mem_append.mp hd with z | z
    · exact h.2.2 d (List.mem_of_mem_take z)
    · rw [List.mem_singleton] at z; subst z; exact hc
def lastC (w : Str) : Option Nat := w.cps.toList.getLast?
theorem nxW_last (w : Str) (c : Nat) : lastC (nxW w c) = some c := by
  unfold lastC
  rw [nxW_cps, List.getLast?_append]; rfl
/-- after i of the signs -/
def Tried (found : List Str) (i : Nat) (w : Str) : Prop := w ∉ found ∨ ∃ L : List Str, L.length = i ∧ L.Nodup ∧ (∀ x ∈ L, x ∈ found ∨ x = w) ∧ ∀ x ∈ L, ∃ c ∈ sgs.take i, lastC x = some c
theorem Tried.zero (found : List Str) (w : Str) : Tried found 0 w := .inr ⟨[], rfl, List.nodup_nil, fun x h => absurd h List.not_mem_nil, fun x h => absurd h List.not_mem_nil⟩
theorem Tried.next {found : List Str} {i : Nat} {w : Str} {c : Nat} (hc : sgs[i]? = some c) (h : Tried found i w) (hw : w ∈ found) : Tried found (i + 1) (nxW w c) := by
  rcases h with h | ⟨L, h1, h2, h3, h4⟩
  · exact absurd hw h
  · refine .inr ⟨L ++ [nxW w c], by rw [List.length_append, h1]; rfl, ?_, fun x hx => ?_, fun x hx => ?_⟩
    · rw [List.nodup_append]
      refine ⟨h2, by simp, fun a ha b hb e => ?_⟩
      rw [List.mem_singleton] at hb
      subst hb; subst e
      obtain ⟨d, hd, e⟩ := h4 _ ha
      rw [nxW_last] at e
      cases e
      obtain ⟨j, e2⟩ := List.mem_iff_getElem?.mp hd
      have hj : j < i := by
        by_cases z : j < i
        · exact z
        · obtain ⟨z2, _⟩ := List.getElem?_eq_some_iff.mp e2
          rw [List.length_take] at z2; omega
      rw [List.getElem?_take, if_pos hj] at e2
      obtain ⟨a1, b1⟩ := List.getElem?_eq_some_iff.mp e2
      obtain ⟨a2, b2⟩ := List.getElem?_eq_some_iff.mp hc
      have := (List.getElem_inj (h₀ := a1) (h₁ := a2) sgs_nodup).mp (b1.trans b2.symm)
      omega
    · rcases List.mem_append.mp hx with z | z
      · rcases h3 x z with y | y
        · exact .inl y
        · rw [y]; exact .inl hw
      · rw [List.mem_singleton] at z; exact .inr z
    · rw [List.take_add_one, hc]
      rcases List.mem_append.mp hx with z | z
      · obtain ⟨d, hd, e⟩ := h4 x z
        exact ⟨d, List.mem_append_left _ hd, e⟩
      · rw [List.mem_singleton] at z; subst z
        exact ⟨c, List.mem_append_right _ (by simp), nxW_last w c⟩
theorem Tried.stay {found : List Str} {i : Nat} {w : Str} (h : w ∉ found) : Tried found i w := .inl h
theorem Tried.done {found : List Str} {w : Str} (h : Tried found 14 w) (hl : found.length ≤ 13) : w ∉ found := by
  rcases h with h | ⟨L, h1, h2, h3, _⟩
  · exact h
  · intro hw
    have := nodup_le h2 fun x hx => (h3 x hx).elim id fun e => by rw [e]; exact hw
    omega
theorem joinL_signs : ∀ cs : List Nat, TL.joinL [] (cs.map fun c => [c]) = cs
  | [] => rfl
  | [c] => rfl
  | c :: d :: r => by
    show [c] ++ ([] ++ TL.joinL [] ((d :: r).map fun c => [c])) = _
    rw [joinL_signs (d :: r)]; rfl
theorem join_signs (cs : List Nat) : Txt.join "" (cs.map fun c => (⟨#[c]⟩ : Str)) = ⟨cs.toArray⟩ := by
  have e := SX.join_S [] (cs.map fun c => [c])
  rw [List.map_map, joinL_signs] at e
  exact e
theorem cut63 (ns : List Int) : ∃ ms : List Int, cutD (ns.map D.int) none (some 63) = ms.map D.int ∧ ms.length ≤ 63 := by
  unfold cutD
  refine ⟨(ns.drop (HT.sIx (ns.map D.int).length 0 none)).take (HT.sIx (ns.map D.int).length (ns.map D.int).length (some 63) - HT.sIx (ns.map D.int).length 0 none), by rw [List.map_take, List.map_drop], ?_⟩
  rw [List.length_take]
  have : HT.sIx (ns.map D.int).length (ns.map D.int).length (some ((63 : Nat) : Int)) = min 63 (ns.map D.int).length := HT.sIx_nat _ _ _
  have e2 : HT.sIx (ns.map D.int).length 0 none = 0 := rfl
  rw [e2]
  have e3 : (some (63 : Int)) = some ((63 : Nat) : Int) := rfl
  rw [e3, this]
  omega
theorem signs_sum (cs : List Nat) : ((cs.map fun c => (⟨#[c]⟩ : Str)).map (·.length)).sum = cs.length := by
  rw [List.map_map]
  induction cs with
  | nil => rfl
  | cons c r ih => rw [List.map_cons, List.sum_cons, ih, List.length_cons]; show 1 + _ = _; omega
end G
set_option Elab.async false
set_option linter.all false
set_option maxRecDepth 100000
/-! what the law's own defs come to -/
namespace G
open PySem L2 DL
theorem cut_init (xs : List D) : cutD xs none (some (-1)) = xs.dropLast := by
  unfold cutD
  have e1 : HT.sIx xs.length 0 none = 0 := rfl
  have e2 : HT.sIx xs.length xs.length (some (-1)) = xs.length - 1 := by
    show (if (-1 : Int) < 0 then ((-1 : Int) + (xs.length : Int)).toNat else min (-1 : Int).toNat xs.length) = _
    rw [if_pos (by decide)]; omega
  rw [e1, e2, List.drop_zero, Nat.sub_zero, List.dropLast_eq_take]
theorem cut_mid (xs : List D) (a b : Nat) (h : a + b ≤ xs.length) : cutD xs (some (a : Int)) (some ((a : Int) + (b : Int))) = (xs.drop a).take b := by
  unfold cutD
  have e1 : HT.sIx xs.length 0 (some (a : Int)) = a := by rw [HT.sIx_nat]; omega
  have e2 : HT.sIx xs.length xs.length (some ((a : Int) + (b : Int))) = a + b := by
    have : ((a : Int) + (b : Int)) = ((a + b : Nat) : Int) := by omega
    rw [this, HT.sIx_nat]; omega
  rw [e1, e2]
  congr 1; omega
theorem cut_to (xs : List D) (b : Nat) (h : b ≤ xs.length) : cutD xs none (some (b : Int)) = xs.take b := by
  unfold cutD
  have e1 : HT.sIx xs.length 0 none = 0 := rfl
  rw [e1, HT.sIx_nat, List.drop_zero, Nat.min_eq_left h]; rfl
def splitH : List Item → List Nat → Hol
  | _, [] => []
  | ws, l :: ls => ws.take l :: splitH (ws.drop l) ls
theorem splitH_get : ∀ (ls : List Nat) (ws : List Item) (i : Nat) (l : Nat), ls[i]? = some l → (splitH ws ls).take (i + 1) = (splitH ws ls).take i ++ [(ws.drop (ls.take i).sum).take l]
  | [], _, _, _, h => by simp at h
  | a :: ls, ws, 0, l, h => by cases h; simp [splitH]
  | a :: ls, ws, i + 1, l, h => by
    have ih := splitH_get ls (ws.drop a) i l h
    simp only [splitH, List.take_succ_cons, List.sum_cons, List.cons_append]
    rw [ih, List.drop_drop]
theorem splitH_length : ∀ (ls : List Nat) (ws : List Item), (splitH ws ls).length = ls.length
  | [], _ => rfl
  | a :: ls, ws => by simp only [splitH, List.length_cons, splitH_length ls]
theorem splitH_lens : ∀ (ls : List Nat) (ws : List Item), ls.sum ≤ ws.length → lens (splitH ws ls) = ls
  | [], _, _ => rfl
  | a :: ls, ws, h => by
    rw [List.sum_cons] at h
    have ih := splitH_lens ls (ws.drop a) (by rw [List.length_drop]; omega)
    unfold lens at ih ⊢
    simp only [splitH, List.map_cons, ih, List.length_take]
    congr 1; omega
theorem splitH_flat : ∀ (ls : List Nat) (ws : List Item), ls.sum = ws.length → (splitH ws ls).flatten = ws
  | [], ws, h => by
    rw [List.sum_nil] at h
    rw [List.eq_nil_of_length_eq_zero h.symm]; rfl
  | a :: ls, ws, h => by
    rw [List.sum_cons] at h
    simp only [splitH, List.flatten_cons]
    rw [splitH_flat ls (ws.drop a) (by rw [List.length_drop]; omega), List.take_append_drop]
theorem items_flat (h : Hol) : items h = h.flatten.filterMap id := by
  unfold items
  rw [List.filterMap_flatten, List.flatMap_def]
theorem take_sum_le (ls : List Nat) : ∀ i, (ls.take i).sum ≤ ls.sum := by
  intro i
  have := List.take_append_drop i ls
  rw [← this]
  simp only [List.take_append_drop, List.sum_append]
  conv => rhs; rw [← this, List.sum_append]
  omega
theorem take_sum_get {ls : List Nat} {i l : Nat} (h : ls[i]? = some l) : (ls.take i).sum + l ≤ ls.sum ∧ (ls.take (i + 1)).sum = (ls.take i).sum + l := by
  have e : ls.take (i + 1) = ls.take i ++ [l] := by rw [List.take_add_one, h]; rfl
  have e2 : (ls.take (i + 1)).sum = (ls.take i).sum + l := by rw [e, List.sum_append]; simp
  exact ⟨by rw [← e2]; exact take_sum_le ls _, e2⟩
theorem sum_ge_len : ∀ {ls : List Nat}, (∀ l ∈ ls, 1 ≤ l) → ls.length ≤ ls.sum
  | [], _ => Nat.le_refl _
  | a :: ls, h => by
    have := sum_ge_len (ls := ls) fun l hl => h l (List.mem_cons_of_mem _ hl)
    have h1 := h a List.mem_cons_self
    rw [List.length_cons, List.sum_cons]; omega
theorem mem_le_sum : ∀ {ls : List Nat} {l : Nat}, l ∈ ls → l ≤ ls.sum
  | a :: ls, l, h => by
    rw [List.sum_cons]
    rcases List.mem_cons.mp h with e | h
    · omega
    · have := mem_le_sum h; omega
/-- the rooms of h that the carries name -/
def carOkL (h : Hol) (c : Car) : Prop := isSeat h c.1 ∧ c.2 < h.length
theorem doneC_take {h : Hol} {t : List Car} {i : Nat} {c : Car} (hc : t[i]? = some c) : doneC h (t.take (i + 1)) = putH (doneC h (t.take i)) c.2 (itemAt (doneC h (t.take i)) c.1) := by
  rw [List.take_add_one, hc]
  exact doneC_snoc h (t.take i) c
theorem lens_doneC {h : Hol} (h0 : ∀ b, b < h.length → 0 < (h.getD b []).length) : ∀ {t : List Car}, (∀ c ∈ t, carOk h c) → lens (doneC h t) = lens h := fun {t} => by
  refine snoc_ind (P := fun t => (∀ c ∈ t, carOk h c) → lens (doneC h t) = lens h) (fun _ => rfl) (fun t c ih hc => ?_) t
  have e := ih fun d hd => hc d (List.mem_append_left _ hd)
  rw [doneC_snoc, lens_putH]
  · exact e
  · rw [← lens_getD, e, lens_getD]
    exact h0 _ (hc c (List.mem_append_right _ (by simp))).2
theorem items_putH {h : Hol} {c : Nat} {i : Item} (hi : ∀ y, i = some y → y ∈ items h) {x : Str} (hx : x ∈ items (putH h c i)) : x ∈ items h := by
  unfold items at hx
  rw [List.mem_flatMap] at hx
  obtain ⟨r, hr, hxr⟩ := hx
  rw [List.mem_filterMap] at hxr
  obtain ⟨j, hj, e⟩ := hxr
  have e : j = some x := e
  subst e
  unfold putH at hr
  rcases List.mem_or_eq_of_mem_set hr with z | z
  · unfold items
    rw [List.mem_flatMap]
    exact ⟨r, z, List.mem_filterMap.mpr ⟨some x, hj, rfl⟩⟩
  · rw [z] at hj
    rcases List.mem_cons.mp hj with y | y
    · exact hi x y.symm
    · have y := List.mem_of_mem_take (List.dropLast_eq_take ▸ y)
      by_cases hc : c < h.length
      · rw [List.getD_eq_getElem?_getD, List.getElem?_eq_getElem hc] at y
        unfold items
        rw [List.mem_flatMap]
        exact ⟨h[c], List.getElem_mem hc, List.mem_filterMap.mpr ⟨some x, y, rfl⟩⟩
      · rw [List.getD_eq_getElem?_getD, List.getElem?_eq_none (by omega)] at y
        cases y
theorem items_doneC {h : Hol} {t : List Car} : ∀ x, x ∈ items (doneC h t) → x ∈ items h := by
  refine snoc_ind (P := fun t => ∀ x, x ∈ items (doneC h t) → x ∈ items h) (fun x hx => hx) (fun t c ih x hx => ?_) t
  rw [doneC_snoc] at hx
  refine ih x (items_putH (fun y e => ?_) hx)
  unfold itemAt at e
  have hm : some y ∈ ((doneC h t).getD c.1.1 []) := by
    rw [List.getD_eq_getElem?_getD] at e
    cases z : ((doneC h t).getD c.1.1 [])[c.1.2]? with
    | none => rw [z] at e; cases e
    | some j =>
      rw [z] at e
      have e : j = some y := e
      subst e
      exact List.mem_of_getElem? z
  unfold items
  rw [List.mem_flatMap]
  by_cases hc : c.1.1 < (doneC h t).length
  · rw [List.getD_eq_getElem?_getD, List.getElem?_eq_getElem hc] at hm
    exact ⟨_, List.getElem_mem hc, List.mem_filterMap.mpr ⟨some y, hm, rfl⟩⟩
  · rw [List.getD_eq_getElem?_getD, List.getElem?_eq_none (by omega)] at hm
    cases hm
end G
set_option Elab.async false
set_option linter.all false
set_option maxRecDepth 100000
/-! two holdings that are drawn; what is shown of them -/
namespace G
open PySem L2 DL
theorem perm_pop {α : Type} {acc rest ws : List α} {j : Nat} {y : α} (h : (acc ++ rest).Perm ws) (hy : rest[j]? = some y) : ((acc ++ [y]) ++ rest.eraseIdx j).Perm ws := by
  obtain ⟨hj, e⟩ := List.getElem?_eq_some_iff.mp hy
  refine List.Perm.trans ?_ h
  rw [List.append_assoc]
  refine List.Perm.append_left acc ?_
  show (y :: rest.eraseIdx j).Perm rest
  rw [List.eraseIdx_eq_take_drop_succ]
  have e2 : rest = rest.take j ++ y :: rest.drop (j + 1) := by
    rw [← e]
    conv => lhs; rw [← List.take_append_drop j rest, List.drop_eq_getElem_cons hj]
  conv => rhs; rw [e2]
  exact List.perm_middle.symm
theorem filterMap_replicate_none (n : Nat) : (List.replicate n (none : Item)).filterMap id = [] := by
  induction n with
  | zero => rfl
  | succ n ih => rw [List.replicate_succ, List.filterMap_cons]; exact ih
theorem filterMap_some_map (l : List Str) : (l.map some).filterMap id = l := by
  induction l with
  | nil => rfl
  | cons x r ih => rw [List.map_cons, List.filterMap_cons]; show x :: _ = _; rw [ih]
theorem holdings_ok {n many kept : Nat} {ls : List Nat} {names : List Str} {begin chosen goal left : List Item} (ok : OkL ls) (hs : ls.sum = n) (hn : names.length = n) (nd : names.Nodup) (nm : ∀ x ∈ names, isNm x) (hmany : many ≤ n)
    (hb : begin.Perm ((names.take many).map some ++ List.replicate (n - many) none)) (hk : kept < n) (hc : chosen.length = kept) (hc2 : (chosen ++ left).Perm (begin.filter fun i => !isNonD (encI i)))
    (hg : goal.Perm (chosen ++ List.replicate (n - kept) none)) : Valid (splitH begin ls) (splitH goal ls) ∧ ∃ p, isSeat (splitH goal ls) p ∧ itemAt (splitH goal ls) p = none := by
  have lb : begin.length = n := by
    rw [hb.length_eq, List.length_append, List.length_map, List.length_take, List.length_replicate]; omega
  have lgl : goal.length = n := by
    rw [hg.length_eq, List.length_append, List.length_replicate]; omega
  have lensB : lens (splitH begin ls) = ls := splitH_lens ls begin (by omega)
  have lensG : lens (splitH goal ls) = ls := splitH_lens ls goal (by omega)
  have ib : (items (splitH begin ls)).Perm (names.take many) := by
    rw [items_flat, splitH_flat ls begin (by omega)]
    have := hb.filterMap id
    rw [List.filterMap_append, filterMap_some_map, filterMap_replicate_none, List.append_nil] at this
    exact this
  have ndb : (items (splitH begin ls)).Nodup := ib.nodup_iff.mpr (nd.sublist (List.take_sublist _ _))
  have nmb : ∀ x ∈ items (splitH begin ls), isNm x := fun x hx => nm x (List.mem_of_mem_take (ib.mem_iff.mp hx))
  have efil : (begin.filter fun i => !isNonD (encI i)).filterMap id = begin.filterMap id := by
    have go : ∀ l : List Item, (l.filter fun i => !isNonD (encI i)).filterMap id = l.filterMap id := by
      intro l
      induction l with
      | nil => rfl
      | cons i l ih =>
        cases i with
        | none => exact ih
        | some x => exact congrArg (x :: ·) ih
    exact go begin
  have ig : (items (splitH goal ls)).Perm (chosen.filterMap id) := by
    rw [items_flat, splitH_flat ls goal (by omega)]
    have := hg.filterMap id
    rw [List.filterMap_append, filterMap_replicate_none, List.append_nil] at this
    exact this
  have ic : (chosen.filterMap id ++ left.filterMap id).Perm (items (splitH begin ls)) := by
    rw [items_flat (splitH begin ls), splitH_flat ls begin (by omega), ← efil, ← List.filterMap_append]
    exact hc2.filterMap id
  have ndc : (chosen.filterMap id).Nodup := (List.nodup_append.mp (ic.nodup_iff.mpr ndb)).1
  have sub : ∀ x ∈ items (splitH goal ls), x ∈ items (splitH begin ls) := fun x hx => ic.mem_iff.mp (List.mem_append_left _ (ig.mem_iff.mp hx))
  refine ⟨⟨by rw [lensB]; exact ok, by rw [lensB, lensG], ⟨nmb, ndb⟩, ⟨fun x hx => nmb x (sub x hx), ig.nodup_iff.mpr ndc⟩, sub⟩, ?_⟩
  have hnone : (none : Item) ∈ (splitH goal ls).flatten := by
    rw [splitH_flat ls goal (by omega)]
    exact hg.mem_iff.mpr (List.mem_append_right _ (List.mem_replicate.mpr ⟨by omega, rfl⟩))
  obtain ⟨r, hr, hn⟩ := List.mem_flatten.mp hnone
  obtain ⟨i, hi, e⟩ := List.getElem_of_mem hr
  obtain ⟨k, hk, e2⟩ := List.getElem_of_mem hn
  refine ⟨(i, k), ⟨r, by rw [List.getElem?_eq_getElem hi, e], hk⟩, ?_⟩
  unfold itemAt
  rw [List.getD_eq_getElem?_getD, List.getD_eq_getElem?_getD, List.getElem?_eq_getElem hi, e]
  show (r[k]?).getD none = none
  rw [List.getElem?_eq_getElem hk, e2]; rfl
/-! the way back -/
theorem back_ok {b g : Hol} (v : Valid b g) (sp : ∃ p, isSeat g p ∧ itemAt g p = none) : Valid g (b.map fun r => r.map (keep (items g))) ∧ ∃ p, isSeat (b.map fun r => r.map (keep (items g))) p ∧ itemAt (b.map fun r => r.map (keep (items g))) p = none := by
  have hl : lens (b.map fun r => r.map (keep (items g))) = lens b := lens_keep b (items g)
  have key : ∀ p x, itemAt (b.map fun r => r.map (keep (items g))) p = some x → itemAt b p = some x ∧ x ∈ items g := fun p x hx => by
    rw [keep_itemAt] at hx
    cases z : itemAt b p with
    | none => rw [z] at hx; cases hx
    | some y =>
      rw [z] at hx
      unfold keep at hx
      dsimp only at hx
      split at hx
      · rename_i h; cases hx; exact ⟨rfl, h⟩
      · cases hx
  have sub : ∀ x ∈ items (b.map fun r => r.map (keep (items g))), x ∈ items g := fun x hx => by
    obtain ⟨p, _, e⟩ := mem_items.mp hx
    exact (key p x e).2
  have nd : (items (b.map fun r => r.map (keep (items g)))).Nodup := by
    have h1 := v.nb.2
    rw [items_seats] at h1 ⊢
    rw [seatsOf_lens hl]
    have go : ∀ l : List Seat, (l.filterMap (itemAt b)).Nodup → (l.filterMap (itemAt (b.map fun r => r.map (keep (items g))))).Nodup ∧ ∀ x ∈ l.filterMap (itemAt (b.map fun r => r.map (keep (items g)))), x ∈ l.filterMap (itemAt b) := by
      intro l
      induction l with
      | nil => intro _; exact ⟨List.nodup_nil, fun _ h => h⟩
      | cons p l ih =>
        intro h
        rw [List.filterMap_cons] at h
        rw [List.filterMap_cons, List.filterMap_cons]
        cases z : itemAt (b.map fun r => r.map (keep (items g))) p with
        | none =>
          cases zb : itemAt b p with
          | none => rw [zb] at h; exact ih h
          | some y =>
            rw [zb] at h
            obtain ⟨i1, i2⟩ := ih (List.nodup_cons.mp h).2
            exact ⟨i1, fun x hx => List.mem_cons_of_mem _ (i2 x hx)⟩
        | some x =>
          have e := (key p x z).1
          rw [e] at h ⊢
          obtain ⟨n1, n2⟩ := List.nodup_cons.mp h
          obtain ⟨i1, i2⟩ := ih n2
          refine ⟨List.nodup_cons.mpr ⟨fun hx => n1 (i2 x hx), i1⟩, fun y hy => ?_⟩
          rcases List.mem_cons.mp hy with e | hy
          · rw [e]; exact List.mem_cons_self
          · exact List.mem_cons_of_mem _ (i2 y hy)
    exact (go _ h1).1
  refine ⟨⟨by rw [v.lg]; exact v.lb, by rw [hl, v.lg], v.ng, ⟨fun x hx => v.ng.1 x (sub x hx), nd⟩, sub⟩, ?_⟩
  -- not every seat holds a name that is wanted
  apply Classical.byContradiction
  intro hno
  have hall : ∀ p, isSeat (b.map fun r => r.map (keep (items g))) p → ∃ x, itemAt (b.map fun r => r.map (keep (items g))) p = some x := fun p hp => by
    cases z : itemAt (b.map fun r => r.map (keep (items g))) p with
    | none => exact absurd ⟨p, hp, z⟩ hno
    | some x => exact ⟨x, rfl⟩
  have l1 : (items (b.map fun r => r.map (keep (items g)))).length = (seatsOf b).length := by
    rw [items_seats, seatsOf_lens hl]
    have go : ∀ l : List Seat, (∀ p ∈ l, isSeat (b.map fun r => r.map (keep (items g))) p) → (l.filterMap (itemAt (b.map fun r => r.map (keep (items g))))).length = l.length := by
      intro l
      induction l with
      | nil => intro _; rfl
      | cons a l ih =>
        intro h
        obtain ⟨x, hx⟩ := hall a (h a List.mem_cons_self)
        rw [List.filterMap_cons, hx]
        show (List.filterMap _ l).length + 1 = _
        rw [ih fun p hp => h p (List.mem_cons_of_mem _ hp), List.length_cons]
    exact go _ fun p hp => (isSeat_lens hl).mpr (mem_seatsOf.mp hp)
  have l2 := nodup_le nd sub
  have l3 : (items g).length < (seatsOf b).length := by
    obtain ⟨p, hp, h0⟩ := sp
    rw [items_seats, ← seatsOf_lens v.lg]
    have hpm := mem_seatsOf.mpr hp
    have go : ∀ l : List Seat, p ∈ l → (l.filterMap (itemAt g)).length < l.length := by
      intro l
      induction l with
      | nil => intro h; cases h
      | cons a l ih =>
        intro h
        rw [List.filterMap_cons, List.length_cons]
        rcases List.mem_cons.mp h with e | h'
        · subst e
          rw [h0]
          exact Nat.lt_succ_of_le (List.length_filterMap_le _ _)
        · have := ih h'
          cases itemAt g a with
          | none => exact Nat.lt_succ_of_lt this
          | some x => exact Nat.succ_lt_succ this
    exact go _ hpm
  omega
/-- but for p all cells of μ0 are as they were -/
def Sb (p : Addr) (μ0 μ' : Store) : Prop := ∀ a c, a ≠ p → μ0 a = some c → μ' a = some c
theorem Sb.refl (p : Addr) (μ : Store) : Sb p μ μ := fun _ _ _ h => h
theorem Sb.updP {p : Addr} {μ0 μ' : Store} (h : Sb p μ0 μ') (c : Cell) : Sb p μ0 (updS μ' p c) := fun a d n e => by rw [updS_ne n]; exact h a d n e
theorem Sb.new {p f : Addr} {μ0 μ' : Store} (h : Sb p μ0 μ') (hn : μ' f = none) (c : Cell) : Sb p μ0 (updS μ' f c) := fun a d n e => by
  have := h a d n e
  rw [updS_ne fun z => by rw [z, hn] at this; cases this]
  exact this
theorem Sb.none {p f : Addr} {μ0 μ' : Store} (h : Sb p μ0 μ') (hn : μ' f = Option.none) (hf : f ≠ p) : μ0 f = Option.none := by
  cases e : μ0 f with
  | none => rfl
  | some c => rw [h f c hf e] at hn; cases hn
theorem Sb.fm {p f : Addr} {μ0 μ1 μ2 : Store} (h : Sb p μ0 μ1) (hf : μ0 f = Option.none) (k : Fm [p, f] μ1 μ2) : Sb p μ0 μ2 := fun a d n e => by
  have zf : a ≠ f := fun z => by rw [z, hf] at e; cases e
  rw [k a (by simp [n, zf])]
  exact h a d n e
theorem Sb.sub {p : Addr} {μ0 μ' : Store} {c : Cell} (h : Sb p μ0 μ') (hp : μ' p = some c) : SubS (updS μ0 p c) μ' := fun a d e => by
  by_cases z : a = p
  · subst z; rw [updS_same] at e; rw [hp]; exact e
  · rw [updS_ne z] at e; exact h a d z e
theorem nones (n : Nat) : (List.replicate n [D.non]).flatten = (List.replicate n (none : Item)).map encI := by
  induction n with
  | zero => rfl
  | succ n ih => rw [List.replicate_succ, List.flatten_cons, ih, List.replicate_succ]; rfl
theorem names_take (names : List Str) (m : Nat) : (names.map D.str).take m = ((names.take m).map some).map encI := by
  rw [List.map_map, ← List.map_take]; rfl
theorem min_cast (m r : Nat) : (if (r : Int) < (m : Int) then (r : Int) else (m : Int)) = ((min m r : Nat) : Int) := by
  split <;> omega
theorem eraseIdx_map' {α β : Type} (f : α → β) : ∀ (l : List α) (i : Nat), (l.map f).eraseIdx i = (l.eraseIdx i).map f
  | [], _ => rfl
  | _ :: _, 0 => rfl
  | a :: l, i + 1 => congrArg (f a :: ·) (eraseIdx_map' f l i)
end G
set_option Elab.async false
set_option linter.all false
set_option maxRecDepth 100000
/-! how long it is when shown -/
namespace G
open PySem L2 DL
theorem repr_letters : ∀ c ∈ letters, (Builtin.Str.reprChar 39 c).length ≤ 1 ∧ (Builtin.Str.reprChar 34 c).length ≤ 1 := by decide +kernel
theorem repr_small : ∀ c ∈ letters, (∀ d ∈ Builtin.Str.reprChar 39 c, d < 0x110000) ∧ (∀ d ∈ Builtin.Str.reprChar 34 c, d < 0x110000) := by decide +kernel
theorem fold_size {q : Nat} (hq : q = 39 ∨ q = 34) : ∀ (l : List Nat) (acc : Array Nat), (∀ c ∈ l, c ∈ letters) → (l.foldl (fun out c => out ++ (Builtin.Str.reprChar q c).toArray) acc).size ≤ acc.size + l.length
  | [], acc, _ => Nat.le_refl _
  | c :: r, acc, h => by
    have h1 := repr_letters c (h c List.mem_cons_self)
    have h2 : (Builtin.Str.reprChar q c).length ≤ 1 := by
      rcases hq with rfl | rfl
      · exact h1.1
      · exact h1.2
    have ih := fold_size hq r (acc ++ (Builtin.Str.reprChar q c).toArray) fun d hd => h d (List.mem_cons_of_mem _ hd)
    have e : (acc ++ (Builtin.Str.reprChar q c).toArray).size = acc.size + (Builtin.Str.reprChar q c).length := by rw [Array.size_append]; simp
    rw [e] at ih
    rw [List.foldl_cons, List.length_cons]
    omega
theorem repr_len {x : Str} (h : isNm x) : (reprText x).length ≤ 10 := by
  have hq : reprQuote x = 39 ∨ reprQuote x = 34 := by unfold reprQuote; split <;> simp
  have hs := fold_size hq x.cps.toList #[reprQuote x] h.2.2
  have hl := h.2.1
  rw [length_cps] at hl
  show ((x.cps.foldl (fun out c => out ++ (Builtin.Str.reprChar (reprQuote x) c).toArray) #[reprQuote x]).push (reprQuote x)).size ≤ 10
  rw [Array.size_push, ← Array.foldl_toList]
  have e : (#[reprQuote x] : Array Nat).size = 1 := rfl
  omega
theorem length_append_str (a b : Str) : (a ++ b).length = a.length + b.length := by
  show (a.cps ++ b.cps).size = _
  rw [Array.size_append]; rfl
theorem join_len (y : Str) : ∀ ts : List Str, (Str.join y ts).length ≤ (ts.map (·.length)).sum + ts.length * y.length
  | [] => by show 0 ≤ _; omega
  | [x] => by show x.length ≤ _; simp
  | x :: z :: r => by
    have ih := join_len y (z :: r)
    show (x ++ y ++ Str.join y (z :: r)).length ≤ _
    rw [length_append_str, length_append_str]
    simp only [List.map_cons, List.sum_cons, List.length_cons] at ih ⊢
    have : (r.length + 1 + 1) * y.length = (r.length + 1) * y.length + y.length := by rw [Nat.add_mul (r.length + 1) 1, Nat.one_mul]
    omega
theorem tuple_len {ts : List Str} {k n : Nat} (hk : ∀ t ∈ ts, t.length ≤ k) (hn : ts.length ≤ n) : (tupleText ts).length ≤ n * (k + 2) + 3 := by
  have hs : (ts.map (·.length)).sum ≤ ts.length * k := by
    clear hn
    induction ts with
    | nil => simp
    | cons t r ih =>
      have h1 := hk t List.mem_cons_self
      have h2 := ih fun u hu => hk u (List.mem_cons_of_mem _ hu)
      rw [List.map_cons, List.sum_cons, List.length_cons, Nat.add_mul]; omega
  have hj := join_len ", " ts
  have e : (", " : Str).length = 2 := by decide
  rw [e] at hj
  unfold tupleText
  rw [length_append_str, length_append_str]
  have e1 : ("(" : Str).length = 1 := by decide
  have e2 : (Str.ofString (if (ts.length == 1) = true then ",)" else ")")).length ≤ 2 := by split <;> decide
  have e3 : ts.length * k + ts.length * 2 ≤ n * (k + 2) := by
    rw [← Nat.mul_add]; exact Nat.mul_le_mul_right _ hn
  rw [e1]
  omega
theorem okStr_iff {x : Str} : okStr x ↔ ∀ c ∈ x.cps.toList, c < 0x110000 := by
  show x.cps.all (· < 0x110000) = true ↔ _
  rw [← Array.all_toList, List.all_eq_true]
  exact ⟨fun h c hc => of_decide_eq_true (h c hc), fun h c hc => decide_eq_true (h c hc)⟩
theorem okStr_app {a b : Str} (ha : okStr a) (hb : okStr b) : okStr (a ++ b) := by
  rw [okStr_iff] at ha hb ⊢
  intro c hc
  have hc : c ∈ (a.cps ++ b.cps).toList := hc
  rw [Array.toList_append] at hc
  rcases List.mem_append.mp hc with z | z
  · exact ha c z
  · exact hb c z
theorem okStr_join {y : Str} (hy : okStr y) : ∀ {ts : List Str}, (∀ t ∈ ts, okStr t) → okStr (Str.join y ts)
  | [], _ => by show PyData.strOk Str.empty = true; decide +kernel
  | [x], h => h x List.mem_cons_self
  | x :: z :: r, h => okStr_app (okStr_app (h x List.mem_cons_self) hy) (okStr_join hy fun t ht => h t (List.mem_cons_of_mem _ ht))
theorem okStr_tuple {ts : List Str} (h : ∀ t ∈ ts, okStr t) : okStr (tupleText ts) := by
  unfold tupleText
  refine okStr_app (okStr_app (show PyData.strOk _ = true by decide +kernel) (okStr_join (show PyData.strOk _ = true by decide +kernel) h)) ?_
  show PyData.strOk _ = true
  split <;> decide +kernel
theorem fold_ok {q : Nat} (hq : q = 39 ∨ q = 34) : ∀ (l : List Nat) (acc : Array Nat), (∀ c ∈ l, c ∈ letters) → (∀ c ∈ acc.toList, c < 0x110000) → ∀ c ∈ (l.foldl (fun out c => out ++ (Builtin.Str.reprChar q c).toArray) acc).toList, c < 0x110000
  | [], acc, _, h => h
  | c :: r, acc, h, ha => by
    rw [List.foldl_cons]
    refine fold_ok hq r _ (fun d hd => h d (List.mem_cons_of_mem _ hd)) fun d hd => ?_
    rw [Array.toList_append] at hd
    rcases List.mem_append.mp hd with z | z
    · exact ha d z
    · have h1 := repr_small c (h c List.mem_cons_self)
      have z : d ∈ Builtin.Str.reprChar q c := z
      rcases hq with rfl | rfl
      · exact h1.1 d z
      · exact h1.2 d z
theorem okStr_repr {x : Str} (h : isNm x) : okStr (reprText x) := by
  have hq : reprQuote x = 39 ∨ reprQuote x = 34 := by unfold reprQuote; split <;> simp
  have hlt : reprQuote x < 0x110000 := by omega
  rw [okStr_iff]
  intro c hc
  have hc : c ∈ ((x.cps.foldl (fun out c => out ++ (Builtin.Str.reprChar (reprQuote x) c).toArray) #[reprQuote x]).push (reprQuote x)).toList := hc
  rw [Array.toList_push, ← Array.foldl_toList] at hc
  rcases List.mem_append.mp hc with z | z
  · refine fold_ok hq x.cps.toList #[reprQuote x] h.2.2 (fun d hd => ?_) c z
    have hd : d ∈ [reprQuote x] := hd
    rw [List.mem_singleton] at hd; omega
  · rw [List.mem_singleton] at z; omega
theorem shownAll_map (xs : List PyData) : PyData.shownAll xs = xs.map PyData.shown := by
  induction xs with
  | nil => simp only [PyData.shownAll, List.map_nil]
  | cons x r ih => simp only [PyData.shownAll, List.map_cons, ih]
theorem toPyL_map (xs : List D) : toPyL xs = xs.map toPy := by
  induction xs with
  | nil => simp only [toPyL, List.map_nil]
  | cons x r ih => simp only [toPyL, List.map_cons, ih]
theorem shown_tup (ds : List D) {k n : Nat} (hk : ∀ d ∈ ds, (toPy d).shown.length ≤ k) (hn : ds.length ≤ n) : (toPy (.tup ds)).shown.length ≤ n * (k + 2) + 3 := by
  simp only [toPy, PyData.shown]
  rw [shownAll_map, toPyL_map, List.map_map]
  refine tuple_len (fun t ht => ?_) (by rw [List.length_map]; exact hn)
  obtain ⟨d, hd, rfl⟩ := List.mem_map.mp ht
  exact hk d hd
theorem shown_item {i : Item} (h : ∀ x, i = some x → isNm x) : (toPy (encI i)).shown.length ≤ 10 := by
  cases i with
  | none => simp only [encI, toPy, PyData.shown]; decide
  | some x => simp only [encI, toPy, PyData.shown]; exact repr_len (h x rfl)
theorem showable_tup (ds : List D) (h : ∀ d ∈ ds, (toPy d).showable = true) : (toPy (.tup ds)).showable = true := by
  simp only [toPy, PyData.showable]
  rw [toPyL_map]
  induction ds with
  | nil => simp only [List.map_nil, PyData.showableAll]
  | cons d r ih => simp only [List.map_cons, PyData.showableAll, h d List.mem_cons_self, ih fun e he => h e (List.mem_cons_of_mem _ he), Bool.and_self]
theorem showable_item (i : Item) : (toPy (encI i)).showable = true := by
  cases i <;> simp only [encI, toPy, PyData.showable]
theorem shown_hol {h : Hol} (ok : OkL (lens h)) (nm : ∀ x ∈ items h, isNm x) : (toPy (encH h)).shown.length ≤ 700 ∧ (toPy (encH h)).showable = true := by
  have sz := ok.size
  constructor
  · refine Nat.le_trans (shown_tup (h.map encR) (k := 99) (n := 6) (fun d hd => ?_) (by rw [List.length_map]; exact sz.1)) (by decide)
    obtain ⟨r, hr, rfl⟩ := List.mem_map.mp hd
    refine Nat.le_trans (shown_tup (r.map encI) (k := 10) (n := 8) (fun d hd => ?_) (by rw [List.length_map]; exact (sz.2.1 r hr).2)) (by decide)
    obtain ⟨i, hi, rfl⟩ := List.mem_map.mp hd
    refine shown_item fun x e => nm x ?_
    subst e
    unfold items
    rw [List.mem_flatMap]
    exact ⟨r, hr, List.mem_filterMap.mpr ⟨some x, hi, rfl⟩⟩
  · refine showable_tup _ fun d hd => ?_
    obtain ⟨r, hr, rfl⟩ := List.mem_map.mp hd
    refine showable_tup _ fun d hd => ?_
    obtain ⟨i, hi, rfl⟩ := List.mem_map.mp hd
    exact showable_item i
theorem okShown_tup {ds : List D} (h : ∀ d ∈ ds, okStr (toPy d).shown) : okStr (toPy (.tup ds)).shown := by
  simp only [toPy, PyData.shown]
  rw [shownAll_map, toPyL_map, List.map_map]
  refine okStr_tuple fun t ht => ?_
  obtain ⟨d, hd, rfl⟩ := List.mem_map.mp ht
  exact h d hd
theorem okShown_hol {h : Hol} (nm : ∀ x ∈ items h, isNm x) : okStr (toPy (encH h)).shown := by
  refine okShown_tup fun d hd => ?_
  obtain ⟨r, hr, rfl⟩ := List.mem_map.mp hd
  refine okShown_tup fun d hd => ?_
  obtain ⟨i, hi, rfl⟩ := List.mem_map.mp hd
  cases i with
  | none => simp only [encI, toPy, PyData.shown]; show PyData.strOk _ = true; decide +kernel
  | some x =>
    simp only [encI, toPy, PyData.shown]
    refine okStr_repr (nm x ?_)
    unfold items
    rw [List.mem_flatMap]
    exact ⟨r, hr, List.mem_filterMap.mpr ⟨some x, hi, rfl⟩⟩
theorem okShown_two {b g : Hol} (v : Valid b g) : okStr (toPy (.tup [encH b, encH g])).shown := by
  refine okShown_tup fun d hd => ?_
  rcases List.mem_cons.mp hd with rfl | hd
  · exact okShown_hol v.nb.1
  · rw [List.mem_singleton] at hd; subst hd; exact okShown_hol v.ng.1
theorem cdR : Cd (fun r : Row => ∀ i ∈ r, okI i) 1 encR := cdI.tup
theorem cdH : Cd (fun h : Hol => ∀ r ∈ h, ∀ i ∈ r, okI i) 2 encH := cdR.tup
theorem cdP : Cd (fun _ : Seat => True) 1 encP := by
  have c := Cd.pair cdNat cdNat
  exact ⟨c.eq, c.pl, fun a _ => c.cl a ⟨trivial, trivial⟩, c.dp⟩
theorem cdC : Cd (fun _ : Car => True) 2 encC := by
  have c := Cd.pair cdP (cdNat.up (m := 1) (by decide))
  exact ⟨c.eq, c.pl, fun a _ => c.cl a ⟨trivial, trivial⟩, c.dp⟩
theorem cdT : Cd (fun t : List Car => ∀ c ∈ t, True) 3 (fun t : List Car => D.tup (t.map encC)) := cdC.tup
theorem hol_ok {h : Hol} (nm : ∀ x ∈ items h, isNm x) : ∀ r ∈ h, ∀ i ∈ r, okI i := fun r hr i hi => okI_of nm hr hi
/-- repr((b, g)) can be told -/
theorem shown_two {b g : Hol} (v : Valid b g) : plainL [encH b, encH g] = true ∧ (toPy (.tup [encH b, encH g])).showable = true ∧ (toPy (.tup [encH b, encH g])).hasDict = false ∧ (toPy (.tup [encH b, encH g])).depth ≤ 64 ∧ (toPy (.tup [encH b, encH g])).shown.length ≤ sizeLine := by
  have okg : OkL (lens g) := by rw [v.lg]; exact v.lb
  obtain ⟨b1, b2⟩ := shown_hol v.lb v.nb.1
  obtain ⟨g1, g2⟩ := shown_hol okg v.ng.1
  have cb : (toPy (encH b)).canLay0 = true := cdH.cl b (hol_ok v.nb.1)
  have cg : (toPy (encH g)).canLay0 = true := cdH.cl g (hol_ok v.ng.1)
  refine ⟨?_, showable_tup _ fun d hd => ?_, PyData.hasDict_of_canLay _ ?_, ?_, ?_⟩
  · simp only [plainL, cdH.pl, Bool.and_self]
  · rcases List.mem_cons.mp hd with rfl | hd
    · exact b2
    · rw [List.mem_singleton] at hd; subst hd; exact g2
  · simp only [toPy, toPyL, PyData.canLay0, PyData.canLayAll0, cb, cg, Bool.and_self]
  · have d1 := cdH.dp b
    have d2 := cdH.dp g
    simp only [toPy, toPyL, PyData.depth, PyData.depthAll]
    omega
  · refine small (Nat.le_trans (shown_tup [encH b, encH g] (k := 700) (n := 2) (fun d hd => ?_) (by simp)) (by decide))
    rcases List.mem_cons.mp hd with rfl | hd
    · exact b1
    · rw [List.mem_singleton] at hd; subst hd; exact g1
end G
set_option Elab.async false
set_option linter.all false
set_option maxRecDepth 100000
set_option maxHeartbeats 0
namespace G
open PySem PySem.Spec PyProof.Rows L2
def top (i : Nat) : Stmt := PySem.Challenge.pw_fullbelts_k66_whole_shuffles.main.body.getD i (.Pass ⟨0, 0, 0, 0⟩)

abbrev sd_is_integer : Stmt := top 6
def d_is_integer : He.DefD := ⟨("is_integer", none), "is_integer", "is_integer", defArgs sd_is_integer, defBody sd_is_integer, defScope sd_is_integer, [], []⟩
abbrev sd_is_name : Stmt := top 7
def d_is_name : He.DefD := ⟨("is_name", none), "is_name", "is_name", defArgs sd_is_name, defBody sd_is_name, defScope sd_is_name, [], []⟩
abbrev sd_are_lengths : Stmt := top 12
def d_are_lengths : He.DefD := ⟨("are_lengths", none), "are_lengths", "are_lengths", defArgs sd_are_lengths, defBody sd_are_lengths, defScope sd_are_lengths, [], []⟩
abbrev sd_is_item : Stmt := top 13
def d_is_item : He.DefD := ⟨("is_item", none), "is_item", "is_item", defArgs sd_is_item, defBody sd_is_item, defScope sd_is_item, [], []⟩
abbrev sd_is_holding : Stmt := top 14
def d_is_holding : He.DefD := ⟨("is_holding", none), "is_holding", "is_holding", defArgs sd_is_holding, defBody sd_is_holding, defScope sd_is_holding, [], []⟩
abbrev sd_items_of : Stmt := top 16
def d_items_of : He.DefD := ⟨("items_of", none), "items_of", "items_of", defArgs sd_items_of, defBody sd_items_of, defScope sd_items_of, [], []⟩
abbrev sd_are_names_once : Stmt := top 17
def d_are_names_once : He.DefD := ⟨("are_names_once", none), "are_names_once", "are_names_once", defArgs sd_are_names_once, defBody sd_are_names_once, defScope sd_are_names_once, [], []⟩
abbrev sd_check_holdings : Stmt := top 18
def d_check_holdings : He.DefD := ⟨("check_holdings", none), "check_holdings", "check_holdings", defArgs sd_check_holdings, defBody sd_check_holdings, defScope sd_check_holdings, [], []⟩
abbrev sd_Seatsu__initu_ : Stmt := inClass (top 19) 0
def d_Seatsu__initu_ : He.DefD := ⟨("Seats", some "__init__"), "__init__", "Seats.__init__", defArgs sd_Seatsu__initu_, defBody sd_Seatsu__initu_, defScope sd_Seatsu__initu_, [], []⟩
abbrev sd_Seats_room : Stmt := inClass (top 19) 1
def d_Seats_room : He.DefD := ⟨("Seats", some "room"), "room", "Seats.room", defArgs sd_Seats_room, defBody sd_Seats_room, defScope sd_Seats_room, [], []⟩
abbrev sd_Seats_carry : Stmt := inClass (top 19) 2
def d_Seats_carry : He.DefD := ⟨("Seats", some "carry"), "carry", "Seats.carry", defArgs sd_Seats_carry, defBody sd_Seats_carry, defScope sd_Seats_carry, [], []⟩
abbrev sd_Seats_turn : Stmt := inClass (top 19) 3
def d_Seats_turn : He.DefD := ⟨("Seats", some "turn"), "turn", "Seats.turn", defArgs sd_Seats_turn, defBody sd_Seats_turn, defScope sd_Seats_turn, [], []⟩
abbrev sd_Seats_write : Stmt := inClass (top 19) 4
def d_Seats_write : He.DefD := ⟨("Seats", some "write"), "write", "Seats.write", defArgs sd_Seats_write, defBody sd_Seats_write, defScope sd_Seats_write, [], []⟩
abbrev sd_Seats_item : Stmt := inClass (top 19) 5
def d_Seats_item : He.DefD := ⟨("Seats", some "item"), "item", "Seats.item", defArgs sd_Seats_item, defBody sd_Seats_item, defScope sd_Seats_item, [], []⟩
abbrev sd_Seats_all_seats : Stmt := inClass (top 19) 6
def d_Seats_all_seats : He.DefD := ⟨("Seats", some "all_seats"), "all_seats", "Seats.all_seats", defArgs sd_Seats_all_seats, defBody sd_Seats_all_seats, defScope sd_Seats_all_seats, [], []⟩
abbrev sd_Seats_holders : Stmt := inClass (top 19) 7
def d_Seats_holders : He.DefD := ⟨("Seats", some "holders"), "holders", "Seats.holders", defArgs sd_Seats_holders, defBody sd_Seats_holders, defScope sd_Seats_holders, [], []⟩
abbrev sd_Seats_is_free : Stmt := inClass (top 19) 8
def d_Seats_is_free : He.DefD := ⟨("Seats", some "is_free"), "is_free", "Seats.is_free", defArgs sd_Seats_is_free, defBody sd_Seats_is_free, defScope sd_Seats_is_free, [], []⟩
abbrev sd_Seats_turn_back : Stmt := inClass (top 19) 9
def d_Seats_turn_back : He.DefD := ⟨("Seats", some "turn_back"), "turn_back", "Seats.turn_back", defArgs sd_Seats_turn_back, defBody sd_Seats_turn_back, defScope sd_Seats_turn_back, [], []⟩
abbrev sd_carries_by_turning : Stmt := top 20
def d_carries_by_turning : He.DefD := ⟨("carries_by_turning", none), "carries_by_turning", "carries_by_turning", defArgs sd_carries_by_turning, defBody sd_carries_by_turning, defScope sd_carries_by_turning, [], []⟩
abbrev sd_carries_by_seats : Stmt := top 21
def d_carries_by_seats : He.DefD := ⟨("carries_by_seats", none), "carries_by_seats", "carries_by_seats", defArgs sd_carries_by_seats, defBody sd_carries_by_seats, defScope sd_carries_by_seats, [], []⟩
abbrev sd_shuffle : Stmt := top 22
def d_shuffle : He.DefD := ⟨("shuffle", none), "shuffle", "shuffle", defArgs sd_shuffle, defBody sd_shuffle, defScope sd_shuffle, [], []⟩
abbrev sd_shuffled : Stmt := top 23
def d_shuffled : He.DefD := ⟨("shuffled", none), "shuffled", "shuffled", defArgs sd_shuffled, defBody sd_shuffled, defScope sd_shuffled, [], []⟩
abbrev sd__law_dice : Stmt := top 25
def d__law_dice : He.DefD := ⟨("_law_dice", none), "_law_dice", "_law_dice", defArgs sd__law_dice, defBody sd__law_dice, defScope sd__law_dice, [], []⟩
abbrev sd__law_draw : Stmt := top 26
def d__law_draw : He.DefD := ⟨("_law_draw", none), "_law_draw", "_law_draw", defArgs sd__law_draw, defBody sd__law_draw, defScope sd__law_draw, [], []⟩
abbrev sd__law_names : Stmt := top 27
def d__law_names : He.DefD := ⟨("_law_names", none), "_law_names", "_law_names", defArgs sd__law_names, defBody sd__law_names, defScope sd__law_names, [], []⟩
abbrev sd__law_belts : Stmt := top 28
def d__law_belts : He.DefD := ⟨("_law_belts", none), "_law_belts", "_law_belts", defArgs sd__law_belts, defBody sd__law_belts, defScope sd__law_belts, [], []⟩
abbrev sd__law_put : Stmt := top 29
def d__law_put : He.DefD := ⟨("_law_put", none), "_law_put", "_law_put", defArgs sd__law_put, defBody sd__law_put, defScope sd__law_put, [], []⟩
abbrev sd__law_done : Stmt := top 30
def d__law_done : He.DefD := ⟨("_law_done", none), "_law_done", "_law_done", defArgs sd__law_done, defBody sd__law_done, defScope sd__law_done, [], []⟩
abbrev sd__law_lengths : Stmt := top 31
def d__law_lengths : He.DefD := ⟨("_law_lengths", none), "_law_lengths", "_law_lengths", defArgs sd__law_lengths, defBody sd__law_lengths, defScope sd__law_lengths, [], []⟩
abbrev sd__law_split : Stmt := top 32
def d__law_split : He.DefD := ⟨("_law_split", none), "_law_split", "_law_split", defArgs sd__law_split, defBody sd__law_split, defScope sd__law_split, [], []⟩
abbrev sd__law_items : Stmt := top 33
def d__law_items : He.DefD := ⟨("_law_items", none), "_law_items", "_law_items", defArgs sd__law_items, defBody sd__law_items, defScope sd__law_items, [], []⟩
abbrev sd__law_fits : Stmt := top 34
def d__law_fits : He.DefD := ⟨("_law_fits", none), "_law_fits", "_law_fits", defArgs sd__law_fits, defBody sd__law_fits, defScope sd__law_fits, [], []⟩
abbrev sd__law_are_carries : Stmt := top 35
def d__law_are_carries : He.DefD := ⟨("_law_are_carries", none), "_law_are_carries", "_law_are_carries", defArgs sd__law_are_carries, defBody sd__law_are_carries, defScope sd__law_are_carries, [], []⟩
abbrev sd__law_shuffle_right : Stmt := top 36
def d__law_shuffle_right : He.DefD := ⟨("_law_shuffle_right", none), "_law_shuffle_right", "_law_shuffle_right", defArgs sd__law_shuffle_right, defBody sd__law_shuffle_right, defScope sd__law_shuffle_right, [], []⟩
abbrev sd__law_two_holdings : Stmt := top 37
def d__law_two_holdings : He.DefD := ⟨("_law_two_holdings", none), "_law_two_holdings", "_law_two_holdings", defArgs sd__law_two_holdings, defBody sd__law_two_holdings, defScope sd__law_two_holdings, [], []⟩
abbrev sd__law_back : Stmt := top 38
def d__law_back : He.DefD := ⟨("_law_back", none), "_law_back", "_law_back", defArgs sd__law_back, defBody sd__law_back, defScope sd__law_back, [], []⟩
abbrev sd_law : Stmt := top 39
def d_law : He.DefD := ⟨("law", none), "law", "law", defArgs sd_law, defBody sd_law, defScope sd_law, [], []⟩
def fn : List He.DefD := [d_is_integer, d_is_name, d_are_lengths, d_is_item, d_is_holding, d_items_of, d_are_names_once, d_check_holdings, d_Seatsu__initu_, d_Seats_room, d_Seats_carry, d_Seats_turn, d_Seats_write, d_Seats_item, d_Seats_all_seats, d_Seats_holders, d_Seats_is_free, d_Seats_turn_back, d_carries_by_turning, d_carries_by_seats, d_shuffle, d_shuffled, d__law_dice, d__law_draw, d__law_names, d__law_belts, d__law_put, d__law_done, d__law_lengths, d__law_split, d__law_items, d__law_fits, d__law_are_carries, d__law_shuffle_right, d__law_two_holdings, d__law_back, d_law]
def fa : List He.Fa := [.glo "is_integer", .glo "is_name", .glo "are_lengths", .glo "is_item", .glo "is_holding", .glo "items_of", .glo "are_names_once", .glo "check_holdings", .mkr "Seats", .meth "Seats" "room", .meth "Seats" "carry", .meth "Seats" "turn", .meth "Seats" "write", .meth "Seats" "item", .meth "Seats" "all_seats", .meth "Seats" "holders", .meth "Seats" "is_free", .meth "Seats" "turn_back", .glo "carries_by_turning", .glo "carries_by_seats", .glo "shuffle", .glo "shuffled", .glo "_law_dice", .glo "_law_draw", .glo "_law_names", .glo "_law_belts", .glo "_law_put", .glo "_law_done", .glo "_law_lengths", .glo "_law_split", .glo "_law_items", .glo "_law_fits", .glo "_law_are_carries", .glo "_law_shuffle_right", .glo "_law_two_holdings", .glo "_law_back", .glo "law", .glo "BeltsError", .glo "NoHolding", .glo "Seats", .cls "Seats", .str "LETTERS" "abcdefghijklmnopqrstuvwxyz", .int "MOST_LETTERS" 8, .int "MOST_BELTS" 6, .int "MOST_ROOMS" 8, .int "MOST_SIZE" 12, .free "ValueError", .free "abs", .free "all", .free "bool", .free "enumerate", .free "int", .free "isinstance", .free "len", .free "list", .free "max", .free "min", .free "range", .free "repr", .free "str", .free "sum", .free "tuple", .free "zip", .noat "Seats" "held", .noat "Seats" "moved", .noat "Seats" "trail"]
abbrev R : PySem.W.OpenRow := PySem.W.OpenLaw.row PySem.Challenge.rw_fullbelts_k66_whole_shuffles
abbrev hk : PySem.W.Hook := He.hookD 5 fa fn
def ob (s : PySem.W.SharedT) : He.AlD := He.obsDG 5 fa fn (HandSHeadRun.getT s)
theorem ob_eq (s : PySem.W.SharedT) : ob s = hk.obs s.abs := He.obsDG_eq (HandSHeadRun.getT_eq s)
def loose : List PySem.Str := [Str.ofString "BeltsError", Str.ofString "NoHolding", Str.ofString "LETTERS", Str.ofString "MOST_LETTERS", Str.ofString "is_integer", Str.ofString "is_name", Str.ofString "MOST_BELTS", Str.ofString "MOST_ROOMS", Str.ofString "MOST_SIZE", Str.ofString "are_lengths", Str.ofString "is_item", Str.ofString "is_holding", Str.ofString "items_of", Str.ofString "are_names_once", Str.ofString "check_holdings", Str.ofString "Seats", Str.ofString "carries_by_turning", Str.ofString "carries_by_seats", Str.ofString "shuffle", Str.ofString "shuffled", Str.ofString "_law_dice", Str.ofString "_law_draw", Str.ofString "_law_names", Str.ofString "_law_belts", Str.ofString "_law_put", Str.ofString "_law_done", Str.ofString "_law_lengths", Str.ofString "_law_split", Str.ofString "_law_items", Str.ofString "_law_fits", Str.ofString "_law_are_carries", Str.ofString "_law_shuffle_right", Str.ofString "_law_two_holdings", Str.ofString "_law_back"]
theorem run (w : World) : HandSHeadRun.RunEq R (PySem.W.view R.prog [39]) hk ob 4000 loose w := by
  intro os
  kernel_rfl
end G
set_option Elab.async false
set_option linter.all false
set_option maxRecDepth 100000
set_option maxHeartbeats 4000000
namespace G
open PySem PySem.Spec L2 DL
local macro_rules | `(tactic| walk_at "e") => `(tactic| first
  | with_reducible refine WE_int ?_
  | with_reducible refine WE_str ?_
  | with_reducible refine WE_bl ?_
  | with_reducible refine WE_non ?_
  | with_reducible refine WE_ty ?_
  | refine WE_var rfl ?_
  | with_reducible refine WA_nil ?_
  | with_reducible refine WA_cons ?_
  | with_reducible refine WO_none ?_
  | with_reducible refine WO_some ?_
  | with_reducible refine WT_val ?_
  | with_reducible refine WT_test ?_
  | with_reducible refine WT_not ?_
  | with_reducible refine WT_and ?_
  | with_reducible refine WT_or ?_
  | with_reducible refine WT_yes ?_
  | with_reducible refine WE_andV ?_
  | with_reducible refine WE_orV ?_
  | with_reducible refine WE_notV ?_
  | with_reducible refine WE_if ?_
  | with_reducible refine WE_tup ?_
  | with_reducible refine WE_neg ?_
  | with_reducible refine WE_op lAdd ?_
  | with_reducible refine WE_op lMul_int ?_
  | with_reducible refine WE_op lEq ?_
  | with_reducible refine WE_op lNe ?_
  | with_reducible refine WE_op lIsN ?_
  | with_reducible refine WE_op lNotN ?_
  | with_reducible refine WE_op lIx ?_
  | with_reducible refine WE_op lIntB ?_
  | with_reducible refine WE_op lIntC ?_
  | with_reducible refine WE_op lInt ?_
  | with_reducible refine WE_cb lIsi ?_
  | with_reducible refine WE_cb lLenA ?_
  | with_reducible refine WE_cb lTupleOfK ?_
  | with_reducible refine WE_cb lAbs ?_
  | with_reducible refine WE_cb lIntOf ?_
  | with_reducible refine WE_cb lMin2 ?_
  | with_reducible refine WE_cb lMax2 ?_
  | with_reducible refine WE_call ?_
  | with_reducible refine WE_chain lIntB lIntB ?_
  | with_reducible refine WS_seq ?_
  | with_reducible refine WS_ret ?_
  | with_reducible refine WS_retN ?_
  | with_reducible refine WS_set ?_
  | refine WS_asg2 rfl ?_
  | refine WS_asg3 rfl ?_
  | with_reducible refine WS_drop ?_
  | with_reducible refine WS_if ?_
  | with_reducible refine WS_next ?_
  | with_reducible refine WG_name ?_
  | with_reducible refine WG_tup rfl ?_
  | with_reducible refine WGs_cons ?_
  | with_reducible refine WGs_nil ?_
  | with_reducible refine dAdd_i ?_
  | with_reducible refine dInt_i ?_
  | with_reducible refine dIsi_i rfl (by decide) ?_
  | with_reducible refine dLenA_t ?_
  | with_reducible refine dLenA_l ?_
  | with_reducible refine dIsN_i ?_
  | with_reducible refine dNotN_i ?_
  | with_reducible refine dAbs_i ?_
  | with_reducible refine dIntOf_i ?_
  | with_reducible refine iteN (by decide) ?_
  | with_reducible refine iteY (by decide) ?_
  | refine iteT ?_
  | refine iteF ?_
  | with_reducible refine is2_i ?_
  | with_reducible refine is3_i ?_
  | with_reducible refine ⟨_, rfl, ?_⟩)
local macro_rules | `(tactic| walk_at "es") => `(tactic| repeat walk_at "e")

structure Md (K : PySem.W.Frag) (mg : Str → Option Value) : Prop where
  f_ValueError : mg "ValueError" = none
  f_abs : mg "abs" = none
  f_all : mg "all" = none
  f_bool : mg "bool" = none
  f_enumerate : mg "enumerate" = none
  f_int : mg "int" = none
  f_isinstance : mg "isinstance" = none
  f_len : mg "len" = none
  f_list : mg "list" = none
  f_max : mg "max" = none
  f_min : mg "min" = none
  f_range : mg "range" = none
  f_repr : mg "repr" = none
  f_str : mg "str" = none
  f_sum : mg "sum" = none
  f_tuple : mg "tuple" = none
  f_zip : mg "zip" = none
  c_LETTERS : ∃ t, mg "LETTERS" = some (.str "abcdefghijklmnopqrstuvwxyz" t)
  c_MOST_LETTERS : ∃ t, mg "MOST_LETTERS" = some (.int 8 t)
  c_MOST_BELTS : ∃ t, mg "MOST_BELTS" = some (.int 6 t)
  c_MOST_ROOMS : ∃ t, mg "MOST_ROOMS" = some (.int 8 t)
  c_MOST_SIZE : ∃ t, mg "MOST_SIZE" = some (.int 12 t)
  cl_Seats : Cls K (He.ga K "Seats")
  na_Seats_held : NoAttr K (He.ga K "Seats") "held"
  na_Seats_moved : NoAttr K (He.ga K "Seats") "moved"
  na_Seats_trail : NoAttr K (He.ga K "Seats") "trail"
section
variable {P : Program} {w : World} {K : PySem.W.Frag} {mg : Str → Option Value} {base : Heap}
def F_is_integer : FS := fun ds μ Q => ∃ (d : D) (n : String), ds = [d] ∧ tyName μ d = some n ∧ Q (.bl (n == "int")) μ
theorem isiT_int {n : String} (h : n ∈ tyNames) : (if isiT n "int" = true then !isiT n "bool" else false) = (n == "int") := by
  revert n; decide
theorem sc_is_integer : FnScope ["thing"] ["thing"] (defScope sd_is_integer) := ⟨rfl, rfl, rfl, by decide +kernel, rfl, by decide +kernel, by decide +kernel⟩
theorem ok_is_integer {f : Addr} {fd : FuncData} (T : Md K mg)  (Fd : FunD K "is_integer" "is_integer" (defArgs sd_is_integer) (defBody sd_is_integer) (defScope sd_is_integer) [] [] f fd) : FnOk P w K mg base CX0 1 f fd ["thing"] (spOf F_is_integer) := by
  refine fn_data Fd sc_is_integer (fun ds μ R h => by (obtain ⟨d, n, rfl, hn, q⟩ := h; rfl)) fun cdv A outer s H E hr => ⟨_, (pss_one (ps_ret (pe_and (pe_callB (kIsi (K := K) rfl) (by rfl) T.f_isinstance (by decide +kernel) (pa_cons (pv 0) (pa_cons (pe_bty "int" (by rfl) T.f_int (by decide +kernel)) pa_nil))) (pe_one (pe_not (pe_callB (kIsi (K := K) rfl) (by rfl) T.f_isinstance (by decide +kernel) (pa_cons (pv 0) (pa_cons (pe_bty "bool" (by rfl) T.f_bool (by decide +kernel)) pa_nil)))))))), fun N ds R h => ?_⟩
  obtain ⟨d, n, rfl, hn, q⟩ := h
  walk_at "es"
  refine dIsi_i hn (by decide) ?_
  walk_at "es"
  have e := isiT_int (tyName_in hn)
  split
  · rename_i h
    rw [if_pos h] at e
    walk_at "es"
    refine dIsi_i hn (by decide) ?_
    walk_at "es"
    exact retE_i (by rw [e]; exact q) (SubS.refl _)
  · rename_i h
    rw [if_neg h] at e
    exact retE_i (by rw [e]; exact q) (SubS.refl _)
def F_is_name : FS := fun ds μ Q => ∃ (x : Str), ds = [.str x] ∧ isNm x ∧ Q (.bl true) μ
theorem signs_map (x : Str) : signsD x = x.cps.toList.map fun c => D.str ⟨#[c]⟩ := rfl
theorem sc_is_name : FnScope ["thing", "sign"] ["thing"] (defScope sd_is_name) := ⟨rfl, rfl, rfl, by decide +kernel, rfl, by decide +kernel, by decide +kernel⟩
theorem ok_is_name {f : Addr} {fd : FuncData} (T : Md K mg)  (Fd : FunD K "is_name" "is_name" (defArgs sd_is_name) (defBody sd_is_name) (defScope sd_is_name) [] [] f fd) : FnOk P w K mg base CX0 1 f fd ["thing"] (spOf F_is_name) := by
  refine fn_data Fd sc_is_name (fun ds μ R h => by (obtain ⟨x, rfl, hx, q⟩ := h; rfl)) fun cdv A outer s H E hr => ⟨_, (pss_cons (ps_if (PW.pt (pw_or (pt_not (pt_val (pe_callB (kIsi (K := K) rfl) (by rfl) T.f_isinstance (by decide +kernel) (pa_cons (pv 0) (pa_cons (pe_bty "str" (by rfl) T.f_str (by decide +kernel)) pa_nil))))) (pw_or1 (pt_not (pt_chain op_le op_le pe_int (pe_callB (kLen (K := K) rfl) (by rfl) T.f_len (by decide +kernel) (pa_cons (pv 0) pa_nil)) (pe_gint (by rfl) T.c_MOST_LETTERS)))))) (pss_one (ps_ret pe_bl)) pss_nil)
    (pss_one (ps_ret (pe_callB (kAll (K := K) rfl rfl) (by rfl) T.f_all (by decide +kernel) (pa_cons (pe_lc (own := [("sign", 1)]) (by rfl) sc_is_name.nd (kWalk (K := K) rfl (pv 0)) (by first | exact blkOk_by (own := [("sign", 1)]) (by decide +kernel) | exact blkOk_by (own := [("sign", 1)]) (by kernel_rfl)) (fun _ _ _ _ _ => (pg_name (i := 1) sc_is_name.nd rfl (by first | exact Or.inl rfl | exact Or.inr rfl))) (fun _ _ _ _ _ => pts_nil) (fun _ _ _ _ _ => (pe_cmpR (kIn (K := K) rfl) (pv 1) (pe_gstr (by rfl) T.c_LETTERS) (by first | exact nomark _ | rfl)))) pa_nil))))), fun N ds R h => ?_⟩
  obtain ⟨x, rfl, hx, q⟩ := h
  walk_at "es"
  refine dLenA_s hx.line ?_
  walk_at "es"
  have h1 : (1 : Int) ≤ x.length := by have := hx.1; omega
  have h2 : (x.length : Int) ≤ 8 := by have := hx.2.1; omega
  rw [dec_t h1]
  walk_at "es"
  rw [dec_t h2]
  walk_at "es"
  refine WE_allT (α := Nat) (js := [1]) (by decide) (WI_txt ?_)
  walk_at "es"
  refine ⟨x.cps.toList, fun c => .str ⟨#[c]⟩, rfl, ?_, fun c hc => WG_name ?_, retE_i q (SubS.refl _)⟩
  · have e : x.cps.toList.length = x.length := by simp [Str.length]
    rw [e]; exact hx.line
  · refine WE_op lIn_sign ?_
    walk_at "es"
    refine dInSign_i ⟨congrArg D.bl (decide_eq_true (hx.2.2 c hc)), rfl⟩
def F_are_lengths : FS := fun ds μ Q => ∃ (ns : List Nat), ds = [.tup (ns.map fun (n : Nat) => D.int (n : Int))] ∧ OkL ns ∧ Q (.bl true) μ
theorem sc_are_lengths : FnScope ["thing", "length"] ["thing"] (defScope sd_are_lengths) := ⟨rfl, rfl, rfl, by decide +kernel, rfl, by decide +kernel, by decide +kernel⟩
theorem ok_are_lengths {f : Addr} {fd : FuncData} (T : Md K mg) (h_is_integer : Has P w K mg base "is_integer" 1 ["thing"] F_is_integer) (Fd : FunD K "are_lengths" "are_lengths" (defArgs sd_are_lengths) (defBody sd_are_lengths) (defScope sd_are_lengths) [] [] f fd) : FnOk P w K mg base CX0 2 f fd ["thing"] (spOf F_are_lengths) := by
  refine fn_data Fd sc_are_lengths (fun ds μ R h => by (obtain ⟨ns, rfl, hx, q⟩ := h; rfl)) fun cdv A outer s H E hr => ⟨_, (pss_cons (ps_if (PW.pt (pw_or (pt_not (pt_val (pe_callB (kIsi (K := K) rfl) (by rfl) T.f_isinstance (by decide +kernel) (pa_cons (pv 0) (pa_cons (pe_bty "tuple" (by rfl) T.f_tuple (by decide +kernel)) pa_nil))))) (pw_or1 (pt_not (pt_chain op_le op_le pe_int (pe_callB (kLen (K := K) rfl) (by rfl) T.f_len (by decide +kernel) (pa_cons (pv 0) pa_nil)) (pe_gint (by rfl) T.c_MOST_BELTS)))))) (pss_one (ps_ret pe_bl)) pss_nil)
    (pss_cons (ps_if (pt_not (pt_val (pe_callB (kAll (K := K) rfl rfl) (by rfl) T.f_all (by decide +kernel) (pa_cons (pe_lc (own := [("length", 1)]) (by rfl) sc_are_lengths.nd (kWalk (K := K) rfl (pv 0)) (by first | exact blkOk_by (own := [("length", 1)]) (by decide +kernel) | exact blkOk_by (own := [("length", 1)]) (by kernel_rfl)) (fun _ _ _ _ _ => (pg_name (i := 1) sc_are_lengths.nd rfl (by first | exact Or.inl rfl | exact Or.inr rfl))) (fun _ _ _ _ _ => pts_nil) (fun _ _ _ _ _ => (pe_and (pe_fn h_is_integer (hr.mono (by decide)) (by rfl) (pa_cons (pv 1) pa_nil)) (pe_one (pe_chain op_le op_le pe_int (pv 1) (pe_gint (by rfl) T.c_MOST_ROOMS)))))) pa_nil)))) (pss_one (ps_ret pe_bl)) pss_nil)
    (pss_one (ps_ret (pe_cmpR op_le (pe_callB (kSum (K := K) rfl rfl) (by rfl) T.f_sum (by decide +kernel) (pa_cons (pv 0) pa_nil)) (pe_gint (by rfl) T.c_MOST_SIZE) (by first | exact nomark _ | rfl)))))), fun N ds R h => ?_⟩
  obtain ⟨ns, rfl, hx, q⟩ := h
  walk_at "es"
  rw [List.length_map]
  have h1 : (1 : Int) ≤ ns.length := by have := hx.1; omega
  have h2 : (ns.length : Int) ≤ 6 := by have := hx.2.1; omega
  rw [dec_t h1]
  walk_at "es"
  rw [dec_t h2]
  walk_at "es"
  refine WE_allT (α := Nat) (js := [1]) (by decide) (WI_tpl ?_)
  walk_at "es"
  refine ⟨ns, fun (n : Nat) => D.int (n : Int), rfl, ?_, fun n hn => WG_name ?_, ?_⟩
  · exact Nat.le_trans hx.2.1 (Nat.le_trans (by decide) line_big)
  · walk_at "es"
    refine ⟨.int (n : Int), "int", rfl, rfl, ?_⟩
    walk_at "es"
    have h3 := hx.2.2.1 n hn
    have h4 : (1 : Int) ≤ n := by omega
    have h5 : (n : Int) ≤ 8 := by omega
    rw [dec_t h4]
    walk_at "es"
    rw [dec_t h5]
    exact ⟨rfl, rfl⟩
  · walk_at "es"
    have e : ns.map (fun (n : Nat) => D.int (n : Int)) = (ns.map fun (n : Nat) => (n : Int)).map D.int := by rw [List.map_map]; rfl
    rw [e]
    refine WE_cb lSum_tup (WA_cons (WE_var rfl (WA_nil (dSumT_i ?_))))
    walk_at "es"
    have e2 : (ns.map fun (n : Nat) => (n : Int)).sum = (ns.sum : Int) := by
      clear hx h1 h2 e q
      induction ns with
      | nil => rfl
      | cons n r ih => rw [List.map_cons, List.sum_cons, List.sum_cons, ih]; omega
    have h3 : ((ns.map fun (n : Nat) => (n : Int)).sum) ≤ 12 := by rw [e2]; have := hx.2.2.2; omega
    rw [dec_t h3]
    exact retE_i q (SubS.refl _)
def F_is_item : FS := fun ds μ Q => ∃ (i : Item), ds = [encI i] ∧ Q (.bl true) μ
theorem sc_is_item : FnScope ["thing"] ["thing"] (defScope sd_is_item) := ⟨rfl, rfl, rfl, by decide +kernel, rfl, by decide +kernel, by decide +kernel⟩
theorem ok_is_item {f : Addr} {fd : FuncData} (T : Md K mg) (h_is_integer : Has P w K mg base "is_integer" 1 ["thing"] F_is_integer) (Fd : FunD K "is_item" "is_item" (defArgs sd_is_item) (defBody sd_is_item) (defScope sd_is_item) [] [] f fd) : FnOk P w K mg base CX0 2 f fd ["thing"] (spOf F_is_item) := by
  refine fn_data Fd sc_is_item (fun ds μ R h => by (obtain ⟨i, rfl, q⟩ := h; rfl)) fun cdv A outer s H E hr => ⟨_, (pss_one (ps_ret (pe_or (pe_cmpR op_isN (pv 0) pe_non (by first | exact nomark _ | rfl)) (pe_or (pe_callB (kIsi (K := K) rfl) (by rfl) T.f_isinstance (by decide +kernel) (pa_cons (pv 0) (pa_cons (pe_bty "str" (by rfl) T.f_str (by decide +kernel)) pa_nil))) (pe_one (pe_fn h_is_integer (hr.mono (by decide)) (by rfl) (pa_cons (pv 0) pa_nil))))))), fun N ds R h => ?_⟩
  obtain ⟨i, rfl, q⟩ := h
  cases i with
  | none =>
    walk_at "es"
    exact retE_i q (SubS.refl _)
  | some x =>
    walk_at "es"
    exact retE_i q (SubS.refl _)
theorem encR_map (h : Hol) : encH h = .tup (h.map encR) := rfl
def F_is_holding : FS := fun ds μ Q => ∃ (h : Hol), ds = [encH h] ∧ OkL (lens h) ∧ Q (.bl true) μ
theorem sc_is_holding : FnScope ["thing", "row", "item"] ["thing"] (defScope sd_is_holding) := ⟨rfl, rfl, rfl, by decide +kernel, rfl, by decide +kernel, by decide +kernel⟩
theorem ok_is_holding {f : Addr} {fd : FuncData} (T : Md K mg) (h_are_lengths : Has P w K mg base "are_lengths" 2 ["thing"] F_are_lengths) (h_is_item : Has P w K mg base "is_item" 2 ["thing"] F_is_item) (Fd : FunD K "is_holding" "is_holding" (defArgs sd_is_holding) (defBody sd_is_holding) (defScope sd_is_holding) [] [] f fd) : FnOk P w K mg base CX0 3 f fd ["thing"] (spOf F_is_holding) := by
  refine fn_data Fd sc_is_holding (fun ds μ R h => by (obtain ⟨h, rfl, hx, q⟩ := h; rfl)) fun cdv A outer s H E hr => ⟨_, (pss_cons (ps_if (PW.pt (pw_or (pt_not (pt_val (pe_callB (kIsi (K := K) rfl) (by rfl) T.f_isinstance (by decide +kernel) (pa_cons (pv 0) (pa_cons (pe_bty "tuple" (by rfl) T.f_tuple (by decide +kernel)) pa_nil))))) (pw_or1 (pt_not (pt_val (pe_callB (kAll (K := K) rfl rfl) (by rfl) T.f_all (by decide +kernel) (pa_cons (pe_lc (own := [("row", 1)]) (by rfl) sc_is_holding.nd (kWalk (K := K) rfl (pv 0)) (by first | exact blkOk_by (own := [("row", 1)]) (by decide +kernel) | exact blkOk_by (own := [("row", 1)]) (by kernel_rfl)) (fun _ _ _ _ _ => (pg_name (i := 1) sc_is_holding.nd rfl (by first | exact Or.inl rfl | exact Or.inr rfl))) (fun _ _ _ _ _ => pts_nil) (fun _ _ _ _ _ => (pe_callB (kIsi (K := K) rfl) (by rfl) T.f_isinstance (by decide +kernel) (pa_cons (pv 1) (pa_cons (pe_bty "tuple" (by rfl) T.f_tuple (by decide +kernel)) pa_nil))))) pa_nil))))))) (pss_one (ps_ret pe_bl)) pss_nil)
    (pss_cons (ps_if (pt_not (pt_val (pe_callB (kAll (K := K) rfl rfl) (by rfl) T.f_all (by decide +kernel) (pa_cons (pe_lc (own := [("row", 1)]) (by rfl) sc_is_holding.nd (kWalk (K := K) rfl (pv 0)) (by first | exact blkOk_by (own := [("row", 1)]) (by decide +kernel) | exact blkOk_by (own := [("row", 1)]) (by kernel_rfl)) (fun _ _ _ _ _ => (pg_name (i := 1) sc_is_holding.nd rfl (by first | exact Or.inl rfl | exact Or.inr rfl))) (fun _ _ _ _ _ => pts_nil) (fun _ _ _ _ _ => (pe_callB (kAll (K := K) rfl rfl) (by rfl) T.f_all (by decide +kernel) (pa_cons (pe_lc (own := [("item", 2)]) (by rfl) sc_is_holding.nd (kWalk (K := K) rfl (pv 1)) (by first | exact blkOk_by (own := [("item", 2)]) (by decide +kernel) | exact blkOk_by (own := [("item", 2)]) (by kernel_rfl)) (fun _ _ _ _ _ => (pg_name (i := 2) sc_is_holding.nd rfl (by first | exact Or.inl rfl | exact Or.inr rfl))) (fun _ _ _ _ _ => pts_nil) (fun _ _ _ _ _ => (pe_fn h_is_item (hr.mono (by decide)) (by rfl) (pa_cons (pv 2) pa_nil)))) pa_nil)))) pa_nil)))) (pss_one (ps_ret pe_bl)) pss_nil)
    (pss_one (ps_ret (pe_fn h_are_lengths (hr.mono (by decide)) (by rfl) (pa_cons (pe_callTy (kTupleOf (K := K) rfl) (by rfl) T.f_tuple (by decide +kernel) (pa_cons (pe_lc (own := [("row", 1)]) (by rfl) sc_is_holding.nd (kWalk (K := K) rfl (pv 0)) (by first | exact blkOk_by (own := [("row", 1)]) (by decide +kernel) | exact blkOk_by (own := [("row", 1)]) (by kernel_rfl)) (fun _ _ _ _ _ => (pg_name (i := 1) sc_is_holding.nd rfl (by first | exact Or.inl rfl | exact Or.inr rfl))) (fun _ _ _ _ _ => pts_nil) (fun _ _ _ _ _ => (pe_callB (kLen (K := K) rfl) (by rfl) T.f_len (by decide +kernel) (pa_cons (pv 1) pa_nil)))) pa_nil)) pa_nil)))))), fun N ds R h => ?_⟩
  obtain ⟨h, rfl, hx, q⟩ := h
  have hs := hx.size
  have l6 : h.length ≤ sizeLine := Nat.le_trans hs.1 (Nat.le_trans (by decide) line_big)
  walk_at "es"
  refine WE_allT (α := Row) (js := [1]) (by decide) (WI_tpl ?_)
  walk_at "es"
  refine ⟨h, encR, rfl, l6, fun r hr => WG_name ?_, ?_⟩
  · walk_at "es"
    exact ⟨rfl, rfl⟩
  walk_at "es"
  refine WE_allT (α := Row) (js := [1]) (by decide) (WI_tpl ?_)
  walk_at "es"
  refine ⟨h, encR, rfl, l6, fun r hr => WG_name ?_, ?_⟩
  · refine WE_allT (α := Item) (js := [2]) (by decide) (WI_tpl ?_)
    walk_at "es"
    refine ⟨r, encI, rfl, ?_, fun i hi => WG_name ?_, rfl, rfl⟩
    · exact Nat.le_trans (hs.2.1 r hr).2 (Nat.le_trans (by decide) line_big)
    · walk_at "es"
      exact ⟨i, rfl, rfl, rfl⟩
  walk_at "es"
  refine WE_frozen (WEn_mapT (α := Row) (js := [1]) (by decide) (WI_tpl ?_))
  walk_at "es"
  refine ⟨h, encR, fun r => .int (r.length : Int), rfl, l6, fun r hr => WG_name ?_, ?_⟩
  · walk_at "es"
    refine dLenA_t ⟨?_, rfl⟩
    rw [List.length_map]
  walk_at "es"
  refine dTupleOf_i rfl ?_
  walk_at "es"
  refine ⟨lens h, ?_, hx, retE_i q (SubS.refl _)⟩
  unfold lens
  rw [List.map_map]; rfl
def F_items_of : FS := fun ds μ Q => ∃ (h : Hol), ds = [encH h] ∧ h.flatten.length ≤ 1000 ∧ h.length ≤ 1000 ∧ Q (.lst ((items h).map .str)) μ
theorem items_lc (h : Hol) : (h.flatMap fun r => (r.filter fun i => !isNonD (encI i)).map encI) = (items h).map .str := by
  unfold items
  induction h with
  | nil => rfl
  | cons r h ih =>
    rw [List.flatMap_cons, List.flatMap_cons, List.map_append, ih]
    congr 1
    induction r with
    | nil => rfl
    | cons i r ih2 =>
      cases i with
      | none => exact ih2
      | some x => exact congrArg (D.str x :: ·) ih2
theorem items_lc_len (h : Hol) : (h.flatMap fun r => (r.filter fun i => !isNonD (encI i)).map encI).length ≤ h.flatten.length := by
  rw [items_lc, List.length_map]; exact items_len h
theorem sc_items_of : FnScope ["holding", "row", "item"] ["holding"] (defScope sd_items_of) := ⟨rfl, rfl, rfl, by decide +kernel, rfl, by decide +kernel, by decide +kernel⟩
theorem ok_items_of {f : Addr} {fd : FuncData} (T : Md K mg)  (Fd : FunD K "items_of" "items_of" (defArgs sd_items_of) (defBody sd_items_of) (defScope sd_items_of) [] [] f fd) : FnOk P w K mg base CX0 1 f fd ["holding"] (spOf F_items_of) := by
  refine fn_data Fd sc_items_of (fun ds μ R h => by (obtain ⟨h, rfl, hl, hl2, q⟩ := h; rfl)) fun cdv A outer s H E hr => ⟨_, (pss_one (ps_ret (pe_lc2 (own := [("row", 1), ("item", 2)]) (vs1 := [2]) (by rfl) sc_items_of.nd (kWalk (K := K) rfl (pv 0)) (by first | exact blkOk_by (own := [("row", 1), ("item", 2)]) (by decide +kernel) | exact blkOk_by (own := [("row", 1), ("item", 2)]) (by kernel_rfl)) (by decide) (fun _ _ _ _ _ => (pg_name (i := 1) sc_items_of.nd rfl (by first | exact Or.inl rfl | exact Or.inr rfl))) (fun _ _ _ _ _ => pts_nil) (fun _ _ _ _ _ => (kWalk (K := K) rfl (pv 1))) (fun _ _ _ _ _ => (pg_name (i := 2) sc_items_of.nd rfl (by first | exact Or.inl rfl | exact Or.inr rfl))) (fun _ _ _ _ _ => (pts_one (pt_cmpR op_notN (pv 2) pe_non (by first | exact nomark _ | rfl)))) (fun _ _ _ _ _ => (pv 2))))), fun N ds R h => ?_⟩
  obtain ⟨h, rfl, hl, hl2, q⟩ := h
  walk_at "es"
  refine WE_frozen (WEn_lc2 (α := Row) (β := Item) (js := [1]) (js1 := [2]) (by decide) (by decide) (WI_tpl ?_))
  walk_at "es"
  refine ⟨h, encR, id, encI, fun _ i => !isNonD (encI i), fun _ i => encI i, rfl, ?_, fun r hr => WG_name ⟨rfl, WI_tpl ?_⟩, ?_⟩
  · exact Nat.le_trans (items_lc_len h) (Nat.le_trans hl (Nat.le_trans (by decide) line_big))
  · walk_at "es"
    refine ⟨rfl, rfl, fun i hi => WG_name ?_⟩
    walk_at "es"
    refine ⟨rfl, rfl, fun _ => ?_⟩
    walk_at "es"
    exact ⟨rfl, rfl⟩
  · show (retE N.μ R).rt (.lst (h.flatMap fun r => (r.filter fun i => !isNonD (encI i)).map encI)) N.μ
    rw [items_lc]
    exact retE_i q (SubS.refl _)
def F_are_names_once : FS := fun ds μ Q => ∃ (h : Hol), ds = [encH h] ∧ namesOk h ∧ h.flatten.length ≤ 1000 ∧ h.length ≤ 1000 ∧ Q (.bl true) μ
theorem sc_are_names_once : FnScope ["holding", "found", "item"] ["holding"] (defScope sd_are_names_once) := ⟨rfl, rfl, rfl, by decide +kernel, rfl, by decide +kernel, by decide +kernel⟩
theorem ok_are_names_once {f : Addr} {fd : FuncData} (T : Md K mg) (h_items_of : Has P w K mg base "items_of" 1 ["holding"] F_items_of) (h_is_name : Has P w K mg base "is_name" 1 ["thing"] F_is_name) (Fd : FunD K "are_names_once" "are_names_once" (defArgs sd_are_names_once) (defBody sd_are_names_once) (defScope sd_are_names_once) [] [] f fd) : FnOk P w K mg base CX0 2 f fd ["holding"] (spOf F_are_names_once) := by
  refine fn_data Fd sc_are_names_once (fun ds μ R h => by (obtain ⟨h, rfl, hn, hl, hl2, q⟩ := h; rfl)) fun cdv A outer s H E hr => ⟨_, (pss_cons (ps_set (i := 1) sc_are_names_once.nd rfl (by first | exact Or.inl rfl | exact Or.inr rfl) (pe_fn h_items_of (hr.mono (by decide)) (by rfl) (pa_cons (pv 0) pa_nil)))
    (pss_one (ps_ret (pe_and (pe_callB (kAll (K := K) rfl rfl) (by rfl) T.f_all (by decide +kernel) (pa_cons (pe_lc (own := [("item", 2)]) (by rfl) sc_are_names_once.nd (kWalk (K := K) rfl (pv 1)) (by first | exact blkOk_by (own := [("item", 2)]) (by decide +kernel) | exact blkOk_by (own := [("item", 2)]) (by kernel_rfl)) (fun _ _ _ _ _ => (pg_name (i := 2) sc_are_names_once.nd rfl (by first | exact Or.inl rfl | exact Or.inr rfl))) (fun _ _ _ _ _ => pts_nil) (fun _ _ _ _ _ => (pe_fn h_is_name (hr.mono (by decide)) (by rfl) (pa_cons (pv 2) pa_nil)))) pa_nil)) (pe_one (pe_cmpR (kEq (K := K) rfl hr.units) (pe_callB cr_lenK (by rfl) T.f_len (by decide +kernel) (pa_cons (pe_scK (own := [("item", 2)]) (by rfl) sc_are_names_once.nd (kWalk (K := K) rfl (pv 1)) (by first | exact blkOk_by (own := [("item", 2)]) (by decide +kernel) | exact blkOk_by (own := [("item", 2)]) (by kernel_rfl)) (fun _ _ _ _ _ => (pg_name (i := 2) sc_are_names_once.nd rfl (by first | exact Or.inl rfl | exact Or.inr rfl))) (fun _ _ _ _ _ => pts_nil) (fun _ _ _ _ _ => (pv 2))) pa_nil)) (pe_callB (kLen (K := K) rfl) (by rfl) T.f_len (by decide +kernel) (pa_cons (pv 1) pa_nil)) (by first | exact nomark _ | rfl))))))), fun N ds R h => ?_⟩
  obtain ⟨h, rfl, hn, hl, hl2, q⟩ := h
  have hlen : (items h).length ≤ 1000 := Nat.le_trans (items_len h) hl
  walk_at "es"
  refine ⟨h, rfl, hl, hl2, ?_⟩
  walk_at "es"
  refine WE_allT (α := Str) (js := [2]) (by decide) (WI_lst ?_)
  walk_at "es"
  refine ⟨items h, D.str, rfl, Nat.le_trans hlen (Nat.le_trans (by decide) line_big), fun x hx => WG_name ?_, ?_⟩
  · walk_at "es"
    exact ⟨x, rfl, hn.1 x hx, rfl, rfl⟩
  walk_at "es"
  refine WE_lenset Str (js := [2]) (by decide) (WI_lst ?_)
  walk_at "es"
  refine ⟨items h, D.str, Sum.inr, rfl, Nat.lt_of_le_of_lt (Nat.succ_le_succ hlen) (by decide), fun x hx => WG_name ?_, ?_⟩
  · walk_at "es"
    exact ⟨rfl, rfl⟩
  walk_at "es"
  refine dEq_int ?_
  have e : (nubK ((items h).map Sum.inr)).length = ((items h).map D.str).length := by
    rw [nubK_nodup (hn.2.map _ fun a b hab e => hab (Sum.inr.inj e)), List.length_map, List.length_map]
  rw [e, decide_eq_true rfl]
  exact retE_i q (SubS.refl _)
end
end G
set_option Elab.async false
set_option linter.all false
set_option maxRecDepth 100000
set_option maxHeartbeats 4000000
namespace G
open PySem PySem.Spec L2 DL
local macro_rules | `(tactic| walk_at "e") => `(tactic| first
  | with_reducible refine WE_int ?_
  | with_reducible refine WE_str ?_
  | with_reducible refine WE_bl ?_
  | with_reducible refine WE_non ?_
  | with_reducible refine WE_ty ?_
  | refine WE_var rfl ?_
  | with_reducible refine WA_nil ?_
  | with_reducible refine WA_cons ?_
  | with_reducible refine WO_none ?_
  | with_reducible refine WO_some ?_
  | with_reducible refine WT_val ?_
  | with_reducible refine WT_test ?_
  | with_reducible refine WT_not ?_
  | with_reducible refine WT_and ?_
  | with_reducible refine WT_or ?_
  | with_reducible refine WT_yes ?_
  | with_reducible refine WE_andV ?_
  | with_reducible refine WE_orV ?_
  | with_reducible refine WE_notV ?_
  | with_reducible refine WE_if ?_
  | with_reducible refine WE_tup ?_
  | with_reducible refine WE_neg ?_
  | with_reducible refine WE_op lAdd ?_
  | with_reducible refine WE_op lMul_int ?_
  | with_reducible refine WE_op lEq ?_
  | with_reducible refine WE_op lNe ?_
  | with_reducible refine WE_op lIsN ?_
  | with_reducible refine WE_op lNotN ?_
  | with_reducible refine WE_op lIx ?_
  | with_reducible refine WE_op lIntB ?_
  | with_reducible refine WE_op lIntC ?_
  | with_reducible refine WE_op lInt ?_
  | with_reducible refine WE_cb lIsi ?_
  | with_reducible refine WE_cb lLenA ?_
  | with_reducible refine WE_cb lTupleOfK ?_
  | with_reducible refine WE_cb lAbs ?_
  | with_reducible refine WE_cb lIntOf ?_
  | with_reducible refine WE_cb lMin2 ?_
  | with_reducible refine WE_cb lMax2 ?_
  | with_reducible refine WE_call ?_
  | with_reducible refine WE_chain lIntB lIntB ?_
  | with_reducible refine WS_seq ?_
  | with_reducible refine WS_ret ?_
  | with_reducible refine WS_retN ?_
  | with_reducible refine WS_set ?_
  | refine WS_asg2 rfl ?_
  | refine WS_asg3 rfl ?_
  | with_reducible refine WS_drop ?_
  | with_reducible refine WS_if ?_
  | with_reducible refine WS_next ?_
  | with_reducible refine WG_name ?_
  | with_reducible refine WG_tup rfl ?_
  | with_reducible refine WGs_cons ?_
  | with_reducible refine WGs_nil ?_
  | with_reducible refine dAdd_i ?_
  | with_reducible refine dInt_i ?_
  | with_reducible refine dIsi_i rfl (by decide) ?_
  | with_reducible refine dLenA_t ?_
  | with_reducible refine dLenA_l ?_
  | with_reducible refine dIsN_i ?_
  | with_reducible refine dNotN_i ?_
  | with_reducible refine dAbs_i ?_
  | with_reducible refine dIntOf_i ?_
  | with_reducible refine iteN (by decide) ?_
  | with_reducible refine iteY (by decide) ?_
  | refine iteT ?_
  | refine iteF ?_
  | with_reducible refine is2_i ?_
  | with_reducible refine is3_i ?_
  | with_reducible refine ⟨_, rfl, ?_⟩)
local macro_rules | `(tactic| walk_at "es") => `(tactic| repeat walk_at "e")

section
variable {P : Program} {w : World} {K : PySem.W.Frag} {mg : Str → Option Value} {base : Heap}
def F_Seats_room (C : Addr) : FS := fun ds μ Q => ∃ (A : SA) (S : SS) (p : Seat) (k : Nat), ds = [.ptr A.s, encP p] ∧ SeatsAt C A S μ ∧ isSeat S.held p ∧ S.moved[p.1]? = some k ∧ Q (encP (S.room p)) μ
theorem sc_Seats_room : FnScope ["self", "seat", "belt", "at"] ["self", "seat"] (defScope sd_Seats_room) := ⟨rfl, rfl, rfl, by decide +kernel, rfl, by decide +kernel, by decide +kernel⟩
theorem ok_Seats_room {f : Addr} {fd : FuncData} (T : Md K mg)  (Fd : FunD K "room" "Seats.room" (defArgs sd_Seats_room) (defBody sd_Seats_room) (defScope sd_Seats_room) [] [] f fd) : FnOk P w K mg base CX0 1 f fd ["self", "seat"] (spOf (F_Seats_room (He.ga K "Seats"))) := by
  refine fn_data Fd sc_Seats_room (fun ds μ R h => by (obtain ⟨A, S, p, k, rfl, hS, hp, hk, q⟩ := h; rfl)) fun cdv A outer s H E hr => ⟨_, (pss_cons (ps_asg (pv 1) (kTup (K := K) (n := 2) rfl (by rfl) (pgs_cons (pg_name (i := 2) sc_Seats_room.nd rfl (by first | exact Or.inl rfl | exact Or.inr rfl)) (pgs_cons (pg_name (i := 3) sc_Seats_room.nd rfl (by first | exact Or.inl rfl | exact Or.inr rfl)) pgs_nil))))
    (pss_one (ps_ret (pe_tup (pa_cons (pv 2) (pa_cons (pe_op op_modN (pe_op (kAdd (K := K) rfl) (pv 3) (pe_ix (kIx (K := K) rfl) (kFld (K := K) rfl (pv 0) rfl) (pv 2) (fun _ _ => rfl))) (pe_callB (kLen (K := K) rfl) (by rfl) T.f_len (by decide +kernel) (pa_cons (pe_ix (kIx (K := K) rfl) (kFld (K := K) rfl (pv 0) rfl) (pv 2) (fun _ _ => rfl)) pa_nil))) pa_nil)))))), fun N ds R h => ?_⟩
  obtain ⟨A, S, p, k, rfl, hS, hp, hk, q⟩ := h
  obtain ⟨r, hr, hlt, _, hl⟩ := hp.row
  walk_at "es"
  refine Wmoved T.cl_Seats T.na_Seats_moved rfl hS ?_
  walk_at "es"
  refine hS.ix_m hk ?_
  walk_at "es"
  refine Wheld T.cl_Seats T.na_Seats_held rfl hS ?_
  walk_at "es"
  refine hS.ix_h hr fun a ha hm hc => ?_
  walk_at "es"
  refine dLen_row hc ?_
  refine dIntC_i (by omega) ?_
  walk_at "es"
  refine ⟨small (by simp), retE_i ?_ (SubS.refl _)⟩
  have e : S.room p = (p.1, (p.2 + k) % r.length) := by
    unfold SS.room SS.len
    rw [hl, List.getD_eq_getElem?_getD, hk]; rfl
  rw [e] at q
  have e2 : ((p.2 : Int) + (k : Int)).fmod (r.length : Int) = (((p.2 + k) % r.length : Nat) : Int) := by
    rw [Int.fmod_eq_emod_of_nonneg _ (by omega)]; simp
  rw [e2]
  exact q
def F_Seats_carry (C : Addr) : FS := fun ds μ Q => ∃ (A : SA) (S : SS) (p : Seat) (b k : Nat), ds = [.ptr A.s, encP p, .int (b : Int)] ∧ SeatsAt C A S μ ∧ S.moved[b]? = some k ∧ S.trail.length < 100000 ∧ ∀ μ', SeatsAt C A (S.carry p b) μ' → Fm A.all μ μ' → Q .non μ'
theorem sc_Seats_carry : FnScope ["self", "room", "belt"] ["self", "room", "belt"] (defScope sd_Seats_carry) := ⟨rfl, rfl, rfl, by decide +kernel, rfl, by decide +kernel, by decide +kernel⟩
theorem ok_Seats_carry {f : Addr} {fd : FuncData} (T : Md K mg)  (Fd : FunD K "carry" "Seats.carry" (defArgs sd_Seats_carry) (defBody sd_Seats_carry) (defScope sd_Seats_carry) [] [] f fd) : FnOk P w K mg base CX0 1 f fd ["self", "room", "belt"] (spOf (F_Seats_carry (He.ga K "Seats"))) := by
  refine fn_data Fd sc_Seats_carry (fun ds μ R h => by (obtain ⟨A, S, p, b, k, rfl, hS, hk, hl, q⟩ := h; rfl)) fun cdv A outer s H E hr => ⟨_, (pss_cons (ps_expr (kBm (K := K) rfl PySem.F.plainAttrs_list PySem.F.slot_list_append PySem.F.type_list_append mt_append (kFld (K := K) rfl (pv 0) rfl) (pa_cons (pe_tup (pa_cons (pv 1) (pa_cons (pv 2) pa_nil))) pa_nil)))
    (pss_one (ps_augS (kFld (K := K) rfl (pv 0) rfl) (pv 2) (kGet (K := K) rfl) pe_int ip_add set_list))), fun N ds R h => ?_⟩
  obtain ⟨A, S, p, b, k, rfl, hS, hk, hl, q⟩ := h
  walk_at "es"
  refine WE_bm lAppend (Wtrail T.cl_Seats T.na_Seats_trail rfl hS ⟨⟨_, listOf_ptr hS.t⟩, ?_⟩)
  walk_at "es"
  refine ⟨small (by simp), ?_⟩
  walk_at "es"
  refine dAppend_i hS.t (Nat.lt_of_le_of_lt (Nat.le_of_eq (List.length_map _)) (Nat.lt_of_lt_of_le hl (small (by decide)))) ?_
  have e1 : S.trail.map encC ++ [D.tup [encP p, .int (b : Int)]] = (S.trail ++ [(p, b)]).map encC := by rw [List.map_append]; rfl
  rw [e1]
  have h1 := hS.setT (S.trail ++ [(p, b)])
  have f1 : Fm A.all N.μ _ := (Fm.refl A.all N.μ).upd (c := .lst ((S.trail ++ [(p, b)]).map encC)) SA.t_in
  generalize updS N.μ A.t (.lst ((S.trail ++ [(p, b)]).map encC)) = μ1 at h1 f1 ⊢
  refine WS_augS lGetL lIp lSetL (Wmoved T.cl_Seats T.na_Seats_moved rfl h1 ?_)
  walk_at "es"
  refine ⟨_, (b : Int), encN k, listOf_ptr h1.m, rfl, by omega, DL.atI_nat (by rw [List.getElem?_map, hk]; rfl), ?_⟩
  walk_at "es"
  obtain ⟨hb, hke⟩ := List.getElem?_eq_some_iff.mp hk
  refine dSetL_i h1.m rfl (by rw [List.length_map]; exact hb) ?_
  have e2 : (S.moved.map encN).set b (.int ((k : Int) + 1)) = (S.moved.set b (S.moved.getD b 0 + 1)).map encN := by
    rw [List.map_set, List.getD_eq_getElem?_getD, hk]; rfl
  rw [e2]
  have h2 := h1.setM (S.moved.set b (S.moved.getD b 0 + 1))
  exact ⟨_, SubS.refl _, q _ h2 (f1.upd SA.m_in)⟩
def F_Seats_item (C : Addr) : FS := fun ds μ Q => ∃ (A : SA) (S : SS) (p : Seat), ds = [.ptr A.s, encP p] ∧ SeatsAt C A S μ ∧ isSeat S.held p ∧ Q (encI (itemAt S.held p)) μ
theorem sc_Seats_item : FnScope ["self", "seat"] ["self", "seat"] (defScope sd_Seats_item) := ⟨rfl, rfl, rfl, by decide +kernel, rfl, by decide +kernel, by decide +kernel⟩
theorem ok_Seats_item {f : Addr} {fd : FuncData} (T : Md K mg)  (Fd : FunD K "item" "Seats.item" (defArgs sd_Seats_item) (defBody sd_Seats_item) (defScope sd_Seats_item) [] [] f fd) : FnOk P w K mg base CX0 1 f fd ["self", "seat"] (spOf (F_Seats_item (He.ga K "Seats"))) := by
  refine fn_data Fd sc_Seats_item (fun ds μ R h => by (obtain ⟨A, S, p, rfl, hS, hp, q⟩ := h; rfl)) fun cdv A outer s H E hr => ⟨_, (pss_one (ps_ret (pe_ix (kIx (K := K) rfl) (pe_ix (kIx (K := K) rfl) (kFld (K := K) rfl (pv 0) rfl) (pe_ix (kIx (K := K) rfl) (pv 1) pe_int (fun _ _ => rfl)) (fun _ _ => rfl)) (pe_ix (kIx (K := K) rfl) (pv 1) pe_int (fun _ _ => rfl)) (fun _ _ => rfl)))), fun N ds R h => ?_⟩
  obtain ⟨A, S, p, rfl, hS, hp, q⟩ := h
  obtain ⟨r, hr, hlt, hit, hl⟩ := hp.row
  walk_at "es"
  refine Wheld T.cl_Seats T.na_Seats_held rfl hS ?_
  walk_at "es"
  refine dIx_t (j := 0) rfl rfl ?_
  refine hS.ix_h hr fun a ha hm hc => ?_
  walk_at "es"
  refine dIx_t (j := 1) rfl rfl ?_
  exact dIx_p hc rfl (by rw [List.getElem?_map, hit]; rfl) (retE_i q (SubS.refl _))
def F_Seats_turn (C : Addr) : FS := fun ds μ Q => ∃ (A : SA) (S : SS) (b k : Nat) (r : Row), ds = [.ptr A.s, .int (b : Int)] ∧ SeatsAt C A S μ ∧ S.held[b]? = some r ∧ 0 < r.length ∧ S.moved[b]? = some k ∧ S.trail.length < 100000 ∧ ∀ μ', SeatsAt C A (S.turn b) μ' → Fm A.all μ μ' → Q .non μ'
theorem sc_Seats_turn : FnScope ["self", "belt"] ["self", "belt"] (defScope sd_Seats_turn) := ⟨rfl, rfl, rfl, by decide +kernel, rfl, by decide +kernel, by decide +kernel⟩
theorem ok_Seats_turn {f : Addr} {fd : FuncData} (T : Md K mg) (h_Seats_carry : HasM P w K mg base (He.ga K "Seats") "carry" 1 ["self", "room", "belt"] (F_Seats_carry (He.ga K "Seats"))) (Fd : FunD K "turn" "Seats.turn" (defArgs sd_Seats_turn) (defBody sd_Seats_turn) (defScope sd_Seats_turn) [] [] f fd) : FnOk P w K mg base CX0 2 f fd ["self", "belt"] (spOf (F_Seats_turn (He.ga K "Seats"))) := by
  refine fn_data Fd sc_Seats_turn (fun ds μ R h => by (obtain ⟨A, S, b, k, r, rfl, hS, hr, h0, hk, hl, q⟩ := h; rfl)) fun cdv A outer s H E hr => ⟨_, (pss_one (ps_expr (pe_me (pv 0) h_Seats_carry (hr.mono (by decide)) (pa_cons (pe_tup (pa_cons (pv 1) (pa_cons (pe_op op_sub (pe_callB (kLen (K := K) rfl) (by rfl) T.f_len (by decide +kernel) (pa_cons (pe_ix (kIx (K := K) rfl) (kFld (K := K) rfl (pv 0) rfl) (pv 1) (fun _ _ => rfl)) pa_nil)) pe_int) pa_nil))) (pa_cons (pv 1) pa_nil))))), fun N ds R h => ?_⟩
  obtain ⟨A, S, b, k, r, rfl, hS, hr, h0, hk, hl, q⟩ := h
  walk_at "es"
  refine WE_meth (WE_var rfl ⟨A.s, _, rfl, hS.s, rfl, ?_⟩)
  walk_at "es"
  refine Wheld T.cl_Seats T.na_Seats_held rfl hS ?_
  walk_at "es"
  refine hS.ix_h hr fun a ha hm hc => ?_
  walk_at "es"
  refine dLen_row hc ?_
  walk_at "es"
  refine ⟨small (by simp), ?_⟩
  walk_at "es"
  have e : (r.length : Int) - 1 = ((S.len b - 1 : Nat) : Int) := by
    have : S.len b = r.length := by unfold SS.len; rw [List.getD_eq_getElem?_getD, hr]; rfl
    omega
  rw [e]
  exact ⟨A, S, (b, S.len b - 1), b, k, rfl, hS, hk, hl, fun μ' h1 f1 => ⟨_, SubS.refl _, q μ' h1 f1⟩⟩
def F_Seats_all_seats (C : Addr) : FS := fun ds μ Q => ∃ (A : SA) (S : SS), ds = [.ptr A.s] ∧ SeatsAt C A S μ ∧ (∀ r ∈ S.held, r.length ≤ 1000) ∧ (seatsOf S.held).length ≤ 1000 ∧ Q (.lst ((seatsOf S.held).map encP)) μ
theorem seats_lc (g : Hol) (n : Nat) (hn : n = g.length) : ((List.range n).flatMap fun b => ((List.range (g.getD b []).length).filter fun _ => true).map fun a => encP (b, a)) = (seatsOf g).map encP := by
  subst hn
  unfold seatsOf
  rw [List.map_flatMap]
  congr 1
  funext b
  rw [List.filter_eq_self.mpr fun _ _ => rfl, List.map_map]; rfl
theorem sc_Seats_all_seats : FnScope ["self", "at", "belt", "row"] ["self"] (defScope sd_Seats_all_seats) := ⟨rfl, rfl, rfl, by decide +kernel, rfl, by decide +kernel, by decide +kernel⟩
theorem ok_Seats_all_seats {f : Addr} {fd : FuncData} (T : Md K mg)  (Fd : FunD K "all_seats" "Seats.all_seats" (defArgs sd_Seats_all_seats) (defBody sd_Seats_all_seats) (defScope sd_Seats_all_seats) [] [] f fd) : FnOk P w K mg base CX0 1 f fd ["self"] (spOf (F_Seats_all_seats (He.ga K "Seats"))) := by
  refine fn_data Fd sc_Seats_all_seats (fun ds μ R h => by (obtain ⟨A, S, rfl, hS, hl, hl2, q⟩ := h; rfl)) fun cdv A outer s H E hr => ⟨_, (pss_one (ps_ret (pe_lc2 (own := [("belt", 2), ("row", 3), ("at", 1)]) (vs1 := [1]) (by rfl) sc_Seats_all_seats.nd (kEnum (K := K) rfl (by rfl) T.f_enumerate (pa_cons (kFld (K := K) rfl (pv 0) rfl) pa_nil)) (by first | exact blkOk_by (own := [("belt", 2), ("row", 3), ("at", 1)]) (by decide +kernel) | exact blkOk_by (own := [("belt", 2), ("row", 3), ("at", 1)]) (by kernel_rfl)) (by decide) (fun _ _ _ _ _ => (kTup (K := K) (n := 2) rfl (by rfl) (pgs_cons (pg_name (i := 2) sc_Seats_all_seats.nd rfl (by first | exact Or.inl rfl | exact Or.inr rfl)) (pgs_cons (pg_name (i := 3) sc_Seats_all_seats.nd rfl (by first | exact Or.inl rfl | exact Or.inr rfl)) pgs_nil)))) (fun _ _ _ _ _ => pts_nil) (fun _ _ _ _ _ => (pi_range1 (by rfl) T.f_range (pa_cons (pe_callB (kLen (K := K) rfl) (by rfl) T.f_len (by decide +kernel) (pa_cons (pv 3) pa_nil)) pa_nil))) (fun _ _ _ _ _ => (pg_name (i := 1) sc_Seats_all_seats.nd rfl (by first | exact Or.inl rfl | exact Or.inr rfl))) (fun _ _ _ _ _ => pts_nil) (fun _ _ _ _ _ => (pe_tup (pa_cons (pv 2) (pa_cons (pv 1) pa_nil))))))), fun N ds R h => ?_⟩
  obtain ⟨A, S, rfl, hS, hl, hl2, q⟩ := h
  have hn : (A.rows.map D.ptr).length = S.held.length := by rw [List.length_map]; exact hS.len
  walk_at "es"
  refine WE_frozen (WEn_lc2 (α := Nat) (β := Nat) (js := [2] ++ ([3] ++ [])) (js1 := [1]) (by decide) (by decide) (WI_enum ?_))
  refine WA_cons (Wheld T.cl_Seats T.na_Seats_held rfl hS (WA_nil ⟨.ptr A.h, _, rfl, listOf_ptr hS.h, List.range (A.rows.map D.ptr).length, fun i => .tup [.int (i : Int), (A.rows.map D.ptr).getD i .non], fun b => List.range (S.held.getD b []).length, encN, fun _ _ => true, fun b a => encP (b, a), rfl, ?_, fun b hb => WG_tup rfl (WGs_cons (WG_name (WGs_cons (WG_name (WGs_nil ⟨rfl, WI_range1 ?_⟩))))), ?_⟩))
  · rw [seats_lc _ _ hn, List.length_map]; exact small (Nat.le_trans hl2 (by decide))
  · rw [List.mem_range, hn] at hb
    have hr : S.held[b]? = some S.held[b] := List.getElem?_eq_getElem hb
    obtain ⟨a, h1, h2, h3, h4⟩ := hS.rows_get hr
    have e : (A.rows.map D.ptr).getD b D.non = .ptr a := by rw [List.getD_eq_getElem?_getD, h3]; rfl
    have e2 : S.held.getD b [] = S.held[b] := by rw [List.getD_eq_getElem?_getD, hr]; rfl
    rw [e]
    walk_at "es"
    refine dLen_row h4 ?_
    have bd := rng_ok (n := S.held[b].length) (Nat.le_trans (hl _ (List.getElem_mem hb)) (by decide))
    refine WA_nil ⟨_, rfl, bd.1, bd.2, ?_, rfl, fun a ha => WG_name (WT_yes ⟨rfl, rfl, fun _ => ?_⟩)⟩
    · dsimp only
      rw [e2]
      exact rangeD_nat _
    · walk_at "es"
      exact ⟨small (by simp), rfl, rfl⟩
  · rw [seats_lc _ _ hn]
    exact retE_i q (SubS.refl _)
def F_Seats_holders (C : Addr) : FS := fun ds μ Q => ∃ (A : SA) (S : SS) (i : Item), ds = [.ptr A.s, encI i] ∧ SeatsAt C A S μ ∧ (∀ r ∈ S.held, r.length ≤ 1000 ∧ ∀ j ∈ r, okI j) ∧ okI i ∧ (seatsOf S.held).length ≤ 1000 ∧ Q (.lst ((S.holders i).map encP)) μ
theorem sc_Seats_holders : FnScope ["self", "item", "seat"] ["self", "item"] (defScope sd_Seats_holders) := ⟨rfl, rfl, rfl, by decide +kernel, rfl, by decide +kernel, by decide +kernel⟩
theorem ok_Seats_holders {f : Addr} {fd : FuncData} (T : Md K mg) (h_Seats_all_seats : HasM P w K mg base (He.ga K "Seats") "all_seats" 1 ["self"] (F_Seats_all_seats (He.ga K "Seats"))) (h_Seats_item : HasM P w K mg base (He.ga K "Seats") "item" 1 ["self", "seat"] (F_Seats_item (He.ga K "Seats"))) (Fd : FunD K "holders" "Seats.holders" (defArgs sd_Seats_holders) (defBody sd_Seats_holders) (defScope sd_Seats_holders) [] [] f fd) : FnOk P w K mg base CX0 2 f fd ["self", "item"] (spOf (F_Seats_holders (He.ga K "Seats"))) := by
  refine fn_data Fd sc_Seats_holders (fun ds μ R h => by (obtain ⟨A, S, i, rfl, hS, hl, hi, hl2, q⟩ := h; rfl)) fun cdv A outer s H E hr => ⟨_, (pss_one (ps_ret (pe_lc (own := [("seat", 2)]) (by rfl) sc_Seats_holders.nd (kWalk (K := K) rfl (pe_me0 (pv 0) h_Seats_all_seats (hr.mono (by decide)))) (by first | exact blkOk_by (own := [("seat", 2)]) (by decide +kernel) | exact blkOk_by (own := [("seat", 2)]) (by kernel_rfl)) (fun _ _ _ _ _ => (pg_name (i := 2) sc_Seats_holders.nd rfl (by first | exact Or.inl rfl | exact Or.inr rfl))) (fun _ _ _ _ _ => (pts_one (pt_cmpR (kEq (K := K) rfl hr.units) (pe_me (pv 0) h_Seats_item (hr.mono (by decide)) (pa_cons (pv 2) pa_nil)) (pv 1) (by first | exact nomark _ | rfl)))) (fun _ _ _ _ _ => (pv 2))))), fun N ds R h => ?_⟩
  obtain ⟨A, S, i, rfl, hS, hl, hi, hl2, q⟩ := h
  walk_at "es"
  refine WE_frozen (WEn_filterT (α := Seat) (js := [2]) (by decide) (WI_lst ?_))
  refine WE_meth (WE_var rfl ⟨A.s, _, rfl, hS.s, rfl, ?_⟩)
  walk_at "es"
  refine ⟨A, S, rfl, hS, fun r hr => (hl r hr).1, hl2, ?_⟩
  walk_at "es"
  refine ⟨seatsOf S.held, encP, fun p => decide (itemAt S.held p = i), encP, rfl, small (Nat.le_trans hl2 (by decide)), fun p hp => WG_name ?_, retE_i q (SubS.refl _)⟩
  have hs := mem_seatsOf.mp hp
  obtain ⟨r, hr, hlt, hit, hl3⟩ := hs.row
  have ok : okI (itemAt S.held p) := (hl r (List.mem_of_getElem? hr)).2 _ (List.mem_of_getElem? hit)
  walk_at "es"
  refine WE_meth (WE_var rfl ⟨A.s, _, rfl, hS.s, rfl, ?_⟩)
  walk_at "es"
  refine ⟨A, S, p, rfl, hS, hs, ?_⟩
  walk_at "es"
  refine dEq_c cdI (by decide) ok hi ⟨_, rfl, ?_⟩
  refine ⟨rfl, rfl, fun _ => ?_⟩
  walk_at "es"
  exact ⟨rfl, rfl⟩
def F_Seats_is_free (C : Addr) : FS := fun ds μ Q => ∃ (A : SA) (S : SS) (p : Seat), ds = [.ptr A.s, encP p] ∧ SeatsAt C A S μ ∧ (∀ r ∈ S.held, r.length ≤ 1000 ∧ ∀ j ∈ r, okI j) ∧ isSeat S.held p ∧ (seatsOf S.held).length ≤ 1000 ∧ Q (.bl (S.free p)) μ
theorem sc_Seats_is_free : FnScope ["self", "seat"] ["self", "seat"] (defScope sd_Seats_is_free) := ⟨rfl, rfl, rfl, by decide +kernel, rfl, by decide +kernel, by decide +kernel⟩
theorem ok_Seats_is_free {f : Addr} {fd : FuncData} (T : Md K mg) (h_Seats_item : HasM P w K mg base (He.ga K "Seats") "item" 1 ["self", "seat"] (F_Seats_item (He.ga K "Seats"))) (h_Seats_holders : HasM P w K mg base (He.ga K "Seats") "holders" 2 ["self", "item"] (F_Seats_holders (He.ga K "Seats"))) (Fd : FunD K "is_free" "Seats.is_free" (defArgs sd_Seats_is_free) (defBody sd_Seats_is_free) (defScope sd_Seats_is_free) [] [] f fd) : FnOk P w K mg base CX0 3 f fd ["self", "seat"] (spOf (F_Seats_is_free (He.ga K "Seats"))) := by
  refine fn_data Fd sc_Seats_is_free (fun ds μ R h => by (obtain ⟨A, S, p, rfl, hS, hl, hp, hl2, q⟩ := h; rfl)) fun cdv A outer s H E hr => ⟨_, (pss_one (ps_ret (pe_or (pe_cmpR op_isN (pe_me (pv 0) h_Seats_item (hr.mono (by decide)) (pa_cons (pv 1) pa_nil)) pe_non (by first | exact nomark _ | rfl)) (pe_one (pe_cmpR op_gt (pe_callB (kLen (K := K) rfl) (by rfl) T.f_len (by decide +kernel) (pa_cons (pe_me (pv 0) h_Seats_holders (hr.mono (by decide)) (pa_cons (pe_me (pv 0) h_Seats_item (hr.mono (by decide)) (pa_cons (pv 1) pa_nil)) pa_nil)) pa_nil)) pe_int (by first | exact nomark _ | rfl)))))), fun N ds R h => ?_⟩
  obtain ⟨A, S, p, rfl, hS, hl, hp, hl2, q⟩ := h
  obtain ⟨r, hr, hlt, hit, hl3⟩ := hp.row
  have ok : okI (itemAt S.held p) := (hl r (List.mem_of_getElem? hr)).2 _ (List.mem_of_getElem? hit)
  walk_at "es"
  refine WE_meth (WE_var rfl ⟨A.s, _, rfl, hS.s, rfl, ?_⟩)
  walk_at "es"
  refine ⟨A, S, p, rfl, hS, hp, ?_⟩
  walk_at "es"
  cases hi : itemAt S.held p with
  | none =>
    walk_at "es"
    exact retE_i (by unfold SS.free at q; rw [hi] at q; exact q) (SubS.refl _)
  | some x =>
    walk_at "es"
    refine WE_meth (WE_var rfl ⟨A.s, _, rfl, hS.s, rfl, ?_⟩)
    walk_at "es"
    refine WE_meth (WE_var rfl ⟨A.s, _, rfl, hS.s, rfl, ?_⟩)
    walk_at "es"
    refine ⟨A, S, p, rfl, hS, hp, ?_⟩
    walk_at "es"
    refine ⟨A, S, itemAt S.held p, rfl, hS, hl, ok, hl2, ?_⟩
    walk_at "es"
    rw [List.length_map]
    refine retE_i ?_ (SubS.refl _)
    have e : S.free p = decide ((1 : Int) < ((S.holders (itemAt S.held p)).length : Int)) := by
      unfold SS.free
      rw [hi]
      show (false || _) = _
      rw [Bool.false_or]
      congr 1
      exact propext (by omega)
    rw [← e]
    exact q
end
end G
set_option Elab.async false
set_option linter.all false
set_option maxRecDepth 100000
set_option maxHeartbeats 4000000
namespace G
open PySem PySem.Spec L2 DL
local macro_rules | `(tactic| walk_at "e") => `(tactic| first
  | with_reducible refine WE_int ?_
  | with_reducible refine WE_str ?_
  | with_reducible refine WE_bl ?_
  | with_reducible refine WE_non ?_
  | with_reducible refine WE_ty ?_
  | refine WE_var rfl ?_
  | with_reducible refine WA_nil ?_
  | with_reducible refine WA_cons ?_
  | with_reducible refine WO_none ?_
  | with_reducible refine WO_some ?_
  | with_reducible refine WT_val ?_
  | with_reducible refine WT_test ?_
  | with_reducible refine WT_not ?_
  | with_reducible refine WT_and ?_
  | with_reducible refine WT_or ?_
  | with_reducible refine WT_yes ?_
  | with_reducible refine WE_andV ?_
  | with_reducible refine WE_orV ?_
  | with_reducible refine WE_notV ?_
  | with_reducible refine WE_if ?_
  | with_reducible refine WE_tup ?_
  | with_reducible refine WE_neg ?_
  | with_reducible refine WE_op lAdd ?_
  | with_reducible refine WE_op lMul_int ?_
  | with_reducible refine WE_op lEq ?_
  | with_reducible refine WE_op lNe ?_
  | with_reducible refine WE_op lIsN ?_
  | with_reducible refine WE_op lNotN ?_
  | with_reducible refine WE_op lIx ?_
  | with_reducible refine WE_op lIntB ?_
  | with_reducible refine WE_op lIntC ?_
  | with_reducible refine WE_op lInt ?_
  | with_reducible refine WE_cb lIsi ?_
  | with_reducible refine WE_cb lLenA ?_
  | with_reducible refine WE_cb lTupleOfK ?_
  | with_reducible refine WE_cb lAbs ?_
  | with_reducible refine WE_cb lIntOf ?_
  | with_reducible refine WE_cb lMin2 ?_
  | with_reducible refine WE_cb lMax2 ?_
  | with_reducible refine WE_call ?_
  | with_reducible refine WE_chain lIntB lIntB ?_
  | with_reducible refine WS_seq ?_
  | with_reducible refine WS_ret ?_
  | with_reducible refine WS_retN ?_
  | with_reducible refine WS_set ?_
  | refine WS_asg2 rfl ?_
  | refine WS_asg3 rfl ?_
  | with_reducible refine WS_drop ?_
  | with_reducible refine WS_if ?_
  | with_reducible refine WS_next ?_
  | with_reducible refine WG_name ?_
  | with_reducible refine WG_tup rfl ?_
  | with_reducible refine WGs_cons ?_
  | with_reducible refine WGs_nil ?_
  | with_reducible refine dAdd_i ?_
  | with_reducible refine dInt_i ?_
  | with_reducible refine dIsi_i rfl (by decide) ?_
  | with_reducible refine dLenA_t ?_
  | with_reducible refine dLenA_l ?_
  | with_reducible refine dIsN_i ?_
  | with_reducible refine dNotN_i ?_
  | with_reducible refine dAbs_i ?_
  | with_reducible refine dIntOf_i ?_
  | with_reducible refine iteN (by decide) ?_
  | with_reducible refine iteY (by decide) ?_
  | refine iteT ?_
  | refine iteF ?_
  | with_reducible refine is2_i ?_
  | with_reducible refine is3_i ?_
  | with_reducible refine ⟨_, rfl, ?_⟩)
local macro_rules | `(tactic| walk_at "es") => `(tactic| repeat walk_at "e")

section
variable {P : Program} {w : World} {K : PySem.W.Frag} {mg : Str → Option Value} {base : Heap}
def F_Seats_write (C : Addr) : FS := fun ds μ Q => ∃ (A : SA) (S : SS) (p q : Seat), ds = [.ptr A.s, encP p, encP q] ∧ SeatsAt C A S μ ∧ SOk S ∧ isSeat S.held p ∧ isSeat S.held q ∧ S.trail.length + 1001 ≤ 10000 ∧ ∀ μ', SeatsAt C A (S.write p q) μ' → Fm A.all μ μ' → Q .non μ'
theorem sc_Seats_write : FnScope ["self", "seat", "source", "belt", "at"] ["self", "seat", "source"] (defScope sd_Seats_write) := ⟨rfl, rfl, rfl, by decide +kernel, rfl, by decide +kernel, by decide +kernel⟩
theorem ok_Seats_write {f : Addr} {fd : FuncData} (T : Md K mg) (h_Seats_carry : HasM P w K mg base (He.ga K "Seats") "carry" 1 ["self", "room", "belt"] (F_Seats_carry (He.ga K "Seats"))) (h_Seats_item : HasM P w K mg base (He.ga K "Seats") "item" 1 ["self", "seat"] (F_Seats_item (He.ga K "Seats"))) (h_Seats_turn : HasM P w K mg base (He.ga K "Seats") "turn" 2 ["self", "belt"] (F_Seats_turn (He.ga K "Seats"))) (h_Seats_room : HasM P w K mg base (He.ga K "Seats") "room" 1 ["self", "seat"] (F_Seats_room (He.ga K "Seats"))) (Fd : FunD K "write" "Seats.write" (defArgs sd_Seats_write) (defBody sd_Seats_write) (defScope sd_Seats_write) [] [] f fd) : FnOk P w K mg base CX0 3 f fd ["self", "seat", "source"] (spOf (F_Seats_write (He.ga K "Seats"))) := by
  refine fn_data Fd sc_Seats_write (fun ds μ R h => by (obtain ⟨A, S, p, q, rfl, hS, ok, hp, hq, hl, qq⟩ := h; rfl)) fun cdv A outer s H E hr => ⟨_, (pss_cons (ps_asg (pv 1) (kTup (K := K) (n := 2) rfl (by rfl) (pgs_cons (pg_name (i := 3) sc_Seats_write.nd rfl (by first | exact Or.inl rfl | exact Or.inr rfl)) (pgs_cons (pg_name (i := 4) sc_Seats_write.nd rfl (by first | exact Or.inl rfl | exact Or.inr rfl)) pgs_nil))))
    (pss_cons (ps_while PassesOwn.never (pt_cmpR (kNe (K := K) rfl hr.units) (pe_ix (kIx (K := K) rfl) (pe_me (pv 0) h_Seats_room (hr.mono (by decide)) (pa_cons (pv 1) pa_nil)) pe_int (fun _ _ => rfl)) (pe_op op_sub (pe_callB (kLen (K := K) rfl) (by rfl) T.f_len (by decide +kernel) (pa_cons (pe_ix (kIx (K := K) rfl) (kFld (K := K) rfl (pv 0) rfl) (pv 3) (fun _ _ => rfl)) pa_nil)) pe_int) (by first | exact nomark _ | rfl)) (pss_one (ps_expr (pe_me (pv 0) h_Seats_turn (hr.mono (by decide)) (pa_cons (pv 3) pa_nil)))))
    (pss_cons (ps_expr (pe_me (pv 0) h_Seats_carry (hr.mono (by decide)) (pa_cons (pe_me (pv 0) h_Seats_room (hr.mono (by decide)) (pa_cons (pv 2) pa_nil)) (pa_cons (pv 3) pa_nil))))
    (pss_one (ps_asg (pe_me (pv 0) h_Seats_item (hr.mono (by decide)) (pa_cons (pv 2) pa_nil)) (pg_sub (pe_ix (kIx (K := K) rfl) (kFld (K := K) rfl (pv 0) rfl) (pv 3) (fun _ _ => rfl)) (pv 4) set_list)))))), fun N ds R h => ?_⟩
  obtain ⟨A, S, p, q, rfl, hS, ok, hp, hq, hl, qq⟩ := h
  obtain ⟨r, hr, hlt, hit, hrl⟩ := hp.row
  have hb := ok.lt hp
  have hL := len_row hr
  have hr0 := ok.rl r (List.mem_of_getElem? hr)
  have mvk : ∀ j, (S.turns p.1 j).moved[p.1]? = some (S.moved.getD p.1 0 + j) := fun j => S.turns_mv j hb
  walk_at "es"
  refine WS_while (fun m ρ' μ' => ∃ j, j ≤ S.len p.1 - 1 - (S.room p).2 ∧ m = S.len p.1 - 1 - (S.room p).2 - j ∧ ρ' = _ ∧ SeatsAt (He.ga K "Seats") A (S.turns p.1 j) μ' ∧ Fm A.all N.μ μ') ⟨_, 0, Nat.zero_le _, rfl, rfl, by rw [SS.turns_zero]; exact hS, Fm.refl _ _⟩ ?_
  rintro m ρ' μ' ⟨j, hj, rfl, rfl, hSj, fj⟩
  walk_at "es"
  refine WE_meth (WE_var rfl ⟨A.s, _, rfl, hSj.s, rfl, ?_⟩)
  walk_at "es"
  refine ⟨A, S.turns p.1 j, p, _, rfl, hSj, hp, mvk j, ?_⟩
  walk_at "es"
  refine dIx_t (j := 1) rfl rfl ?_
  walk_at "es"
  refine Wheld T.cl_Seats T.na_Seats_held rfl hSj ?_
  walk_at "es"
  refine hSj.ix_h hr fun a ha hm hc => ?_
  walk_at "es"
  refine dLen_row hc ?_
  walk_at "es"
  have h0 : 0 < S.len p.1 := by rw [hL]; exact hr0.1
  have hrm := turns_room hb h0 hj
  have hlt' : (S.room p).2 < S.len p.1 := Nat.mod_lt _ h0
  refine dNe_int ⟨_, rfl, ?_⟩
  by_cases hk : j = S.len p.1 - 1 - (S.room p).2
  · have e : (!decide ((((S.turns p.1 j).room p).2 : Int) = (r.length : Int) - 1)) = false := by
      rw [hrm, ← hL, decide_eq_true (by omega)]; rfl
    rw [e]
    subst hk
    generalize hkk : S.len p.1 - 1 - (S.room p).2 = k at *
    walk_at "es"
    have ok1 := ok.turns (b := p.1) (k := k) (by have := hr0.2.1; omega)
    refine WE_meth (WE_var rfl ⟨A.s, _, rfl, hSj.s, rfl, ?_⟩)
    walk_at "es"
    refine WE_meth (WE_var rfl ⟨A.s, _, rfl, hSj.s, rfl, ?_⟩)
    walk_at "es"
    have hlq : q.1 < (S.turns p.1 k).moved.length := ok1.lt hq
    refine ⟨A, S.turns p.1 k, q, _, rfl, hSj, hq, List.getElem?_eq_getElem hlq, ?_⟩
    walk_at "es"
    refine ⟨A, S.turns p.1 k, (S.turns p.1 k).room q, p.1, _, rfl, hSj, mvk k, ?_, fun μ2 h2 f2 => ?_⟩
    · have := ok1.tl; omega
    refine WS_asg (js := []) (WE_meth (WE_var rfl ⟨A.s, _, rfl, h2.s, rfl, ?_⟩))
    walk_at "es"
    refine ⟨A, _, q, rfl, h2, hq, ?_⟩
    refine WG_sub lSetL ?_
    walk_at "es"
    refine Wheld T.cl_Seats T.na_Seats_held rfl h2 ?_
    walk_at "es"
    refine h2.ix_h hr fun a ha hm hc => ?_
    walk_at "es"
    refine dSetL_i hc rfl (by rw [List.length_map]; exact hlt) ?_
    have e2 : (r.map encI).set p.2 (encI (itemAt S.held q)) = (r.set p.2 (itemAt S.held q)).map encI := by rw [List.map_set]
    have h3 := h2.setR ha (r.set p.2 (itemAt S.held q))
    refine ⟨_, SubS.refl _, qq _ ?_ ((fj.trans f2).upd (SA.r_in hm))⟩
    have e3 : S.write p q = { (S.turns p.1 k).carry ((S.turns p.1 k).room q) p.1 with held := ((S.turns p.1 k).carry ((S.turns p.1 k).room q) p.1).held.set p.1 (r.set p.2 (itemAt S.held q)) } := by
      unfold SS.write SS.put
      rw [hkk]
      show SS.mk _ _ _ = SS.mk _ _ _
      have e4 : (S.held.getD p.1 []) = r := by rw [List.getD_eq_getElem?_getD, hr]; rfl
      show SS.mk (S.held.set p.1 ((S.held.getD p.1 []).set p.2 (itemAt S.held q))) _ _ = _
      rw [e4]; rfl
    rw [e3]
    show SeatsAt _ _ _ (updS μ2 a (.lst ((r.map encI).set p.2 (encI (itemAt S.held q)))))
    rw [e2]
    exact h3
  · have e : (!decide ((((S.turns p.1 j).room p).2 : Int) = (r.length : Int) - 1)) = true := by
      rw [hrm, ← hL, decide_eq_false (by omega)]; rfl
    rw [e]
    walk_at "es"
    refine WE_meth (WE_var rfl ⟨A.s, _, rfl, hSj.s, rfl, ?_⟩)
    walk_at "es"
    refine ⟨A, S.turns p.1 j, p.1, _, r, rfl, hSj, hr, hr0.1, mvk j, ?_, fun μ2 h2 f2 => ⟨_, ?_, j + 1, ?_, rfl, rfl, ?_, fj.trans f2⟩⟩
    · show (S.trail ++ _).length < _
      rw [List.length_append, List.length_replicate]
      have := hr0.2.1
      omega
    · omega
    · omega
    · rw [SS.turns_turn S hb] at h2; exact h2
def F_Seats_turn_back (C : Addr) : FS := fun ds μ Q => ∃ (A : SA) (S : SS), ds = [.ptr A.s] ∧ SeatsAt C A S μ ∧ SOk S ∧ S.trail.length + 1000 * S.held.length ≤ 10000 ∧ ∀ μ', SeatsAt C A (S.backTo S.held.length) μ' → Fm A.all μ μ' → Q .non μ'
theorem sc_Seats_turn_back : FnScope ["self", "belt", "row"] ["self"] (defScope sd_Seats_turn_back) := ⟨rfl, rfl, rfl, by decide +kernel, rfl, by decide +kernel, by decide +kernel⟩
theorem ok_Seats_turn_back {f : Addr} {fd : FuncData} (T : Md K mg) (h_Seats_turn : HasM P w K mg base (He.ga K "Seats") "turn" 2 ["self", "belt"] (F_Seats_turn (He.ga K "Seats"))) (Fd : FunD K "turn_back" "Seats.turn_back" (defArgs sd_Seats_turn_back) (defBody sd_Seats_turn_back) (defScope sd_Seats_turn_back) [] [] f fd) : FnOk P w K mg base CX0 3 f fd ["self"] (spOf (F_Seats_turn_back (He.ga K "Seats"))) := by
  refine fn_data Fd sc_Seats_turn_back (fun ds μ R h => by (obtain ⟨A, S, rfl, hS, ok, hl, qq⟩ := h; rfl)) fun cdv A outer s H E hr => ⟨_, (pss_one (ps_for PassesOwn.never rfl (kEnum (K := K) rfl (by rfl) T.f_enumerate (pa_cons (kFld (K := K) rfl (pv 0) rfl) pa_nil)) (kTup (K := K) (n := 2) rfl (by rfl) (pgs_cons (pg_name (i := 1) sc_Seats_turn_back.nd rfl (by first | exact Or.inl rfl | exact Or.inr rfl)) (pgs_cons (pg_name (i := 2) sc_Seats_turn_back.nd rfl (by first | exact Or.inl rfl | exact Or.inr rfl)) pgs_nil))) (pss_one (ps_while PassesOwn.never (pt_cmpR (kNe (K := K) rfl hr.units) (pe_op op_modN (pe_ix (kIx (K := K) rfl) (kFld (K := K) rfl (pv 0) rfl) (pv 1) (fun _ _ => rfl)) (pe_callB (kLen (K := K) rfl) (by rfl) T.f_len (by decide +kernel) (pa_cons (pv 2) pa_nil))) pe_int (by first | exact nomark _ | rfl)) (pss_one (ps_expr (pe_me (pv 0) h_Seats_turn (hr.mono (by decide)) (pa_cons (pv 1) pa_nil)))))))), fun N ds R h => ?_⟩
  obtain ⟨A, S, rfl, hS, ok, hl, qq⟩ := h
  have hn : (A.rows.map D.ptr).length = S.held.length := by rw [List.length_map]; exact hS.len
  have hh : ∀ n, (S.backTo n).held = S.held := fun n => S.backTo_held n
  walk_at "es"
  refine WS_for (js := [1] ++ ([2] ++ [])) (WI_enum ?_)
  refine WA_cons (Wheld T.cl_Seats T.na_Seats_held rfl hS (WA_nil ⟨.ptr A.h, _, rfl, listOf_ptr hS.h, fun i ρ' μ' => (∃ x y, ρ' = [some (.ptr A.s), x, y]) ∧ SeatsAt (He.ga K "Seats") A (S.backTo i) μ' ∧ Fm A.all N.μ μ', ⟨⟨_, _, rfl⟩, hS, Fm.refl _ _⟩, fun i ρ' μ' hi inv => listOf_ptr inv.2.1.h, fun i d ρ' μ' hd inv => ?_, fun ρ' μ' inv => ?_⟩))
  · obtain ⟨⟨x, y, rfl⟩, hSi, fi⟩ := inv
    obtain ⟨e, he, rfl⟩ := enumD_get hd
    have hi : i < S.held.length := by
      obtain ⟨z, _⟩ := List.getElem?_eq_some_iff.mp he
      rw [hn] at z; exact z
    have hr : S.held[i]? = some S.held[i] := List.getElem?_eq_getElem hi
    have hr' : (S.backTo i).held[i]? = some S.held[i] := by rw [hh]; exact hr
    obtain ⟨a, h1, h2, h3, h4⟩ := hSi.rows_get hr'
    rw [h3] at he
    cases he
    refine WG_tup rfl (WGs_cons (WG_name (WGs_cons (WG_name (WGs_nil ?_)))))
    obtain ⟨ok1, hl1⟩ := ok.backTo i (by omega) (by omega)
    generalize hSS : S.backTo i = S1 at *
    have hL := len_row hr'
    have hr0 := ok1.rl _ (List.mem_of_getElem? hr')
    have h0 : 0 < S1.len i := by rw [hL]; exact hr0.1
    have hb : i < S1.moved.length := by
      obtain ⟨z, _⟩ := List.getElem?_eq_some_iff.mp hr'
      rw [ok1.mv]; exact z
    have hB := S1.backN_lt i h0
    have nxt : S.backTo (i + 1) = S1.turns i (S1.backN i) := by
      show (S.backTo i).turns i ((S.backTo i).backN i) = _
      rw [hSS]
    refine WS_while (fun m ρ' μ2 => ∃ j, j ≤ S1.backN i ∧ m = S1.backN i - j ∧ ρ' = _ ∧ SeatsAt (He.ga K "Seats") A (S1.turns i j) μ2 ∧ Fm A.all N.μ μ2) ⟨_, 0, Nat.zero_le _, rfl, rfl, by rw [SS.turns_zero]; exact hSi, fi⟩ ?_
    rintro m ρ' μ2 ⟨j, hj, rfl, rfl, hSj, fj⟩
    walk_at "es"
    refine Wmoved T.cl_Seats T.na_Seats_moved rfl hSj ?_
    walk_at "es"
    refine hSj.ix_m (S1.turns_mv j hb) ?_
    walk_at "es"
    obtain ⟨a2, k1, k2, k3, k4⟩ := hSj.rows_get (show (S1.turns i j).held[i]? = _ from hr')
    have ea : a2 = a := by rw [h1] at k1; exact (Option.some.inj k1).symm
    subst ea
    refine dLen_row k4 ?_
    refine dIntC_i (by omega) ?_
    walk_at "es"
    refine dNe_int ⟨_, rfl, ?_⟩
    have e1 : ((S1.moved.getD i 0 + j : Nat) : Int).fmod ((S.held[i]).length : Int) = (((S1.moved.getD i 0 + j) % S1.len i : Nat) : Int) := by
      rw [Int.fmod_eq_emod_of_nonneg _ (by omega), hL]; simp
    rw [e1]
    have key := back_mod (m := S1.moved.getD i 0) h0 hj
    by_cases hk : j = S1.backN i
    · have e : (!decide ((((S1.moved.getD i 0 + j) % S1.len i : Nat) : Int) = 0)) = false := by
        rw [key.mpr hk]; rfl
      rw [e]
      subst hk
      walk_at "es"
      exact ⟨⟨_, _, rfl⟩, by rw [nxt]; exact hSj, fj⟩
    · have e : (!decide ((((S1.moved.getD i 0 + j) % S1.len i : Nat) : Int) = 0)) = true := by
        have z : ¬ (S1.moved.getD i 0 + j) % S1.len i = 0 := fun y => hk (key.mp y)
        rw [decide_eq_false (by omega)]; rfl
      rw [e]
      walk_at "es"
      refine WE_meth (WE_var rfl ⟨A.s, _, rfl, hSj.s, rfl, ?_⟩)
      walk_at "es"
      refine ⟨A, S1.turns i j, i, _, S.held[i], rfl, hSj, hr', hr0.1, S1.turns_mv j hb, ?_, fun μ3 h2 f2 => ⟨_, ?_, j + 1, ?_, rfl, rfl, ?_, fj.trans f2⟩⟩
      · show (S1.trail ++ _).length < _
        rw [List.length_append, List.length_replicate]
        have := ok1.tl
        omega
      · omega
      · omega
      · rw [SS.turns_turn S1 hb] at h2; exact h2
  · rw [enumD_length, hn] at inv
    exact ⟨_, SubS.refl _, qq _ inv.2.1 inv.2.2⟩
end
end G
set_option Elab.async false
set_option linter.all false
set_option maxRecDepth 100000
set_option maxHeartbeats 4000000
namespace G
open PySem PySem.Spec L2 DL
local macro_rules | `(tactic| walk_at "e") => `(tactic| first
  | with_reducible refine WE_int ?_
  | with_reducible refine WE_str ?_
  | with_reducible refine WE_bl ?_
  | with_reducible refine WE_non ?_
  | with_reducible refine WE_ty ?_
  | refine WE_var rfl ?_
  | with_reducible refine WA_nil ?_
  | with_reducible refine WA_cons ?_
  | with_reducible refine WO_none ?_
  | with_reducible refine WO_some ?_
  | with_reducible refine WT_val ?_
  | with_reducible refine WT_test ?_
  | with_reducible refine WT_not ?_
  | with_reducible refine WT_and ?_
  | with_reducible refine WT_or ?_
  | with_reducible refine WT_yes ?_
  | with_reducible refine WE_andV ?_
  | with_reducible refine WE_orV ?_
  | with_reducible refine WE_notV ?_
  | with_reducible refine WE_if ?_
  | with_reducible refine WE_tup ?_
  | with_reducible refine WE_neg ?_
  | with_reducible refine WE_op lAdd ?_
  | with_reducible refine WE_op lMul_int ?_
  | with_reducible refine WE_op lEq ?_
  | with_reducible refine WE_op lNe ?_
  | with_reducible refine WE_op lIsN ?_
  | with_reducible refine WE_op lNotN ?_
  | with_reducible refine WE_op lIx ?_
  | with_reducible refine WE_op lIntB ?_
  | with_reducible refine WE_op lIntC ?_
  | with_reducible refine WE_op lInt ?_
  | with_reducible refine WE_cb lIsi ?_
  | with_reducible refine WE_cb lLenA ?_
  | with_reducible refine WE_cb lTupleOfK ?_
  | with_reducible refine WE_cb lAbs ?_
  | with_reducible refine WE_cb lIntOf ?_
  | with_reducible refine WE_cb lMin2 ?_
  | with_reducible refine WE_cb lMax2 ?_
  | with_reducible refine WE_call ?_
  | with_reducible refine WE_chain lIntB lIntB ?_
  | with_reducible refine WS_seq ?_
  | with_reducible refine WS_ret ?_
  | with_reducible refine WS_retN ?_
  | with_reducible refine WS_set ?_
  | refine WS_asg2 rfl ?_
  | refine WS_asg3 rfl ?_
  | with_reducible refine WS_drop ?_
  | with_reducible refine WS_if ?_
  | with_reducible refine WS_next ?_
  | with_reducible refine WG_name ?_
  | with_reducible refine WG_tup rfl ?_
  | with_reducible refine WGs_cons ?_
  | with_reducible refine WGs_nil ?_
  | with_reducible refine dAdd_i ?_
  | with_reducible refine dInt_i ?_
  | with_reducible refine dIsi_i rfl (by decide) ?_
  | with_reducible refine dLenA_t ?_
  | with_reducible refine dLenA_l ?_
  | with_reducible refine dIsN_i ?_
  | with_reducible refine dNotN_i ?_
  | with_reducible refine dAbs_i ?_
  | with_reducible refine dIntOf_i ?_
  | with_reducible refine iteN (by decide) ?_
  | with_reducible refine iteY (by decide) ?_
  | refine iteT ?_
  | refine iteF ?_
  | with_reducible refine is2_i ?_
  | with_reducible refine is3_i ?_
  | with_reducible refine ⟨_, rfl, ?_⟩)
local macro_rules | `(tactic| walk_at "es") => `(tactic| repeat walk_at "e")

section
variable {P : Program} {w : World} {K : PySem.W.Frag} {mg : Str → Option Value} {base : Heap}
def F_Seatsu__initu_ (C : Addr) : FS := fun ds μ Q => ∃ (s : Addr) (b : Hol) (ws : List Str), ds = [.ptr s, encH b, .lst (ws.map .str)] ∧ μ s = some (.ins C []) ∧ b.length ≤ 1000 ∧ (∀ r ∈ b, r.length ≤ 1000) ∧ ∀ A μ', A.s = s → SeatsAt C A (seats0 b ws) μ' → (∀ a ∈ A.all, a ≠ s → μ a = none) → Fm A.all μ μ' → Q .non μ'
theorem sc_Seatsu__initu_ : FnScope ["self", "begin", "wanted", "row", "item"] ["self", "begin", "wanted"] (defScope sd_Seatsu__initu_) := ⟨rfl, rfl, rfl, by decide +kernel, rfl, by decide +kernel, by decide +kernel⟩
theorem ok_Seatsu__initu_ {f : Addr} {fd : FuncData} (T : Md K mg)  (Fd : FunD K "__init__" "Seats.__init__" (defArgs sd_Seatsu__initu_) (defBody sd_Seatsu__initu_) (defScope sd_Seatsu__initu_) [] [] f fd) : FnOk P w K mg base CX0 1 f fd ["self", "begin", "wanted"] (spOf (F_Seatsu__initu_ (He.ga K "Seats"))) := by
  refine fn_data Fd sc_Seatsu__initu_ (fun ds μ R h => by (obtain ⟨s, b, ws, rfl, hs, hl, hl2, q⟩ := h; rfl)) fun cdv A outer s H E hr => ⟨_, (pss_cons (kSetFld (K := K) rfl (pv 0) (pe_lc (own := [("row", 3)]) (by rfl) sc_Seatsu__initu_.nd (kWalk (K := K) rfl (pv 1)) (by first | exact blkOk_by (own := [("row", 3)]) (by decide +kernel) | exact blkOk_by (own := [("row", 3)]) (by kernel_rfl)) (fun _ _ _ _ _ => (pg_name (i := 3) sc_Seatsu__initu_.nd rfl (by first | exact Or.inl rfl | exact Or.inr rfl))) (fun _ _ _ _ _ => pts_nil) (fun _ _ _ _ _ => (pe_lc (own := [("item", 4)]) (by rfl) sc_Seatsu__initu_.nd (kWalk (K := K) rfl (pv 3)) (by first | exact blkOk_by (own := [("item", 4)]) (by decide +kernel) | exact blkOk_by (own := [("item", 4)]) (by kernel_rfl)) (fun _ _ _ _ _ => (pg_name (i := 4) sc_Seatsu__initu_.nd rfl (by first | exact Or.inl rfl | exact Or.inr rfl))) (fun _ _ _ _ _ => pts_nil) (fun _ _ _ _ _ => (pe_ifExp (pt_cmpR (kIn (K := K) rfl) (pv 4) (pv 2) (by first | exact nomark _ | rfl)) (pv 4) pe_non))))) rfl)
    (pss_cons (kSetFld (K := K) rfl (pv 0) (pe_lc (own := [("row", 3)]) (by rfl) sc_Seatsu__initu_.nd (kWalk (K := K) rfl (pv 1)) (by first | exact blkOk_by (own := [("row", 3)]) (by decide +kernel) | exact blkOk_by (own := [("row", 3)]) (by kernel_rfl)) (fun _ _ _ _ _ => (pg_name (i := 3) sc_Seatsu__initu_.nd rfl (by first | exact Or.inl rfl | exact Or.inr rfl))) (fun _ _ _ _ _ => pts_nil) (fun _ _ _ _ _ => pe_int)) rfl)
    (pss_one (kSetFld (K := K) rfl (pv 0) (pe_lst pa_nil) rfl)))), fun N ds R h => ?_⟩
  obtain ⟨s, b, ws, rfl, hs, hl, hl2, q⟩ := h
  walk_at "es"
  refine WS_fld T.cl_Seats T.na_Seats_held (WE_cell (WEn_mapC (α := Row) (js := [3]) (by decide) (WI_tpl ?_)))
  walk_at "es"
  refine ⟨b, encR, fun r => (r.map (keep ws)).map encI, rfl, small (Nat.le_trans hl (by decide)), fun _ _ => trivial, fun r hr μ' sub => WG_name (WEn_mapT (α := Item) (js := [4]) (by decide) (WI_tpl ?_)), fun rows μ1 hlen nd hn hg fm h hhn nh => ?_⟩
  · walk_at "es"
    refine ⟨r, encI, fun i => encI (keep ws i), rfl, small (Nat.le_trans (hl2 r hr) (by decide)), fun i hi => WG_name ?_, by dsimp only; rw [List.map_map]; rfl, rfl⟩
    refine WE_if (WT_test (WE_op lIn_seq ?_))
    walk_at "es"
    cases i with
    | none =>
      refine dIn_i (ds := ws.map D.str) rfl rfl (flat_strs ws) ?_
      rw [show encI none = D.non from rfl, any_str_non]
      walk_at "es"
      exact ⟨rfl, rfl⟩
    | some x =>
      refine dIn_i (ds := ws.map D.str) rfl rfl (flat_strs ws) ?_
      rw [show encI (some x) = D.str x from rfl, any_str]
      by_cases hx : x ∈ ws
      · rw [decide_eq_true hx]
        walk_at "es"
        refine ⟨?_, rfl⟩
        show D.str x = encI (if x ∈ ws then some x else none)
        rw [if_pos hx]; rfl
      · rw [decide_eq_false hx]
        walk_at "es"
        refine ⟨?_, rfl⟩
        show D.non = encI (if x ∈ ws then some x else none)
        rw [if_neg hx]; rfl
  have sr : s ∉ rows := fun z => by rw [(hn s z).1] at hs; cases hs
  have hsn : s ≠ h := fun z => by rw [← z, fm s sr, hs] at nh; cases nh
  walk_at "es"
  refine ⟨s, [], rfl, by rw [updS_ne hsn, fm s sr]; exact hs, by decide, ?_⟩
  walk_at "es"
  generalize e2 : updS (updS μ1 h (.lst (rows.map .ptr))) s _ = μ2
  have h2s : μ2 s = some (.ins (He.ga K "Seats") (putFD "held" (.ptr h) [])) := by rw [← e2, updS_same]
  refine WS_fld T.cl_Seats T.na_Seats_moved (WE_cell (WEn_mapT (α := Row) (js := [3]) (by decide) (WI_tpl ?_)))
  walk_at "es"
  refine ⟨b, encR, fun _ => .int 0, rfl, small (Nat.le_trans hl (by decide)), fun r hr => WG_name ?_, fun m hmn nm => ?_⟩
  · walk_at "es"
    exact ⟨rfl, rfl⟩
  have hsm : s ≠ m := fun z => by rw [← z, h2s] at nm; cases nm
  walk_at "es"
  refine ⟨s, _, rfl, by rw [updS_ne hsm]; exact h2s, (by show 1 < 1000; decide), ?_⟩
  walk_at "es"
  generalize e3 : updS (updS μ2 m (.lst (b.map fun _ => .int 0))) s _ = μ3
  have h3s : μ3 s = some (.ins (He.ga K "Seats") (putFD "moved" (.ptr m) (putFD "held" (.ptr h) []))) := by rw [← e3, updS_same]
  refine WS_fld T.cl_Seats T.na_Seats_trail (WE_cell (WEn_lst (WA_nil ⟨by decide, fun t htn nt => ?_⟩)))
  have hst : s ≠ t := fun z => by rw [← z, h3s] at nt; cases nt
  walk_at "es"
  refine ⟨s, _, rfl, by rw [updS_ne hst]; exact h3s, (by show 2 < 1000; decide), ?_⟩
  have fin := seats_init (C := He.ga K "Seats") hs hlen nd (fun r hr => (hn r hr).1) hg fm e2.symm e3.symm rfl nh nm nt
  exact ⟨_, SubS.refl _, q _ _ rfl fin.1 fin.2.1 fin.2.2⟩
end
end G
set_option Elab.async false
set_option linter.all false
set_option maxRecDepth 100000
set_option maxHeartbeats 4000000
namespace G
open PySem PySem.Spec L2 DL
local macro_rules | `(tactic| walk_at "e") => `(tactic| first
  | with_reducible refine WE_int ?_
  | with_reducible refine WE_str ?_
  | with_reducible refine WE_bl ?_
  | with_reducible refine WE_non ?_
  | with_reducible refine WE_ty ?_
  | refine WE_var rfl ?_
  | with_reducible refine WA_nil ?_
  | with_reducible refine WA_cons ?_
  | with_reducible refine WO_none ?_
  | with_reducible refine WO_some ?_
  | with_reducible refine WT_val ?_
  | with_reducible refine WT_test ?_
  | with_reducible refine WT_not ?_
  | with_reducible refine WT_and ?_
  | with_reducible refine WT_or ?_
  | with_reducible refine WT_yes ?_
  | with_reducible refine WE_andV ?_
  | with_reducible refine WE_orV ?_
  | with_reducible refine WE_notV ?_
  | with_reducible refine WE_if ?_
  | with_reducible refine WE_tup ?_
  | with_reducible refine WE_neg ?_
  | with_reducible refine WE_op lAdd ?_
  | with_reducible refine WE_op lMul_int ?_
  | with_reducible refine WE_op lEq ?_
  | with_reducible refine WE_op lNe ?_
  | with_reducible refine WE_op lIsN ?_
  | with_reducible refine WE_op lNotN ?_
  | with_reducible refine WE_op lIx ?_
  | with_reducible refine WE_op lIntB ?_
  | with_reducible refine WE_op lIntC ?_
  | with_reducible refine WE_op lInt ?_
  | with_reducible refine WE_cb lIsi ?_
  | with_reducible refine WE_cb lLenA ?_
  | with_reducible refine WE_cb lTupleOfK ?_
  | with_reducible refine WE_cb lAbs ?_
  | with_reducible refine WE_cb lIntOf ?_
  | with_reducible refine WE_cb lMin2 ?_
  | with_reducible refine WE_cb lMax2 ?_
  | with_reducible refine WE_call ?_
  | with_reducible refine WE_chain lIntB lIntB ?_
  | with_reducible refine WS_seq ?_
  | with_reducible refine WS_ret ?_
  | with_reducible refine WS_retN ?_
  | with_reducible refine WS_set ?_
  | refine WS_asg2 rfl ?_
  | refine WS_asg3 rfl ?_
  | with_reducible refine WS_drop ?_
  | with_reducible refine WS_if ?_
  | with_reducible refine WS_next ?_
  | with_reducible refine WG_name ?_
  | with_reducible refine WG_tup rfl ?_
  | with_reducible refine WGs_cons ?_
  | with_reducible refine WGs_nil ?_
  | with_reducible refine dAdd_i ?_
  | with_reducible refine dInt_i ?_
  | with_reducible refine dIsi_i rfl (by decide) ?_
  | with_reducible refine dLenA_t ?_
  | with_reducible refine dLenA_l ?_
  | with_reducible refine dIsN_i ?_
  | with_reducible refine dNotN_i ?_
  | with_reducible refine dAbs_i ?_
  | with_reducible refine dIntOf_i ?_
  | with_reducible refine iteN (by decide) ?_
  | with_reducible refine iteY (by decide) ?_
  | refine iteT ?_
  | refine iteF ?_
  | with_reducible refine is2_i ?_
  | with_reducible refine is3_i ?_
  | with_reducible refine ⟨_, rfl, ?_⟩)
local macro_rules | `(tactic| walk_at "es") => `(tactic| repeat walk_at "e")

section
variable {P : Program} {w : World} {K : PySem.W.Frag} {mg : Str → Option Value} {base : Heap}
def F_check_holdings : FS := fun ds μ Q => ∃ (b g : Hol), ds = [encH b, encH g] ∧ Valid b g ∧ Q .non μ
theorem sc_check_holdings : FnScope ["begin", "goal", "holding", "found", "row", "item"] ["begin", "goal"] (defScope sd_check_holdings) := ⟨rfl, rfl, rfl, by decide +kernel, rfl, by decide +kernel, by decide +kernel⟩
theorem ok_check_holdings {f : Addr} {fd : FuncData} (T : Md K mg) (h_items_of : Has P w K mg base "items_of" 1 ["holding"] F_items_of) (h_is_holding : Has P w K mg base "is_holding" 3 ["thing"] F_is_holding) (h_are_names_once : Has P w K mg base "are_names_once" 2 ["holding"] F_are_names_once) (Fd : FunD K "check_holdings" "check_holdings" (defArgs sd_check_holdings) (defBody sd_check_holdings) (defScope sd_check_holdings) [] [] f fd) : FnOk P w K mg base CX0 4 f fd ["begin", "goal"] (spOf F_check_holdings) := by
  refine fn_data Fd sc_check_holdings (fun ds μ R h => by (obtain ⟨b, g, rfl, v, q⟩ := h; rfl)) fun cdv A outer s H E hr => ⟨_, (pss_cons (ps_for PassesOwn.never rfl (kWalk (K := K) rfl (pe_tup (pa_cons (pv 0) (pa_cons (pv 1) pa_nil)))) (pg_name (i := 2) sc_check_holdings.nd rfl (by first | exact Or.inl rfl | exact Or.inr rfl)) (pss_one (ps_if (PW.pt (pw_or (pt_not (pt_val (pe_fn h_is_holding (hr.mono (by decide)) (by rfl) (pa_cons (pv 2) pa_nil)))) (pw_or1 (pt_not (pt_val (pe_fn h_are_names_once (hr.mono (by decide)) (by rfl) (pa_cons (pv 2) pa_nil))))))) (pss_one ps_never) pss_nil)))
    (pss_cons (ps_if (pt_cmpR (kNe (K := K) rfl hr.units) (pe_lc (own := [("row", 4)]) (by rfl) sc_check_holdings.nd (kWalk (K := K) rfl (pv 0)) (by first | exact blkOk_by (own := [("row", 4)]) (by decide +kernel) | exact blkOk_by (own := [("row", 4)]) (by kernel_rfl)) (fun _ _ _ _ _ => (pg_name (i := 4) sc_check_holdings.nd rfl (by first | exact Or.inl rfl | exact Or.inr rfl))) (fun _ _ _ _ _ => pts_nil) (fun _ _ _ _ _ => (pe_callB (kLen (K := K) rfl) (by rfl) T.f_len (by decide +kernel) (pa_cons (pv 4) pa_nil)))) (pe_lc (own := [("row", 4)]) (by rfl) sc_check_holdings.nd (kWalk (K := K) rfl (pv 1)) (by first | exact blkOk_by (own := [("row", 4)]) (by decide +kernel) | exact blkOk_by (own := [("row", 4)]) (by kernel_rfl)) (fun _ _ _ _ _ => (pg_name (i := 4) sc_check_holdings.nd rfl (by first | exact Or.inl rfl | exact Or.inr rfl))) (fun _ _ _ _ _ => pts_nil) (fun _ _ _ _ _ => (pe_callB (kLen (K := K) rfl) (by rfl) T.f_len (by decide +kernel) (pa_cons (pv 4) pa_nil)))) (by first | exact nomark _ | rfl)) (pss_one ps_never) pss_nil)
    (pss_cons (ps_set (i := 3) sc_check_holdings.nd rfl (by first | exact Or.inl rfl | exact Or.inr rfl) (pe_fn h_items_of (hr.mono (by decide)) (by rfl) (pa_cons (pv 0) pa_nil)))
    (pss_one (ps_if (pt_not (pt_val (pe_callB (kAll (K := K) rfl rfl) (by rfl) T.f_all (by decide +kernel) (pa_cons (pe_lc (own := [("item", 5)]) (by rfl) sc_check_holdings.nd (kWalk (K := K) rfl (pe_fn h_items_of (hr.mono (by decide)) (by rfl) (pa_cons (pv 1) pa_nil))) (by first | exact blkOk_by (own := [("item", 5)]) (by decide +kernel) | exact blkOk_by (own := [("item", 5)]) (by kernel_rfl)) (fun _ _ _ _ _ => (pg_name (i := 5) sc_check_holdings.nd rfl (by first | exact Or.inl rfl | exact Or.inr rfl))) (fun _ _ _ _ _ => pts_nil) (fun _ _ _ _ _ => (pe_cmpR (kIn (K := K) rfl) (pv 5) (pv 3) (by first | exact nomark _ | rfl)))) pa_nil)))) (pss_one ps_never) pss_nil))))), fun N ds R h => ?_⟩
  obtain ⟨b, g, rfl, v, q⟩ := h
  have sb := v.lb.size
  have okg : OkL (lens g) := by rw [v.lg]; exact v.lb
  have sg := okg.size
  have fin1 : ∀ h : Hol, h = b ∨ h = g → OkL (lens h) ∧ namesOk h := fun h e => by
    rcases e with rfl | rfl
    · exact ⟨v.lb, v.nb⟩
    · exact ⟨okg, v.ng⟩
  walk_at "es"
  refine WS_for (js := [2]) (WI_tpl ?_)
  walk_at "es"
  refine ⟨small (by simp), _, rfl, fun i ρ' μ' => (∃ x, ρ' = [some (encH b), some (encH g), x, none, none, none]) ∧ μ' = N.μ, ⟨⟨_, rfl⟩, rfl⟩, fun _ _ _ _ _ => trivial, fun i d ρ' μ' hd inv => ?_, fun ρ' μ' inv => ?_⟩
  · obtain ⟨⟨x, rfl⟩, rfl⟩ := inv
    have hd' : ∃ h : Hol, d = encH h ∧ (h = b ∨ h = g) := by
      have := List.mem_of_getElem? hd
      simp only [List.mem_cons, List.not_mem_nil, or_false] at this
      rcases this with e | e
      · exact ⟨b, e, .inl rfl⟩
      · exact ⟨g, e, .inr rfl⟩
    obtain ⟨h, rfl, hh⟩ := hd'
    obtain ⟨oh, nh⟩ := fin1 h hh
    have sh := oh.size
    refine WG_name ?_
    walk_at "es"
    refine ⟨h, rfl, oh, ?_⟩
    walk_at "es"
    refine ⟨h, rfl, nh, Nat.le_trans sh.2.2 (by decide), Nat.le_trans sh.1 (by decide), ?_⟩
    walk_at "es"
    exact ⟨⟨_, rfl⟩, rfl⟩
  obtain ⟨⟨x, rfl⟩, rfl⟩ := inv
  walk_at "es"
  have ml : ∀ h : Hol, (h.map fun r => D.int (r.length : Int)) = (lens h).map fun (n : Nat) => D.int (n : Int) := fun h => by unfold lens; rw [List.map_map]; rfl
  refine WE_frozen (WEn_mapT (α := Row) (js := [4]) (by decide) (WI_tpl ?_))
  walk_at "es"
  refine ⟨b, encR, fun r => .int (r.length : Int), rfl, small (Nat.le_trans sb.1 (by decide)), fun r hr => WG_name ?_, ?_⟩
  · walk_at "es"
    refine dLenA_t ⟨?_, rfl⟩
    rw [List.length_map]
  refine WE_frozen (WEn_mapT (α := Row) (js := [4]) (by decide) (WI_tpl ?_))
  walk_at "es"
  refine ⟨g, encR, fun r => .int (r.length : Int), rfl, small (Nat.le_trans sg.1 (by decide)), fun r hr => WG_name ?_, ?_⟩
  · walk_at "es"
    refine dLenA_t ⟨?_, rfl⟩
    rw [List.length_map]
  rw [ml, ml, v.lg]
  refine dNe_c cdNat.lst (by decide) (fun _ _ => trivial) (fun _ _ => trivial) ⟨_, rfl, ?_⟩
  rw [decide_eq_true (rfl : lens b = lens b)]
  walk_at "es"
  refine ⟨b, rfl, Nat.le_trans sb.2.2 (by decide), Nat.le_trans sb.1 (by decide), ?_⟩
  walk_at "es"
  have il := items_len g
  refine WE_allT (α := Str) (js := [5]) (by decide) (WI_lst ?_)
  walk_at "es"
  refine ⟨g, rfl, Nat.le_trans sg.2.2 (by decide), Nat.le_trans sg.1 (by decide), ?_⟩
  walk_at "es"
  refine ⟨items g, D.str, rfl, small (Nat.le_trans il (Nat.le_trans sg.2.2 (by decide))), fun x hx => WG_name ?_, ?_⟩
  · refine WE_op lIn_seq ?_
    walk_at "es"
    refine dIn_i (ds := (items b).map D.str) rfl rfl (flat_strs _) ?_
    rw [any_str]
    exact ⟨by rw [decide_eq_true (v.sub x hx)], rfl⟩
  walk_at "es"
  exact ⟨_, SubS.refl _, q⟩
def F_carries_by_seats : FS := fun ds μ Q => ∃ (b g : Hol), ds = [encH b, encH g] ∧ Valid b g ∧ (∃ p, isSeat g p ∧ itemAt g p = none) ∧ Q (.lst ((shufT b g).map encC)) μ
theorem sc_carries_by_seats : FnScope ["begin", "goal", "told", "wrong", "free", "spare", "seat", "belt", "at"] ["begin", "goal"] (defScope sd_carries_by_seats) := ⟨rfl, rfl, rfl, by decide +kernel, rfl, by decide +kernel, by decide +kernel⟩
theorem ok_carries_by_seats {f : Addr} {fd : FuncData} (T : Md K mg) (h_Seatsu__initu_ : HasK P w K mg base "Seats" (He.ga K "Seats") 1 ["self", "begin", "wanted"] (F_Seatsu__initu_ (He.ga K "Seats"))) (h_items_of : Has P w K mg base "items_of" 1 ["holding"] F_items_of) (h_Seats_turn_back : HasM P w K mg base (He.ga K "Seats") "turn_back" 3 ["self"] (F_Seats_turn_back (He.ga K "Seats"))) (h_Seats_write : HasM P w K mg base (He.ga K "Seats") "write" 3 ["self", "seat", "source"] (F_Seats_write (He.ga K "Seats"))) (h_Seats_all_seats : HasM P w K mg base (He.ga K "Seats") "all_seats" 1 ["self"] (F_Seats_all_seats (He.ga K "Seats"))) (h_Seats_is_free : HasM P w K mg base (He.ga K "Seats") "is_free" 3 ["self", "seat"] (F_Seats_is_free (He.ga K "Seats"))) (h_Seats_holders : HasM P w K mg base (He.ga K "Seats") "holders" 2 ["self", "item"] (F_Seats_holders (He.ga K "Seats"))) (h_Seats_item : HasM P w K mg base (He.ga K "Seats") "item" 1 ["self", "seat"] (F_Seats_item (He.ga K "Seats"))) (Fd : FunD K "carries_by_seats" "carries_by_seats" (defArgs sd_carries_by_seats) (defBody sd_carries_by_seats) (defScope sd_carries_by_seats) [] [] f fd) : FnOk P w K mg base CX0 4 f fd ["begin", "goal"] (spOf F_carries_by_seats) := by
  refine fn_data Fd sc_carries_by_seats (fun ds μ R h => by (obtain ⟨b, g, rfl, v, sp, q⟩ := h; rfl)) fun cdv A outer s H E hr => ⟨_, (pss_cons (ps_set (i := 2) sc_carries_by_seats.nd rfl (by first | exact Or.inl rfl | exact Or.inr rfl) (pe_mk h_Seatsu__initu_ (hr.mono (by decide)) (by rfl) (pa_cons (pv 0) (pa_cons (pe_fn h_items_of (hr.mono (by decide)) (by rfl) (pa_cons (pv 1) pa_nil)) pa_nil))))
    (pss_one (ps_while PassesOwn.never (pt_val pe_bl) (pss_cons (by first | exact (ps_setLc (i := 3) (own := [("seat", 6)]) (by rfl) sc_carries_by_seats.nd rfl rfl (sw_true rfl rfl rfl (by decide +kernel)) (kWalk (K := K) rfl (pe_me0 (pv 2) h_Seats_all_seats (hr.mono (by decide)))) (by first | exact blkOk_by (own := [("seat", 6)]) (by decide +kernel) | exact blkOk_by (own := [("seat", 6)]) (by kernel_rfl)) (fun _ _ _ _ _ => (pg_name (i := 6) sc_carries_by_seats.nd rfl (by first | exact Or.inl rfl | exact Or.inr rfl))) (fun _ _ _ _ _ => (pts_one (pt_cmpR (kNotIn (K := K) rfl) (pe_ix (kIx (K := K) rfl) (pe_ix (kIx (K := K) rfl) (pv 1) (pe_ix (kIx (K := K) rfl) (pv 6) pe_int (fun _ _ => rfl)) (fun _ _ => rfl)) (pe_ix (kIx (K := K) rfl) (pv 6) pe_int (fun _ _ => rfl)) (fun _ _ => rfl)) (pe_tup (pa_cons pe_non (pa_cons (pe_me (pv 2) h_Seats_item (hr.mono (by decide)) (pa_cons (pv 6) pa_nil)) pa_nil))) (by first | exact nomark _ | rfl)))) (fun _ _ _ _ _ => (pv 6))) | exact ps_set (i := 3) sc_carries_by_seats.nd rfl (by first | exact Or.inl rfl | exact Or.inr rfl) (pe_lc (own := [("seat", 6)]) (by rfl) sc_carries_by_seats.nd (kWalk (K := K) rfl (pe_me0 (pv 2) h_Seats_all_seats (hr.mono (by decide)))) (by first | exact blkOk_by (own := [("seat", 6)]) (by decide +kernel) | exact blkOk_by (own := [("seat", 6)]) (by kernel_rfl)) (fun _ _ _ _ _ => (pg_name (i := 6) sc_carries_by_seats.nd rfl (by first | exact Or.inl rfl | exact Or.inr rfl))) (fun _ _ _ _ _ => (pts_one (pt_cmpR (kNotIn (K := K) rfl) (pe_ix (kIx (K := K) rfl) (pe_ix (kIx (K := K) rfl) (pv 1) (pe_ix (kIx (K := K) rfl) (pv 6) pe_int (fun _ _ => rfl)) (fun _ _ => rfl)) (pe_ix (kIx (K := K) rfl) (pv 6) pe_int (fun _ _ => rfl)) (fun _ _ => rfl)) (pe_tup (pa_cons pe_non (pa_cons (pe_me (pv 2) h_Seats_item (hr.mono (by decide)) (pa_cons (pv 6) pa_nil)) pa_nil))) (by first | exact nomark _ | rfl)))) (fun _ _ _ _ _ => (pv 6))))
    (pss_cons (ps_if (pt_cmpR (kEq (K := K) rfl hr.units) (pe_callB (kLen (K := K) rfl) (by rfl) T.f_len (by decide +kernel) (pa_cons (pv 3) pa_nil)) pe_int (by first | exact nomark _ | rfl)) (pss_cons (ps_expr (pe_me0 (pv 2) h_Seats_turn_back (hr.mono (by decide))))
    (pss_one (ps_ret (kFld (K := K) rfl (pv 2) rfl)))) pss_nil)
    (pss_cons (by first | exact (ps_setLc (i := 4) (own := [("seat", 6)]) (by rfl) sc_carries_by_seats.nd rfl rfl (sw_true rfl rfl rfl (by decide +kernel)) (kWalk (K := K) rfl (pv 3)) (by first | exact blkOk_by (own := [("seat", 6)]) (by decide +kernel) | exact blkOk_by (own := [("seat", 6)]) (by kernel_rfl)) (fun _ _ _ _ _ => (pg_name (i := 6) sc_carries_by_seats.nd rfl (by first | exact Or.inl rfl | exact Or.inr rfl))) (fun _ _ _ _ _ => (pts_one (pt_val (pe_me (pv 2) h_Seats_is_free (hr.mono (by decide)) (pa_cons (pv 6) pa_nil))))) (fun _ _ _ _ _ => (pv 6))) | exact ps_set (i := 4) sc_carries_by_seats.nd rfl (by first | exact Or.inl rfl | exact Or.inr rfl) (pe_lc (own := [("seat", 6)]) (by rfl) sc_carries_by_seats.nd (kWalk (K := K) rfl (pv 3)) (by first | exact blkOk_by (own := [("seat", 6)]) (by decide +kernel) | exact blkOk_by (own := [("seat", 6)]) (by kernel_rfl)) (fun _ _ _ _ _ => (pg_name (i := 6) sc_carries_by_seats.nd rfl (by first | exact Or.inl rfl | exact Or.inr rfl))) (fun _ _ _ _ _ => (pts_one (pt_val (pe_me (pv 2) h_Seats_is_free (hr.mono (by decide)) (pa_cons (pv 6) pa_nil))))) (fun _ _ _ _ _ => (pv 6))))
    (pss_one (ps_if (pt_cmpR op_gt (pe_callB (kLen (K := K) rfl) (by rfl) T.f_len (by decide +kernel) (pa_cons (pv 4) pa_nil)) pe_int (by first | exact nomark _ | rfl)) (pss_cons (ps_asg (pe_ix (kIx (K := K) rfl) (pv 4) pe_int (fun _ _ => rfl)) (kTup (K := K) (n := 2) rfl (by rfl) (pgs_cons (pg_name (i := 7) sc_carries_by_seats.nd rfl (by first | exact Or.inl rfl | exact Or.inr rfl)) (pgs_cons (pg_name (i := 8) sc_carries_by_seats.nd rfl (by first | exact Or.inl rfl | exact Or.inr rfl)) pgs_nil))))
    (pss_one (ps_expr (pe_me (pv 2) h_Seats_write (hr.mono (by decide)) (pa_cons (pe_ix (kIx (K := K) rfl) (pv 4) pe_int (fun _ _ => rfl)) (pa_cons (pe_ix (kIx (K := K) rfl) (pe_me (pv 2) h_Seats_holders (hr.mono (by decide)) (pa_cons (pe_ix (kIx (K := K) rfl) (pe_ix (kIx (K := K) rfl) (pv 1) (pv 7) (fun _ _ => rfl)) (pv 8) (fun _ _ => rfl)) pa_nil)) pe_int (fun _ _ => rfl)) pa_nil)))))) (pss_cons (by first | exact (ps_setLc (i := 5) (own := [("seat", 6)]) (by rfl) sc_carries_by_seats.nd rfl rfl (sw_true rfl rfl rfl (by decide +kernel)) (kWalk (K := K) rfl (pe_me0 (pv 2) h_Seats_all_seats (hr.mono (by decide)))) (by first | exact blkOk_by (own := [("seat", 6)]) (by decide +kernel) | exact blkOk_by (own := [("seat", 6)]) (by kernel_rfl)) (fun _ _ _ _ _ => (pg_name (i := 6) sc_carries_by_seats.nd rfl (by first | exact Or.inl rfl | exact Or.inr rfl))) (fun _ _ _ _ _ => (pts_one (pt_cmpR op_isN (pe_ix (kIx (K := K) rfl) (pe_ix (kIx (K := K) rfl) (pv 1) (pe_ix (kIx (K := K) rfl) (pv 6) pe_int (fun _ _ => rfl)) (fun _ _ => rfl)) (pe_ix (kIx (K := K) rfl) (pv 6) pe_int (fun _ _ => rfl)) (fun _ _ => rfl)) pe_non (by first | exact nomark _ | rfl)))) (fun _ _ _ _ _ => (pv 6))) | exact ps_set (i := 5) sc_carries_by_seats.nd rfl (by first | exact Or.inl rfl | exact Or.inr rfl) (pe_lc (own := [("seat", 6)]) (by rfl) sc_carries_by_seats.nd (kWalk (K := K) rfl (pe_me0 (pv 2) h_Seats_all_seats (hr.mono (by decide)))) (by first | exact blkOk_by (own := [("seat", 6)]) (by decide +kernel) | exact blkOk_by (own := [("seat", 6)]) (by kernel_rfl)) (fun _ _ _ _ _ => (pg_name (i := 6) sc_carries_by_seats.nd rfl (by first | exact Or.inl rfl | exact Or.inr rfl))) (fun _ _ _ _ _ => (pts_one (pt_cmpR op_isN (pe_ix (kIx (K := K) rfl) (pe_ix (kIx (K := K) rfl) (pv 1) (pe_ix (kIx (K := K) rfl) (pv 6) pe_int (fun _ _ => rfl)) (fun _ _ => rfl)) (pe_ix (kIx (K := K) rfl) (pv 6) pe_int (fun _ _ => rfl)) (fun _ _ => rfl)) pe_non (by first | exact nomark _ | rfl)))) (fun _ _ _ _ _ => (pv 6))))
    (pss_one (ps_expr (pe_me (pv 2) h_Seats_write (hr.mono (by decide)) (pa_cons (pe_ix (kIx (K := K) rfl) (pe_lc (own := [("seat", 6)]) (by rfl) sc_carries_by_seats.nd (kWalk (K := K) rfl (pv 5)) (by first | exact blkOk_by (own := [("seat", 6)]) (by decide +kernel) | exact blkOk_by (own := [("seat", 6)]) (by kernel_rfl)) (fun _ _ _ _ _ => (pg_name (i := 6) sc_carries_by_seats.nd rfl (by first | exact Or.inl rfl | exact Or.inr rfl))) (fun _ _ _ _ _ => (pts_one (pt_val (pe_me (pv 2) h_Seats_is_free (hr.mono (by decide)) (pa_cons (pv 6) pa_nil))))) (fun _ _ _ _ _ => (pv 6))) pe_int (fun _ _ => rfl)) (pa_cons (pe_ix (kIx (K := K) rfl) (pv 3) pe_int (fun _ _ => rfl)) pa_nil)))))))))))))), fun N ds R h => ?_⟩
  obtain ⟨b, g, rfl, v, sp, q⟩ := h
  have sb := v.lb.size
  have okg : OkL (lens g) := by rw [v.lg]; exact v.lb
  have sg := okg.size
  have gd : Gd b g := ⟨v.lg, v.ng.2, sp⟩
  walk_at "es"
  refine WE_make ?_
  walk_at "es"
  refine ⟨g, rfl, Nat.le_trans sg.2.2 (by decide), Nat.le_trans sg.1 (by decide), ?_⟩
  walk_at "es"
  intro s hs ms
  refine ⟨s, b, items g, rfl, updS_same, Nat.le_trans sb.1 (by decide), fun r hr => Nat.le_trans (sb.2.1 r hr).2 (by decide), fun A μ1 hA hS hn hf => ⟨rfl, ?_⟩⟩
  subst hA
  have nA : ∀ a ∈ A.all, N.μ a = none := fun a ha => by
    by_cases e : a = A.s
    · rw [e]; exact ms
    · have := hn a ha e
      rw [updS_ne e] at this; exact this
  have sub1 : SubS N.μ μ1 := fun a c e => by
    have ha : a ∉ A.all := fun z => by rw [nA a z] at e; cases e
    rw [hf a ha, updS_ne fun z => ha (by rw [z]; simp [SA.all])]
    exact e
  walk_at "es"
  have I0 : Iv b g (seats0 b (items g)) := seats0_ok v.sub
  have m0 : me g (seats0 b (items g)) ≤ 25 := by
    have h1 := me_le g (seats0 b (items g))
    rw [I0.J.ln] at h1
    have := v.lb.2.2.2
    omega
  refine WS_while (fun m ρ' μ' => ∃ S x3 x4 x5 x6 x7 x8, ρ' = [some (encH b), some (encH g), some (.ptr A.s), x3, x4, x5, x6, x7, x8] ∧ SeatsAt (He.ga K "Seats") A S μ' ∧ SubS N.μ μ' ∧ Iv b g S ∧ me g S < m ∧ S.trail.length + 8 * me g S ≤ 300 ∧ fin g m S = fin g 100 (seats0 b (items g)))
    ⟨100, _, _, _, _, _, _, _, rfl, hS, sub1, I0, by omega, (by show 0 + _ ≤ _; omega), rfl⟩ ?_
  rintro m ρ' μ' ⟨S, x3, x4, x5, x6, x7, x8, rfl, hS', sub', I, hm, hl, hfin⟩
  have ok := I.sok v.lb v.ng.1 (by omega)
  have wlen : (wrong g S).length ≤ 1000 := Nat.le_trans (List.length_filter_le _ _) ok.sl
  walk_at "es"
  refine WE_frozen (WEn_filterT (α := Seat) (js := [6]) (by decide) (WI_lst ?_))
  refine WE_meth (WE_var rfl ⟨A.s, _, rfl, hS'.s, rfl, ?_⟩)
  walk_at "es"
  refine ⟨A, S, rfl, hS', fun r hr => (ok.rl r hr).2.1, ok.sl, ?_⟩
  walk_at "es"
  refine ⟨seatsOf S.held, encP, wr g S, encP, rfl, small (Nat.le_trans ok.sl (by decide)), fun p hp => WG_name ?_, ?_⟩
  · have hp' := mem_seatsOf.mp hp
    obtain ⟨r, hr, _, hit, _⟩ := ((isSeat_lens (I.J.ln.trans v.lg.symm)).mp hp').row
    refine WT_test (WE_op lNotIn_seq ?_)
    walk_at "es"
    refine dIx_t (j := 0) rfl rfl ?_
    refine dIx_t (j := p.1) rfl (by rw [List.getElem?_map, hr]; rfl) ?_
    walk_at "es"
    refine dIx_t (j := 1) rfl rfl ?_
    refine dIx_t (j := p.2) rfl (by rw [List.getElem?_map, hit]; rfl) ?_
    walk_at "es"
    refine WE_meth (WE_var rfl ⟨A.s, _, rfl, hS'.s, rfl, ?_⟩)
    walk_at "es"
    refine ⟨A, S, p, rfl, hS', hp', ?_⟩
    walk_at "es"
    refine ⟨small (by simp), ?_⟩
    refine dNotIn_i (ds := [.non, encI (itemAt S.held p)]) rfl (flat_I _) (by simp only [List.all_cons, List.all_nil, flat_I]; rfl) ?_
    rw [wr_eq]
    refine ⟨_, rfl, rfl, rfl, fun _ => ?_⟩
    walk_at "es"
    exact ⟨rfl, rfl⟩
  show WS _ _ _ _ _
  have ewr : (seatsOf S.held).filter (wr g S) = wrong g S := rfl
  rw [ewr]
  obtain ⟨n, rfl⟩ : ∃ n, m = n + 1 := ⟨m - 1, by omega⟩
  have efin : fin g (n + 1) S = if (wrong g S).isEmpty then S.backTo S.held.length else fin g n (stepS g S) := rfl
  walk_at "es"
  rw [List.length_map]
  refine dEq_int ⟨_, rfl, ?_⟩
  by_cases hw : wrong g S = []
  · rw [hw]
    walk_at "es"
    refine WE_meth (WE_var rfl ⟨A.s, _, rfl, hS'.s, rfl, ?_⟩)
    walk_at "es"
    refine ⟨A, S, rfl, hS', ok, by have := ok.hl; omega, fun μ2 h2 f2 => ?_⟩
    walk_at "es"
    refine WE_thaw (Wtrail T.cl_Seats T.na_Seats_trail rfl h2 ⟨A.t, _, rfl, nA _ SA.t_in, h2.t, ?_⟩)
    have e : (S.backTo S.held.length).trail = shufT b g := by
      unfold shufT
      rw [← hfin, efin, hw]; rfl
    rw [e]
    exact retE_i q ((f2.subS sub' nA).del (nA _ SA.t_in))
  have hw0 : ¬ (((wrong g S).length : Int) = 0) := fun z => hw (List.eq_nil_of_length_eq_zero (by omega))
  rw [decide_eq_false hw0]
  obtain ⟨p, p2, es, hp, hp2, hf, hm2, hc⟩ := I.step gd hw
  have efin2 : fin g (n + 1) S = fin g n (S.write p p2) := by
    rw [efin, es]
    cases hh : wrong g S with
    | nil => exact absurd hh hw
    | cons _ _ => rfl
  have Iw := I.write hp hp2 hf
  have lw := write_len_trail (q := p2) hp
  have l8 : S.len p.1 ≤ 8 := by
    rw [SS.len_b I.J.ln, List.getD_eq_getElem?_getD, List.getElem?_eq_getElem ((isSeat_lens I.J.ln).mp hp).lt]
    exact (sb.2.1 _ (List.getElem_mem _)).2
  -- what is left when the seat is written
  have done_ : ∀ (y3 y4 y5 y6 y7 y8 : Option D) (μ2 : Store), SeatsAt (He.ga K "Seats") A (S.write p p2) μ2 → Fm A.all μ' μ2 →
      ∃ m', m' < n + 1 ∧ ∃ S x3 x4 x5 x6 x7 x8, [some (encH b), some (encH g), some (.ptr A.s), y3, y4, y5, y6, y7, y8] = [some (encH b), some (encH g), some (.ptr A.s), x3, x4, x5, x6, x7, x8] ∧ SeatsAt (He.ga K "Seats") A S μ2 ∧ SubS N.μ μ2 ∧ Iv b g S ∧ me g S < m' ∧ S.trail.length + 8 * me g S ≤ 300 ∧ fin g m' S = fin g 100 (seats0 b (items g)) := fun y3 y4 y5 y6 y7 y8 μ2 h2 f2 =>
    ⟨n, by omega, _, _, _, _, _, _, _, rfl, h2, f2.subS sub' nA, Iw, by omega, by omega, by rw [← efin2]; exact hfin⟩
  have okS : ∀ r ∈ S.held, r.length ≤ 1000 ∧ ∀ j ∈ r, okI j := fun r hr => ⟨(ok.rl r hr).2.1, (ok.rl r hr).2.2⟩
  walk_at "es"
  refine WE_frozen (WEn_filterT (α := Seat) (js := [6]) (by decide) (WI_lst ?_))
  walk_at "es"
  refine ⟨wrong g S, encP, S.free, encP, rfl, small (Nat.le_trans wlen (by decide)), fun r hr => WG_name ?_, ?_⟩
  · walk_at "es"
    refine WE_meth (WE_var rfl ⟨A.s, _, rfl, hS'.s, rfl, ?_⟩)
    walk_at "es"
    refine ⟨A, S, r, rfl, hS', okS, (mem_wrong.mp hr).1, ok.sl, ?_⟩
    refine ⟨_, rfl, rfl, rfl, fun _ => ?_⟩
    walk_at "es"
    exact ⟨rfl, rfl⟩
  walk_at "es"
  rw [List.length_map]
  rcases hc with ⟨c1, c2⟩ | ⟨c1, c2, c3⟩
  · cases hh : (wrong g S).filter S.free with
    | nil => rw [hh] at c1; cases c1
    | cons p' rest =>
      rw [hh] at c1
      cases c1
      have pos : (0 : Int) < ((p :: rest).length : Int) := by rw [List.length_cons]; omega
      rw [dec_t pos]
      walk_at "es"
      refine dIx_l (j := 0) rfl rfl ?_
      walk_at "es"
      refine WE_meth (WE_var rfl ⟨A.s, _, rfl, hS'.s, rfl, ?_⟩)
      walk_at "es"
      refine dIx_l (j := 0) rfl rfl ?_
      walk_at "es"
      refine WE_meth (WE_var rfl ⟨A.s, _, rfl, hS'.s, rfl, ?_⟩)
      walk_at "es"
      obtain ⟨r, hr, _, hit, _⟩ := ((isSeat_lens (I.J.ln.trans v.lg.symm)).mp hp).row
      refine dIx_t (j := p.1) rfl (by rw [List.getElem?_map, hr]; rfl) ?_
      walk_at "es"
      refine dIx_t (j := p.2) rfl (by rw [List.getElem?_map, hit]; rfl) ?_
      walk_at "es"
      refine ⟨A, S, itemAt g p, rfl, hS', okS, okI_of v.ng.1 (List.mem_of_getElem? hr) (List.mem_of_getElem? hit), ok.sl, ?_⟩
      walk_at "es"
      cases hq : S.holders (itemAt g p) with
      | nil => rw [hq] at c2; cases c2
      | cons q' t =>
        rw [hq] at c2
        cases c2
        refine dIx_l (j := 0) rfl rfl ?_
        walk_at "es"
        exact ⟨A, S, p, p2, rfl, hS', ok, hp, hp2, by omega, fun μ2 h2 f2 => done_ _ _ _ _ _ _ μ2 h2 f2⟩
  · rw [c1]
    walk_at "es"
    refine WE_frozen (WEn_filterT (α := Seat) (js := [6]) (by decide) (WI_lst ?_))
    refine WE_meth (WE_var rfl ⟨A.s, _, rfl, hS'.s, rfl, ?_⟩)
    walk_at "es"
    refine ⟨A, S, rfl, hS', fun r hr => (ok.rl r hr).2.1, ok.sl, ?_⟩
    walk_at "es"
    refine ⟨seatsOf S.held, encP, fun r => decide (itemAt g r = none), encP, rfl, small (Nat.le_trans ok.sl (by decide)), fun p' hp' => WG_name ?_, ?_⟩
    · have hp'' := mem_seatsOf.mp hp'
      obtain ⟨r, hr, _, hit, _⟩ := ((isSeat_lens (I.J.ln.trans v.lg.symm)).mp hp'').row
      walk_at "es"
      refine dIx_t (j := 0) rfl rfl ?_
      refine dIx_t (j := p'.1) rfl (by rw [List.getElem?_map, hr]; rfl) ?_
      walk_at "es"
      refine dIx_t (j := 1) rfl rfl ?_
      refine dIx_t (j := p'.2) rfl (by rw [List.getElem?_map, hit]; rfl) ?_
      walk_at "es"
      have e : isNonD (encI (itemAt g p')) = decide (itemAt g p' = none) := by cases itemAt g p' <;> rfl
      refine ⟨e, rfl, fun _ => ?_⟩
      walk_at "es"
      exact ⟨rfl, rfl⟩
    have esp : ((seatsOf S.held).filter fun r => decide (itemAt g r = none)) = spare g S := rfl
    rw [esp]
    walk_at "es"
    refine WE_meth (WE_var rfl ⟨A.s, _, rfl, hS'.s, rfl, ?_⟩)
    walk_at "es"
    refine WE_frozen (WEn_filterT (α := Seat) (js := [6]) (by decide) (WI_lst ?_))
    walk_at "es"
    refine ⟨spare g S, encP, S.free, encP, rfl, small (Nat.le_trans (Nat.le_trans (List.length_filter_le _ _) ok.sl) (by decide)), fun r hr => WG_name ?_, ?_⟩
    · walk_at "es"
      refine WE_meth (WE_var rfl ⟨A.s, _, rfl, hS'.s, rfl, ?_⟩)
      walk_at "es"
      refine ⟨A, S, r, rfl, hS', okS, (mem_spare.mp hr).1, ok.sl, ?_⟩
      refine ⟨_, rfl, rfl, rfl, fun _ => ?_⟩
      walk_at "es"
      exact ⟨rfl, rfl⟩
    walk_at "es"
    cases hh : (spare g S).filter S.free with
    | nil => rw [hh] at c2; cases c2
    | cons p' rest =>
      rw [hh] at c2
      cases c2
      refine dIx_l (j := 0) rfl rfl ?_
      walk_at "es"
      cases hq : wrong g S with
      | nil => exact absurd hq hw
      | cons q' t =>
        rw [hq] at c3
        cases c3
        refine dIx_l (j := 0) rfl rfl ?_
        walk_at "es"
        exact ⟨A, S, p, p2, rfl, hS', ok, hp, hp2, by omega, fun μ2 h2 f2 => done_ _ _ _ _ _ _ μ2 h2 f2⟩
end
end G
set_option Elab.async false
set_option linter.all false
set_option maxRecDepth 100000
set_option maxHeartbeats 4000000
namespace G
open PySem PySem.Spec L2 DL
local macro_rules | `(tactic| walk_at "e") => `(tactic| first
  | with_reducible refine WE_int ?_
  | with_reducible refine WE_str ?_
  | with_reducible refine WE_bl ?_
  | with_reducible refine WE_non ?_
  | with_reducible refine WE_ty ?_
  | refine WE_var rfl ?_
  | with_reducible refine WA_nil ?_
  | with_reducible refine WA_cons ?_
  | with_reducible refine WO_none ?_
  | with_reducible refine WO_some ?_
  | with_reducible refine WT_val ?_
  | with_reducible refine WT_test ?_
  | with_reducible refine WT_not ?_
  | with_reducible refine WT_and ?_
  | with_reducible refine WT_or ?_
  | with_reducible refine WT_yes ?_
  | with_reducible refine WE_andV ?_
  | with_reducible refine WE_orV ?_
  | with_reducible refine WE_notV ?_
  | with_reducible refine WE_if ?_
  | with_reducible refine WE_tup ?_
  | with_reducible refine WE_neg ?_
  | with_reducible refine WE_op lAdd ?_
  | with_reducible refine WE_op lMul_int ?_
  | with_reducible refine WE_op lEq ?_
  | with_reducible refine WE_op lNe ?_
  | with_reducible refine WE_op lIsN ?_
  | with_reducible refine WE_op lNotN ?_
  | with_reducible refine WE_op lIx ?_
  | with_reducible refine WE_op lIntB ?_
  | with_reducible refine WE_op lIntC ?_
  | with_reducible refine WE_op lInt ?_
  | with_reducible refine WE_cb lIsi ?_
  | with_reducible refine WE_cb lLenA ?_
  | with_reducible refine WE_cb lTupleOfK ?_
  | with_reducible refine WE_cb lAbs ?_
  | with_reducible refine WE_cb lIntOf ?_
  | with_reducible refine WE_cb lMin2 ?_
  | with_reducible refine WE_cb lMax2 ?_
  | with_reducible refine WE_call ?_
  | with_reducible refine WE_chain lIntB lIntB ?_
  | with_reducible refine WS_seq ?_
  | with_reducible refine WS_ret ?_
  | with_reducible refine WS_retN ?_
  | with_reducible refine WS_set ?_
  | refine WS_asg2 rfl ?_
  | refine WS_asg3 rfl ?_
  | with_reducible refine WS_drop ?_
  | with_reducible refine WS_if ?_
  | with_reducible refine WS_next ?_
  | with_reducible refine WG_name ?_
  | with_reducible refine WG_tup rfl ?_
  | with_reducible refine WGs_cons ?_
  | with_reducible refine WGs_nil ?_
  | with_reducible refine dAdd_i ?_
  | with_reducible refine dInt_i ?_
  | with_reducible refine dIsi_i rfl (by decide) ?_
  | with_reducible refine dLenA_t ?_
  | with_reducible refine dLenA_l ?_
  | with_reducible refine dIsN_i ?_
  | with_reducible refine dNotN_i ?_
  | with_reducible refine dAbs_i ?_
  | with_reducible refine dIntOf_i ?_
  | with_reducible refine iteN (by decide) ?_
  | with_reducible refine iteY (by decide) ?_
  | refine iteT ?_
  | refine iteF ?_
  | with_reducible refine is2_i ?_
  | with_reducible refine is3_i ?_
  | with_reducible refine ⟨_, rfl, ?_⟩)
local macro_rules | `(tactic| walk_at "es") => `(tactic| repeat walk_at "e")

section
variable {P : Program} {w : World} {K : PySem.W.Frag} {mg : Str → Option Value} {base : Heap}
def F_carries_by_turning : FS := fun ds μ Q => False
def F_shuffle : FS := fun ds μ Q => ∃ (b g : Hol), ds = [encH b, encH g] ∧ Valid b g ∧ (∃ p, isSeat g p ∧ itemAt g p = none) ∧ Q (.tup ((shufT b g).map encC)) μ
theorem sc_shuffle : FnScope ["begin", "goal", "found", "row", "item"] ["begin", "goal"] (defScope sd_shuffle) := ⟨rfl, rfl, rfl, by decide +kernel, rfl, by decide +kernel, by decide +kernel⟩
theorem ok_shuffle {f : Addr} {fd : FuncData} (T : Md K mg) (h_carries_by_turning : Has P w K mg base "carries_by_turning" 1 ["begin", "goal"] F_carries_by_turning) (h_carries_by_seats : Has P w K mg base "carries_by_seats" 4 ["begin", "goal"] F_carries_by_seats) (Fd : FunD K "shuffle" "shuffle" (defArgs sd_shuffle) (defBody sd_shuffle) (defScope sd_shuffle) [] [] f fd) : FnOk P w K mg base CX0 5 f fd ["begin", "goal"] (spOf F_shuffle) := by
  refine fn_data Fd sc_shuffle (fun ds μ R h => by (obtain ⟨b, g, rfl, v, sp, q⟩ := h; rfl)) fun cdv A outer s H E hr => ⟨_, (pss_cons (ps_if (pt_val (pe_callB (kAll (K := K) rfl rfl) (by rfl) T.f_all (by decide +kernel) (pa_cons (pe_lc2 (own := [("row", 3), ("item", 4)]) (vs1 := [4]) (by rfl) sc_shuffle.nd (kWalk (K := K) rfl (pv 1)) (by first | exact blkOk_by (own := [("row", 3), ("item", 4)]) (by decide +kernel) | exact blkOk_by (own := [("row", 3), ("item", 4)]) (by kernel_rfl)) (by decide) (fun _ _ _ _ _ => (pg_name (i := 3) sc_shuffle.nd rfl (by first | exact Or.inl rfl | exact Or.inr rfl))) (fun _ _ _ _ _ => pts_nil) (fun _ _ _ _ _ => (kWalk (K := K) rfl (pv 3))) (fun _ _ _ _ _ => (pg_name (i := 4) sc_shuffle.nd rfl (by first | exact Or.inl rfl | exact Or.inr rfl))) (fun _ _ _ _ _ => pts_nil) (fun _ _ _ _ _ => (pe_cmpR op_notN (pv 4) pe_non (by first | exact nomark _ | rfl)))) pa_nil))) (pss_one (ps_set (i := 2) sc_shuffle.nd rfl (by first | exact Or.inl rfl | exact Or.inr rfl) (pe_fn h_carries_by_turning (hr.mono (by decide)) (by rfl) (pa_cons (pv 0) (pa_cons (pv 1) pa_nil))))) (pss_one (ps_set (i := 2) sc_shuffle.nd rfl (by first | exact Or.inl rfl | exact Or.inr rfl) (pe_fn h_carries_by_seats (hr.mono (by decide)) (by rfl) (pa_cons (pv 0) (pa_cons (pv 1) pa_nil))))))
    (pss_one (ps_ret (pe_ifExp (pt_cmpR op_isN (pv 2) pe_non (by first | exact nomark _ | rfl)) pe_non (pe_callTy (kTupleOf (K := K) rfl) (by rfl) T.f_tuple (by decide +kernel) (pa_cons (pv 2) pa_nil)))))), fun N ds R h => ?_⟩
  obtain ⟨b, g, rfl, v, sp, q⟩ := h
  have okg : OkL (lens g) := by rw [v.lg]; exact v.lb
  have sg := okg.size
  walk_at "es"
  refine WE_all2P (α := Row) (β := Item) (js := [3]) (js1 := [4]) (by decide) (by decide) (WI_tpl ?_)
  walk_at "es"
  refine ⟨g, encR, id, encI, fun i => !isNonD (encI i), rfl, ?_, fun r hr => WG_name ⟨rfl, WI_tpl ?_⟩, ?_⟩
  · rw [List.flatMap_id]; exact small (Nat.le_trans sg.2.2 (by decide))
  · refine WE_var rfl ⟨_, rfl, rfl, rfl, fun i hi => WG_name ⟨rfl, ?_⟩⟩
    walk_at "es"
    exact ⟨rfl, rfl⟩
  have e : ((g.flatMap id).all fun i => !isNonD (encI i)) = false := by
    rw [List.all_eq_false]
    obtain ⟨p, hp, h0⟩ := sp
    obtain ⟨r, hr, _, hit, _⟩ := hp.row
    refine ⟨none, List.mem_flatMap.mpr ⟨r, List.mem_of_getElem? hr, ?_⟩, Bool.false_ne_true⟩
    rw [← h0]
    exact List.mem_of_getElem? hit
  rw [e]
  walk_at "es"
  refine ⟨b, g, rfl, v, sp, ?_⟩
  walk_at "es"
  refine dTupleOf_i rfl ?_
  exact retE_i q (SubS.refl _)
def F_shuffled : FS := fun ds μ Q => ∃ (b g : Hol), ds = [encH b, encH g] ∧ Valid b g ∧ (∃ p, isSeat g p ∧ itemAt g p = none) ∧ Q (.tup ((shufT b g).map encC)) μ
theorem sc_shuffled : FnScope ["begin", "goal"] ["begin", "goal"] (defScope sd_shuffled) := ⟨rfl, rfl, rfl, by decide +kernel, rfl, by decide +kernel, by decide +kernel⟩
theorem ok_shuffled {f : Addr} {fd : FuncData} (T : Md K mg) (h_check_holdings : Has P w K mg base "check_holdings" 4 ["begin", "goal"] F_check_holdings) (h_shuffle : Has P w K mg base "shuffle" 5 ["begin", "goal"] F_shuffle) (Fd : FunD K "shuffled" "shuffled" (defArgs sd_shuffled) (defBody sd_shuffled) (defScope sd_shuffled) [] [] f fd) : FnOk P w K mg base CX0 6 f fd ["begin", "goal"] (spOf F_shuffled) := by
  refine fn_data Fd sc_shuffled (fun ds μ R h => by (obtain ⟨b, g, rfl, v, sp, q⟩ := h; rfl)) fun cdv A outer s H E hr => ⟨_, (pss_cons (ps_expr (pe_fn h_check_holdings (hr.mono (by decide)) (by rfl) (pa_cons (pv 0) (pa_cons (pv 1) pa_nil))))
    (pss_one (ps_ret (pe_fn h_shuffle (hr.mono (by decide)) (by rfl) (pa_cons (pv 0) (pa_cons (pv 1) pa_nil)))))), fun N ds R h => ?_⟩
  obtain ⟨b, g, rfl, v, sp, q⟩ := h
  walk_at "es"
  refine ⟨b, g, rfl, v, ?_⟩
  walk_at "es"
  exact ⟨b, g, rfl, v, sp, retE_i q (SubS.refl _)⟩
end
end G
set_option Elab.async false
set_option linter.all false
set_option maxRecDepth 100000
set_option maxHeartbeats 4000000
namespace G
open PySem PySem.Spec L2 DL
local macro_rules | `(tactic| walk_at "e") => `(tactic| first
  | with_reducible refine WE_int ?_
  | with_reducible refine WE_str ?_
  | with_reducible refine WE_bl ?_
  | with_reducible refine WE_non ?_
  | with_reducible refine WE_ty ?_
  | refine WE_var rfl ?_
  | with_reducible refine WA_nil ?_
  | with_reducible refine WA_cons ?_
  | with_reducible refine WO_none ?_
  | with_reducible refine WO_some ?_
  | with_reducible refine WT_val ?_
  | with_reducible refine WT_test ?_
  | with_reducible refine WT_not ?_
  | with_reducible refine WT_and ?_
  | with_reducible refine WT_or ?_
  | with_reducible refine WT_yes ?_
  | with_reducible refine WE_andV ?_
  | with_reducible refine WE_orV ?_
  | with_reducible refine WE_notV ?_
  | with_reducible refine WE_if ?_
  | with_reducible refine WE_tup ?_
  | with_reducible refine WE_neg ?_
  | with_reducible refine WE_op lAdd ?_
  | with_reducible refine WE_op lMul_int ?_
  | with_reducible refine WE_op lEq ?_
  | with_reducible refine WE_op lNe ?_
  | with_reducible refine WE_op lIsN ?_
  | with_reducible refine WE_op lNotN ?_
  | with_reducible refine WE_op lIx ?_
  | with_reducible refine WE_op lIntB ?_
  | with_reducible refine WE_op lIntC ?_
  | with_reducible refine WE_op lInt ?_
  | with_reducible refine WE_cb lIsi ?_
  | with_reducible refine WE_cb lLenA ?_
  | with_reducible refine WE_cb lTupleOfK ?_
  | with_reducible refine WE_cb lAbs ?_
  | with_reducible refine WE_cb lIntOf ?_
  | with_reducible refine WE_cb lMin2 ?_
  | with_reducible refine WE_cb lMax2 ?_
  | with_reducible refine WE_call ?_
  | with_reducible refine WE_chain lIntB lIntB ?_
  | with_reducible refine WS_seq ?_
  | with_reducible refine WS_ret ?_
  | with_reducible refine WS_retN ?_
  | with_reducible refine WS_set ?_
  | refine WS_asg2 rfl ?_
  | refine WS_asg3 rfl ?_
  | with_reducible refine WS_drop ?_
  | with_reducible refine WS_if ?_
  | with_reducible refine WS_next ?_
  | with_reducible refine WG_name ?_
  | with_reducible refine WG_tup rfl ?_
  | with_reducible refine WGs_cons ?_
  | with_reducible refine WGs_nil ?_
  | with_reducible refine dAdd_i ?_
  | with_reducible refine dInt_i ?_
  | with_reducible refine dIsi_i rfl (by decide) ?_
  | with_reducible refine dLenA_t ?_
  | with_reducible refine dLenA_l ?_
  | with_reducible refine dIsN_i ?_
  | with_reducible refine dNotN_i ?_
  | with_reducible refine dAbs_i ?_
  | with_reducible refine dIntOf_i ?_
  | with_reducible refine iteN (by decide) ?_
  | with_reducible refine iteY (by decide) ?_
  | refine iteT ?_
  | refine iteF ?_
  | with_reducible refine is2_i ?_
  | with_reducible refine is3_i ?_
  | with_reducible refine ⟨_, rfl, ?_⟩)
local macro_rules | `(tactic| walk_at "es") => `(tactic| repeat walk_at "e")

section
variable {P : Program} {w : World} {K : PySem.W.Frag} {mg : Str → Option Value} {base : Heap}
def F__law_draw : FS := fun ds μ Q => ∃ (p : Addr) (n : Int) (X : Dice), ds = [.ptr p, .int n] ∧ 0 < n ∧ n < 1000000 ∧ X.Ok ∧ μ p = some (.lst (diceD X)) ∧ ∀ r : Nat, (r : Int) < n → ∀ X' : Dice, X'.Ok → Q (.int r) (updS μ p (.lst (diceD X')))
theorem sc__law_draw : FnScope ["_law_dice_here", "_law_sides", "_law_mixed", "_law_cell", "_law_digit"] ["_law_dice_here", "_law_sides"] (defScope sd__law_draw) := ⟨rfl, rfl, rfl, by decide +kernel, rfl, by decide +kernel, by decide +kernel⟩
theorem ok__law_draw {f : Addr} {fd : FuncData} (T : Md K mg)  (Fd : FunD K "_law_draw" "_law_draw" (defArgs sd__law_draw) (defBody sd__law_draw) (defScope sd__law_draw) [] [] f fd) : FnOk P w K mg base CX0 1 f fd ["_law_dice_here", "_law_sides"] (spOf F__law_draw) := by
  refine fn_data Fd sc__law_draw (fun ds μ R h => by (obtain ⟨p, n, X, rfl, n0, n1, ok, hm, q⟩ := h; rfl)) fun cdv A outer s H E hr => ⟨_, (pss_cons (ps_if (PW.pt (pw_and (pt_cmpR (kEq (K := K) rfl hr.units) (pe_ix (kIx (K := K) rfl) (pv 0) pe_int (fun _ _ => rfl)) pe_int (by first | exact nomark _ | rfl)) (pw_and1 (pt_cmpR op_lt (pe_ix (kIx (K := K) rfl) (pv 0) pe_int (fun _ _ => rfl)) (pe_callB (kLen (K := K) rfl) (by rfl) T.f_len (by decide +kernel) (pa_cons (pe_ix (kIx (K := K) rfl) (pv 0) pe_int (fun _ _ => rfl)) pa_nil)) (by first | exact nomark _ | rfl))))) (pss_cons (ps_set (i := 3) sc__law_draw.nd rfl (by first | exact Or.inl rfl | exact Or.inr rfl) (pe_ix (kIx (K := K) rfl) (pe_ix (kIx (K := K) rfl) (pv 0) pe_int (fun _ _ => rfl)) (pe_ix (kIx (K := K) rfl) (pv 0) pe_int (fun _ _ => rfl)) (fun _ _ => rfl)))
    (pss_cons (ps_asg (pe_op (kAdd (K := K) rfl) (pe_ix (kIx (K := K) rfl) (pv 0) pe_int (fun _ _ => rfl)) pe_int) (pg_sub (pv 0) pe_int set_list))
    (pss_one (ps_if (pt_cmpR op_ge (pv 3) (pe_op op_pow pe_int pe_int) (by first | exact nomark _ | rfl)) (pss_one (ps_asg (pv 3) (pg_sub (pv 0) pe_int set_list))) (pss_one (ps_asg (pe_op op_modN (pe_callTy call_int1 (by rfl) T.f_int (by decide +kernel) (pa_cons (pe_op (kAdd (K := K) rfl) (pe_op (kAdd (K := K) rfl) (pe_op opMul (pe_ix (kIx (K := K) rfl) (pv 0) pe_int (fun _ _ => rfl)) pe_int) (pe_op opMul (pv 3) pe_int)) (pe_ix (kIx (K := K) rfl) (pv 0) pe_int (fun _ _ => rfl))) pa_nil)) pe_int) (pg_sub (pv 0) pe_int set_list))))))) pss_nil)
    (pss_cons (ps_if (pt_cmpR op_gt (pe_ix (kIx (K := K) rfl) (pv 0) pe_int (fun _ _ => rfl)) pe_int (by first | exact nomark _ | rfl)) (pss_cons (ps_set (i := 4) sc__law_draw.nd rfl (by first | exact Or.inl rfl | exact Or.inr rfl) (pe_op op_modN (pe_callTy call_int1 (by rfl) T.f_int (by decide +kernel) (pa_cons (pe_ix (kIx (K := K) rfl) (pv 0) pe_int (fun _ _ => rfl)) pa_nil)) (pv 1)))
    (pss_cons (ps_asg (pe_op op_fdivN (pe_callTy call_int1 (by rfl) T.f_int (by decide +kernel) (pa_cons (pe_ix (kIx (K := K) rfl) (pv 0) pe_int (fun _ _ => rfl)) pa_nil)) (pv 1)) (pg_sub (pv 0) pe_int set_list))
    (pss_one (ps_ret (pv 4))))) pss_nil)
    (pss_cons (ps_asg (pe_op (kAdd (K := K) rfl) (pe_ix (kIx (K := K) rfl) (pv 0) pe_int (fun _ _ => rfl)) pe_int) (pg_sub (pv 0) pe_int set_list))
    (pss_cons (ps_asg (pe_op op_modN (pe_callTy call_int1 (by rfl) T.f_int (by decide +kernel) (pa_cons (pe_op (kAdd (K := K) rfl) (pe_op (kAdd (K := K) rfl) (pe_op opMul (pe_ix (kIx (K := K) rfl) (pv 0) pe_int (fun _ _ => rfl)) pe_int) (pe_op opMul (pe_ix (kIx (K := K) rfl) (pv 0) pe_int (fun _ _ => rfl)) pe_int)) pe_int) pa_nil)) pe_int) (pg_sub (pv 0) pe_int set_list))
    (pss_cons (ps_set (i := 2) sc__law_draw.nd rfl (by first | exact Or.inl rfl | exact Or.inr rfl) (pe_op op_modN (pe_callTy call_int1 (by rfl) T.f_int (by decide +kernel) (pa_cons (pe_op opMul (pe_ix (kIx (K := K) rfl) (pv 0) pe_int (fun _ _ => rfl)) (pe_op (kAdd (K := K) rfl) (pe_op op_fdivN (pe_ix (kIx (K := K) rfl) (pv 0) pe_int (fun _ _ => rfl)) pe_int) pe_int)) pa_nil)) pe_int))
    (pss_cons (ps_set (i := 2) sc__law_draw.nd rfl (by first | exact Or.inl rfl | exact Or.inr rfl) (pe_op op_modN (pe_callTy call_int1 (by rfl) T.f_int (by decide +kernel) (pa_cons (pe_op opMul (pv 2) (pe_op (kAdd (K := K) rfl) (pe_op op_fdivN (pv 2) pe_int) pe_int)) pa_nil)) pe_int))
    (pss_one (ps_ret (pe_op op_modN (pe_callTy call_int1 (by rfl) T.f_int (by decide +kernel) (pa_cons (pe_op op_fdivN (pv 2) pe_int) pa_nil)) (pv 1)))))))))), fun N ds R h => ?_⟩
  obtain ⟨p, n, X, rfl, n0, n1, ok, hm, q⟩ := h
  refine WS_seqI (fun ρ' μ' => ∃ x2 x3 x4, ∃ X' : Dice, ρ' = [some (.ptr p), some (.int n), x2, x3, x4] ∧ X'.Ok ∧ μ' = updS N.μ p (.lst (diceD X'))) ?_ ?_
  · walk_at "es"
    refine dIx_p hm (j := 2) rfl rfl ?_
    walk_at "es"
    refine dEq_int ⟨_, rfl, ?_⟩
    have self : ∃ x2 x3 x4, ∃ X' : Dice, startD ["_law_dice_here", "_law_sides", "_law_mixed", "_law_cell", "_law_digit"].length [D.ptr p, D.int n] = [some (.ptr p), some (.int n), x2, x3, x4] ∧ X'.Ok ∧ N.μ = updS N.μ p (.lst (diceD X')) := ⟨_, _, _, X, rfl, ok, (updS_self hm).symm⟩
    split
    · walk_at "es"
      refine dIx_p hm (j := 1) rfl rfl ?_
      walk_at "es"
      refine dIx_p hm (j := 0) rfl rfl ?_
      walk_at "es"
      rw [List.length_map]
      split
      · rename_i hlt
        have hlt := of_decide_eq_true hlt
        have hi := ok.i
        have hj : X.i = ((X.i.toNat : Nat) : Int) := by omega
        have hg : (X.cells.map D.int)[X.i.toNat]? = some (.int X.cells[X.i.toNat]) := by
          rw [List.getElem?_map, List.getElem?_eq_getElem (by omega)]; rfl
        have hc0 := ok.cells _ (List.getElem_mem (l := X.cells) (n := X.i.toNat) (by omega))
        generalize X.cells[X.i.toNat] = cell at hg hc0
        walk_at "es"
        refine dIx_p hm (j := 0) rfl rfl ?_
        walk_at "es"
        refine dIx_p hm (j := 1) rfl rfl ?_
        refine dIx_l hj hg ?_
        walk_at "es"
        refine WS_asg (js := []) ?_
        walk_at "es"
        refine dIx_p hm (j := 1) rfl rfl ?_
        walk_at "es"
        refine WG_sub lSetL ?_
        walk_at "es"
        refine dSetL_i hm (j := 1) rfl (by simp [diceD]) ?_
        have hm1 : updS N.μ p (.lst ((diceD X).set 1 (.int (X.i + 1)))) p = some (.lst (diceD { X with i := X.i + 1 })) := updS_same
        have up : ∀ c, updS (updS N.μ p (.lst ((diceD X).set 1 (.int (X.i + 1))))) p c = updS N.μ p c := fun c => updS_upd
        generalize updS N.μ p (.lst ((diceD X).set 1 (.int (X.i + 1)))) = μ1 at hm1 up ⊢
        walk_at "es"
        refine dIntC_i ⟨by omega, by omega, by decide⟩ ?_
        walk_at "es"
        split
        · refine WS_asg (js := []) ?_
          walk_at "es"
          refine WG_sub lSetL ?_
          walk_at "es"
          refine dSetL_i hm1 (j := 2) rfl (by simp [diceD]) ?_
          rw [up]
          exact ⟨_, _, _, { X with i := X.i + 1, c2 := cell }, rfl, ⟨ok.cells, by show 0 ≤ X.i + 1; omega, hc0, ok.c3, ok.c3', ok.c4⟩, rfl⟩
        · refine WS_asg (js := []) ?_
          walk_at "es"
          refine dIx_p hm1 (j := 3) rfl rfl ?_
          walk_at "es"
          refine dIntC_i (.inr ⟨by omega, by omega⟩) ?_
          walk_at "es"
          refine dIntC_i (.inr ⟨by omega, by omega⟩) ?_
          walk_at "es"
          refine dIx_p hm1 (j := 1) rfl rfl ?_
          walk_at "es"
          refine dIntC_i (by omega) ?_
          have mm := fmod_lt (a := X.c3 * 69621 + cell * 40692 + (X.i + 1)) (b := 2147483647) (by omega)
          generalize (X.c3 * 69621 + cell * 40692 + (X.i + 1)).fmod 2147483647 = y at mm ⊢
          refine WG_sub lSetL ?_
          walk_at "es"
          refine dSetL_i hm1 (j := 3) rfl (by simp [diceD]) ?_
          rw [up]
          exact ⟨_, _, _, { X with i := X.i + 1, c3 := y }, rfl, ⟨ok.cells, by show 0 ≤ X.i + 1; omega, ok.c2, mm.1, mm.2, ok.c4⟩, rfl⟩
      · exact WS_next self
    · exact WS_next self
  rintro ρ' μ' ⟨x2, x3, x4, X', rfl, ok', rfl⟩
  have hm' : updS N.μ p (.lst (diceD X')) p = some (.lst (diceD X')) := updS_same
  have up : ∀ c, updS (updS N.μ p (.lst (diceD X'))) p c = updS N.μ p c := fun c => updS_upd
  generalize updS N.μ p (.lst (diceD X')) = μ1 at hm' up ⊢
  clear hm ok X
  have h2 := ok'.c2
  walk_at "es"
  refine dIx_p hm' (j := 2) rfl rfl ?_
  walk_at "es"
  split
  · walk_at "es"
    refine dIx_p hm' (j := 2) rfl rfl ?_
    walk_at "es"
    refine dIntC_i (by omega) ?_
    walk_at "es"
    refine WS_asg (js := []) ?_
    walk_at "es"
    refine dIx_p hm' (j := 2) rfl rfl ?_
    walk_at "es"
    refine dIntC_i ⟨by omega, by omega⟩ ?_
    have mm := fmod_lt (a := X'.c2) n0
    have dd := fdiv_nn ok'.c2 n0
    refine WG_sub lSetL ?_
    walk_at "es"
    refine dSetL_i hm' (j := 2) rfl (by simp [diceD]) ?_
    rw [up]
    walk_at "es"
    refine ⟨_, SubS.refl _, ?_⟩
    have e : X'.c2.fmod n = ((X'.c2.fmod n).toNat : Int) := by omega
    rw [e]
    exact q _ (by omega) { X' with c2 := X'.c2.fdiv n } ⟨ok'.cells, ok'.i, dd, ok'.c3, ok'.c3', ok'.c4⟩
  · refine WS_next ?_
    show WS _ _ _ _ _
    walk_at "es"
    refine WS_asg (js := []) ?_
    walk_at "es"
    refine dIx_p hm' (j := 4) rfl rfl ?_
    walk_at "es"
    refine WG_sub lSetL ?_
    walk_at "es"
    refine dSetL_i hm' (j := 4) rfl (by simp [diceD]) ?_
    rw [up]
    have ok2 : Dice.Ok { X' with c4 := X'.c4 + 1 } := ⟨ok'.cells, ok'.i, ok'.c2, ok'.c3, ok'.c3', by have := ok'.c4; show 0 ≤ X'.c4 + 1; omega⟩
    have hm2 : updS N.μ p (.lst (diceD { X' with c4 := X'.c4 + 1 })) p = some (.lst (diceD { X' with c4 := X'.c4 + 1 })) := updS_same
    have up2 : ∀ c, updS (updS N.μ p (.lst (diceD { X' with c4 := X'.c4 + 1 }))) p c = updS N.μ p c := fun c => updS_upd
    show WS _ _ _ (updS N.μ p (.lst (diceD { X' with c4 := X'.c4 + 1 }))) _
    generalize ({ X' with c4 := X'.c4 + 1 } : Dice) = Y at ok2 hm2 up2 ⊢
    generalize updS N.μ p (.lst (diceD Y)) = μ2 at hm2 up2 ⊢
    refine WS_seq (WS_asg (js := []) ?_)
    walk_at "es"
    refine dIx_p hm2 (j := 3) rfl rfl ?_
    walk_at "es"
    refine dIntC_i (.inr ⟨by omega, by omega⟩) ?_
    walk_at "es"
    refine dIx_p hm2 (j := 4) rfl rfl ?_
    walk_at "es"
    refine dIntC_i (.inr ⟨by omega, by omega⟩) ?_
    walk_at "es"
    refine dIntC_i (by omega) ?_
    have mm := fmod_lt (a := Y.c3 * 48271 + Y.c4 * 7919 + 1) (b := 2147483647) (by omega)
    generalize (Y.c3 * 48271 + Y.c4 * 7919 + 1).fmod 2147483647 = y at mm ⊢
    refine WG_sub lSetL ?_
    walk_at "es"
    refine dSetL_i hm2 (j := 3) rfl (by simp [diceD]) ?_
    rw [up2]
    have ok3 : Dice.Ok { Y with c3 := y } := ⟨ok2.cells, ok2.i, ok2.c2, mm.1, mm.2, ok2.c4⟩
    have hm3 : updS N.μ p (.lst (diceD { Y with c3 := y })) p = some (.lst (diceD { Y with c3 := y })) := updS_same
    show WS _ _ _ (updS N.μ p (.lst (diceD { Y with c3 := y }))) _
    have q3 : ∀ r : Nat, (r : Int) < n → R (.int r) (updS N.μ p (.lst (diceD { Y with c3 := y }))) := fun r hr => q r hr _ ok3
    generalize updS N.μ p (.lst (diceD { Y with c3 := y })) = μ3 at hm3 q3 ⊢
    walk_at "es"
    refine dIx_p hm3 (j := 3) rfl rfl ?_
    walk_at "es"
    refine dIx_p hm3 (j := 3) rfl rfl ?_
    walk_at "es"
    refine dIntC_i ⟨by omega, by decide⟩ ?_
    walk_at "es"
    refine dIntC_i (.inl ⟨by show _ < y; omega, by show y < _; omega⟩) ?_
    walk_at "es"
    refine dIntC_i (by omega) ?_
    have m4 := fmod_lt (a := y * (y.fdiv 1009 + 69623)) (b := 2147483399) (by omega)
    generalize (y * (y.fdiv 1009 + 69623)).fmod 2147483399 = z at m4 ⊢
    walk_at "es"
    refine dIntC_i ⟨by omega, by decide⟩ ?_
    walk_at "es"
    refine dIntC_i (.inl ⟨by omega, by omega⟩) ?_
    walk_at "es"
    refine dIntC_i (by omega) ?_
    generalize (z * (z.fdiv 2003 + 40693)).fmod 2147483563 = t
    walk_at "es"
    refine dIntC_i ⟨by omega, by decide⟩ ?_
    walk_at "es"
    refine dIntC_i (by omega) ?_
    have m5 := fmod_lt (a := t.fdiv 16) n0
    refine ⟨_, SubS.refl _, ?_⟩
    have e : (t.fdiv 16).fmod n = (((t.fdiv 16).fmod n).toNat : Int) := by omega
    rw [e]
    exact q3 _ (by omega)
end
end G
set_option Elab.async false
set_option linter.all false
set_option maxRecDepth 100000
set_option maxHeartbeats 4000000
namespace G
open PySem PySem.Spec L2 DL
local macro_rules | `(tactic| walk_at "e") => `(tactic| first
  | with_reducible refine WE_int ?_
  | with_reducible refine WE_str ?_
  | with_reducible refine WE_bl ?_
  | with_reducible refine WE_non ?_
  | with_reducible refine WE_ty ?_
  | refine WE_var rfl ?_
  | with_reducible refine WA_nil ?_
  | with_reducible refine WA_cons ?_
  | with_reducible refine WO_none ?_
  | with_reducible refine WO_some ?_
  | with_reducible refine WT_val ?_
  | with_reducible refine WT_test ?_
  | with_reducible refine WT_not ?_
  | with_reducible refine WT_and ?_
  | with_reducible refine WT_or ?_
  | with_reducible refine WT_yes ?_
  | with_reducible refine WE_andV ?_
  | with_reducible refine WE_orV ?_
  | with_reducible refine WE_notV ?_
  | with_reducible refine WE_if ?_
  | with_reducible refine WE_tup ?_
  | with_reducible refine WE_neg ?_
  | with_reducible refine WE_op lAdd ?_
  | with_reducible refine WE_op lMul_int ?_
  | with_reducible refine WE_op lEq ?_
  | with_reducible refine WE_op lNe ?_
  | with_reducible refine WE_op lIsN ?_
  | with_reducible refine WE_op lNotN ?_
  | with_reducible refine WE_op lIx ?_
  | with_reducible refine WE_op lIntB ?_
  | with_reducible refine WE_op lIntC ?_
  | with_reducible refine WE_op lInt ?_
  | with_reducible refine WE_cb lIsi ?_
  | with_reducible refine WE_cb lLenA ?_
  | with_reducible refine WE_cb lTupleOfK ?_
  | with_reducible refine WE_cb lAbs ?_
  | with_reducible refine WE_cb lIntOf ?_
  | with_reducible refine WE_cb lMin2 ?_
  | with_reducible refine WE_cb lMax2 ?_
  | with_reducible refine WE_call ?_
  | with_reducible refine WE_chain lIntB lIntB ?_
  | with_reducible refine WS_seq ?_
  | with_reducible refine WS_ret ?_
  | with_reducible refine WS_retN ?_
  | with_reducible refine WS_set ?_
  | refine WS_asg2 rfl ?_
  | refine WS_asg3 rfl ?_
  | with_reducible refine WS_drop ?_
  | with_reducible refine WS_if ?_
  | with_reducible refine WS_next ?_
  | with_reducible refine WG_name ?_
  | with_reducible refine WG_tup rfl ?_
  | with_reducible refine WGs_cons ?_
  | with_reducible refine WGs_nil ?_
  | with_reducible refine dAdd_i ?_
  | with_reducible refine dInt_i ?_
  | with_reducible refine dIsi_i rfl (by decide) ?_
  | with_reducible refine dLenA_t ?_
  | with_reducible refine dLenA_l ?_
  | with_reducible refine dIsN_i ?_
  | with_reducible refine dNotN_i ?_
  | with_reducible refine dAbs_i ?_
  | with_reducible refine dIntOf_i ?_
  | with_reducible refine iteN (by decide) ?_
  | with_reducible refine iteY (by decide) ?_
  | refine iteT ?_
  | refine iteF ?_
  | with_reducible refine is2_i ?_
  | with_reducible refine is3_i ?_
  | with_reducible refine ⟨_, rfl, ?_⟩)
local macro_rules | `(tactic| walk_at "es") => `(tactic| repeat walk_at "e")

section
variable {P : Program} {w : World} {K : PySem.W.Frag} {mg : Str → Option Value} {base : Heap}
def F__law_dice (K : PySem.W.Frag) : FS := fun ds μ Q => ∃ (ns : List Int), ds = [.opq (sqi K ns)] ∧ ∀ p : Addr, μ p = none → ∀ X : Dice, X.Ok → Q (.ptr p) (updS μ p (.lst (diceD X)))
theorem sc__law_dice : FnScope ["_law_script", "_law_cell"] ["_law_script"] (defScope sd__law_dice) := ⟨rfl, rfl, rfl, by decide +kernel, rfl, by decide +kernel, by decide +kernel⟩
theorem ok__law_dice {f : Addr} {fd : FuncData} (T : Md K mg)  (Fd : FunD K "_law_dice" "_law_dice" (defArgs sd__law_dice) (defBody sd__law_dice) (defScope sd__law_dice) [] [] f fd) : FnOk P w K mg base CX0 1 f fd ["_law_script"] (spOf (F__law_dice K)) := by
  refine fn_data Fd sc__law_dice (fun ds μ R h => by (obtain ⟨ns, rfl, q⟩ := h; rfl)) fun cdv A outer s H E hr => ⟨_, (pss_one (ps_ret (pe_lst (pa_cons (pe_lc (own := [("_law_cell", 1)]) (by rfl) sc__law_dice.nd (kWalk (K := K) rfl (pe_slice (kSl (K := K) rfl) (pv 0) po_none (po_some pe_int))) (by first | exact blkOk_by (own := [("_law_cell", 1)]) (by decide +kernel) | exact blkOk_by (own := [("_law_cell", 1)]) (by kernel_rfl)) (fun _ _ _ _ _ => (pg_name (i := 1) sc__law_dice.nd rfl (by first | exact Or.inl rfl | exact Or.inr rfl))) (fun _ _ _ _ _ => pts_nil) (fun _ _ _ _ _ => (pe_callB call_abs (by rfl) T.f_abs (by decide +kernel) (pa_cons (pe_callTy call_int1 (by rfl) T.f_int (by decide +kernel) (pa_cons (pv 1) pa_nil)) pa_nil)))) (pa_cons pe_int (pa_cons pe_int (pa_cons pe_int (pa_cons pe_int pa_nil)))))))), fun N ds R h => ?_⟩
  obtain ⟨ns, rfl, q⟩ := h
  walk_at "es"
  refine WE_cell (WEn_lst ?_)
  walk_at "es"
  refine WE_frozen (WEn_mapT (α := Int) (js := [1]) (by decide) (WI_lst ?_))
  refine WE_frozen (WEn_sl lSlO ?_)
  walk_at "es"
  refine ⟨ns, rfl, ?_⟩
  obtain ⟨ms, e, hl⟩ := cut63 ns
  rw [e]
  refine ⟨_, rfl, ms, D.int, fun i => .int (if i < 0 then -i else i), rfl, small (by omega), fun i hi => WG_name ?_, ?_⟩
  · walk_at "es"
    exact ⟨rfl, rfl⟩
  walk_at "es"
  refine ⟨small (by simp), fun p hp hm => ⟨_, SubS.refl _, ?_⟩⟩
  have e2 : (ms.map fun i => D.int (if i < 0 then -i else i)) = (ms.map fun i : Int => if i < 0 then -i else i).map D.int := by rw [List.map_map]; rfl
  rw [e2]
  refine q p hm ⟨ms.map fun i : Int => if i < 0 then -i else i, 0, 0, 1, 0⟩ ⟨fun c hc => ?_, Int.le_refl _, Int.le_refl _, (by show (0:Int) ≤ 1; decide), (by show (1:Int) < 2147483647; decide), Int.le_refl _⟩
  obtain ⟨i, _, rfl⟩ := List.mem_map.mp hc
  split <;> omega
def F__law_names : FS := fun ds μ Q => ∃ (p : Addr) (n : Nat), ds = [.ptr p, .int (n : Int)] ∧ n ≤ 13 ∧ DiceAt p μ ∧ ∀ names : List Str, names.length = n → names.Nodup → (∀ x ∈ names, isNm x) → ∀ X : Dice, X.Ok → Q (.lst (names.map .str)) (updS μ p (.lst (diceD X)))
theorem sc__law_names : FnScope ["_law_dice_here", "_law_size", "_law_found", "_law_k", "_law_word", "_law_sign", "_law_j"] ["_law_dice_here", "_law_size"] (defScope sd__law_names) := ⟨rfl, rfl, rfl, by decide +kernel, rfl, by decide +kernel, by decide +kernel⟩
theorem ok__law_names {f : Addr} {fd : FuncData} (T : Md K mg) (h__law_draw : Has P w K mg base "_law_draw" 1 ["_law_dice_here", "_law_sides"] F__law_draw) (Fd : FunD K "_law_names" "_law_names" (defArgs sd__law_names) (defBody sd__law_names) (defScope sd__law_names) [] [] f fd) : FnOk P w K mg base CX0 2 f fd ["_law_dice_here", "_law_size"] (spOf F__law_names) := by
  refine fn_data Fd sc__law_names (fun ds μ R h => by (obtain ⟨p, n, rfl, hn, ⟨X, ok, hm⟩, q⟩ := h; rfl)) fun cdv A outer s H E hr => ⟨_, (pss_cons (ps_set (i := 2) sc__law_names.nd rfl (by first | exact Or.inl rfl | exact Or.inr rfl) (pe_lst pa_nil))
    (pss_cons (ps_for PassesOwn.never rfl (pi_range1 (by rfl) T.f_range (pa_cons (pv 1) pa_nil)) (pg_name (i := 3) sc__law_names.nd rfl (by first | exact Or.inl rfl | exact Or.inr rfl)) (pss_cons (ps_set (i := 4) sc__law_names.nd rfl (by first | exact Or.inl rfl | exact Or.inr rfl) (kJoin (K := K) rfl pe_str (pe_lc (own := [("_law_j", 6)]) (by rfl) sc__law_names.nd (pi_range1 (by rfl) T.f_range (pa_cons (pe_op (kAdd (K := K) rfl) pe_int (pe_fn h__law_draw (hr.mono (by decide)) (by rfl) (pa_cons (pv 0) (pa_cons pe_int pa_nil)))) pa_nil)) (by first | exact blkOk_by (own := [("_law_j", 6)]) (by decide +kernel) | exact blkOk_by (own := [("_law_j", 6)]) (by kernel_rfl)) (fun _ _ _ _ _ => (pg_name (i := 6) sc__law_names.nd rfl (by first | exact Or.inl rfl | exact Or.inr rfl))) (fun _ _ _ _ _ => pts_nil) (fun _ _ _ _ _ => (pe_ix (kIx (K := K) rfl) pe_str (pe_fn h__law_draw (hr.mono (by decide)) (by rfl) (pa_cons (pv 0) (pa_cons pe_int pa_nil))) (fun _ _ => rfl))))))
    (pss_cons (ps_for PassesOwn.never rfl (kWalk (K := K) rfl pe_str) (pg_name (i := 5) sc__law_names.nd rfl (by first | exact Or.inl rfl | exact Or.inr rfl)) (pss_one (ps_if (pt_cmpR (kIn (K := K) rfl) (pv 4) (pv 2) (by first | exact nomark _ | rfl)) (pss_one (ps_set (i := 4) sc__law_names.nd rfl (by first | exact Or.inl rfl | exact Or.inr rfl) (pe_op (kAdd (K := K) rfl) (pe_slice (kSl (K := K) rfl) (pv 4) po_none (po_some pe_int)) (pv 5)))) pss_nil)))
    (pss_one (ps_expr (kBm (K := K) rfl PySem.F.plainAttrs_list PySem.F.slot_list_append PySem.F.type_list_append mt_append (pv 2) (pa_cons (pv 4) pa_nil)))))))
    (pss_one (ps_ret (pv 2))))), fun N ds R h => ?_⟩
  obtain ⟨p, n, rfl, hn, ⟨X, ok, hm⟩, q⟩ := h
  walk_at "es"
  refine WE_cell (WEn_lst (WA_nil ⟨by decide, fun f hf hfm => ?_⟩))
  walk_at "es"
  have fp : f ≠ p := fun e => by subst e; rw [hm] at hfm; cases hfm
  refine WS_for (js := [3]) (WI_range1 ?_)
  walk_at "es"
  refine ⟨by omega, by omega, fun i ρ' μ' => ∃ (names : List Str) (X : Dice) (x3 x4 x5 x6 : Option D), ρ' = [some (.ptr p), some (.int (n : Int)), some (.ptr f), x3, x4, x5, x6] ∧ names.length = i ∧ names.Nodup ∧ (∀ x ∈ names, isNm x) ∧ X.Ok ∧ μ' p = some (.lst (diceD X)) ∧ μ' f = some (.lst (names.map .str)) ∧ Fm [p, f] N.μ μ',
    ⟨[], X, _, _, _, _, rfl, rfl, List.nodup_nil, fun x h => absurd h List.not_mem_nil, ok, by rw [updS_ne fp.symm]; exact hm, updS_same, (Fm.refl _ _).upd (by simp)⟩, fun _ _ _ _ _ => trivial, fun i d ρ' μ' hd inv => ?_, fun ρ' μ' inv => ?_⟩
  · obtain ⟨names, X, x3, x4, x5, x6, rfl, hl, nd, nm, ok, hp, hf', fm⟩ := inv
    obtain ⟨hi, rfl⟩ := rangeD_get hd
    have hi : i < n := by omega
    refine WG_name ?_
    walk_at "es"
    refine WE_joinK (WE_str ⟨⟨_, rfl⟩, ?_⟩)
    refine WE_frozen (WEn_lc (js := [6]) (by decide) (WI_range1 ?_))
    walk_at "es"
    refine ⟨p, 8, X, rfl, by omega, by omega, ok, hp, fun r hr X1 ok1 => ?_⟩
    walk_at "es"
    have hp1 : updS μ' p (.lst (diceD X1)) p = some (.lst (diceD X1)) := updS_same
    have hf1 : updS μ' p (.lst (diceD X1)) f = some (.lst (names.map .str)) := by rw [updS_ne fp]; exact hf'
    have fm1 : Fm [p, f] N.μ (updS μ' p (.lst (diceD X1))) := fm.upd (by simp)
    generalize updS μ' p (.lst (diceD X1)) = μ1 at hp1 hf1 fm1 ⊢
    have er : (1 : Int) + (r : Int) = ((r + 1 : Nat) : Int) := by omega
    rw [er]
    refine ⟨by omega, by omega, fun j acc μ2 => ∃ (cs : List Nat) (X : Dice), cs.length = j ∧ (∀ c ∈ cs, c ∈ letters) ∧ acc = cs.map (fun c => D.str ⟨#[c]⟩) ∧ X.Ok ∧ μ2 p = some (.lst (diceD X)) ∧ μ2 f = some (.lst (names.map .str)) ∧ Fm [p, f] N.μ μ2,
      ⟨[], X1, rfl, fun c h => absurd h List.not_mem_nil, rfl, ok1, hp1, hf1, fm1⟩, fun _ _ _ _ _ => trivial, fun j d acc μ2 hd inv => ?_, fun acc μ2 inv => ?_⟩
    · obtain ⟨cs, X2, hcl, hcs, rfl, ok2, hp2, hf2, fm2⟩ := inv
      obtain ⟨hj, rfl⟩ := rangeD_get hd
      have hj : j < r + 1 := by omega
      refine WG_name (WT_yes ?_)
      rw [if_pos rfl]
      walk_at "es"
      refine ⟨p, 26, X2, rfl, by omega, by omega, ok2, hp2, fun t ht X3 ok3 => ?_⟩
      have htl : t < letters.length := by have : letters.length = 26 := by decide
                                          omega
      refine dIx_s (c := letters[t]) (by decide) rfl (List.getElem?_eq_getElem htl) ⟨small (by rw [List.length_map]; omega), cs ++ [letters[t]], X3, by rw [List.length_append, hcl]; rfl, fun c hc => ?_, by rw [List.map_append]; rfl, ok3, updS_same, by rw [updS_ne fp]; exact hf2, fm2.upd (by simp)⟩
      rcases List.mem_append.mp hc with z | z
      · exact hcs c z
      · rw [List.mem_singleton] at z; subst z; exact List.getElem_mem htl
    · obtain ⟨cs, X2, hcl, hcs, rfl, ok2, hp2, hf2, fm2⟩ := inv
      rw [rangeD_length] at hcl
      have hcl : cs.length = r + 1 := by omega
      refine ⟨"", cs.map fun c => (⟨#[c]⟩ : Str), rfl, by show some _ = some _; rw [List.map_map]; rfl, ?_, ?_⟩
      · rw [signs_sum, show ("" : Str).length = 0 from rfl, Nat.mul_zero]; omega
      rw [join_signs]
      have hw0 : isNm ⟨cs.toArray⟩ := by
        refine ⟨?_, ?_, ?_⟩
        · rw [length_cps]; show 1 ≤ cs.length; omega
        · rw [length_cps]; show cs.length ≤ 8; omega
        · exact hcs
      generalize (⟨cs.toArray⟩ : Str) = w0 at hw0
      walk_at "es"
      refine WS_for (js := [5]) (WI_txt ?_)
      walk_at "es"
      refine ⟨fun j ρ' μ' => ∃ (w : Str) (x5 : Option D), ρ' = [some (.ptr p), some (.int (n : Int)), some (.ptr f), some (.int (0 + (i : Int))), some (.str w), x5, x6] ∧ isNm w ∧ Tried names j w ∧ μ' = μ2,
        ⟨w0, _, rfl, hw0, Tried.zero _ _, rfl⟩, fun _ _ _ _ _ => trivial, fun j d ρ' μ' hd inv => ?_, fun ρ' μ' inv => ?_⟩
      · obtain ⟨w1, x5, rfl, hw1, tr, rfl⟩ := inv
        have hd' : (sgs.map fun c => D.str ⟨#[c]⟩)[j]? = some d := hd
        rw [List.getElem?_map] at hd'
        cases hc : sgs[j]? with
        | none => rw [hc] at hd'; cases hd'
        | some c =>
          rw [hc] at hd'
          have hd' := Option.some.inj hd'
          subst hd'
          refine WG_name ?_
          refine WS_if (WT_test (WE_op lIn_seq ?_))
          walk_at "es"
          refine dIn_i (ds := names.map D.str) (seqOf_list (listOf_ptr hf2)) rfl (flat_strs _) ?_
          rw [any_str]
          refine ⟨_, rfl, ?_⟩
          by_cases hin : w1 ∈ names
          · rw [decide_eq_true hin]
            walk_at "es"
            refine WE_sl lSl_str ?_
            walk_at "es"
            refine dSlS_i hw1.line ?_
            walk_at "es"
            have hnx := nxW_nm hw1 (sgs_letters c (List.mem_of_getElem? hc))
            refine dAdd_s ?_ ?_
            · have e : (cutS w1 none (some 7)).length + (⟨#[c]⟩ : Str).length = (nxW w1 c).length := by
                rw [length_cps, length_cps, length_cps, ← List.length_append]
                show _ = ((cutS w1 none (some 7)).cps ++ #[c]).toList.length
                rw [Array.toList_append]
              rw [e]; exact hnx.line
            · exact ⟨nxW w1 c, _, rfl, hnx, tr.next hc hin, rfl⟩
          · rw [decide_eq_false hin]
            walk_at "es"
            exact ⟨w1, _, rfl, hw1, .inl hin, rfl⟩
      · obtain ⟨w1, x5, rfl, hw1, tr, rfl⟩ := inv
        have e14 : (signsD ("abcdefghijklmn" : Str)).length = 14 := by decide
        rw [e14] at tr
        have hnot := tr.done (by omega)
        refine WS_drop (WE_bm lAppend (WE_var rfl ⟨⟨_, listOf_ptr hf2⟩, ?_⟩))
        walk_at "es"
        refine dAppend_i hf2 (by rw [List.length_map]; exact Nat.lt_of_le_of_lt (m := 13) (by omega) (Nat.lt_of_lt_of_le (by decide) line_big)) ?_
        have e : names.map D.str ++ [D.str w1] = (names ++ [w1]).map D.str := by rw [List.map_append]; rfl
        rw [e]
        refine ⟨names ++ [w1], X2, _, _, _, _, rfl, by rw [List.length_append, hl]; rfl, ?_, fun x hx => ?_, ok2, by rw [updS_ne fp.symm]; exact hp2, updS_same, fm2.upd (by simp)⟩
        · rw [List.nodup_append]
          refine ⟨nd, by simp, fun a ha b hb e9 => ?_⟩
          rw [List.mem_singleton] at hb
          exact hnot (by rw [← hb, ← e9]; exact ha)
        · rcases List.mem_append.mp hx with z | z
          · exact nm x z
          · rw [List.mem_singleton] at z; subst z; exact hw1
  · obtain ⟨names, X, x3, x4, x5, x6, rfl, hl, nd, nm, ok, hp, hf', fm⟩ := inv
    refine WS_ret (WE_thaw (WE_var rfl ⟨f, _, rfl, hfm, hf', ⟨_, SubS.refl _, ?_⟩⟩))
    rw [store_back hp fm hfm fp]
    rw [rangeD_length] at hl
    exact q names (by omega) nd nm X ok
end
end G
set_option Elab.async false
set_option linter.all false
set_option maxRecDepth 100000
set_option maxHeartbeats 4000000
namespace G
open PySem PySem.Spec L2 DL
local macro_rules | `(tactic| walk_at "e") => `(tactic| first
  | with_reducible refine WE_int ?_
  | with_reducible refine WE_str ?_
  | with_reducible refine WE_bl ?_
  | with_reducible refine WE_non ?_
  | with_reducible refine WE_ty ?_
  | refine WE_var rfl ?_
  | with_reducible refine WA_nil ?_
  | with_reducible refine WA_cons ?_
  | with_reducible refine WO_none ?_
  | with_reducible refine WO_some ?_
  | with_reducible refine WT_val ?_
  | with_reducible refine WT_test ?_
  | with_reducible refine WT_not ?_
  | with_reducible refine WT_and ?_
  | with_reducible refine WT_or ?_
  | with_reducible refine WT_yes ?_
  | with_reducible refine WE_andV ?_
  | with_reducible refine WE_orV ?_
  | with_reducible refine WE_notV ?_
  | with_reducible refine WE_if ?_
  | with_reducible refine WE_tup ?_
  | with_reducible refine WE_neg ?_
  | with_reducible refine WE_op lAdd ?_
  | with_reducible refine WE_op lMul_int ?_
  | with_reducible refine WE_op lEq ?_
  | with_reducible refine WE_op lNe ?_
  | with_reducible refine WE_op lIsN ?_
  | with_reducible refine WE_op lNotN ?_
  | with_reducible refine WE_op lIx ?_
  | with_reducible refine WE_op lIntB ?_
  | with_reducible refine WE_op lIntC ?_
  | with_reducible refine WE_op lInt ?_
  | with_reducible refine WE_cb lIsi ?_
  | with_reducible refine WE_cb lLenA ?_
  | with_reducible refine WE_cb lTupleOfK ?_
  | with_reducible refine WE_cb lAbs ?_
  | with_reducible refine WE_cb lIntOf ?_
  | with_reducible refine WE_cb lMin2 ?_
  | with_reducible refine WE_cb lMax2 ?_
  | with_reducible refine WE_call ?_
  | with_reducible refine WE_chain lIntB lIntB ?_
  | with_reducible refine WS_seq ?_
  | with_reducible refine WS_ret ?_
  | with_reducible refine WS_retN ?_
  | with_reducible refine WS_set ?_
  | refine WS_asg2 rfl ?_
  | refine WS_asg3 rfl ?_
  | with_reducible refine WS_drop ?_
  | with_reducible refine WS_if ?_
  | with_reducible refine WS_next ?_
  | with_reducible refine WG_name ?_
  | with_reducible refine WG_tup rfl ?_
  | with_reducible refine WGs_cons ?_
  | with_reducible refine WGs_nil ?_
  | with_reducible refine dAdd_i ?_
  | with_reducible refine dInt_i ?_
  | with_reducible refine dIsi_i rfl (by decide) ?_
  | with_reducible refine dLenA_t ?_
  | with_reducible refine dLenA_l ?_
  | with_reducible refine dIsN_i ?_
  | with_reducible refine dNotN_i ?_
  | with_reducible refine dAbs_i ?_
  | with_reducible refine dIntOf_i ?_
  | with_reducible refine iteN (by decide) ?_
  | with_reducible refine iteY (by decide) ?_
  | refine iteT ?_
  | refine iteF ?_
  | with_reducible refine is2_i ?_
  | with_reducible refine is3_i ?_
  | with_reducible refine ⟨_, rfl, ?_⟩)
local macro_rules | `(tactic| walk_at "es") => `(tactic| repeat walk_at "e")

section
variable {P : Program} {w : World} {K : PySem.W.Frag} {mg : Str → Option Value} {base : Heap}
def F__law_belts : FS := fun ds μ Q => ∃ (p : Addr) (n : Nat), ds = [.ptr p, .int (n : Int)] ∧ 1 ≤ n ∧ n ≤ 1000 ∧ DiceAt p μ ∧ ∀ ls : List Nat, 1 ≤ ls.length → ls.length ≤ 6 → (∀ l ∈ ls, 1 ≤ l) → ls.sum = n → ∀ X : Dice, X.Ok → Q (.tup (ls.map fun (l : Nat) => D.int (l : Int))) (updS μ p (.lst (diceD X)))
theorem sc__law_belts : FnScope ["_law_dice_here", "_law_size", "_law_found", "_law_left", "_law_k", "_law_length"] ["_law_dice_here", "_law_size"] (defScope sd__law_belts) := ⟨rfl, rfl, rfl, by decide +kernel, rfl, by decide +kernel, by decide +kernel⟩
theorem ok__law_belts {f : Addr} {fd : FuncData} (T : Md K mg) (h__law_draw : Has P w K mg base "_law_draw" 1 ["_law_dice_here", "_law_sides"] F__law_draw) (Fd : FunD K "_law_belts" "_law_belts" (defArgs sd__law_belts) (defBody sd__law_belts) (defScope sd__law_belts) [] [] f fd) : FnOk P w K mg base CX0 2 f fd ["_law_dice_here", "_law_size"] (spOf F__law_belts) := by
  refine fn_data Fd sc__law_belts (fun ds μ R h => by (obtain ⟨p, n, rfl, h1, h2, ⟨X, ok, hm⟩, q⟩ := h; rfl)) fun cdv A outer s H E hr => ⟨_, (pss_cons (ps_set (i := 2) sc__law_belts.nd rfl (by first | exact Or.inl rfl | exact Or.inr rfl) (pe_lst pa_nil))
    (pss_cons (ps_set (i := 3) sc__law_belts.nd rfl (by first | exact Or.inl rfl | exact Or.inr rfl) (pv 1))
    (pss_cons (ps_for PassesOwn.never rfl (pi_range1 (by rfl) T.f_range (pa_cons pe_int pa_nil)) (pg_name (i := 4) sc__law_belts.nd rfl (by first | exact Or.inl rfl | exact Or.inr rfl)) (pss_one (ps_if (pt_cmpR op_gt (pv 3) pe_int (by first | exact nomark _ | rfl)) (pss_cons (ps_set (i := 5) sc__law_belts.nd rfl (by first | exact Or.inl rfl | exact Or.inr rfl) (pe_op (kAdd (K := K) rfl) pe_int (pe_fn h__law_draw (hr.mono (by decide)) (by rfl) (pa_cons (pv 0) (pa_cons (pv 3) pa_nil)))))
    (pss_cons (ps_expr (kBm (K := K) rfl PySem.F.plainAttrs_list PySem.F.slot_list_append PySem.F.type_list_append mt_append (pv 2) (pa_cons (pv 5) pa_nil)))
    (pss_one (ps_set (i := 3) sc__law_belts.nd rfl (by first | exact Or.inl rfl | exact Or.inr rfl) (pe_op op_sub (pv 3) (pv 5)))))) pss_nil)))
    (pss_cons (ps_if (pt_cmpR op_gt (pv 3) pe_int (by first | exact nomark _ | rfl)) (pss_one (ps_expr (kBm (K := K) rfl PySem.F.plainAttrs_list PySem.F.slot_list_append PySem.F.type_list_append mt_append (pv 2) (pa_cons (pv 3) pa_nil)))) pss_nil)
    (pss_cons (ps_if (pt_cmpR (kEq (K := K) rfl hr.units) (pe_fn h__law_draw (hr.mono (by decide)) (by rfl) (pa_cons (pv 0) (pa_cons pe_int pa_nil))) pe_int (by first | exact nomark _ | rfl)) (pss_one (ps_set (i := 2) sc__law_belts.nd rfl (by first | exact Or.inl rfl | exact Or.inr rfl) (pe_lst (pa_cons (pv 1) pa_nil)))) pss_nil)
    (pss_one (ps_ret (pe_callTy (kTupleOf (K := K) rfl) (by rfl) T.f_tuple (by decide +kernel) (pa_cons (pv 2) pa_nil))))))))), fun N ds R h => ?_⟩
  obtain ⟨p, n, rfl, h1, h2, ⟨X, ok, hm⟩, q⟩ := h
  walk_at "es"
  refine WE_cell (WEn_lst (WA_nil ⟨by decide, fun f hf hfm => ?_⟩))
  have fp : f ≠ p := fun e => by subst e; rw [hm] at hfm; cases hfm
  walk_at "es"
  refine WS_for (js := [4]) (WI_range1 ?_)
  walk_at "es"
  refine ⟨by omega, by omega, fun i ρ' μ' => ∃ (ls : List Nat) (l : Nat) (X : Dice) (x4 x5 : Option D), ρ' = [some (.ptr p), some (.int (n : Int)), some (.ptr f), some (.int (l : Int)), x4, x5] ∧ ls.length ≤ i ∧ (0 < i → 1 ≤ ls.length) ∧ (∀ l ∈ ls, 1 ≤ l) ∧ ls.sum + l = n ∧ X.Ok ∧ μ' p = some (.lst (diceD X)) ∧ μ' f = some (.lst (ls.map fun (l : Nat) => D.int (l : Int))) ∧ Fm [p, f] N.μ μ',
    ⟨[], n, X, _, _, rfl, Nat.le_refl _, fun h => absurd h (Nat.lt_irrefl _), fun l h => absurd h List.not_mem_nil, by simp, ok, by rw [updS_ne fp.symm]; exact hm, updS_same, (Fm.refl _ _).upd (by simp)⟩, fun _ _ _ _ _ => trivial, fun i d ρ' μ' hd inv => ?_, fun ρ' μ' inv => ?_⟩
  · obtain ⟨ls, l, X, x4, x5, rfl, hl, hl1, hpos, hs, ok, hp, hf', fm⟩ := inv
    obtain ⟨hi, rfl⟩ := rangeD_get hd
    refine WG_name ?_
    walk_at "es"
    split
    · rename_i hgt
      have hgt := of_decide_eq_true hgt
      walk_at "es"
      refine ⟨p, (l : Int), X, rfl, hgt, by omega, ok, hp, fun r hr X1 ok1 => ?_⟩
      walk_at "es"
      refine WE_bm lAppend (WE_var rfl ⟨⟨_, listOf_ptr (by rw [updS_ne fp]; exact hf')⟩, ?_⟩)
      walk_at "es"
      have hf1 : updS μ' p (.lst (diceD X1)) f = some (.lst (ls.map fun (l : Nat) => D.int (l : Int))) := by rw [updS_ne fp]; exact hf'
      refine dAppend_i hf1 (by rw [List.length_map]; exact Nat.lt_of_le_of_lt (m := 5) (by have : (rangeD 0 5).length = 5 := rfl; omega) (Nat.lt_of_lt_of_le (by decide) line_big)) ?_
      walk_at "es"
      have e : (ls.map fun (l : Nat) => D.int (l : Int)) ++ [D.int (1 + (r : Int))] = (ls ++ [r + 1]).map fun (l : Nat) => D.int (l : Int) := by
        rw [List.map_append]
        show _ = _ ++ [D.int ((r + 1 : Nat) : Int)]
        rw [show (1 : Int) + (r : Int) = ((r + 1 : Nat) : Int) by omega]
      rw [e]
      have ez : (l : Int) - (1 + (r : Int)) = ((l - (r + 1) : Nat) : Int) := by omega
      rw [ez]
      refine ⟨ls ++ [r + 1], l - (r + 1), X1, _, _, rfl, by rw [List.length_append]; simp; omega, fun _ => by rw [List.length_append]; simp, fun k hk => ?_, ?_, ok1, by rw [updS_ne fp.symm, updS_same], updS_same, (fm.upd (by simp)).upd (by simp)⟩
      · rcases List.mem_append.mp hk with z | z
        · exact hpos k z
        · rw [List.mem_singleton] at z; omega
      · rw [List.sum_append]; simp; omega
    · rename_i hgt
      have hgt : ¬ (0 : Int) < (l : Int) := fun z => hgt (decide_eq_true z)
      refine WS_next ⟨ls, l, X, _, _, rfl, by omega, fun _ => ?_, hpos, hs, ok, hp, hf', fm⟩
      cases ls with
      | nil => rw [List.sum_nil] at hs; omega
      | cons _ _ => simp
  · obtain ⟨ls, l, X, x4, x5, rfl, hl, hl1, hpos, hs, ok, hp, hf', fm⟩ := inv
    have e5 : (rangeD 0 5).length = 5 := rfl
    have hl : ls.length ≤ 5 := hl
    have hl1 := hl1 (by show 0 < (rangeD 0 5).length; decide)
    refine WS_seqI (fun ρ' μ' => ∃ (ls : List Nat) (x4 x5 : Option D), ρ' = [some (.ptr p), some (.int (n : Int)), some (.ptr f), some (.int (l : Int)), x4, x5] ∧ ls.length ≤ 6 ∧ 1 ≤ ls.length ∧ (∀ l ∈ ls, 1 ≤ l) ∧ ls.sum = n ∧ μ' p = some (.lst (diceD X)) ∧ μ' f = some (.lst (ls.map fun (l : Nat) => D.int (l : Int))) ∧ Fm [p, f] N.μ μ') ?_ ?_
    · walk_at "es"
      split
      · rename_i hgt
        have hgt := of_decide_eq_true hgt
        refine WS_drop (WE_bm lAppend (WE_var rfl ⟨⟨_, listOf_ptr hf'⟩, ?_⟩))
        walk_at "es"
        refine dAppend_i hf' (by rw [List.length_map]; exact Nat.lt_of_le_of_lt (m := 5) (by omega) (Nat.lt_of_lt_of_le (by decide) line_big)) ?_
        have e : (ls.map fun (l : Nat) => D.int (l : Int)) ++ [D.int (l : Int)] = (ls ++ [l]).map fun (l : Nat) => D.int (l : Int) := by rw [List.map_append]; rfl
        rw [e]
        refine ⟨ls ++ [l], _, _, rfl, by rw [List.length_append]; simp; omega, by rw [List.length_append]; simp, fun k hk => ?_, by rw [List.sum_append]; simp; omega, by rw [updS_ne fp.symm]; exact hp, updS_same, fm.upd (by simp)⟩
        rcases List.mem_append.mp hk with z | z
        · exact hpos k z
        · rw [List.mem_singleton] at z; omega
      · rename_i hgt
        have hgt : ¬ (0 : Int) < (l : Int) := fun z => hgt (decide_eq_true z)
        exact WS_next ⟨ls, _, _, rfl, by omega, hl1, hpos, by omega, hp, hf', fm⟩
    rintro ρ' μ2 ⟨ls, x4, x5, rfl, hl, hl1, hpos, hs, hp, hf', fm⟩
    walk_at "es"
    refine ⟨p, 4, X, rfl, by omega, by omega, ok, hp, fun r hr X1 ok1 => ?_⟩
    walk_at "es"
    refine dEq_int ⟨_, rfl, ?_⟩
    have hp1 : updS μ2 p (.lst (diceD X1)) p = some (.lst (diceD X1)) := updS_same
    have hf1 : updS μ2 p (.lst (diceD X1)) f = some (.lst (ls.map fun (l : Nat) => D.int (l : Int))) := by rw [updS_ne fp]; exact hf'
    have fm1 : Fm [p, f] N.μ (updS μ2 p (.lst (diceD X1))) := fm.upd (by simp)
    generalize updS μ2 p (.lst (diceD X1)) = μ3 at hp1 hf1 fm1 ⊢
    have sub : SubS (updS N.μ p (.lst (diceD X1))) μ3 := fun a c e => by
      by_cases z : a = p
      · subst z; rw [updS_same] at e; rw [hp1]; exact e
      · rw [updS_ne z] at e
        have zf : a ≠ f := fun y => by subst y; rw [hfm] at e; cases e
        rw [fm1 a (by simp [z, zf])]; exact e
    split
    · walk_at "es"
      refine WE_frozen (WEn_lst ?_)
      walk_at "es"
      refine ⟨small (by simp), ?_⟩
      walk_at "es"
      refine dTupleOf_i rfl ⟨_, sub, q [n] (by simp) (by simp) (fun l hl => ?_) (by simp) X1 ok1⟩
      rw [List.mem_singleton] at hl; omega
    · refine WS_next ?_
      show WS _ _ _ _ _
      walk_at "es"
      exact dTupleOf_i (seqOf_list (listOf_ptr hf1)) ⟨_, sub, q ls hl1 hl hpos hs X1 ok1⟩
def F__law_put : FS := fun ds μ Q => ∃ (h : Hol) (b : Nat) (i : Item), ds = [encH h, .int (b : Int), encI i] ∧ b < h.length ∧ h.length ≤ 1000 ∧ (∀ r ∈ h, r.length ≤ 1000) ∧ Q (encH (putH h b i)) μ
theorem sc__law_put : FnScope ["_law_holding", "_law_belt", "_law_thing", "_law_rows"] ["_law_holding", "_law_belt", "_law_thing"] (defScope sd__law_put) := ⟨rfl, rfl, rfl, by decide +kernel, rfl, by decide +kernel, by decide +kernel⟩
theorem ok__law_put {f : Addr} {fd : FuncData} (T : Md K mg)  (Fd : FunD K "_law_put" "_law_put" (defArgs sd__law_put) (defBody sd__law_put) (defScope sd__law_put) [] [] f fd) : FnOk P w K mg base CX0 1 f fd ["_law_holding", "_law_belt", "_law_thing"] (spOf F__law_put) := by
  refine fn_data Fd sc__law_put (fun ds μ R h => by (obtain ⟨h, b, i, rfl, hb, hl, hl2, q⟩ := h; rfl)) fun cdv A outer s H E hr => ⟨_, (pss_cons (ps_set (i := 3) sc__law_put.nd rfl (by first | exact Or.inl rfl | exact Or.inr rfl) (pe_callTy (kListOf (K := K) rfl) (by rfl) T.f_list (by decide +kernel) (pa_cons (pv 0) pa_nil)))
    (pss_cons (ps_asg (pe_op (kAdd (K := K) rfl) (pe_tup (pa_cons (pv 2) pa_nil)) (pe_slice (kSl (K := K) rfl) (pe_ix (kIx (K := K) rfl) (pv 3) (pv 1) (fun _ _ => rfl)) po_none (po_some (pe_un un_neg pe_int)))) (pg_sub (pv 3) (pv 1) set_list))
    (pss_one (ps_ret (pe_callTy (kTupleOf (K := K) rfl) (by rfl) T.f_tuple (by decide +kernel) (pa_cons (pv 3) pa_nil)))))), fun N ds R h => ?_⟩
  obtain ⟨h, b, i, rfl, hb, hl, hl2, q⟩ := h
  walk_at "es"
  have hr : h[b]? = some h[b] := List.getElem?_eq_getElem hb
  refine WE_cell (WEn_cb lListOfK ?_)
  walk_at "es"
  refine dListOf_i rfl fun p np mp => ?_
  walk_at "es"
  refine WS_asg (js := []) ?_
  walk_at "es"
  refine ⟨small (by simp), ?_⟩
  refine WE_sl lSl_tup ?_
  walk_at "es"
  refine dIx_p updS_same (j := b) rfl (by rw [List.getElem?_map, hr]; rfl) ?_
  walk_at "es"
  refine dSlT_i ?_
  rw [cut_init]
  have e1 : (h[b].map encI).dropLast = h[b].dropLast.map encI := by rw [List.map_dropLast]
  rw [e1]
  refine dAdd_t (small ?_) ?_
  · have := hl2 _ (List.getElem_mem hb)
    rw [List.length_map, List.length_dropLast]
    simp; omega
  refine WG_sub lSetL ?_
  walk_at "es"
  refine dSetL_i updS_same (j := b) rfl (by rw [List.length_map]; exact hb) ?_
  walk_at "es"
  refine dTupleOf_i (seqOf_list (listOf_ptr updS_same)) ⟨N.μ, ?_, ?_⟩
  · exact ((SubS.refl _).upd mp).upd mp
  · have e : (h.map encR).set b (.tup ([encI i] ++ h[b].dropLast.map encI)) = (putH h b i).map encR := by
      unfold putH
      rw [List.map_set, List.getD_eq_getElem?_getD, hr]; rfl
    rw [e]
    exact q
def F__law_done : FS := fun ds μ Q => ∃ (h : Hol) (t : List Car), ds = [encH h, .tup (t.map encC)] ∧ OkL (lens h) ∧ (∀ c ∈ t, carOk h c) ∧ Q (encH (doneC h t)) μ
theorem sc__law_done : FnScope ["_law_holding", "_law_carries", "_law_room", "_law_belt"] ["_law_holding", "_law_carries"] (defScope sd__law_done) := ⟨rfl, rfl, rfl, by decide +kernel, rfl, by decide +kernel, by decide +kernel⟩
theorem ok__law_done {f : Addr} {fd : FuncData} (T : Md K mg) (h__law_put : Has P w K mg base "_law_put" 1 ["_law_holding", "_law_belt", "_law_thing"] F__law_put) (Fd : FunD K "_law_done" "_law_done" (defArgs sd__law_done) (defBody sd__law_done) (defScope sd__law_done) [] [] f fd) : FnOk P w K mg base CX0 2 f fd ["_law_holding", "_law_carries"] (spOf F__law_done) := by
  refine fn_data Fd sc__law_done (fun ds μ R h => by (obtain ⟨h, t, rfl, ok, hc, q⟩ := h; rfl)) fun cdv A outer s H E hr => ⟨_, (pss_cons (ps_for PassesOwn.never rfl (kWalk (K := K) rfl (pv 1)) (kTup (K := K) (n := 2) rfl (by rfl) (pgs_cons (pg_name (i := 2) sc__law_done.nd rfl (by first | exact Or.inl rfl | exact Or.inr rfl)) (pgs_cons (pg_name (i := 3) sc__law_done.nd rfl (by first | exact Or.inl rfl | exact Or.inr rfl)) pgs_nil))) (pss_one (ps_set (i := 0) sc__law_done.nd rfl (by first | exact Or.inl rfl | exact Or.inr rfl) (pe_fn h__law_put (hr.mono (by decide)) (by rfl) (pa_cons (pv 0) (pa_cons (pv 3) (pa_cons (pe_ix (kIx (K := K) rfl) (pe_ix (kIx (K := K) rfl) (pv 0) (pe_ix (kIx (K := K) rfl) (pv 2) pe_int (fun _ _ => rfl)) (fun _ _ => rfl)) (pe_ix (kIx (K := K) rfl) (pv 2) pe_int (fun _ _ => rfl)) (fun _ _ => rfl)) pa_nil)))))))
    (pss_one (ps_ret (pv 0)))), fun N ds R h => ?_⟩
  obtain ⟨h, t, rfl, ok, hc, q⟩ := h
  have sz := ok.size
  have h0 : ∀ b, b < h.length → 0 < (h.getD b []).length := fun b hb => by
    rw [List.getD_eq_getElem?_getD, List.getElem?_eq_getElem hb]
    exact (sz.2.1 _ (List.getElem_mem hb)).1
  refine WS_seqI (fun ρ' μ' => (∃ x y, ρ' = [some (encH (doneC h t)), some (.tup (t.map encC)), x, y]) ∧ μ' = N.μ) ?_ ?_
  · refine WS_for (js := [2] ++ ([3] ++ [])) (WI_tpl ?_)
    walk_at "es"
    refine ⟨fun i ρ' μ' => (∃ x y, ρ' = [some (encH (doneC h (t.take i))), some (.tup (t.map encC)), x, y]) ∧ μ' = N.μ, ⟨⟨_, _, rfl⟩, rfl⟩, fun _ _ _ _ _ => trivial, fun i d ρ' μ' hd inv => ?_, fun ρ' μ' inv => ?_⟩
    · obtain ⟨⟨x, y, rfl⟩, rfl⟩ := inv
      rw [List.getElem?_map] at hd
      cases hx : t[i]? with
      | none => rw [hx] at hd; cases hd
      | some c =>
        rw [hx] at hd
        have hd := Option.some.inj hd
        subst hd
        have hct := List.mem_of_getElem? hx
        have le := lens_doneC h0 (t := t.take i) fun c hc' => hc c (List.mem_of_mem_take hc')
        have ok' : OkL (lens (doneC h (t.take i))) := by rw [le]; exact ok
        have sz' := ok'.size
        obtain ⟨r, hr, _, hit, _⟩ := ((isSeat_lens le).mpr (hc c hct).1).row
        refine WG_tup rfl (WGs_cons (WG_name (WGs_cons (WG_name (WGs_nil ?_)))))
        walk_at "es"
        refine dIx_t (j := 0) rfl rfl ?_
        refine dIx_t (j := c.1.1) rfl (by rw [List.getElem?_map, hr]; rfl) ?_
        walk_at "es"
        refine dIx_t (j := 1) rfl rfl ?_
        refine dIx_t (j := c.1.2) rfl (by rw [List.getElem?_map, hit]; rfl) ?_
        walk_at "es"
        refine ⟨doneC h (t.take i), c.2, itemAt (doneC h (t.take i)) c.1, rfl, ?_, Nat.le_trans sz'.1 (by decide), fun r hr => Nat.le_trans (sz'.2.1 r hr).2 (by decide), ?_⟩
        · rw [← lens_length, le, lens_length]; exact (hc c hct).2
        rw [← doneC_take hx]
        exact ⟨⟨_, _, rfl⟩, rfl⟩
    · obtain ⟨⟨x, y, rfl⟩, rfl⟩ := inv
      rw [List.length_map, List.take_length]
      exact ⟨⟨_, _, rfl⟩, rfl⟩
  · rintro ρ' μ' ⟨⟨x, y, rfl⟩, rfl⟩
    walk_at "es"
    exact retE_i q (SubS.refl _)
def F__law_lengths : FS := fun ds μ Q => ∃ (p : Addr) (n : Nat), ds = [.ptr p, .int (n : Int)] ∧ 1 ≤ n ∧ n ≤ 12 ∧ DiceAt p μ ∧ ∀ ls : List Nat, OkL ls → ls.sum = n → ∀ X : Dice, X.Ok → Q (.tup (ls.map fun (l : Nat) => D.int (l : Int))) (updS μ p (.lst (diceD X)))
theorem sc__law_lengths : FnScope ["_law_dice_here", "_law_size", "_law_found"] ["_law_dice_here", "_law_size"] (defScope sd__law_lengths) := ⟨rfl, rfl, rfl, by decide +kernel, rfl, by decide +kernel, by decide +kernel⟩
theorem ok__law_lengths {f : Addr} {fd : FuncData} (T : Md K mg) (h__law_belts : Has P w K mg base "_law_belts" 2 ["_law_dice_here", "_law_size"] F__law_belts) (Fd : FunD K "_law_lengths" "_law_lengths" (defArgs sd__law_lengths) (defBody sd__law_lengths) (defScope sd__law_lengths) [] [] f fd) : FnOk P w K mg base CX0 3 f fd ["_law_dice_here", "_law_size"] (spOf F__law_lengths) := by
  refine fn_data Fd sc__law_lengths (fun ds μ R h => by (obtain ⟨p, n, rfl, h1, h2, ⟨X, ok, hm⟩, q⟩ := h; rfl)) fun cdv A outer s H E hr => ⟨_, (pss_cons (ps_set (i := 2) sc__law_lengths.nd rfl (by first | exact Or.inl rfl | exact Or.inr rfl) (pe_fn h__law_belts (hr.mono (by decide)) (by rfl) (pa_cons (pv 0) (pa_cons (pv 1) pa_nil))))
    (pss_cons (ps_if (pt_cmpR op_gt (pe_callB (kMaxA (K := K) rfl rfl) (by rfl) T.f_max (by decide +kernel) (pa_cons (pv 2) pa_nil)) pe_int (by first | exact nomark _ | rfl)) (pss_one (ps_set (i := 2) sc__law_lengths.nd rfl (by first | exact Or.inl rfl | exact Or.inr rfl) (pe_op (kAdd (K := K) rfl) (pe_tup (pa_cons pe_int pa_nil)) (pe_fn h__law_belts (hr.mono (by decide)) (by rfl) (pa_cons (pv 0) (pa_cons (pe_op op_sub (pv 1) pe_int) pa_nil)))))) pss_nil)
    (pss_one (ps_ret (pv 2))))), fun N ds R h => ?_⟩
  obtain ⟨p, n, rfl, h1, h2, ⟨X, ok, hm⟩, q⟩ := h
  walk_at "es"
  refine ⟨p, n, rfl, h1, by omega, ⟨X, ok, hm⟩, fun ls l1 l2 l3 l4 X1 ok1 => ?_⟩
  have ml : (ls.map fun (l : Nat) => D.int (l : Int)) = (ls.map fun (l : Nat) => (l : Int)).map D.int := by rw [List.map_map]; rfl
  walk_at "es"
  refine WE_cb lMaxT (WA_cons (WE_var rfl (WA_nil ⟨ls.map fun (l : Nat) => (l : Int), by rw [← ml], by rw [List.length_map]; omega, fun m hm1 hm2 => ?_⟩)))
  obtain ⟨l, hl, rfl⟩ := List.mem_map.mp hm1
  walk_at "es"
  split
  · rename_i hgt
    have hgt := of_decide_eq_true hgt
    have lsum := mem_le_sum hl
    walk_at "es"
    have e : (n : Int) - 8 = ((n - 8 : Nat) : Int) := by omega
    refine ⟨small (by simp), ?_⟩
    walk_at "es"
    rw [e]
    refine ⟨p, n - 8, rfl, by omega, by omega, ⟨X1, ok1, updS_same⟩, fun ks k1 k2 k3 k4 X2 ok2 => ?_⟩
    have kl := sum_ge_len k3
    refine dAdd_t (small (by rw [List.length_map]; simp; omega)) ?_
    walk_at "es"
    rw [updS_upd]
    have e2 : [D.int 8] ++ (ks.map fun (l : Nat) => D.int (l : Int)) = (8 :: ks).map fun (l : Nat) => D.int (l : Int) := rfl
    rw [e2]
    refine ⟨_, SubS.refl _, q (8 :: ks) ⟨by simp, by simp; omega, fun k hk => ?_, by rw [List.sum_cons]; omega⟩ (by rw [List.sum_cons]; omega) X2 ok2⟩
    rcases List.mem_cons.mp hk with z | z
    · omega
    · have := k3 k z
      have := mem_le_sum z
      omega
  · rename_i hgt
    have hgt : ¬ (8 : Int) < (l : Int) := fun z => hgt (decide_eq_true z)
    refine WS_next ?_
    show WS _ _ _ _ _
    walk_at "es"
    refine ⟨_, SubS.refl _, q ls ⟨l1, l2, fun k hk => ⟨l3 k hk, ?_⟩, by omega⟩ l4 X1 ok1⟩
    have := hm2 (k : Int) (List.mem_map.mpr ⟨k, hk, rfl⟩)
    omega
def F__law_split : FS := fun ds μ Q => ∃ (ws : List Item) (ls : List Nat), ds = [.lst (ws.map encI), .tup (ls.map fun (l : Nat) => D.int (l : Int))] ∧ ls.sum = ws.length ∧ ls.length ≤ 1000 ∧ Q (encH (splitH ws ls)) μ
theorem sc__law_split : FnScope ["_law_word", "_law_lengths_here", "_law_rows", "_law_at", "_law_length"] ["_law_word", "_law_lengths_here"] (defScope sd__law_split) := ⟨rfl, rfl, rfl, by decide +kernel, rfl, by decide +kernel, by decide +kernel⟩
theorem ok__law_split {f : Addr} {fd : FuncData} (T : Md K mg)  (Fd : FunD K "_law_split" "_law_split" (defArgs sd__law_split) (defBody sd__law_split) (defScope sd__law_split) [] [] f fd) : FnOk P w K mg base CX0 1 f fd ["_law_word", "_law_lengths_here"] (spOf F__law_split) := by
  refine fn_data Fd sc__law_split (fun ds μ R h => by (obtain ⟨ws, ls, rfl, hs, hl, q⟩ := h; rfl)) fun cdv A outer s H E hr => ⟨_, (pss_cons (ps_set (i := 2) sc__law_split.nd rfl (by first | exact Or.inl rfl | exact Or.inr rfl) (pe_lst pa_nil))
    (pss_cons (ps_set (i := 3) sc__law_split.nd rfl (by first | exact Or.inl rfl | exact Or.inr rfl) pe_int)
    (pss_cons (ps_for PassesOwn.never rfl (kWalk (K := K) rfl (pv 1)) (pg_name (i := 4) sc__law_split.nd rfl (by first | exact Or.inl rfl | exact Or.inr rfl)) (pss_cons (ps_expr (kBm (K := K) rfl PySem.F.plainAttrs_list PySem.F.slot_list_append PySem.F.type_list_append mt_append (pv 2) (pa_cons (pe_callTy (kTupleOf (K := K) rfl) (by rfl) T.f_tuple (by decide +kernel) (pa_cons (pe_slice (kSl (K := K) rfl) (pv 0) (po_some (pv 3)) (po_some (pe_op (kAdd (K := K) rfl) (pv 3) (pv 4)))) pa_nil)) pa_nil)))
    (pss_one (ps_set (i := 3) sc__law_split.nd rfl (by first | exact Or.inl rfl | exact Or.inr rfl) (pe_op (kAdd (K := K) rfl) (pv 3) (pv 4))))))
    (pss_one (ps_ret (pe_callTy (kTupleOf (K := K) rfl) (by rfl) T.f_tuple (by decide +kernel) (pa_cons (pv 2) pa_nil))))))), fun N ds R h => ?_⟩
  obtain ⟨ws, ls, rfl, hs, hl, q⟩ := h
  walk_at "es"
  refine WE_cell (WEn_lst (WA_nil ⟨by decide, fun f hf hfm => ?_⟩))
  walk_at "es"
  refine WS_for (js := [4]) (WI_tpl ?_)
  walk_at "es"
  refine ⟨fun i ρ' μ' => (∃ x, ρ' = [some (.lst (ws.map encI)), some (.tup (ls.map fun (l : Nat) => D.int (l : Int))), some (.ptr f), some (.int ((ls.take i).sum : Int)), x]) ∧ μ' = updS N.μ f (.lst (((splitH ws ls).take i).map encR)), ⟨⟨_, rfl⟩, rfl⟩, fun _ _ _ _ _ => trivial, fun i d ρ' μ' hd inv => ?_, fun ρ' μ' inv => ?_⟩
  · obtain ⟨⟨x, rfl⟩, rfl⟩ := inv
    rw [List.getElem?_map] at hd
    cases hx : ls[i]? with
    | none => rw [hx] at hd; cases hd
    | some l =>
      rw [hx] at hd
      have hd := Option.some.inj hd
      subst hd
      obtain ⟨tl, ts⟩ := take_sum_get hx
      obtain ⟨hi, _⟩ := List.getElem?_eq_some_iff.mp hx
      refine WG_name ?_
      walk_at "es"
      refine WE_bm lAppend (WE_var rfl ⟨⟨_, listOf_ptr updS_same⟩, ?_⟩)
      walk_at "es"
      refine WE_frozen (WEn_sl lSl_lst ?_)
      walk_at "es"
      refine dSlL_i rfl ?_
      rw [cut_mid _ _ _ (by rw [List.length_map]; omega)]
      walk_at "es"
      refine dTupleOf_i rfl ?_
      walk_at "es"
      refine dAppend_i updS_same ?_ ?_
      · rw [List.length_map, List.length_take, splitH_length]
        exact Nat.lt_of_le_of_lt (m := 1000) (by omega) (Nat.lt_of_lt_of_le (by decide) line_big)
      walk_at "es"
      rw [updS_upd]
      have e1 : ((splitH ws ls).take i).map encR ++ [D.tup (((ws.map encI).drop (ls.take i).sum).take l)] = ((splitH ws ls).take (i + 1)).map encR := by
        rw [splitH_get ls ws i l hx, List.map_append, List.map_singleton]
        congr 2
        unfold encR
        rw [List.map_take, List.map_drop]
      have e2 : ((ls.take i).sum : Int) + (l : Int) = ((ls.take (i + 1)).sum : Int) := by rw [ts]; omega
      rw [e1, e2]
      exact ⟨⟨_, rfl⟩, rfl⟩
  · obtain ⟨⟨x, rfl⟩, rfl⟩ := inv
    walk_at "es"
    refine dTupleOf_i (seqOf_list (listOf_ptr updS_same)) ⟨N.μ, (SubS.refl _).upd hfm, ?_⟩
    rw [List.length_map, ← splitH_length ls ws, List.take_length]
    exact q
def F__law_items : FS := fun ds μ Q => ∃ (h : Hol), ds = [encH h] ∧ OkL (lens h) ∧ Q (.lst ((items h).map .str)) μ
theorem sc__law_items : FnScope ["_law_holding", "_law_found", "_law_row", "_law_item"] ["_law_holding"] (defScope sd__law_items) := ⟨rfl, rfl, rfl, by decide +kernel, rfl, by decide +kernel, by decide +kernel⟩
theorem ok__law_items {f : Addr} {fd : FuncData} (T : Md K mg)  (Fd : FunD K "_law_items" "_law_items" (defArgs sd__law_items) (defBody sd__law_items) (defScope sd__law_items) [] [] f fd) : FnOk P w K mg base CX0 1 f fd ["_law_holding"] (spOf F__law_items) := by
  refine fn_data Fd sc__law_items (fun ds μ R h => by (obtain ⟨h, rfl, ok, q⟩ := h; rfl)) fun cdv A outer s H E hr => ⟨_, (pss_cons (ps_set (i := 1) sc__law_items.nd rfl (by first | exact Or.inl rfl | exact Or.inr rfl) (pe_lst pa_nil))
    (pss_cons (ps_for PassesOwn.never rfl (kWalk (K := K) rfl (pv 0)) (pg_name (i := 2) sc__law_items.nd rfl (by first | exact Or.inl rfl | exact Or.inr rfl)) (pss_one (ps_expr (kBm (K := K) rfl PySem.F.plainAttrs_list PySem.F.slot_list_extend PySem.F.type_list_extend mt_extend (pv 1) (pa_cons (pe_lc (own := [("_law_item", 3)]) (by rfl) sc__law_items.nd (kWalk (K := K) rfl (pv 2)) (by first | exact blkOk_by (own := [("_law_item", 3)]) (by decide +kernel) | exact blkOk_by (own := [("_law_item", 3)]) (by kernel_rfl)) (fun _ _ _ _ _ => (pg_name (i := 3) sc__law_items.nd rfl (by first | exact Or.inl rfl | exact Or.inr rfl))) (fun _ _ _ _ _ => (pts_one (pt_cmpR op_notN (pv 3) pe_non (by first | exact nomark _ | rfl)))) (fun _ _ _ _ _ => (pv 3))) pa_nil)))))
    (pss_one (ps_ret (pv 1))))), fun N ds R h => ?_⟩
  obtain ⟨h, rfl, ok, q⟩ := h
  have sz := ok.size
  walk_at "es"
  refine WE_cell (WEn_lst (WA_nil ⟨by decide, fun f hf hfm => ?_⟩))
  walk_at "es"
  refine WS_for (js := [2]) (WI_tpl ?_)
  walk_at "es"
  refine ⟨fun i ρ' μ' => (∃ x3 x4, ρ' = [some (encH h), some (.ptr f), x3, x4]) ∧ μ' = updS N.μ f (.lst ((items (h.take i)).map .str)), ⟨⟨_, _, rfl⟩, rfl⟩, fun _ _ _ _ _ => trivial, fun i d ρ' μ' hd inv => ?_, fun ρ' μ' inv => ?_⟩
  · obtain ⟨⟨x3, x4, rfl⟩, rfl⟩ := inv
    rw [List.getElem?_map] at hd
    cases hx : h[i]? with
    | none => rw [hx] at hd; cases hd
    | some r =>
      rw [hx] at hd
      have hd := Option.some.inj hd
      subst hd
      have hr := sz.2.1 r (List.mem_of_getElem? hx)
      refine WG_name ?_
      refine WS_drop (WE_bm lExtend (WE_var rfl ⟨⟨_, listOf_ptr updS_same⟩, ?_⟩))
      walk_at "es"
      refine WE_frozen (WEn_filterT (α := Item) (js := [3]) (by decide) (WI_tpl ?_))
      walk_at "es"
      refine ⟨r, encI, fun i => !isNonD (encI i), encI, rfl, small (by omega), fun i hi => WG_name ?_, ?_⟩
      · walk_at "es"
        refine ⟨rfl, rfl, fun _ => ?_⟩
        walk_at "es"
        exact ⟨rfl, rfl⟩
      have e : ((r.filter fun i => !isNonD (encI i)).map encI) = (r.filterMap id).map .str := by
        have := items_lc [r]
        unfold items at this
        simp only [List.flatMap_cons, List.flatMap_nil, List.append_nil] at this
        exact this
      rw [e]
      walk_at "es"
      refine dExtend_i updS_same (fs := (r.filterMap id).map .str) rfl ?_ ?_
      · have h1 := items_len (h.take i)
        have h2 : (h.take i).flatten.length ≤ h.flatten.length := by
          conv => rhs; rw [← List.take_append_drop i h, List.flatten_append, List.length_append]
          omega
        have h3 := List.length_filterMap_le id r
        rw [List.length_map, List.length_map]
        exact small (by omega)
      walk_at "es"
      rw [updS_upd]
      have e2 : (items (h.take i)).map D.str ++ (r.filterMap id).map .str = (items (h.take (i + 1))).map .str := by
        rw [List.take_add_one, hx, ← List.map_append]
        unfold items
        rw [List.flatMap_append]
        simp only [Option.toList, List.flatMap_cons, List.flatMap_nil, List.append_nil]
      rw [e2]
      exact ⟨⟨_, _, rfl⟩, rfl⟩
  · obtain ⟨⟨x3, x4, rfl⟩, rfl⟩ := inv
    rw [List.length_map, List.take_length]
    refine WS_ret (WE_thaw (WE_var rfl ⟨f, _, rfl, hfm, updS_same, ⟨N.μ, ?_, q⟩⟩))
    rw [delS_upd hfm]
    exact SubS.refl _
def F__law_fits : FS := fun ds μ Q => ∃ (h g : Hol), ds = [encH h, encH g] ∧ OkL (lens h) ∧ lens g = lens h ∧ (∀ x ∈ items h, okStr x) ∧ (∀ x ∈ items g, okStr x) ∧ (∀ p, isSeat h p → itemAt g p = none ∨ itemAt h p = itemAt g p) ∧ Q (.bl true) μ
theorem sc__law_fits : FnScope ["_law_holding", "_law_goal", "_law_row", "_law_other", "_law_k"] ["_law_holding", "_law_goal"] (defScope sd__law_fits) := ⟨rfl, rfl, rfl, by decide +kernel, rfl, by decide +kernel, by decide +kernel⟩
theorem ok__law_fits {f : Addr} {fd : FuncData} (T : Md K mg)  (Fd : FunD K "_law_fits" "_law_fits" (defArgs sd__law_fits) (defBody sd__law_fits) (defScope sd__law_fits) [] [] f fd) : FnOk P w K mg base CX0 1 f fd ["_law_holding", "_law_goal"] (spOf F__law_fits) := by
  refine fn_data Fd sc__law_fits (fun ds μ R h => by (obtain ⟨h, g, rfl, ok, lg, oh, og, hf, q⟩ := h; rfl)) fun cdv A outer s H E hr => ⟨_, (pss_cons (ps_for PassesOwn.never rfl (kZip (K := K) rfl (by rfl) T.f_zip (pa_cons (pv 0) (pa_cons (pv 1) pa_nil))) (kTup (K := K) (n := 2) rfl (by rfl) (pgs_cons (pg_name (i := 2) sc__law_fits.nd rfl (by first | exact Or.inl rfl | exact Or.inr rfl)) (pgs_cons (pg_name (i := 3) sc__law_fits.nd rfl (by first | exact Or.inl rfl | exact Or.inr rfl)) pgs_nil))) (pss_one (ps_for PassesOwn.never rfl (pi_range1 (by rfl) T.f_range (pa_cons (pe_callB (kLen (K := K) rfl) (by rfl) T.f_len (by decide +kernel) (pa_cons (pv 2) pa_nil)) pa_nil)) (pg_name (i := 4) sc__law_fits.nd rfl (by first | exact Or.inl rfl | exact Or.inr rfl)) (pss_one (ps_if (PW.pt (pw_and (pt_cmpR op_notN (pe_ix (kIx (K := K) rfl) (pv 3) (pv 4) (fun _ _ => rfl)) pe_non (by first | exact nomark _ | rfl)) (pw_and1 (pt_cmpR (kNe (K := K) rfl hr.units) (pe_ix (kIx (K := K) rfl) (pv 3) (pv 4) (fun _ _ => rfl)) (pe_ix (kIx (K := K) rfl) (pv 2) (pv 4) (fun _ _ => rfl)) (by first | exact nomark _ | rfl))))) (pss_one (ps_ret pe_bl)) pss_nil)))))
    (pss_one (ps_ret pe_bl))), fun N ds R h => ?_⟩
  obtain ⟨h, g, rfl, ok, lg, oh, og, hf, q⟩ := h
  have sz := ok.size
  have okr : ∀ (h : Hol), (∀ x ∈ items h, okStr x) → ∀ r ∈ h, ∀ i ∈ r, okI i := fun h oh r hr i hi x e => by
    subst e
    exact oh x (by unfold items; rw [List.mem_flatMap]; exact ⟨r, hr, List.mem_filterMap.mpr ⟨some x, hi, rfl⟩⟩)
  refine WS_seqI (fun ρ' μ' => μ' = N.μ) ?_ ?_
  · refine WS_for (js := [2] ++ ([3] ++ [])) (WI_zipT ?_)
    walk_at "es"
    refine ⟨_, _, rfl, fun i ρ' μ' => (∃ x3 x4 x5, ρ' = [some (encH h), some (encH g), x3, x4, x5]) ∧ μ' = N.μ, ⟨⟨_, _, _, rfl⟩, rfl⟩, fun _ _ _ _ _ => trivial, fun i d ρ' μ' hd inv => ?_, fun ρ' μ' inv => inv.2⟩
    obtain ⟨⟨x3, x4, x5, rfl⟩, rfl⟩ := inv
    obtain ⟨dx, dy, hx, hy, rfl⟩ := zipD_get hd
    rw [List.getElem?_map] at hx hy
    cases hr : h[i]? with
    | none => rw [hr] at hx; cases hx
    | some r =>
    cases hs : g[i]? with
    | none => rw [hs] at hy; cases hy
    | some s =>
    rw [hr] at hx
    rw [hs] at hy
    have hx := Option.some.inj hx
    have hy := Option.some.inj hy
    subst hx hy
    have elen : s.length = r.length := by
      have e1 : (lens g)[i]? = some s.length := by unfold lens; rw [List.getElem?_map, hs]; rfl
      have e2 : (lens h)[i]? = some r.length := by unfold lens; rw [List.getElem?_map, hr]; rfl
      rw [lg, e2] at e1
      exact (Option.some.inj e1).symm
    have hrl := sz.2.1 r (List.mem_of_getElem? hr)
    refine WG_tup rfl (WGs_cons (WG_name (WGs_cons (WG_name (WGs_nil ?_)))))
    refine WS_for (js := [4]) (WI_range1 ?_)
    walk_at "es"
    refine dLenA_t ?_
    rw [List.length_map]
    walk_at "es"
    refine ⟨by omega, by omega, fun k ρ' μ' => (∃ x5, ρ' = [some (encH h), some (encH g), some (encR r), some (encR s), x5]) ∧ μ' = N.μ, ⟨⟨_, rfl⟩, rfl⟩, fun _ _ _ _ _ => trivial, fun k d ρ' μ' hd inv => ?_, fun ρ' μ' inv => ?_⟩
    · obtain ⟨⟨x5, rfl⟩, rfl⟩ := inv
      obtain ⟨hk, rfl⟩ := rangeD_get hd
      have hk : k < r.length := by omega
      have hp : isSeat h (i, k) := ⟨r, hr, hk⟩
      have i1 : itemAt h (i, k) = r[k] := by
        unfold itemAt
        rw [List.getD_eq_getElem?_getD, List.getD_eq_getElem?_getD, hr]
        show (r[k]?).getD none = r[k]
        rw [List.getElem?_eq_getElem hk]; rfl
      have i2 : itemAt g (i, k) = s[k] := by
        unfold itemAt
        rw [List.getD_eq_getElem?_getD, List.getD_eq_getElem?_getD, hs]
        show (s[k]?).getD none = s[k]
        rw [List.getElem?_eq_getElem (by omega)]; rfl
      have hfk := hf (i, k) hp
      rw [i1, i2] at hfk
      have gk : (s.map encI)[k]? = some (encI s[k]) := by rw [List.getElem?_map, List.getElem?_eq_getElem (by omega)]; rfl
      have gk2 : (r.map encI)[k]? = some (encI r[k]) := by rw [List.getElem?_map, List.getElem?_eq_getElem hk]; rfl
      refine WG_name ?_
      rw [Int.zero_add]
      walk_at "es"
      refine dIx_t (j := k) rfl gk ?_
      walk_at "es"
      have o1 : okI s[k] := okr g og s (List.mem_of_getElem? hs) _ (List.getElem_mem _)
      have o2 : okI r[k] := okr h oh r (List.mem_of_getElem? hr) _ (List.getElem_mem _)
      have nonE : isNonD (encI s[k]) = decide (s[k] = none) := by cases s[k] <;> rfl
      rw [nonE]
      by_cases z : s[k] = none
      · rw [decide_eq_true z]
        walk_at "es"
        exact ⟨⟨_, rfl⟩, rfl⟩
      · rw [decide_eq_false z]
        walk_at "es"
        refine dIx_t (j := k) rfl gk ?_
        walk_at "es"
        refine dIx_t (j := k) rfl gk2 ?_
        refine dNe_c cdI (by decide) o1 o2 ⟨_, rfl, ?_⟩
        rw [decide_eq_true ((hfk.resolve_left z).symm)]
        walk_at "es"
        exact ⟨⟨_, rfl⟩, rfl⟩
    · obtain ⟨⟨x5, rfl⟩, rfl⟩ := inv
      exact ⟨⟨_, _, _, rfl⟩, rfl⟩
  · rintro ρ' μ' rfl
    walk_at "es"
    exact retE_i q (SubS.refl _)
def F__law_are_carries : FS := fun ds μ Q => ∃ (ls : List Nat) (t : List Car), ds = [.lst (ls.map fun (l : Nat) => D.int (l : Int)), .tup (t.map encC)] ∧ t.length ≤ 1000 ∧ (∀ c ∈ t, c.2 < ls.length ∧ ∃ l, ls[c.1.1]? = some l ∧ c.1.2 < l) ∧ Q (.bl true) μ
theorem sc__law_are_carries : FnScope ["_law_lengths_here", "_law_thing", "_law_carry", "_law_belt", "_law_at", "_law_n"] ["_law_lengths_here", "_law_thing"] (defScope sd__law_are_carries) := ⟨rfl, rfl, rfl, by decide +kernel, rfl, by decide +kernel, by decide +kernel⟩
theorem ok__law_are_carries {f : Addr} {fd : FuncData} (T : Md K mg)  (Fd : FunD K "_law_are_carries" "_law_are_carries" (defArgs sd__law_are_carries) (defBody sd__law_are_carries) (defScope sd__law_are_carries) [] [] f fd) : FnOk P w K mg base CX0 1 f fd ["_law_lengths_here", "_law_thing"] (spOf F__law_are_carries) := by
  refine fn_data Fd sc__law_are_carries (fun ds μ R h => by (obtain ⟨ls, t, rfl, ht, hc, q⟩ := h; rfl)) fun cdv A outer s H E hr => ⟨_, (pss_cons (ps_if (PW.pt (pw_or (pt_not (pt_val (pe_callB (kIsi (K := K) rfl) (by rfl) T.f_isinstance (by decide +kernel) (pa_cons (pv 1) (pa_cons (pe_bty "tuple" (by rfl) T.f_tuple (by decide +kernel)) pa_nil))))) (pw_or1 (pt_cmpR op_gt (pe_callB (kLen (K := K) rfl) (by rfl) T.f_len (by decide +kernel) (pa_cons (pv 1) pa_nil)) pe_int (by first | exact nomark _ | rfl))))) (pss_one (ps_ret pe_bl)) pss_nil)
    (pss_cons (ps_for PassesOwn.never rfl (kWalk (K := K) rfl (pv 1)) (pg_name (i := 2) sc__law_are_carries.nd rfl (by first | exact Or.inl rfl | exact Or.inr rfl)) (pss_cons (ps_if (PW.pt (pw_or (pt_not (pt_val (pe_callB (kIsi (K := K) rfl) (by rfl) T.f_isinstance (by decide +kernel) (pa_cons (pv 2) (pa_cons (pe_bty "tuple" (by rfl) T.f_tuple (by decide +kernel)) pa_nil))))) (pw_or (pt_cmpR (kNe (K := K) rfl hr.units) (pe_callB (kLen (K := K) rfl) (by rfl) T.f_len (by decide +kernel) (pa_cons (pv 2) pa_nil)) pe_int (by first | exact nomark _ | rfl)) (pw_or (pt_not (pt_val (pe_callB (kIsi (K := K) rfl) (by rfl) T.f_isinstance (by decide +kernel) (pa_cons (pe_ix (kIx (K := K) rfl) (pv 2) pe_int (fun _ _ => rfl)) (pa_cons (pe_bty "tuple" (by rfl) T.f_tuple (by decide +kernel)) pa_nil))))) (pw_or1 (pt_cmpR (kNe (K := K) rfl hr.units) (pe_callB (kLen (K := K) rfl) (by rfl) T.f_len (by decide +kernel) (pa_cons (pe_ix (kIx (K := K) rfl) (pv 2) pe_int (fun _ _ => rfl)) pa_nil)) pe_int (by first | exact nomark _ | rfl))))))) (pss_one (ps_ret pe_bl)) pss_nil)
    (pss_cons (ps_asg (pe_ix (kIx (K := K) rfl) (pv 2) pe_int (fun _ _ => rfl)) (kTup (K := K) (n := 2) rfl (by rfl) (pgs_cons (pg_name (i := 3) sc__law_are_carries.nd rfl (by first | exact Or.inl rfl | exact Or.inr rfl)) (pgs_cons (pg_name (i := 4) sc__law_are_carries.nd rfl (by first | exact Or.inl rfl | exact Or.inr rfl)) pgs_nil))))
    (pss_cons (ps_if (pt_cmpR op_gt (pe_callB (kLen (K := K) rfl) (by rfl) T.f_len (by decide +kernel) (pa_cons (pe_lc (own := [("_law_n", 5)]) (by rfl) sc__law_are_carries.nd (kWalk (K := K) rfl (pe_tup (pa_cons (pv 3) (pa_cons (pv 4) (pa_cons (pe_ix (kIx (K := K) rfl) (pv 2) pe_int (fun _ _ => rfl)) pa_nil))))) (by first | exact blkOk_by (own := [("_law_n", 5)]) (by decide +kernel) | exact blkOk_by (own := [("_law_n", 5)]) (by kernel_rfl)) (fun _ _ _ _ _ => (pg_name (i := 5) sc__law_are_carries.nd rfl (by first | exact Or.inl rfl | exact Or.inr rfl))) (fun _ _ _ _ _ => (pts_one (PW.pt (pw_or (pt_val (pe_callB (kIsi (K := K) rfl) (by rfl) T.f_isinstance (by decide +kernel) (pa_cons (pv 5) (pa_cons (pe_bty "bool" (by rfl) T.f_bool (by decide +kernel)) pa_nil)))) (pw_or (pt_not (pt_val (pe_callB (kIsi (K := K) rfl) (by rfl) T.f_isinstance (by decide +kernel) (pa_cons (pv 5) (pa_cons (pe_bty "int" (by rfl) T.f_int (by decide +kernel)) pa_nil))))) (pw_or1 (pt_cmpR op_lt (pv 5) pe_int (by first | exact nomark _ | rfl)))))))) (fun _ _ _ _ _ => pe_int)) pa_nil)) pe_int (by first | exact nomark _ | rfl)) (pss_one (ps_ret pe_bl)) pss_nil)
    (pss_one (ps_if (PW.pt (pw_or (pt_cmpR op_ge (pv 3) (pe_callB (kLen (K := K) rfl) (by rfl) T.f_len (by decide +kernel) (pa_cons (pv 0) pa_nil)) (by first | exact nomark _ | rfl)) (pw_or (pt_cmpR op_ge (pe_ix (kIx (K := K) rfl) (pv 2) pe_int (fun _ _ => rfl)) (pe_callB (kLen (K := K) rfl) (by rfl) T.f_len (by decide +kernel) (pa_cons (pv 0) pa_nil)) (by first | exact nomark _ | rfl)) (pw_or1 (pt_cmpR op_ge (pv 4) (pe_ix (kIx (K := K) rfl) (pv 0) (pv 3) (fun _ _ => rfl)) (by first | exact nomark _ | rfl)))))) (pss_one (ps_ret pe_bl)) pss_nil))))))
    (pss_one (ps_ret pe_bl)))), fun N ds R h => ?_⟩
  obtain ⟨ls, t, rfl, ht, hc, q⟩ := h
  walk_at "es"
  rw [List.length_map]
  have h1 : ¬ (1000 : Int) < (t.length : Int) := by omega
  rw [decide_eq_false h1]
  walk_at "es"
  refine WS_for (js := [2]) (WI_tpl ?_)
  walk_at "es"
  refine ⟨fun i ρ' μ' => (∃ x3 x4 x5 x6, ρ' = [some (.lst (ls.map fun (l : Nat) => D.int (l : Int))), some (.tup (t.map encC)), x3, x4, x5, x6]) ∧ μ' = N.μ, ⟨⟨_, _, _, _, rfl⟩, rfl⟩, fun _ _ _ _ _ => trivial, fun i d ρ' μ' hd inv => ?_, fun ρ' μ' inv => ?_⟩
  · obtain ⟨⟨x3, x4, x5, x6, rfl⟩, rfl⟩ := inv
    rw [List.getElem?_map] at hd
    cases hx : t[i]? with
    | none => rw [hx] at hd; cases hd
    | some c =>
    rw [hx] at hd
    have hd := Option.some.inj hd
    subst hd
    obtain ⟨c1, l, hl, c2⟩ := hc c (List.mem_of_getElem? hx)
    obtain ⟨hl1, _⟩ := List.getElem?_eq_some_iff.mp hl
    refine WG_name ?_
    walk_at "es"
    refine dNe_int ⟨_, rfl, ?_⟩
    walk_at "es"
    refine dIx_t (j := 0) rfl rfl ?_
    walk_at "es"
    refine dIx_t (j := 0) rfl rfl ?_
    walk_at "es"
    refine dNe_int ⟨_, rfl, ?_⟩
    walk_at "es"
    refine dIx_t (j := 0) rfl rfl ?_
    walk_at "es"
    refine WE_frozen (WEn_filterT (α := Nat) (js := [5]) (by decide) (WI_tpl ?_))
    walk_at "es"
    refine dIx_t (j := 1) rfl rfl ?_
    walk_at "es"
    refine ⟨small (by simp), _, rfl, [c.1.1, c.1.2, c.2], encN, fun _ => false, fun _ => .int 1, rfl, small (by simp), fun n hn => WG_name ?_, ?_⟩
    · walk_at "es"
      have hn0 : ¬ ((n : Int) < 0) := by omega
      exact ⟨decide_eq_false hn0, rfl, fun z => by cases z⟩
    walk_at "es"
    have b1 : ¬ ((ls.length : Int) ≤ (c.1.1 : Int)) := by omega
    have b2 : ¬ ((ls.length : Int) ≤ (c.2 : Int)) := by omega
    have b3 : ¬ ((l : Int) ≤ (c.1.2 : Int)) := by omega
    rw [List.length_map, decide_eq_false b1]
    walk_at "es"
    refine dIx_t (j := 1) rfl rfl ?_
    walk_at "es"
    rw [List.length_map, decide_eq_false b2]
    walk_at "es"
    refine dIx_l (j := c.1.1) rfl (by rw [List.getElem?_map, hl]; rfl) ?_
    walk_at "es"
    rw [decide_eq_false b3]
    walk_at "es"
    exact ⟨⟨_, _, _, _, rfl⟩, rfl⟩
  · obtain ⟨⟨x3, x4, x5, x6, rfl⟩, rfl⟩ := inv
    walk_at "es"
    exact retE_i q (SubS.refl _)
def F__law_shuffle_right : FS := fun ds μ Q => ∃ (b g : Hol) (t : List Car), ds = [encH b, encH g, .tup (t.map encC)] ∧ OkL (lens b) ∧ lens g = lens b ∧ (∀ x ∈ items b, okStr x) ∧ (∀ x ∈ items g, okStr x) ∧ Res b g t ∧ Q (.bl true) μ
theorem sc__law_shuffle_right : FnScope ["_law_begin", "_law_goal", "_law_thing", "_law_row"] ["_law_begin", "_law_goal", "_law_thing"] (defScope sd__law_shuffle_right) := ⟨rfl, rfl, rfl, by decide +kernel, rfl, by decide +kernel, by decide +kernel⟩
theorem ok__law_shuffle_right {f : Addr} {fd : FuncData} (T : Md K mg) (h__law_fits : Has P w K mg base "_law_fits" 1 ["_law_holding", "_law_goal"] F__law_fits) (h__law_are_carries : Has P w K mg base "_law_are_carries" 1 ["_law_lengths_here", "_law_thing"] F__law_are_carries) (h__law_done : Has P w K mg base "_law_done" 2 ["_law_holding", "_law_carries"] F__law_done) (Fd : FunD K "_law_shuffle_right" "_law_shuffle_right" (defArgs sd__law_shuffle_right) (defBody sd__law_shuffle_right) (defScope sd__law_shuffle_right) [] [] f fd) : FnOk P w K mg base CX0 3 f fd ["_law_begin", "_law_goal", "_law_thing"] (spOf F__law_shuffle_right) := by
  refine fn_data Fd sc__law_shuffle_right (fun ds μ R h => by (obtain ⟨b, g, t, rfl, ok, lg, ob, og, res, q⟩ := h; rfl)) fun cdv A outer s H E hr => ⟨_, (pss_cons (ps_if (pt_not (pt_val (pe_fn h__law_are_carries (hr.mono (by decide)) (by rfl) (pa_cons (pe_lc (own := [("_law_row", 3)]) (by rfl) sc__law_shuffle_right.nd (kWalk (K := K) rfl (pv 0)) (by first | exact blkOk_by (own := [("_law_row", 3)]) (by decide +kernel) | exact blkOk_by (own := [("_law_row", 3)]) (by kernel_rfl)) (fun _ _ _ _ _ => (pg_name (i := 3) sc__law_shuffle_right.nd rfl (by first | exact Or.inl rfl | exact Or.inr rfl))) (fun _ _ _ _ _ => pts_nil) (fun _ _ _ _ _ => (pe_callB (kLen (K := K) rfl) (by rfl) T.f_len (by decide +kernel) (pa_cons (pv 3) pa_nil)))) (pa_cons (pv 2) pa_nil))))) (pss_one (ps_ret pe_bl)) pss_nil)
    (pss_one (ps_ret (pe_fn h__law_fits (hr.mono (by decide)) (by rfl) (pa_cons (pe_fn h__law_done (hr.mono (by decide)) (by rfl) (pa_cons (pv 0) (pa_cons (pv 2) pa_nil))) (pa_cons (pv 1) pa_nil)))))), fun N ds R h => ?_⟩
  obtain ⟨b, g, t, rfl, ok, lg, ob, og, res, q⟩ := h
  have sz := ok.size
  walk_at "es"
  refine WE_frozen (WEn_mapT (α := Row) (js := [3]) (by decide) (WI_tpl ?_))
  walk_at "es"
  refine ⟨b, encR, fun r => .int (r.length : Int), rfl, small (Nat.le_trans sz.1 (by decide)), fun r hr => WG_name ?_, ?_⟩
  · walk_at "es"
    refine dLenA_t ⟨?_, rfl⟩
    rw [List.length_map]
  walk_at "es"
  have ml : (b.map fun r => D.int (r.length : Int)) = (lens b).map fun (n : Nat) => D.int (n : Int) := by unfold lens; rw [List.map_map]; rfl
  rw [ml]
  refine ⟨lens b, t, rfl, res.len, fun c hc => ?_, ?_⟩
  · obtain ⟨⟨r, hr, hlt⟩, h2⟩ := res.ok c hc
    exact ⟨by rw [lens_length]; exact h2, r.length, by unfold lens; rw [List.getElem?_map, hr]; rfl, hlt⟩
  walk_at "es"
  refine ⟨b, t, rfl, ok, res.ok, ?_⟩
  walk_at "es"
  have l2 : lens (doneC b t) = lens b := res.ln
  refine ⟨doneC b t, g, rfl, by rw [l2]; exact ok, by rw [l2]; exact lg, fun x hx => ?_, og, fun p hp => res.fits p ((isSeat_lens l2).mp hp), retE_i q (SubS.refl _)⟩
  exact ob x (items_doneC x hx)
def F__law_back : FS := fun ds μ Q => ∃ (b g : Hol), ds = [encH b, encH g] ∧ OkL (lens b) ∧ OkL (lens g) ∧ Q (encH (b.map fun r => r.map (keep (items g)))) μ
theorem sc__law_back : FnScope ["_law_begin", "_law_goal", "_law_names_here", "_law_row", "_law_item"] ["_law_begin", "_law_goal"] (defScope sd__law_back) := ⟨rfl, rfl, rfl, by decide +kernel, rfl, by decide +kernel, by decide +kernel⟩
theorem ok__law_back {f : Addr} {fd : FuncData} (T : Md K mg) (h__law_items : Has P w K mg base "_law_items" 1 ["_law_holding"] F__law_items) (Fd : FunD K "_law_back" "_law_back" (defArgs sd__law_back) (defBody sd__law_back) (defScope sd__law_back) [] [] f fd) : FnOk P w K mg base CX0 2 f fd ["_law_begin", "_law_goal"] (spOf F__law_back) := by
  refine fn_data Fd sc__law_back (fun ds μ R h => by (obtain ⟨b, g, rfl, ok, okg, q⟩ := h; rfl)) fun cdv A outer s H E hr => ⟨_, (pss_cons (ps_set (i := 2) sc__law_back.nd rfl (by first | exact Or.inl rfl | exact Or.inr rfl) (pe_fn h__law_items (hr.mono (by decide)) (by rfl) (pa_cons (pv 1) pa_nil)))
    (pss_one (ps_ret (pe_callTy (kTupleOf (K := K) rfl) (by rfl) T.f_tuple (by decide +kernel) (pa_cons (pe_lc (own := [("_law_row", 3)]) (by rfl) sc__law_back.nd (kWalk (K := K) rfl (pv 0)) (by first | exact blkOk_by (own := [("_law_row", 3)]) (by decide +kernel) | exact blkOk_by (own := [("_law_row", 3)]) (by kernel_rfl)) (fun _ _ _ _ _ => (pg_name (i := 3) sc__law_back.nd rfl (by first | exact Or.inl rfl | exact Or.inr rfl))) (fun _ _ _ _ _ => pts_nil) (fun _ _ _ _ _ => (pe_callTy (kTupleOf (K := K) rfl) (by rfl) T.f_tuple (by decide +kernel) (pa_cons (pe_lc (own := [("_law_item", 4)]) (by rfl) sc__law_back.nd (kWalk (K := K) rfl (pv 3)) (by first | exact blkOk_by (own := [("_law_item", 4)]) (by decide +kernel) | exact blkOk_by (own := [("_law_item", 4)]) (by kernel_rfl)) (fun _ _ _ _ _ => (pg_name (i := 4) sc__law_back.nd rfl (by first | exact Or.inl rfl | exact Or.inr rfl))) (fun _ _ _ _ _ => pts_nil) (fun _ _ _ _ _ => (pe_ifExp (pt_cmpR (kIn (K := K) rfl) (pv 4) (pv 2) (by first | exact nomark _ | rfl)) (pv 4) pe_non))) pa_nil)))) pa_nil))))), fun N ds R h => ?_⟩
  obtain ⟨b, g, rfl, ok, okg, q⟩ := h
  have sz := ok.size
  walk_at "es"
  refine ⟨g, rfl, okg, ?_⟩
  walk_at "es"
  refine WE_frozen (WEn_mapT (α := Row) (js := [3]) (by decide) (WI_tpl ?_))
  walk_at "es"
  refine ⟨b, encR, fun r => encR (r.map (keep (items g))), rfl, small (Nat.le_trans sz.1 (by decide)), fun r hr => WG_name ?_, ?_⟩
  · have hrl := sz.2.1 r hr
    walk_at "es"
    refine WE_frozen (WEn_mapT (α := Item) (js := [4]) (by decide) (WI_tpl ?_))
    walk_at "es"
    refine ⟨r, encI, fun i => encI (keep (items g) i), rfl, small (by omega), fun i hi => WG_name ?_, ?_⟩
    · refine WE_if (WT_test (WE_op lIn_seq ?_))
      walk_at "es"
      cases i with
      | none =>
        refine dIn_i (ds := (items g).map D.str) rfl rfl (flat_strs _) ?_
        rw [show encI none = D.non from rfl, any_str_non]
        walk_at "es"
        exact ⟨rfl, rfl⟩
      | some x =>
        refine dIn_i (ds := (items g).map D.str) rfl rfl (flat_strs _) ?_
        rw [show encI (some x) = D.str x from rfl, any_str]
        by_cases hx : x ∈ items g
        · rw [decide_eq_true hx]
          walk_at "es"
          refine ⟨?_, rfl⟩
          show D.str x = encI (if x ∈ items g then some x else none)
          rw [if_pos hx]; rfl
        · rw [decide_eq_false hx]
          walk_at "es"
          refine ⟨?_, rfl⟩
          show D.non = encI (if x ∈ items g then some x else none)
          rw [if_neg hx]; rfl
    walk_at "es"
    refine dTupleOf_i rfl ⟨?_, rfl⟩
    unfold encR
    dsimp only
    rw [List.map_map]; rfl
  walk_at "es"
  refine dTupleOf_i rfl (retE_i ?_ (SubS.refl _))
  have e : encH (b.map fun r => r.map (keep (items g))) = .tup (b.map fun r => encR (r.map (keep (items g)))) := by
    unfold encH
    rw [List.map_map]; rfl
  rw [← e]
  exact q
end
end G
set_option Elab.async false
set_option linter.all false
set_option maxRecDepth 100000
set_option maxHeartbeats 4000000
namespace G
open PySem PySem.Spec L2 DL
local macro_rules | `(tactic| walk_at "e") => `(tactic| first
  | with_reducible refine WE_int ?_
  | with_reducible refine WE_str ?_
  | with_reducible refine WE_bl ?_
  | with_reducible refine WE_non ?_
  | with_reducible refine WE_ty ?_
  | refine WE_var rfl ?_
  | with_reducible refine WA_nil ?_
  | with_reducible refine WA_cons ?_
  | with_reducible refine WO_none ?_
  | with_reducible refine WO_some ?_
  | with_reducible refine WT_val ?_
  | with_reducible refine WT_test ?_
  | with_reducible refine WT_not ?_
  | with_reducible refine WT_and ?_
  | with_reducible refine WT_or ?_
  | with_reducible refine WT_yes ?_
  | with_reducible refine WE_andV ?_
  | with_reducible refine WE_orV ?_
  | with_reducible refine WE_notV ?_
  | with_reducible refine WE_if ?_
  | with_reducible refine WE_tup ?_
  | with_reducible refine WE_neg ?_
  | with_reducible refine WE_op lAdd ?_
  | with_reducible refine WE_op lMul_int ?_
  | with_reducible refine WE_op lEq ?_
  | with_reducible refine WE_op lNe ?_
  | with_reducible refine WE_op lIsN ?_
  | with_reducible refine WE_op lNotN ?_
  | with_reducible refine WE_op lIx ?_
  | with_reducible refine WE_op lIntB ?_
  | with_reducible refine WE_op lIntC ?_
  | with_reducible refine WE_op lInt ?_
  | with_reducible refine WE_cb lIsi ?_
  | with_reducible refine WE_cb lLenA ?_
  | with_reducible refine WE_cb lTupleOfK ?_
  | with_reducible refine WE_cb lAbs ?_
  | with_reducible refine WE_cb lIntOf ?_
  | with_reducible refine WE_cb lMin2 ?_
  | with_reducible refine WE_cb lMax2 ?_
  | with_reducible refine WE_call ?_
  | with_reducible refine WE_chain lIntB lIntB ?_
  | with_reducible refine WS_seq ?_
  | with_reducible refine WS_ret ?_
  | with_reducible refine WS_retN ?_
  | with_reducible refine WS_set ?_
  | refine WS_asg2 rfl ?_
  | refine WS_asg3 rfl ?_
  | with_reducible refine WS_drop ?_
  | with_reducible refine WS_if ?_
  | with_reducible refine WS_next ?_
  | with_reducible refine WG_name ?_
  | with_reducible refine WG_tup rfl ?_
  | with_reducible refine WGs_cons ?_
  | with_reducible refine WGs_nil ?_
  | with_reducible refine dAdd_i ?_
  | with_reducible refine dInt_i ?_
  | with_reducible refine dIsi_i rfl (by decide) ?_
  | with_reducible refine dLenA_t ?_
  | with_reducible refine dLenA_l ?_
  | with_reducible refine dIsN_i ?_
  | with_reducible refine dNotN_i ?_
  | with_reducible refine dAbs_i ?_
  | with_reducible refine dIntOf_i ?_
  | with_reducible refine iteN (by decide) ?_
  | with_reducible refine iteY (by decide) ?_
  | refine iteT ?_
  | refine iteF ?_
  | with_reducible refine is2_i ?_
  | with_reducible refine is3_i ?_
  | with_reducible refine ⟨_, rfl, ?_⟩)
local macro_rules | `(tactic| walk_at "es") => `(tactic| repeat walk_at "e")

section
variable {P : Program} {w : World} {K : PySem.W.Frag} {mg : Str → Option Value} {base : Heap}
/-- what is popped at random -/
theorem WEn_pops {N : En} {ρ : DL.Env} {μ : Store} {Q : List D → Store → Prop} {ta : TA} {k wv : Nat} {vs : List Nat} (hk : k ∈ vs) (p q : Addr) (hp : ∀ d, ((wipeD ρ vs).set k d)[0]? = some (some (.ptr p))) (hq : ∀ d, ((wipeD ρ vs).set k d)[wv]? = some (some (.ptr q))) (hne : q ≠ p)
    (h : WA N ta ρ μ fun ds μ1 => ∃ (m : Nat) (ws : List Item) (X : Dice), ds = [.int (m : Int)] ∧ m ≤ ws.length ∧ ws.length ≤ 1000 ∧ X.Ok ∧ μ1 p = some (.lst (diceD X)) ∧ μ1 q = some (.lst (ws.map encI)) ∧
      ∀ (acc rest : List Item) (X' : Dice) μ', acc.length = m → (acc ++ rest).Perm ws → X'.Ok → μ' p = some (.lst (diceD X')) → μ' q = some (.lst (rest.map encI)) → Fm [p, q] μ1 μ' → Q (acc.map encI) μ') :
    WEn N (tLc (iRng1 ta) (gName k) tYes (tBM K "list" rPopAt (tVar wv) (tCons (tCall (spOf F__law_draw) [] E0 (tCons (tVar 0) (tCons (tCB (rLenAny K) (tCons (tVar wv) tNil)) tNil))) tNil)) vs) ρ μ Q := by
  refine WEn_lc (js := [k]) (fun j hj => by rw [List.mem_singleton] at hj; subst hj; exact hk) (WI_range1 (h.imp fun ds μ1 a => ?_))
  obtain ⟨m, ws, X, rfl, hm, hl, ok, h1, h2, fin⟩ := a
  refine ⟨(m : Int), rfl, by omega, by omega, fun i acc μ' => ∃ (as rest : List Item) (X' : Dice), acc = as.map encI ∧ as.length = i ∧ (as ++ rest).Perm ws ∧ X'.Ok ∧ μ' p = some (.lst (diceD X')) ∧ μ' q = some (.lst (rest.map encI)) ∧ Fm [p, q] μ1 μ',
    ⟨[], ws, X, rfl, rfl, List.Perm.refl _, ok, h1, h2, Fm.refl _ _⟩, fun _ _ _ _ _ => trivial, fun i d acc μ' hd inv => ?_, fun acc μ' inv => ?_⟩
  · obtain ⟨as, rest, X', rfl, hi, pm, ok', h1', h2', fm⟩ := inv
    obtain ⟨hlt, rfl⟩ := rangeD_get hd
    have hlt : i < m := by omega
    have pl := pm.length_eq
    rw [List.length_append] at pl
    refine WG_name (WT_yes ?_)
    rw [if_pos rfl]
    refine WE_bm lPopAt (WE_var (hq _) ⟨⟨_, listOf_ptr h2'⟩, WA_cons (WE_call (WA_cons (WE_var (hp _) (WA_cons (WE_cb lLenA (WA_cons (WE_var (hq _) (WA_nil (dLenA_i (seqOf_list (listOf_ptr h2')) (WA_nil ?_)))))))))) ⟩)
    rw [List.length_map]
    refine ⟨p, (rest.length : Int), X', rfl, by omega, by omega, ok', h1', fun r hr X2 ok2 => WA_nil ?_⟩
    have hr : r < rest.length := by omega
    refine ⟨q, rest.map encI, (r : Int), r, encI rest[r], rfl, rfl, by rw [updS_ne hne]; exact h2', by omega, by omega, ?_, by rw [List.getElem?_map, List.getElem?_eq_getElem hr]; rfl, ?_⟩
    · rw [List.length_map]
      exact PySem.seqIndex_of (by omega) (by omega)
    · refine ⟨small (by rw [List.length_map]; omega), as ++ [rest[r]], rest.eraseIdx r, X2, by rw [List.map_append]; rfl, by rw [List.length_append, hi]; rfl, perm_pop pm (List.getElem?_eq_getElem hr), ok2, by rw [updS_ne hne.symm]; exact updS_same, ?_, (fm.upd (by simp)).upd (by simp)⟩
      rw [updS_same, eraseIdx_map']
  · obtain ⟨as, rest, X', rfl, hi, pm, ok', h1', h2', fm⟩ := inv
    rw [rangeD_length] at hi
    exact fin as rest X' μ' (by omega) pm ok' h1' h2' fm
def F__law_two_holdings : FS := fun ds μ Q => ∃ (p : Addr) (n : Nat) (names : List Str), ds = [.ptr p, .int (n : Int), .lst (names.map .str)] ∧ 1 ≤ n ∧ n ≤ 12 ∧ names.length = n ∧ names.Nodup ∧ (∀ x ∈ names, isNm x) ∧ DiceAt p μ ∧ ∀ b g : Hol, Valid b g → (∃ p, isSeat g p ∧ itemAt g p = none) → ∀ X : Dice, X.Ok → Q (.tup [encH b, encH g]) (updS μ p (.lst (diceD X)))
theorem sc__law_two_holdings : FnScope ["_law_dice_here", "_law_size", "_law_names_here", "_law_lengths_here", "_law_many", "_law_word", "_law_begin", "_law_kept", "_law_left", "_law_chosen", "_law_goal", "_law_k", "_law_item"] ["_law_dice_here", "_law_size", "_law_names_here"] (defScope sd__law_two_holdings) := ⟨rfl, rfl, rfl, by decide +kernel, rfl, by decide +kernel, by decide +kernel⟩
theorem ok__law_two_holdings {f : Addr} {fd : FuncData} (T : Md K mg) (h__law_lengths : Has P w K mg base "_law_lengths" 3 ["_law_dice_here", "_law_size"] F__law_lengths) (h__law_draw : Has P w K mg base "_law_draw" 1 ["_law_dice_here", "_law_sides"] F__law_draw) (h__law_split : Has P w K mg base "_law_split" 1 ["_law_word", "_law_lengths_here"] F__law_split) (Fd : FunD K "_law_two_holdings" "_law_two_holdings" (defArgs sd__law_two_holdings) (defBody sd__law_two_holdings) (defScope sd__law_two_holdings) [] [] f fd) : FnOk P w K mg base CX0 4 f fd ["_law_dice_here", "_law_size", "_law_names_here"] (spOf F__law_two_holdings) := by
  refine fn_data Fd sc__law_two_holdings (fun ds μ R h => by (obtain ⟨p, n, names, rfl, h1, h2, hn, nd, nm, ⟨X, ok, hm⟩, q⟩ := h; rfl)) fun cdv A outer s H E hr => ⟨_, (pss_cons (ps_set (i := 3) sc__law_two_holdings.nd rfl (by first | exact Or.inl rfl | exact Or.inr rfl) (pe_fn h__law_lengths (hr.mono (by decide)) (by rfl) (pa_cons (pv 0) (pa_cons (pv 1) pa_nil))))
    (pss_cons (ps_set (i := 4) sc__law_two_holdings.nd rfl (by first | exact Or.inl rfl | exact Or.inr rfl) (pe_fn h__law_draw (hr.mono (by decide)) (by rfl) (pa_cons (pv 0) (pa_cons (pe_op (kAdd (K := K) rfl) (pv 1) pe_int) pa_nil))))
    (pss_cons (ps_set (i := 5) sc__law_two_holdings.nd rfl (by first | exact Or.inl rfl | exact Or.inr rfl) (pe_op (kAdd (K := K) rfl) (pe_callTy (kListOf (K := K) rfl) (by rfl) T.f_list (by decide +kernel) (pa_cons (pe_slice (kSl (K := K) rfl) (pv 2) po_none (po_some (pv 4))) pa_nil)) (pe_op opMul (pe_lst (pa_cons pe_non pa_nil)) (pe_op op_sub (pv 1) (pv 4)))))
    (pss_cons (by first | exact (ps_setLc (i := 6) (own := [("_law_k", 11)]) (by rfl) sc__law_two_holdings.nd rfl rfl (sw_true rfl rfl rfl (by decide +kernel)) (pi_range1 (by rfl) T.f_range (pa_cons (pv 1) pa_nil)) (by first | exact blkOk_by (own := [("_law_k", 11)]) (by decide +kernel) | exact blkOk_by (own := [("_law_k", 11)]) (by kernel_rfl)) (fun _ _ _ _ _ => (pg_name (i := 11) sc__law_two_holdings.nd rfl (by first | exact Or.inl rfl | exact Or.inr rfl))) (fun _ _ _ _ _ => pts_nil) (fun _ _ _ _ _ => (kBm (K := K) rfl PySem.F.plainAttrs_list PySem.F.slot_list_pop PySem.F.type_list_pop mt_popAt (pv 5) (pa_cons (pe_fn h__law_draw (hr.mono (by decide)) (by rfl) (pa_cons (pv 0) (pa_cons (pe_callB (kLen (K := K) rfl) (by rfl) T.f_len (by decide +kernel) (pa_cons (pv 5) pa_nil)) pa_nil))) pa_nil)))) | exact ps_set (i := 6) sc__law_two_holdings.nd rfl (by first | exact Or.inl rfl | exact Or.inr rfl) (pe_lc (own := [("_law_k", 11)]) (by rfl) sc__law_two_holdings.nd (pi_range1 (by rfl) T.f_range (pa_cons (pv 1) pa_nil)) (by first | exact blkOk_by (own := [("_law_k", 11)]) (by decide +kernel) | exact blkOk_by (own := [("_law_k", 11)]) (by kernel_rfl)) (fun _ _ _ _ _ => (pg_name (i := 11) sc__law_two_holdings.nd rfl (by first | exact Or.inl rfl | exact Or.inr rfl))) (fun _ _ _ _ _ => pts_nil) (fun _ _ _ _ _ => (kBm (K := K) rfl PySem.F.plainAttrs_list PySem.F.slot_list_pop PySem.F.type_list_pop mt_popAt (pv 5) (pa_cons (pe_fn h__law_draw (hr.mono (by decide)) (by rfl) (pa_cons (pv 0) (pa_cons (pe_callB (kLen (K := K) rfl) (by rfl) T.f_len (by decide +kernel) (pa_cons (pv 5) pa_nil)) pa_nil))) pa_nil)))))
    (pss_cons (ps_set (i := 7) sc__law_two_holdings.nd rfl (by first | exact Or.inl rfl | exact Or.inr rfl) (pe_callB (call_min2 rfl) (by rfl) T.f_min (by decide +kernel) (pa_cons (pv 4) (pa_cons (pe_fn h__law_draw (hr.mono (by decide)) (by rfl) (pa_cons (pv 0) (pa_cons (pv 1) pa_nil))) pa_nil))))
    (pss_cons (ps_if (pt_cmpR op_gt (pe_fn h__law_draw (hr.mono (by decide)) (by rfl) (pa_cons (pv 0) (pa_cons pe_int pa_nil))) pe_int (by first | exact nomark _ | rfl)) (pss_one (ps_set (i := 7) sc__law_two_holdings.nd rfl (by first | exact Or.inl rfl | exact Or.inr rfl) (pe_callB (call_min2 rfl) (by rfl) T.f_min (by decide +kernel) (pa_cons (pv 4) (pa_cons (pe_op op_sub (pv 1) pe_int) pa_nil))))) pss_nil)
    (pss_cons (by first | exact (ps_setLc (i := 8) (own := [("_law_item", 12)]) (by rfl) sc__law_two_holdings.nd rfl rfl (sw_true rfl rfl rfl (by decide +kernel)) (kWalk (K := K) rfl (pv 6)) (by first | exact blkOk_by (own := [("_law_item", 12)]) (by decide +kernel) | exact blkOk_by (own := [("_law_item", 12)]) (by kernel_rfl)) (fun _ _ _ _ _ => (pg_name (i := 12) sc__law_two_holdings.nd rfl (by first | exact Or.inl rfl | exact Or.inr rfl))) (fun _ _ _ _ _ => (pts_one (pt_cmpR op_notN (pv 12) pe_non (by first | exact nomark _ | rfl)))) (fun _ _ _ _ _ => (pv 12))) | exact ps_set (i := 8) sc__law_two_holdings.nd rfl (by first | exact Or.inl rfl | exact Or.inr rfl) (pe_lc (own := [("_law_item", 12)]) (by rfl) sc__law_two_holdings.nd (kWalk (K := K) rfl (pv 6)) (by first | exact blkOk_by (own := [("_law_item", 12)]) (by decide +kernel) | exact blkOk_by (own := [("_law_item", 12)]) (by kernel_rfl)) (fun _ _ _ _ _ => (pg_name (i := 12) sc__law_two_holdings.nd rfl (by first | exact Or.inl rfl | exact Or.inr rfl))) (fun _ _ _ _ _ => (pts_one (pt_cmpR op_notN (pv 12) pe_non (by first | exact nomark _ | rfl)))) (fun _ _ _ _ _ => (pv 12))))
    (pss_cons (by first | exact (ps_setLc (i := 9) (own := [("_law_k", 11)]) (by rfl) sc__law_two_holdings.nd rfl rfl (sw_true rfl rfl rfl (by decide +kernel)) (pi_range1 (by rfl) T.f_range (pa_cons (pv 7) pa_nil)) (by first | exact blkOk_by (own := [("_law_k", 11)]) (by decide +kernel) | exact blkOk_by (own := [("_law_k", 11)]) (by kernel_rfl)) (fun _ _ _ _ _ => (pg_name (i := 11) sc__law_two_holdings.nd rfl (by first | exact Or.inl rfl | exact Or.inr rfl))) (fun _ _ _ _ _ => pts_nil) (fun _ _ _ _ _ => (kBm (K := K) rfl PySem.F.plainAttrs_list PySem.F.slot_list_pop PySem.F.type_list_pop mt_popAt (pv 8) (pa_cons (pe_fn h__law_draw (hr.mono (by decide)) (by rfl) (pa_cons (pv 0) (pa_cons (pe_callB (kLen (K := K) rfl) (by rfl) T.f_len (by decide +kernel) (pa_cons (pv 8) pa_nil)) pa_nil))) pa_nil)))) | exact ps_set (i := 9) sc__law_two_holdings.nd rfl (by first | exact Or.inl rfl | exact Or.inr rfl) (pe_lc (own := [("_law_k", 11)]) (by rfl) sc__law_two_holdings.nd (pi_range1 (by rfl) T.f_range (pa_cons (pv 7) pa_nil)) (by first | exact blkOk_by (own := [("_law_k", 11)]) (by decide +kernel) | exact blkOk_by (own := [("_law_k", 11)]) (by kernel_rfl)) (fun _ _ _ _ _ => (pg_name (i := 11) sc__law_two_holdings.nd rfl (by first | exact Or.inl rfl | exact Or.inr rfl))) (fun _ _ _ _ _ => pts_nil) (fun _ _ _ _ _ => (kBm (K := K) rfl PySem.F.plainAttrs_list PySem.F.slot_list_pop PySem.F.type_list_pop mt_popAt (pv 8) (pa_cons (pe_fn h__law_draw (hr.mono (by decide)) (by rfl) (pa_cons (pv 0) (pa_cons (pe_callB (kLen (K := K) rfl) (by rfl) T.f_len (by decide +kernel) (pa_cons (pv 8) pa_nil)) pa_nil))) pa_nil)))))
    (pss_cons (ps_set (i := 5) sc__law_two_holdings.nd rfl (by first | exact Or.inl rfl | exact Or.inr rfl) (pe_op (kAdd (K := K) rfl) (pv 9) (pe_op opMul (pe_lst (pa_cons pe_non pa_nil)) (pe_op op_sub (pv 1) (pv 7)))))
    (pss_cons (by first | exact (ps_setLc (i := 10) (own := [("_law_k", 11)]) (by rfl) sc__law_two_holdings.nd rfl rfl (sw_true rfl rfl rfl (by decide +kernel)) (pi_range1 (by rfl) T.f_range (pa_cons (pv 1) pa_nil)) (by first | exact blkOk_by (own := [("_law_k", 11)]) (by decide +kernel) | exact blkOk_by (own := [("_law_k", 11)]) (by kernel_rfl)) (fun _ _ _ _ _ => (pg_name (i := 11) sc__law_two_holdings.nd rfl (by first | exact Or.inl rfl | exact Or.inr rfl))) (fun _ _ _ _ _ => pts_nil) (fun _ _ _ _ _ => (kBm (K := K) rfl PySem.F.plainAttrs_list PySem.F.slot_list_pop PySem.F.type_list_pop mt_popAt (pv 5) (pa_cons (pe_fn h__law_draw (hr.mono (by decide)) (by rfl) (pa_cons (pv 0) (pa_cons (pe_callB (kLen (K := K) rfl) (by rfl) T.f_len (by decide +kernel) (pa_cons (pv 5) pa_nil)) pa_nil))) pa_nil)))) | exact ps_set (i := 10) sc__law_two_holdings.nd rfl (by first | exact Or.inl rfl | exact Or.inr rfl) (pe_lc (own := [("_law_k", 11)]) (by rfl) sc__law_two_holdings.nd (pi_range1 (by rfl) T.f_range (pa_cons (pv 1) pa_nil)) (by first | exact blkOk_by (own := [("_law_k", 11)]) (by decide +kernel) | exact blkOk_by (own := [("_law_k", 11)]) (by kernel_rfl)) (fun _ _ _ _ _ => (pg_name (i := 11) sc__law_two_holdings.nd rfl (by first | exact Or.inl rfl | exact Or.inr rfl))) (fun _ _ _ _ _ => pts_nil) (fun _ _ _ _ _ => (kBm (K := K) rfl PySem.F.plainAttrs_list PySem.F.slot_list_pop PySem.F.type_list_pop mt_popAt (pv 5) (pa_cons (pe_fn h__law_draw (hr.mono (by decide)) (by rfl) (pa_cons (pv 0) (pa_cons (pe_callB (kLen (K := K) rfl) (by rfl) T.f_len (by decide +kernel) (pa_cons (pv 5) pa_nil)) pa_nil))) pa_nil)))))
    (pss_one (ps_ret (pe_tup (pa_cons (pe_fn h__law_split (hr.mono (by decide)) (by rfl) (pa_cons (pv 6) (pa_cons (pv 3) pa_nil))) (pa_cons (pe_fn h__law_split (hr.mono (by decide)) (by rfl) (pa_cons (pv 10) (pa_cons (pv 3) pa_nil))) pa_nil))))))))))))))), fun N ds R h => ?_⟩
  obtain ⟨p, n, names, rfl, h1, h2, hn, nd, nm, ⟨X, ok, hm⟩, q⟩ := h
  walk_at "es"
  refine ⟨p, n, rfl, h1, h2, ⟨X, ok, hm⟩, fun ls okl hs X1 ok1 => ?_⟩
  walk_at "es"
  refine ⟨p, (n : Int) + 1, X1, rfl, by omega, by omega, ok1, updS_same, fun many hmany X2 ok2 => ?_⟩
  have hmany : many ≤ n := by omega
  rw [updS_upd]
  have sb2 : Sb p N.μ (updS N.μ p (.lst (diceD X2))) := (Sb.refl _ _).updP _
  have hp2 : updS N.μ p (.lst (diceD X2)) p = some (.lst (diceD X2)) := updS_same
  generalize updS N.μ p (.lst (diceD X2)) = μ2 at sb2 hp2 ⊢
  refine WS_seq (WS_set (WE_cell (WEn_op lAdd_lst (WE_frozen (WEn_cb lListOfK (WA_cons (WE_frozen (WEn_sl lSl_lst ?_))))))))
  walk_at "es"
  refine dSlL_i rfl ?_
  rw [cut_to _ _ (by rw [List.length_map]; omega), names_take]
  refine WA_nil (dListOf_i rfl (WE_frozen (WEn_op lMul_lst (WE_frozen (WEn_lst ?_)))))
  walk_at "es"
  refine ⟨small (by simp), ?_⟩
  walk_at "es"
  refine ⟨_, _, rfl, rfl, by omega, by omega, small (by simp; omega), ?_⟩
  have e1 : ((n : Int) - (many : Int)).toNat = n - many := by omega
  rw [e1, nones]
  refine ⟨_, _, rfl, rfl, small (by simp; omega), fun f1 hf1 m1 => ?_⟩
  rw [← List.map_append]
  have fp1 : f1 ≠ p := fun e => by subst e; rw [hp2] at m1; cases m1
  have nf1 := sb2.none m1 fp1
  have sb3 := sb2.new m1 (.lst (((names.take many).map some ++ List.replicate (n - many) none).map encI))
  have hp3 : updS μ2 f1 (.lst (((names.take many).map some ++ List.replicate (n - many) none).map encI)) p = some (.lst (diceD X2)) := by rw [updS_ne fp1.symm]; exact hp2
  have hq3 : updS μ2 f1 (.lst (((names.take many).map some ++ List.replicate (n - many) none).map encI)) f1 = some (.lst (((names.take many).map some ++ List.replicate (n - many) none).map encI)) := updS_same
  generalize updS μ2 f1 (.lst (((names.take many).map some ++ List.replicate (n - many) none).map encI)) = μ3 at sb3 hp3 hq3 ⊢
  have lw : ((names.take many).map some ++ List.replicate (n - many) (none : Item)).length = n := by
    rw [List.length_append, List.length_map, List.length_take, List.length_replicate]; omega
  walk_at "es"
  refine WE_frozen (WEn_pops (vs := [11]) (by decide) p f1 (fun _ => rfl) (fun _ => rfl) fp1 (WA_cons (WE_var rfl (WA_nil ⟨n, _, X2, rfl, by rw [lw]; exact Nat.le_refl _, by rw [lw]; omega, ok2, hp3, hq3, fun begin rest0 X4 μ4 hbl hbp ok4 hp4 hq4 fm4 => ?_⟩))))
  have sb4 := sb3.fm nf1 fm4
  have hr0 : rest0 = [] := by
    have := hbp.length_eq
    rw [List.length_append, lw] at this
    exact List.eq_nil_of_length_eq_zero (by omega)
  rw [hr0, List.append_nil] at hbp
  walk_at "es"
  refine ⟨p, (n : Int), X4, rfl, by omega, by omega, ok4, hp4, fun r0 hr0 X5 ok5 => ?_⟩
  walk_at "es"
  refine dMin2_i ?_
  rw [min_cast]
  have sb5 := sb4.updP (.lst (diceD X5))
  have hp5 : updS μ4 p (.lst (diceD X5)) p = some (.lst (diceD X5)) := updS_same
  generalize updS μ4 p (.lst (diceD X5)) = μ5 at sb5 hp5 ⊢
  refine WS_seqI (fun ρ' μ' => ∃ (kept : Nat) (X : Dice), ρ' = [some (.ptr p), some (.int (n : Int)), some (.lst (names.map .str)), some (.tup (ls.map fun (l : Nat) => D.int (l : Int))), some (.int (many : Int)), some (.ptr f1), some (.lst (begin.map encI)), some (.int (kept : Int)), none, none, none, none, none] ∧ kept < n ∧ kept ≤ many ∧ X.Ok ∧ μ' p = some (.lst (diceD X)) ∧ Sb p N.μ μ') ?_ ?_
  · walk_at "es"
    refine ⟨p, 3, X5, rfl, by omega, by omega, ok5, hp5, fun r1 hr1 X6 ok6 => ?_⟩
    walk_at "es"
    have sb6 := sb5.updP (.lst (diceD X6))
    have hp6 : updS μ5 p (.lst (diceD X6)) p = some (.lst (diceD X6)) := updS_same
    split
    · walk_at "es"
      refine dMin2_i ?_
      have en : (n : Int) - 1 = ((n - 1 : Nat) : Int) := by omega
      rw [en, min_cast]
      exact ⟨min many (n - 1), X6, rfl, by omega, by omega, ok6, hp6, sb6⟩
    · exact WS_next ⟨min many r0, X6, rfl, by omega, by omega, ok6, hp6, sb6⟩
  rintro ρ' μ6 ⟨kept, X6, rfl, hk1, hk2, ok6, hp6, sb6⟩
  have lbeg : begin.length = n := hbl
  refine WS_seq (WS_set (WE_cell (WEn_filterT (α := Item) (js := [12]) (by decide) (WI_lst ?_))))
  walk_at "es"
  refine ⟨begin, encI, fun i => !isNonD (encI i), encI, rfl, small (by omega), fun i hi => WG_name ?_, fun f2 hf2 m2 => ?_⟩
  · walk_at "es"
    refine ⟨rfl, rfl, fun _ => ?_⟩
    walk_at "es"
    exact ⟨rfl, rfl⟩
  have fp2 : f2 ≠ p := fun e => by subst e; rw [hp6] at m2; cases m2
  have nf2 := sb6.none m2 fp2
  have sb7 := sb6.new m2 (.lst ((begin.filter fun i => !isNonD (encI i)).map encI))
  have hp7 : updS μ6 f2 (.lst ((begin.filter fun i => !isNonD (encI i)).map encI)) p = some (.lst (diceD X6)) := by rw [updS_ne fp2.symm]; exact hp6
  have hq7 : updS μ6 f2 (.lst ((begin.filter fun i => !isNonD (encI i)).map encI)) f2 = some (.lst ((begin.filter fun i => !isNonD (encI i)).map encI)) := updS_same
  generalize updS μ6 f2 (.lst ((begin.filter fun i => !isNonD (encI i)).map encI)) = μ7 at sb7 hp7 hq7 ⊢
  have ll : (begin.filter fun i => !isNonD (encI i)).length = many := by
    have h3 : (begin.filter fun i => !isNonD (encI i)).Perm (((names.take many).map some ++ List.replicate (n - many) none).filter fun i => !isNonD (encI i)) := hbp.filter _
    rw [h3.length_eq, List.filter_append, List.length_append]
    have e1 : ((names.take many).map some).filter (fun i => !isNonD (encI i)) = (names.take many).map some := by
      rw [List.filter_eq_self]
      intro i hi
      obtain ⟨x, _, rfl⟩ := List.mem_map.mp hi
      rfl
    have e2 : (List.replicate (n - many) (none : Item)).filter (fun i => !isNonD (encI i)) = [] := by
      rw [List.filter_eq_nil_iff]
      intro i hi
      rw [(List.mem_replicate.mp hi).2]
      exact Bool.false_ne_true
    rw [e1, e2, List.length_map, List.length_take, List.length_nil]; omega
  walk_at "es"
  refine WE_frozen (WEn_pops (vs := [11]) (by decide) p f2 (fun _ => rfl) (fun _ => rfl) fp2 (WA_cons (WE_var rfl (WA_nil ⟨kept, _, X6, rfl, by rw [ll]; exact hk2, by rw [ll]; omega, ok6, hp7, hq7, fun chosen left X8 μ8 hcl hcp ok8 hp8 hq8 fm8 => ?_⟩))))
  have sb8 := sb7.fm nf2 fm8
  refine WS_seq (WS_set (WE_cell (WEn_op lAdd_lst ?_)))
  refine WE_var rfl (WE_frozen (WEn_op lMul_lst (WE_frozen (WEn_lst ?_))))
  walk_at "es"
  refine ⟨small (by simp), ?_⟩
  walk_at "es"
  refine ⟨_, _, rfl, rfl, by omega, by omega, small (by simp; omega), ?_⟩
  have e1 : ((n : Int) - (kept : Int)).toNat = n - kept := by omega
  rw [e1, nones]
  refine ⟨_, _, rfl, rfl, small (by simp; omega), fun f3 hf3 m3 => ?_⟩
  rw [← List.map_append]
  have fp3 : f3 ≠ p := fun e => by subst e; rw [hp8] at m3; cases m3
  have nf3 := sb8.none m3 fp3
  have sb9 := sb8.new m3 (.lst ((chosen ++ List.replicate (n - kept) none).map encI))
  have hp9 : updS μ8 f3 (.lst ((chosen ++ List.replicate (n - kept) none).map encI)) p = some (.lst (diceD X8)) := by rw [updS_ne fp3.symm]; exact hp8
  have hq9 : updS μ8 f3 (.lst ((chosen ++ List.replicate (n - kept) none).map encI)) f3 = some (.lst ((chosen ++ List.replicate (n - kept) none).map encI)) := updS_same
  generalize updS μ8 f3 (.lst ((chosen ++ List.replicate (n - kept) none).map encI)) = μ9 at sb9 hp9 hq9 ⊢
  have lw2 : (chosen ++ List.replicate (n - kept) (none : Item)).length = n := by
    rw [List.length_append, List.length_replicate]; omega
  walk_at "es"
  refine WE_frozen (WEn_pops (vs := [11]) (by decide) p f3 (fun _ => rfl) (fun _ => rfl) fp3 (WA_cons (WE_var rfl (WA_nil ⟨n, _, X8, rfl, by rw [lw2]; exact Nat.le_refl _, by rw [lw2]; omega, ok8, hp9, hq9, fun goal rest1 Xa μa hgl hgp oka hpa hqa fma => ?_⟩))))
  have sba := sb9.fm nf3 fma
  have hr1 : rest1 = [] := by
    have := hgp.length_eq
    rw [List.length_append, lw2] at this
    exact List.eq_nil_of_length_eq_zero (by omega)
  rw [hr1, List.append_nil] at hgp
  have fin := holdings_ok okl hs hn nd nm hmany hbp hk1 hcl hcp hgp
  walk_at "es"
  refine ⟨begin, ls, rfl, by omega, by have := okl.2.1; omega, ?_⟩
  walk_at "es"
  refine ⟨goal, ls, rfl, by omega, by have := okl.2.1; omega, ?_⟩
  walk_at "es"
  exact ⟨small (by simp), _, sba.sub hpa, q _ _ fin.1 fin.2 Xa oka⟩
end
end G
set_option Elab.async false
set_option linter.all false
set_option maxRecDepth 100000
set_option maxHeartbeats 4000000
namespace G
open PySem PySem.Spec L2 DL
local macro_rules | `(tactic| walk_at "e") => `(tactic| first
  | with_reducible refine WE_int ?_
  | with_reducible refine WE_str ?_
  | with_reducible refine WE_bl ?_
  | with_reducible refine WE_non ?_
  | with_reducible refine WE_ty ?_
  | refine WE_var rfl ?_
  | with_reducible refine WA_nil ?_
  | with_reducible refine WA_cons ?_
  | with_reducible refine WO_none ?_
  | with_reducible refine WO_some ?_
  | with_reducible refine WT_val ?_
  | with_reducible refine WT_test ?_
  | with_reducible refine WT_not ?_
  | with_reducible refine WT_and ?_
  | with_reducible refine WT_or ?_
  | with_reducible refine WT_yes ?_
  | with_reducible refine WE_andV ?_
  | with_reducible refine WE_orV ?_
  | with_reducible refine WE_notV ?_
  | with_reducible refine WE_if ?_
  | with_reducible refine WE_tup ?_
  | with_reducible refine WE_neg ?_
  | with_reducible refine WE_op lAdd ?_
  | with_reducible refine WE_op lMul_int ?_
  | with_reducible refine WE_op lEq ?_
  | with_reducible refine WE_op lNe ?_
  | with_reducible refine WE_op lIsN ?_
  | with_reducible refine WE_op lNotN ?_
  | with_reducible refine WE_op lIx ?_
  | with_reducible refine WE_op lIntB ?_
  | with_reducible refine WE_op lIntC ?_
  | with_reducible refine WE_op lInt ?_
  | with_reducible refine WE_cb lIsi ?_
  | with_reducible refine WE_cb lLenA ?_
  | with_reducible refine WE_cb lTupleOfK ?_
  | with_reducible refine WE_cb lAbs ?_
  | with_reducible refine WE_cb lIntOf ?_
  | with_reducible refine WE_cb lMin2 ?_
  | with_reducible refine WE_cb lMax2 ?_
  | with_reducible refine WE_call ?_
  | with_reducible refine WE_chain lIntB lIntB ?_
  | with_reducible refine WS_seq ?_
  | with_reducible refine WS_ret ?_
  | with_reducible refine WS_retN ?_
  | with_reducible refine WS_set ?_
  | refine WS_asg2 rfl ?_
  | refine WS_asg3 rfl ?_
  | with_reducible refine WS_drop ?_
  | with_reducible refine WS_if ?_
  | with_reducible refine WS_next ?_
  | with_reducible refine WG_name ?_
  | with_reducible refine WG_tup rfl ?_
  | with_reducible refine WGs_cons ?_
  | with_reducible refine WGs_nil ?_
  | with_reducible refine dAdd_i ?_
  | with_reducible refine dInt_i ?_
  | with_reducible refine dIsi_i rfl (by decide) ?_
  | with_reducible refine dLenA_t ?_
  | with_reducible refine dLenA_l ?_
  | with_reducible refine dIsN_i ?_
  | with_reducible refine dNotN_i ?_
  | with_reducible refine dAbs_i ?_
  | with_reducible refine dIntOf_i ?_
  | with_reducible refine iteN (by decide) ?_
  | with_reducible refine iteY (by decide) ?_
  | refine iteT ?_
  | refine iteF ?_
  | with_reducible refine is2_i ?_
  | with_reducible refine is3_i ?_
  | with_reducible refine ⟨_, rfl, ?_⟩)
local macro_rules | `(tactic| walk_at "es") => `(tactic| repeat walk_at "e")

section
variable {P : Program} {w : World} {K : PySem.W.Frag} {mg : Str → Option Value} {base : Heap}
theorem sc_law : FnScope ["_law_script", "_law_dice_here", "_law_turn", "_law_size", "_law_shown", "_law_told", "_law_back_here", "_law_begin", "_law_goal"] ["_law_script"] (defScope sd_law) := ⟨rfl, rfl, rfl, by decide +kernel, rfl, by decide +kernel, by decide +kernel⟩
theorem ok_law {f : Addr} {fd : FuncData} (T : Md K mg) (h__law_dice : Has P w K mg base "_law_dice" 1 ["_law_script"] (F__law_dice K)) (h__law_two_holdings : Has P w K mg base "_law_two_holdings" 4 ["_law_dice_here", "_law_size", "_law_names_here"] F__law_two_holdings) (h_shuffled : Has P w K mg base "shuffled" 6 ["begin", "goal"] F_shuffled) (h__law_back : Has P w K mg base "_law_back" 2 ["_law_begin", "_law_goal"] F__law_back) (h__law_draw : Has P w K mg base "_law_draw" 1 ["_law_dice_here", "_law_sides"] F__law_draw) (h__law_names : Has P w K mg base "_law_names" 2 ["_law_dice_here", "_law_size"] F__law_names) (h__law_shuffle_right : Has P w K mg base "_law_shuffle_right" 3 ["_law_begin", "_law_goal", "_law_thing"] F__law_shuffle_right) (Fd : FunD K "law" "law" (defArgs sd_law) (defBody sd_law) (defScope sd_law) [] [] f fd) : FnG P w K mg base CX0 7 f fd ["_law_script"] (spOf (DL.F_law K)) := by
  refine fn_dataG Fd sc_law (fun ds μ R h => by (obtain ⟨ns, rfl, q⟩ := h; rfl)) fun cdv A outer s H E hG hr => ⟨_, (pss_cons (ps_set (i := 1) sc_law.nd rfl (by first | exact Or.inl rfl | exact Or.inr rfl) (pe_fn h__law_dice (hr.mono (by decide)) (by rfl) (pa_cons (pv 0) pa_nil)))
    (pss_cons (ps_for PassesOwn.never rfl (pi_range1 (by rfl) T.f_range (pa_cons pe_int pa_nil)) (pg_name (i := 2) sc_law.nd rfl (by first | exact Or.inl rfl | exact Or.inr rfl)) (pss_cons (ps_set (i := 3) sc_law.nd rfl (by first | exact Or.inl rfl | exact Or.inr rfl) (pe_op (kAdd (K := K) rfl) pe_int (pe_fn h__law_draw (hr.mono (by decide)) (by rfl) (pa_cons (pv 1) (pa_cons pe_int pa_nil)))))
    (pss_cons (ps_asg (pe_fn h__law_two_holdings (hr.mono (by decide)) (by rfl) (pa_cons (pv 1) (pa_cons (pv 3) (pa_cons (pe_fn h__law_names (hr.mono (by decide)) (by rfl) (pa_cons (pv 1) (pa_cons (pv 3) pa_nil))) pa_nil)))) (kTup (K := K) (n := 2) rfl (by rfl) (pgs_cons (pg_name (i := 7) sc_law.nd rfl (by first | exact Or.inl rfl | exact Or.inr rfl)) (pgs_cons (pg_name (i := 8) sc_law.nd rfl (by first | exact Or.inl rfl | exact Or.inr rfl)) pgs_nil))))
    (pss_cons (ps_set (i := 4) sc_law.nd rfl (by first | exact Or.inl rfl | exact Or.inr rfl) (pe_callB (callReprG (by exact hG) (by exact Room.units66 hr)) (by rfl) T.f_repr (by decide +kernel) (pa_cons (pe_tup (pa_cons (pv 7) (pa_cons (pv 8) pa_nil))) pa_nil)))
    (pss_cons (ps_set (i := 5) sc_law.nd rfl (by first | exact Or.inl rfl | exact Or.inr rfl) (pe_fn h_shuffled (hr.mono (by decide)) (by rfl) (pa_cons (pv 7) (pa_cons (pv 8) pa_nil))))
    (pss_cons (ps_if (PW.pt (pw_or (pt_not (pt_val (pe_fn h__law_shuffle_right (hr.mono (by decide)) (by rfl) (pa_cons (pv 7) (pa_cons (pv 8) (pa_cons (pv 5) pa_nil)))))) (pw_or1 (pt_cmpR (kNe (K := K) rfl hr.units) (pe_callB (callReprG (by exact hG) (by exact Room.units66 hr)) (by rfl) T.f_repr (by decide +kernel) (pa_cons (pe_tup (pa_cons (pv 7) (pa_cons (pv 8) pa_nil))) pa_nil)) (pv 4) (by first | exact nomark _ | rfl))))) (pss_one (ps_ret pe_bl)) pss_nil)
    (pss_cons (ps_set (i := 6) sc_law.nd rfl (by first | exact Or.inl rfl | exact Or.inr rfl) (pe_fn h__law_back (hr.mono (by decide)) (by rfl) (pa_cons (pv 7) (pa_cons (pv 8) pa_nil))))
    (pss_cons (ps_if (pt_not (pt_val (pe_fn h__law_shuffle_right (hr.mono (by decide)) (by rfl) (pa_cons (pv 8) (pa_cons (pv 6) (pa_cons (pe_fn h_shuffled (hr.mono (by decide)) (by rfl) (pa_cons (pv 8) (pa_cons (pv 6) pa_nil))) pa_nil)))))) (pss_one (ps_ret pe_bl)) pss_nil)
    (pss_one (ps_if (pt_cmpR (kNe (K := K) rfl hr.units) (pe_fn h_shuffled (hr.mono (by decide)) (by rfl) (pa_cons (pv 7) (pa_cons (pv 8) pa_nil))) (pv 5) (by first | exact nomark _ | rfl)) (pss_one (ps_ret pe_bl)) pss_nil))))))))))
    (pss_one (ps_ret pe_bl)))), fun N ds R h => ?_⟩
  obtain ⟨ns, rfl, q⟩ := h
  walk_at "es"
  refine ⟨ns, rfl, fun p hp X0 ok0 => ?_⟩
  walk_at "es"
  refine WS_for (js := [2]) (WI_range1 ?_)
  walk_at "es"
  refine ⟨by omega, by omega, fun i ρ' μ' => ∃ (X : Dice) (x2 x3 x4 x5 x6 x7 x8 : Option D), ρ' = [some (.opq (sqi K ns)), some (.ptr p), x2, x3, x4, x5, x6, x7, x8] ∧ X.Ok ∧ μ' = updS N.μ p (.lst (diceD X)), ⟨X0, _, _, _, _, _, _, _, rfl, ok0, rfl⟩, fun _ _ _ _ _ => trivial, fun i d ρ' μ' hd inv => ?_, fun ρ' μ' inv => ?_⟩
  · obtain ⟨X, x2, x3, x4, x5, x6, x7, x8, rfl, ok, rfl⟩ := inv
    refine WG_name ?_
    walk_at "es"
    refine ⟨p, 12, X, rfl, by omega, by omega, ok, updS_same, fun r hr X1 ok1 => ?_⟩
    walk_at "es"
    have en : (1 : Int) + (r : Int) = ((r + 1 : Nat) : Int) := by omega
    rw [en, updS_upd]
    walk_at "es"
    refine ⟨p, r + 1, rfl, by omega, ⟨X1, ok1, updS_same⟩, fun names hn nd nm X2 ok2 => ?_⟩
    rw [updS_upd]
    walk_at "es"
    refine ⟨p, r + 1, names, rfl, by omega, by omega, hn, nd, nm, ⟨X2, ok2, updS_same⟩, fun b g v sp X3 ok3 => ?_⟩
    rw [updS_upd]
    obtain ⟨v2, sp2⟩ := back_ok v sp
    have gd : Gd b g := ⟨v.lg, v.ng.2, sp⟩
    have gd2 : Gd g (b.map fun r => r.map (keep (items g))) := ⟨v2.lg, v2.ng.2, sp2⟩
    have okg : OkL (lens g) := v2.lb
    have res := shuf_ok gd v.lb v.sub
    have res2 := shuf_ok gd2 v2.lb v2.sub
    have sh := shown_two v
    have ss := okShown_two v
    walk_at "es"
    refine WE_cb lRepr ?_
    walk_at "es"
    refine ⟨small (by simp), ?_⟩
    refine WA_nil ⟨[encH b, encH g], rfl, sh.1, sh.2.1, sh.2.2.1, sh.2.2.2.1, sh.2.2.2.2, ?_⟩
    walk_at "es"
    refine ⟨b, g, rfl, v, sp, ?_⟩
    walk_at "es"
    refine ⟨b, g, shufT b g, rfl, v.lb, v.lg, fun x hx => (v.nb.1 x hx).okStr, fun x hx => (v.ng.1 x hx).okStr, res, ?_⟩
    walk_at "es"
    refine WE_cb lRepr ?_
    walk_at "es"
    refine ⟨small (by simp), ?_⟩
    refine WA_nil ⟨[encH b, encH g], rfl, sh.1, sh.2.1, sh.2.2.1, sh.2.2.2.1, sh.2.2.2.2, ?_⟩
    walk_at "es"
    refine dNe_str ss ss ⟨_, rfl, ?_⟩
    rw [decide_eq_true (rfl : (toPy (.tup [encH b, encH g])).shown = (toPy (.tup [encH b, encH g])).shown)]
    walk_at "es"
    refine ⟨b, g, rfl, v.lb, okg, ?_⟩
    walk_at "es"
    refine ⟨g, _, rfl, v2, sp2, ?_⟩
    walk_at "es"
    refine ⟨g, _, shufT g (b.map fun r => r.map (keep (items g))), rfl, okg, v2.lg, fun x hx => (v.ng.1 x hx).okStr, fun x hx => (v2.ng.1 x hx).okStr, res2, ?_⟩
    walk_at "es"
    refine ⟨b, g, rfl, v, sp, ?_⟩
    walk_at "es"
    refine dNe_c cdT (by decide) (fun _ _ => trivial) (fun _ _ => trivial) ⟨_, rfl, ?_⟩
    rw [decide_eq_true (rfl : shufT b g = shufT b g)]
    walk_at "es"
    exact ⟨X3, _, _, _, _, _, _, _, rfl, ok3, rfl⟩
  · walk_at "es"
    exact ⟨_, SubS.refl _, q _⟩
end
end G
set_option Elab.async false
set_option linter.all false
set_option maxRecDepth 100000
set_option maxHeartbeats 0
namespace G
open PySem PySem.Spec L2 DL PyProof.Rows
theorem fn_never {P : Program} {w : World} {K : PySem.W.Frag} {mg : Str → Option Value} {base : Heap} {k : Nat} {f : Addr} {fd : FuncData} {ps : List Str} {F : FS} (h : ∀ ds μ Q, ¬ F ds μ Q) : FnOk P w K mg base CX0 k f fd ps (spOf F) :=
  ⟨fun vs H Q E ⟨G, μ, ds, R, _, _, z, _⟩ => (h ds μ R z).elim, fun A outer s H args us vs Q E _ _ _ _ ⟨G, μ, ds, R, _, _, z, _⟩ => (h ds μ R z).elim⟩
theorem md_ok {K : PySem.W.Frag} {h : Heap} {mg : Str → Option Value} (X : K.In h) (G : h.Ns mainGlobals mg) (c : He.SaysD fa fn K) : Md K mg where
  f_ValueError := He.free_ok X G (c.fact 46 (f := .free "ValueError") rfl)
  f_abs := He.free_ok X G (c.fact 47 (f := .free "abs") rfl)
  f_all := He.free_ok X G (c.fact 48 (f := .free "all") rfl)
  f_bool := He.free_ok X G (c.fact 49 (f := .free "bool") rfl)
  f_enumerate := He.free_ok X G (c.fact 50 (f := .free "enumerate") rfl)
  f_int := He.free_ok X G (c.fact 51 (f := .free "int") rfl)
  f_isinstance := He.free_ok X G (c.fact 52 (f := .free "isinstance") rfl)
  f_len := He.free_ok X G (c.fact 53 (f := .free "len") rfl)
  f_list := He.free_ok X G (c.fact 54 (f := .free "list") rfl)
  f_max := He.free_ok X G (c.fact 55 (f := .free "max") rfl)
  f_min := He.free_ok X G (c.fact 56 (f := .free "min") rfl)
  f_range := He.free_ok X G (c.fact 57 (f := .free "range") rfl)
  f_repr := He.free_ok X G (c.fact 58 (f := .free "repr") rfl)
  f_str := He.free_ok X G (c.fact 59 (f := .free "str") rfl)
  f_sum := He.free_ok X G (c.fact 60 (f := .free "sum") rfl)
  f_tuple := He.free_ok X G (c.fact 61 (f := .free "tuple") rfl)
  f_zip := He.free_ok X G (c.fact 62 (f := .free "zip") rfl)
  c_LETTERS := He.str_ok X G (c.fact 41 (f := .str "LETTERS" "abcdefghijklmnopqrstuvwxyz") rfl)
  c_MOST_LETTERS := He.int_ok X G (c.fact 42 (f := .int "MOST_LETTERS" 8) rfl)
  c_MOST_BELTS := He.int_ok X G (c.fact 43 (f := .int "MOST_BELTS" 6) rfl)
  c_MOST_ROOMS := He.int_ok X G (c.fact 44 (f := .int "MOST_ROOMS" 8) rfl)
  c_MOST_SIZE := He.int_ok X G (c.fact 45 (f := .int "MOST_SIZE" 12) rfl)
  cl_Seats := He.cls_ok (c.fact 40 (f := .cls "Seats") rfl)
  na_Seats_held := He.noat_ok (c.fact 63 (f := .noat "Seats" "held") rfl)
  na_Seats_moved := He.noat_ok (c.fact 64 (f := .noat "Seats" "moved") rfl)
  na_Seats_trail := He.noat_ok (c.fact 65 (f := .noat "Seats" "trail") rfl)
theorem facts {P : Program} {w : World} {K : PySem.W.Frag} {h : Heap} {mg : Str → Option Value} {f : Addr} (X : K.In h) (G : h.Ns mainGlobals mg) (hfa : mg ("law" : Str) = some (.ref f)) (c : He.SaysD fa fn K) :
    ∃ fd : FuncData, (∀ (s : Shared) (v : Value), BindsTo s fd ⟨[v], []⟩ [("_law_script", v)]) ∧ ∀ base : Heap, K.In base → base.Ns mainGlobals mg → FnG P w K mg base CX0 7 f fd ["_law_script"] (spOf (DL.F_law K)) := by
  have T := md_ok X G c
  obtain ⟨fd0, D0⟩ := c.def_ 0 (d := d_is_integer) rfl
  obtain ⟨fd1, D1⟩ := c.def_ 1 (d := d_is_name) rfl
  obtain ⟨fd2, D2⟩ := c.def_ 2 (d := d_are_lengths) rfl
  obtain ⟨fd3, D3⟩ := c.def_ 3 (d := d_is_item) rfl
  obtain ⟨fd4, D4⟩ := c.def_ 4 (d := d_is_holding) rfl
  obtain ⟨fd5, D5⟩ := c.def_ 5 (d := d_items_of) rfl
  obtain ⟨fd6, D6⟩ := c.def_ 6 (d := d_are_names_once) rfl
  obtain ⟨fd7, D7⟩ := c.def_ 7 (d := d_check_holdings) rfl
  obtain ⟨fd8, D8⟩ := c.def_ 8 (d := d_Seatsu__initu_) rfl
  obtain ⟨fd9, D9⟩ := c.def_ 9 (d := d_Seats_room) rfl
  obtain ⟨fd10, D10⟩ := c.def_ 10 (d := d_Seats_carry) rfl
  obtain ⟨fd11, D11⟩ := c.def_ 11 (d := d_Seats_turn) rfl
  obtain ⟨fd12, D12⟩ := c.def_ 12 (d := d_Seats_write) rfl
  obtain ⟨fd13, D13⟩ := c.def_ 13 (d := d_Seats_item) rfl
  obtain ⟨fd14, D14⟩ := c.def_ 14 (d := d_Seats_all_seats) rfl
  obtain ⟨fd15, D15⟩ := c.def_ 15 (d := d_Seats_holders) rfl
  obtain ⟨fd16, D16⟩ := c.def_ 16 (d := d_Seats_is_free) rfl
  obtain ⟨fd17, D17⟩ := c.def_ 17 (d := d_Seats_turn_back) rfl
  obtain ⟨fd18, D18⟩ := c.def_ 18 (d := d_carries_by_turning) rfl
  obtain ⟨fd19, D19⟩ := c.def_ 19 (d := d_carries_by_seats) rfl
  obtain ⟨fd20, D20⟩ := c.def_ 20 (d := d_shuffle) rfl
  obtain ⟨fd21, D21⟩ := c.def_ 21 (d := d_shuffled) rfl
  obtain ⟨fd22, D22⟩ := c.def_ 22 (d := d__law_dice) rfl
  obtain ⟨fd23, D23⟩ := c.def_ 23 (d := d__law_draw) rfl
  obtain ⟨fd24, D24⟩ := c.def_ 24 (d := d__law_names) rfl
  obtain ⟨fd25, D25⟩ := c.def_ 25 (d := d__law_belts) rfl
  obtain ⟨fd26, D26⟩ := c.def_ 26 (d := d__law_put) rfl
  obtain ⟨fd27, D27⟩ := c.def_ 27 (d := d__law_done) rfl
  obtain ⟨fd28, D28⟩ := c.def_ 28 (d := d__law_lengths) rfl
  obtain ⟨fd29, D29⟩ := c.def_ 29 (d := d__law_split) rfl
  obtain ⟨fd30, D30⟩ := c.def_ 30 (d := d__law_items) rfl
  obtain ⟨fd31, D31⟩ := c.def_ 31 (d := d__law_fits) rfl
  obtain ⟨fd32, D32⟩ := c.def_ 32 (d := d__law_are_carries) rfl
  obtain ⟨fd33, D33⟩ := c.def_ 33 (d := d__law_shuffle_right) rfl
  obtain ⟨fd34, D34⟩ := c.def_ 34 (d := d__law_two_holdings) rfl
  obtain ⟨fd35, D35⟩ := c.def_ 35 (d := d__law_back) rfl
  obtain ⟨fd36, D36⟩ := c.def_ 36 (d := d_law) rfl
  have e := hfa.symm.trans (He.glo_ok X G (c.fact 36 (f := .glo "law") rfl))
  cases e
  have bA := FunD.bindsA (ps := ["_law_script"]) D36 fun _ _ _ _ _ _ us hl => match us, hl with | [_], _ => rfl
  refine ⟨fd36, fun s v => bA s [v] rfl, fun base _ _ => ?_⟩
  have h_is_integer : Has P w K mg base "is_integer" 1 ["thing"] F_is_integer := ⟨⟨_, _, He.glo_ok X G (c.fact 0 (f := .glo "is_integer") rfl), D0.kp, (D0.bindsN fun _ _ _ _ _ _ us hl => match us, hl with | [_], _ => rfl), (ok_is_integer T  D0)⟩⟩
  have h_is_name : Has P w K mg base "is_name" 1 ["thing"] F_is_name := ⟨⟨_, _, He.glo_ok X G (c.fact 1 (f := .glo "is_name") rfl), D1.kp, (D1.bindsN fun _ _ _ _ _ _ us hl => match us, hl with | [_], _ => rfl), (ok_is_name T  D1)⟩⟩
  have h_are_lengths : Has P w K mg base "are_lengths" 2 ["thing"] F_are_lengths := ⟨⟨_, _, He.glo_ok X G (c.fact 2 (f := .glo "are_lengths") rfl), D2.kp, (D2.bindsN fun _ _ _ _ _ _ us hl => match us, hl with | [_], _ => rfl), (ok_are_lengths T h_is_integer D2)⟩⟩
  have h_is_item : Has P w K mg base "is_item" 2 ["thing"] F_is_item := ⟨⟨_, _, He.glo_ok X G (c.fact 3 (f := .glo "is_item") rfl), D3.kp, (D3.bindsN fun _ _ _ _ _ _ us hl => match us, hl with | [_], _ => rfl), (ok_is_item T h_is_integer D3)⟩⟩
  have h_is_holding : Has P w K mg base "is_holding" 3 ["thing"] F_is_holding := ⟨⟨_, _, He.glo_ok X G (c.fact 4 (f := .glo "is_holding") rfl), D4.kp, (D4.bindsN fun _ _ _ _ _ _ us hl => match us, hl with | [_], _ => rfl), (ok_is_holding T h_are_lengths h_is_item D4)⟩⟩
  have h_items_of : Has P w K mg base "items_of" 1 ["holding"] F_items_of := ⟨⟨_, _, He.glo_ok X G (c.fact 5 (f := .glo "items_of") rfl), D5.kp, (D5.bindsN fun _ _ _ _ _ _ us hl => match us, hl with | [_], _ => rfl), (ok_items_of T  D5)⟩⟩
  have h_are_names_once : Has P w K mg base "are_names_once" 2 ["holding"] F_are_names_once := ⟨⟨_, _, He.glo_ok X G (c.fact 6 (f := .glo "are_names_once") rfl), D6.kp, (D6.bindsN fun _ _ _ _ _ _ us hl => match us, hl with | [_], _ => rfl), (ok_are_names_once T h_items_of h_is_name D6)⟩⟩
  have h_check_holdings : Has P w K mg base "check_holdings" 4 ["begin", "goal"] F_check_holdings := ⟨⟨_, _, He.glo_ok X G (c.fact 7 (f := .glo "check_holdings") rfl), D7.kp, (D7.bindsN fun _ _ _ _ _ _ us hl => match us, hl with | [_, _], _ => rfl), (ok_check_holdings T h_items_of h_is_holding h_are_names_once D7)⟩⟩
  have h_Seatsu__initu_ : HasK P w K mg base "Seats" (He.ga K "Seats") 1 ["self", "begin", "wanted"] (F_Seatsu__initu_ (He.ga K "Seats")) := ⟨⟨_, _, He.mkr_ok (c.fact 8 (f := .mkr "Seats") rfl), He.glo_ok X G (c.fact 39 (f := .glo "Seats") rfl), (D8.bindsN fun _ _ _ _ _ _ us hl => match us, hl with | [_, _, _], _ => rfl), (ok_Seatsu__initu_ T  D8)⟩⟩
  have h_Seats_room : HasM P w K mg base (He.ga K "Seats") "room" 1 ["self", "seat"] (F_Seats_room (He.ga K "Seats")) := ⟨⟨_, _, He.meth_ok (c.fact 9 (f := .meth "Seats" "room") rfl), (D9.bindsN fun _ _ _ _ _ _ us hl => match us, hl with | [_, _], _ => rfl), (ok_Seats_room T  D9)⟩, T.cl_Seats⟩
  have h_Seats_carry : HasM P w K mg base (He.ga K "Seats") "carry" 1 ["self", "room", "belt"] (F_Seats_carry (He.ga K "Seats")) := ⟨⟨_, _, He.meth_ok (c.fact 10 (f := .meth "Seats" "carry") rfl), (D10.bindsN fun _ _ _ _ _ _ us hl => match us, hl with | [_, _, _], _ => rfl), (ok_Seats_carry T  D10)⟩, T.cl_Seats⟩
  have h_Seats_turn : HasM P w K mg base (He.ga K "Seats") "turn" 2 ["self", "belt"] (F_Seats_turn (He.ga K "Seats")) := ⟨⟨_, _, He.meth_ok (c.fact 11 (f := .meth "Seats" "turn") rfl), (D11.bindsN fun _ _ _ _ _ _ us hl => match us, hl with | [_, _], _ => rfl), (ok_Seats_turn T h_Seats_carry D11)⟩, T.cl_Seats⟩
  have h_Seats_item : HasM P w K mg base (He.ga K "Seats") "item" 1 ["self", "seat"] (F_Seats_item (He.ga K "Seats")) := ⟨⟨_, _, He.meth_ok (c.fact 13 (f := .meth "Seats" "item") rfl), (D13.bindsN fun _ _ _ _ _ _ us hl => match us, hl with | [_, _], _ => rfl), (ok_Seats_item T  D13)⟩, T.cl_Seats⟩
  have h_Seats_write : HasM P w K mg base (He.ga K "Seats") "write" 3 ["self", "seat", "source"] (F_Seats_write (He.ga K "Seats")) := ⟨⟨_, _, He.meth_ok (c.fact 12 (f := .meth "Seats" "write") rfl), (D12.bindsN fun _ _ _ _ _ _ us hl => match us, hl with | [_, _, _], _ => rfl), (ok_Seats_write T h_Seats_carry h_Seats_item h_Seats_turn h_Seats_room D12)⟩, T.cl_Seats⟩
  have h_Seats_all_seats : HasM P w K mg base (He.ga K "Seats") "all_seats" 1 ["self"] (F_Seats_all_seats (He.ga K "Seats")) := ⟨⟨_, _, He.meth_ok (c.fact 14 (f := .meth "Seats" "all_seats") rfl), (D14.bindsN fun _ _ _ _ _ _ us hl => match us, hl with | [_], _ => rfl), (ok_Seats_all_seats T  D14)⟩, T.cl_Seats⟩
  have h_Seats_holders : HasM P w K mg base (He.ga K "Seats") "holders" 2 ["self", "item"] (F_Seats_holders (He.ga K "Seats")) := ⟨⟨_, _, He.meth_ok (c.fact 15 (f := .meth "Seats" "holders") rfl), (D15.bindsN fun _ _ _ _ _ _ us hl => match us, hl with | [_, _], _ => rfl), (ok_Seats_holders T h_Seats_all_seats h_Seats_item D15)⟩, T.cl_Seats⟩
  have h_Seats_is_free : HasM P w K mg base (He.ga K "Seats") "is_free" 3 ["self", "seat"] (F_Seats_is_free (He.ga K "Seats")) := ⟨⟨_, _, He.meth_ok (c.fact 16 (f := .meth "Seats" "is_free") rfl), (D16.bindsN fun _ _ _ _ _ _ us hl => match us, hl with | [_, _], _ => rfl), (ok_Seats_is_free T h_Seats_item h_Seats_holders D16)⟩, T.cl_Seats⟩
  have h_Seats_turn_back : HasM P w K mg base (He.ga K "Seats") "turn_back" 3 ["self"] (F_Seats_turn_back (He.ga K "Seats")) := ⟨⟨_, _, He.meth_ok (c.fact 17 (f := .meth "Seats" "turn_back") rfl), (D17.bindsN fun _ _ _ _ _ _ us hl => match us, hl with | [_], _ => rfl), (ok_Seats_turn_back T h_Seats_turn D17)⟩, T.cl_Seats⟩
  have h_carries_by_turning : Has P w K mg base "carries_by_turning" 1 ["begin", "goal"] F_carries_by_turning := ⟨⟨_, _, He.glo_ok X G (c.fact 18 (f := .glo "carries_by_turning") rfl), D18.kp, (D18.bindsN fun _ _ _ _ _ _ us hl => match us, hl with | [_, _], _ => rfl), (fn_never fun _ _ _ z => z)⟩⟩
  have h_carries_by_seats : Has P w K mg base "carries_by_seats" 4 ["begin", "goal"] F_carries_by_seats := ⟨⟨_, _, He.glo_ok X G (c.fact 19 (f := .glo "carries_by_seats") rfl), D19.kp, (D19.bindsN fun _ _ _ _ _ _ us hl => match us, hl with | [_, _], _ => rfl), (ok_carries_by_seats T h_Seatsu__initu_ h_items_of h_Seats_turn_back h_Seats_write h_Seats_all_seats h_Seats_is_free h_Seats_holders h_Seats_item D19)⟩⟩
  have h_shuffle : Has P w K mg base "shuffle" 5 ["begin", "goal"] F_shuffle := ⟨⟨_, _, He.glo_ok X G (c.fact 20 (f := .glo "shuffle") rfl), D20.kp, (D20.bindsN fun _ _ _ _ _ _ us hl => match us, hl with | [_, _], _ => rfl), (ok_shuffle T h_carries_by_turning h_carries_by_seats D20)⟩⟩
  have h_shuffled : Has P w K mg base "shuffled" 6 ["begin", "goal"] F_shuffled := ⟨⟨_, _, He.glo_ok X G (c.fact 21 (f := .glo "shuffled") rfl), D21.kp, (D21.bindsN fun _ _ _ _ _ _ us hl => match us, hl with | [_, _], _ => rfl), (ok_shuffled T h_check_holdings h_shuffle D21)⟩⟩
  have h__law_dice : Has P w K mg base "_law_dice" 1 ["_law_script"] (F__law_dice K) := ⟨⟨_, _, He.glo_ok X G (c.fact 22 (f := .glo "_law_dice") rfl), D22.kp, (D22.bindsN fun _ _ _ _ _ _ us hl => match us, hl with | [_], _ => rfl), (ok__law_dice T  D22)⟩⟩
  have h__law_draw : Has P w K mg base "_law_draw" 1 ["_law_dice_here", "_law_sides"] F__law_draw := ⟨⟨_, _, He.glo_ok X G (c.fact 23 (f := .glo "_law_draw") rfl), D23.kp, (D23.bindsN fun _ _ _ _ _ _ us hl => match us, hl with | [_, _], _ => rfl), (ok__law_draw T  D23)⟩⟩
  have h__law_names : Has P w K mg base "_law_names" 2 ["_law_dice_here", "_law_size"] F__law_names := ⟨⟨_, _, He.glo_ok X G (c.fact 24 (f := .glo "_law_names") rfl), D24.kp, (D24.bindsN fun _ _ _ _ _ _ us hl => match us, hl with | [_, _], _ => rfl), (ok__law_names T h__law_draw D24)⟩⟩
  have h__law_belts : Has P w K mg base "_law_belts" 2 ["_law_dice_here", "_law_size"] F__law_belts := ⟨⟨_, _, He.glo_ok X G (c.fact 25 (f := .glo "_law_belts") rfl), D25.kp, (D25.bindsN fun _ _ _ _ _ _ us hl => match us, hl with | [_, _], _ => rfl), (ok__law_belts T h__law_draw D25)⟩⟩
  have h__law_put : Has P w K mg base "_law_put" 1 ["_law_holding", "_law_belt", "_law_thing"] F__law_put := ⟨⟨_, _, He.glo_ok X G (c.fact 26 (f := .glo "_law_put") rfl), D26.kp, (D26.bindsN fun _ _ _ _ _ _ us hl => match us, hl with | [_, _, _], _ => rfl), (ok__law_put T  D26)⟩⟩
  have h__law_done : Has P w K mg base "_law_done" 2 ["_law_holding", "_law_carries"] F__law_done := ⟨⟨_, _, He.glo_ok X G (c.fact 27 (f := .glo "_law_done") rfl), D27.kp, (D27.bindsN fun _ _ _ _ _ _ us hl => match us, hl with | [_, _], _ => rfl), (ok__law_done T h__law_put D27)⟩⟩
  have h__law_lengths : Has P w K mg base "_law_lengths" 3 ["_law_dice_here", "_law_size"] F__law_lengths := ⟨⟨_, _, He.glo_ok X G (c.fact 28 (f := .glo "_law_lengths") rfl), D28.kp, (D28.bindsN fun _ _ _ _ _ _ us hl => match us, hl with | [_, _], _ => rfl), (ok__law_lengths T h__law_belts D28)⟩⟩
  have h__law_split : Has P w K mg base "_law_split" 1 ["_law_word", "_law_lengths_here"] F__law_split := ⟨⟨_, _, He.glo_ok X G (c.fact 29 (f := .glo "_law_split") rfl), D29.kp, (D29.bindsN fun _ _ _ _ _ _ us hl => match us, hl with | [_, _], _ => rfl), (ok__law_split T  D29)⟩⟩
  have h__law_items : Has P w K mg base "_law_items" 1 ["_law_holding"] F__law_items := ⟨⟨_, _, He.glo_ok X G (c.fact 30 (f := .glo "_law_items") rfl), D30.kp, (D30.bindsN fun _ _ _ _ _ _ us hl => match us, hl with | [_], _ => rfl), (ok__law_items T  D30)⟩⟩
  have h__law_fits : Has P w K mg base "_law_fits" 1 ["_law_holding", "_law_goal"] F__law_fits := ⟨⟨_, _, He.glo_ok X G (c.fact 31 (f := .glo "_law_fits") rfl), D31.kp, (D31.bindsN fun _ _ _ _ _ _ us hl => match us, hl with | [_, _], _ => rfl), (ok__law_fits T  D31)⟩⟩
  have h__law_are_carries : Has P w K mg base "_law_are_carries" 1 ["_law_lengths_here", "_law_thing"] F__law_are_carries := ⟨⟨_, _, He.glo_ok X G (c.fact 32 (f := .glo "_law_are_carries") rfl), D32.kp, (D32.bindsN fun _ _ _ _ _ _ us hl => match us, hl with | [_, _], _ => rfl), (ok__law_are_carries T  D32)⟩⟩
  have h__law_shuffle_right : Has P w K mg base "_law_shuffle_right" 3 ["_law_begin", "_law_goal", "_law_thing"] F__law_shuffle_right := ⟨⟨_, _, He.glo_ok X G (c.fact 33 (f := .glo "_law_shuffle_right") rfl), D33.kp, (D33.bindsN fun _ _ _ _ _ _ us hl => match us, hl with | [_, _, _], _ => rfl), (ok__law_shuffle_right T h__law_fits h__law_are_carries h__law_done D33)⟩⟩
  have h__law_two_holdings : Has P w K mg base "_law_two_holdings" 4 ["_law_dice_here", "_law_size", "_law_names_here"] F__law_two_holdings := ⟨⟨_, _, He.glo_ok X G (c.fact 34 (f := .glo "_law_two_holdings") rfl), D34.kp, (D34.bindsN fun _ _ _ _ _ _ us hl => match us, hl with | [_, _, _], _ => rfl), (ok__law_two_holdings T h__law_lengths h__law_draw h__law_split D34)⟩⟩
  have h__law_back : Has P w K mg base "_law_back" 2 ["_law_begin", "_law_goal"] F__law_back := ⟨⟨_, _, He.glo_ok X G (c.fact 35 (f := .glo "_law_back") rfl), D35.kp, (D35.bindsN fun _ _ _ _ _ _ us hl => match us, hl with | [_, _], _ => rfl), (ok__law_back T h__law_items D35)⟩⟩
  exact ok_law T h__law_dice h__law_two_holdings h_shuffled h__law_back h__law_draw h__law_names h__law_shuffle_right D36
end G
open PySem PySem.W PySem.Calls PyProof.Rows
theorem PySem.Challenge.cw_fullbelts_k66_whole_shuffles_holds : PySem.Challenge.rw_fullbelts_k66_whole_shuffles.Holds := by
  w_on; o_law
  refine HandSHeadRun.head_any (r := OpenLaw.row PySem.Challenge.rw_fullbelts_k66_whole_shuffles) (q := view (OpenLaw.row PySem.Challenge.rw_fullbelts_k66_whole_shuffles).prog [39]) (H := G.hk) (ob := G.ob) (M := 4000) (loose := G.loose) (d := HandSHeadRun.topDef (OpenLaw.row PySem.Challenge.rw_fullbelts_k66_whole_shuffles).prog 39) (kwd := []) G.ob_eq
    (by kernel_rfl) (fun s => by kernel_rfl) G.run (by kernel_rfl) (by kernel_rfl) (by kernel_rfl) (by rfl) (by first | assumption | decide +kernel) (by decide +kernel) ⟨rfl, rfl, rfl, rfl, rfl, by decide +kernel⟩ ?hw ?hc
  case hw => w_witness2
  case hc =>
    refine DL.walk_ofG (l := PySem.Challenge.rw_fullbelts_k66_whole_shuffles) (n := 63) (k := 7) (x := "_law_script") rfl (by decide) (by kernel_rfl) ⟨rfl, by decide, by decide⟩ ?F
    intro w mg fa h Y G0 hmg0
    obtain ⟨K, KX, c⟩ := Y
    have hmg : mg ("law" : PySem.Str) = some (.ref fa) := by
      have e : (HandSHeadRun.topDef (OpenLaw.row PySem.Challenge.rw_fullbelts_k66_whole_shuffles).prog 39).name = ("law" : PySem.Str) := by kernel_rfl
      rw [← e]
      exact hmg0
    obtain ⟨fd, hb, hF⟩ := G.facts (P := (PySem.Challenge.rw_fullbelts_k66_whole_shuffles).prog) (w := w) KX G0 hmg c
    exact ⟨K, fd, _, KX, hb, fun H a ns _ hS _ => DL.law_sp hS, hF⟩
