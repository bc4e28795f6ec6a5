import PyProof.Rows.All
import Wide.All
import OpenK.AllK
import Wide.FinOn
import HandS.ForMost
import HandS.ForExc
import HandS.Conv
import HandS.IsInst
import HandS.SortInts
import HandS.TupAny
import HandS.TupLe
import HandS.Style
import PySem.Challenge.RW_asifnew_k05_whole_places_behind_changes
set_option Elab.async false
set_option linter.all false
set_option maxRecDepth 100000
set_option maxHeartbeats 4000000
/-! DA: data over the hand layer. Values as data D, mutable objects as numbered cells. -/
namespace DL
open PySem PySem.Spec PyProof.Rows L2

abbrev St := List (Option V)
inductive D where
  | non | bl (b : Bool) | int (i : Int) | str (x : Str)
  | lst (ds : List D) | tup (ds : List D) | ro (ds : List D)
  | ptr (k : Nat) | adr (a : Addr) | ty (n : String)

mutual
inductive Rep (K : PySem.W.Frag) (B : Hp) (ps : List Addr) : V → D → Prop
  | non : Rep K B ps .non .non
  | bl (b : Bool) : Rep K B ps (.bl b) (.bl b)
  | int (i : Int) : Rep K B ps (.int i) (.int i)
  | str (x : Str) : Rep K B ps (.str x) (.str x)
  | lst {a : Addr} {vs : List V} {ds : List D} : B a = some (.lst vs) → Reps K B ps vs ds → Rep K B ps (.ref a) (.lst ds)
  | tup {a : Addr} {vs : List V} {ds : List D} : SqT K B a vs → Reps K B ps vs ds → Rep K B ps (.ref a) (.tup ds)
  | ro {a : Addr} {vs : List V} {ds : List D} : SqL K B a vs → Reps K B ps vs ds → Rep K B ps (.ref a) (.ro ds)
  | ptr {k : Nat} {a : Addr} : ps[k]? = some a → Rep K B ps (.ref a) (.ptr k)
  | adr (a : Addr) : Rep K B ps (.ref a) (.adr a)
  | ty (n : String) : Rep K B ps (.ty n) (.ty n)
inductive Reps (K : PySem.W.Frag) (B : Hp) (ps : List Addr) : List V → List D → Prop
  | nil : Reps K B ps [] []
  | cons {v : V} {d : D} {vs : List V} {ds : List D} : Rep K B ps v d → Reps K B ps vs ds → Reps K B ps (v :: vs) (d :: ds)
end

def Ex (H H' : Hp) : Prop := ∀ a o, H a = some o → H' a = some o
theorem Ex.refl (H : Hp) : Ex H H := fun _ _ h => h
theorem Ex.trans {H H1 H2 : Hp} (a : Ex H H1) (b : Ex H1 H2) : Ex H H2 := fun x o h => b x o (a x o h)
theorem Ex.new {H : Hp} {p : Addr} {o : HO} (h : H p = none) : Ex H (upd H p o) := fun a u e => by
  rw [upd_ne (ne_of_none e h)]
  exact e
theorem Ex.rd {H H' : Hp} {a : Addr} {u : HO} (e : Ex H H') (h : Rd H a u) : Rd H' a u := by
  rcases h with h | ⟨o, h⟩
  · exact .inl (e a _ h)
  · exact .inr ⟨o, e a _ h⟩
theorem Ex.sl {K : PySem.W.Frag} {H H' : Hp} {a : Addr} {xs : List V} (e : Ex H H') (h : SqL K H a xs) : SqL K H' a xs := by
  rcases h with h | h
  · exact .inl (e.rd h)
  · exact .inr h
theorem Ex.st {K : PySem.W.Frag} {H H' : Hp} {a : Addr} {xs : List V} (e : Ex H H') (h : SqT K H a xs) : SqT K H' a xs := by
  rcases h with h | h
  · exact .inl (e.rd h)
  · exact .inr h
/-- ps' goes on from ps -/
def Pre (ps ps' : List Addr) : Prop := ∃ more, ps' = ps ++ more
theorem Pre.refl (ps : List Addr) : Pre ps ps := ⟨[], by simp⟩
theorem Pre.trans {a b c : List Addr} (h : Pre a b) (g : Pre b c) : Pre a c := by
  obtain ⟨m, rfl⟩ := h
  obtain ⟨n, rfl⟩ := g
  exact ⟨m ++ n, by rw [List.append_assoc]⟩
theorem Pre.get {a b : List Addr} (h : Pre a b) {k : Nat} {p : Addr} (e : a[k]? = some p) : b[k]? = some p := by
  obtain ⟨m, rfl⟩ := h
  rw [List.getElem?_append_left (List.getElem?_eq_some_iff.mp e).1]
  exact e
section
variable {K : PySem.W.Frag} {B B' : Hp} {ps ps' : List Addr}
mutual
theorem Rep.mono (e : Ex B B') (p : Pre ps ps') : ∀ {v : V} {d : D}, Rep K B ps v d → Rep K B' ps' v d
  | _, _, .non => .non
  | _, _, .bl b => .bl b
  | _, _, .int i => .int i
  | _, _, .str x => .str x
  | _, _, .lst h r => .lst (e _ _ h) (Reps.mono e p r)
  | _, _, .tup h r => .tup (e.st h) (Reps.mono e p r)
  | _, _, .ro h r => .ro (e.sl h) (Reps.mono e p r)
  | _, _, .ptr h => .ptr (p.get h)
  | _, _, .adr a => .adr a
  | _, _, .ty n => .ty n
theorem Reps.mono (e : Ex B B') (p : Pre ps ps') : ∀ {vs : List V} {ds : List D}, Reps K B ps vs ds → Reps K B' ps' vs ds
  | _, _, .nil => .nil
  | _, _, .cons h r => .cons (Rep.mono e p h) (Reps.mono e p r)
end
theorem Reps.length : ∀ {vs : List V} {ds : List D}, Reps K B ps vs ds → vs.length = ds.length
  | _, _, .nil => rfl
  | _, _, .cons _ r => by rw [List.length_cons, List.length_cons, Reps.length r]
theorem Reps.get : ∀ {vs : List V} {ds : List D} {i : Nat} {d : D}, Reps K B ps vs ds → ds[i]? = some d → ∃ v, vs[i]? = some v ∧ Rep K B ps v d
  | _, _, _, _, .nil, e => by simp at e
  | _, _, 0, _, .cons h _, e => by
    simp at e
    subst e
    exact ⟨_, rfl, h⟩
  | _, _, i + 1, d, .cons _ r, e => by
    obtain ⟨v, h1, h2⟩ := Reps.get (i := i) (d := d) r (by simpa using e)
    exact ⟨v, by simpa using h1, h2⟩
theorem Reps.getV : ∀ {vs : List V} {ds : List D} {i : Nat} {v : V}, Reps K B ps vs ds → vs[i]? = some v → ∃ d, ds[i]? = some d ∧ Rep K B ps v d
  | _, _, _, _, .nil, e => by simp at e
  | _, _, 0, _, .cons h _, e => by
    simp at e
    subst e
    exact ⟨_, rfl, h⟩
  | _, _, i + 1, v, .cons _ r, e => by
    obtain ⟨d, h1, h2⟩ := Reps.getV (i := i) (v := v) r (by simpa using e)
    exact ⟨d, by simpa using h1, h2⟩
theorem Reps.append : ∀ {vs us : List V} {ds es : List D}, Reps K B ps vs ds → Reps K B ps us es → Reps K B ps (vs ++ us) (ds ++ es)
  | _, _, _, _, .nil, r => r
  | _, _, _, _, .cons h t, r => .cons h (Reps.append t r)
theorem Reps.take : ∀ {vs : List V} {ds : List D} (n : Nat), Reps K B ps vs ds → Reps K B ps (vs.take n) (ds.take n)
  | _, _, 0, _ => .nil
  | _, _, _ + 1, .nil => .nil
  | _, _, n + 1, .cons h r => .cons h (Reps.take n r)
theorem Reps.drop : ∀ {vs : List V} {ds : List D} (n : Nat), Reps K B ps vs ds → Reps K B ps (vs.drop n) (ds.drop n)
  | _, _, 0, r => r
  | _, _, _ + 1, .nil => .nil
  | _, _, n + 1, .cons _ r => Reps.drop n r
theorem Reps.set {v : V} {d : D} (h : Rep K B ps v d) : ∀ {vs : List V} {ds : List D} (i : Nat), Reps K B ps vs ds → Reps K B ps (vs.set i v) (ds.set i d)
  | _, _, _, .nil => .nil
  | _, _, 0, .cons _ t => .cons h t
  | _, _, i + 1, .cons q t => .cons q (Reps.set h i t)
theorem Reps.flat : ∀ {n : Nat} {vs : List V} {ds : List D}, Reps K B ps vs ds → Reps K B ps (List.replicate n vs).flatten (List.replicate n ds).flatten
  | 0, _, _, _ => .nil
  | n + 1, _, _, r => by
    rw [List.replicate_succ, List.replicate_succ, List.flatten_cons, List.flatten_cons]
    exact Reps.append r (Reps.flat r)
theorem Reps.reverse : ∀ {vs : List V} {ds : List D}, Reps K B ps vs ds → Reps K B ps vs.reverse ds.reverse
  | _, _, .nil => .nil
  | _, _, .cons h r => by
    rw [List.reverse_cons, List.reverse_cons]
    exact Reps.append (Reps.reverse r) (.cons h .nil)
theorem Reps.map {α : Type} {f : α → V} {g : α → D} (h : ∀ a, Rep K B ps (f a) (g a)) : ∀ l : List α, Reps K B ps (l.map f) (l.map g)
  | [] => .nil
  | a :: l => .cons (h a) (Reps.map h l)
/-- plain items are known by their data -/
theorem Reps.ints : ∀ {vs : List V} {ns : List Int}, Reps K B ps vs (ns.map D.int) → vs = ns.map V.int
  | [], [], .nil => rfl
  | _ :: _, [], h => by cases h
  | [], _ :: _, h => by cases h
  | v :: vs, n :: ns, h => by
    cases h with
    | cons h r =>
      cases h
      rw [Reps.ints r]
      rfl
theorem Reps.strs : ∀ {vs : List V} {ns : List Str}, Reps K B ps vs (ns.map D.str) → vs = ns.map V.str
  | [], [], .nil => rfl
  | _ :: _, [], h => by cases h
  | [], _ :: _, h => by cases h
  | v :: vs, n :: ns, h => by
    cases h with
    | cons h r =>
      cases h
      rw [Reps.strs r]
      rfl
theorem Reps.bls : ∀ {vs : List V} {ns : List Bool}, Reps K B ps vs (ns.map D.bl) → vs = ns.map V.bl
  | [], [], .nil => rfl
  | _ :: _, [], h => by cases h
  | [], _ :: _, h => by cases h
  | v :: vs, n :: ns, h => by
    cases h with
    | cons h r =>
      cases h
      rw [Reps.bls r]
      rfl
end

/-! ### cells, worlds -/
inductive Cell where
  | dead
  | lst (ds : List D)
  | dct (kvs : List (Key × D))
  | ins (C : Addr) (fs : List (Str × D))
abbrev DEnv := List (Option D)
abbrev Cells := List Cell
/-- pairs of keys and values -/
def RepK (K : PySem.W.Frag) (B : Hp) (ps : List Addr) : List (Key × V) → List (Key × D) → Prop := Paired fun u v => u.1 = v.1 ∧ Rep K B ps u.2 v.2
def RepF (K : PySem.W.Frag) (B : Hp) (ps : List Addr) : List (Str × V) → List (Str × D) → Prop := Paired fun u v => u.1 = v.1 ∧ Rep K B ps u.2 v.2
def CellR (K : PySem.W.Frag) (B : Hp) (ps : List Addr) (H : Hp) (p : Addr) : Cell → Prop
  | .dead => True
  | .lst ds => ∃ vs, H p = some (.lst vs) ∧ Reps K B ps vs ds
  | .dct kvs => ∃ us, H p = some (.dK us) ∧ RepK K B ps us kvs
  | .ins C fs => ∃ dx us, H p = some (.ins C dx us) ∧ RepF K B ps us fs
theorem paired_mono {α β : Type} {F G : α → β → Prop} (h : ∀ a b, F a b → G a b) : ∀ {l : List α} {m : List β}, Paired F l m → Paired G l m
  | _, _, .nil => .nil
  | _, _, .cons r t => .cons (h _ _ r) (paired_mono h t)
theorem CellR.mono {K : PySem.W.Frag} {B B' : Hp} {ps ps' : List Addr} {H H' : Hp} {p : Addr} (e : Ex B B') (pp : Pre ps ps') (hp : H' p = H p) : ∀ {c : Cell}, CellR K B ps H p c → CellR K B' ps' H' p c
  | .dead, _ => trivial
  | .lst ds, ⟨vs, h, r⟩ => ⟨vs, hp.trans h, r.mono e pp⟩
  | .dct kvs, ⟨us, h, r⟩ => ⟨us, hp.trans h, paired_mono (fun _ _ z => ⟨z.1, z.2.mono e pp⟩) r⟩
  | .ins C fs, ⟨dx, us, h, r⟩ => ⟨dx, us, hp.trans h, paired_mono (fun _ _ z => ⟨z.1, z.2.mono e pp⟩) r⟩
/-- what is frozen, the heap, the cells' addresses -/
structure Wd where
  B : Hp
  H : Hp
  ps : List Addr
structure Ok (K : PySem.W.Frag) (w : Wd) (G : Cells) (σ : St) (ρ : DEnv) : Prop where
  ex : Ex w.B w.H
  al : ∀ a ∈ w.ps, w.H a ≠ none
  nd : w.ps.Nodup
  ln : w.ps.length = G.length
  nb : ∀ (k : Nat) p c, w.ps[k]? = some p → G[k]? = some c → c ≠ .dead → w.B p = none
  cs : ∀ (k : Nat) p c, w.ps[k]? = some p → G[k]? = some c → CellR K w.B w.ps w.H p c
  lr : ρ.length ≤ σ.length
  sl : ∀ (i : Nat) d, ρ[i]? = some (some d) → ∃ v, σ[i]? = some (some v) ∧ Rep K w.B w.ps v d
/-- a later world -/
structure Fut (w w' : Wd) : Prop where
  b : Ex w.B w'.B
  p : Pre w.ps w'.ps
  fr : ∀ a o, w.H a = some o → a ∉ w.ps → w'.H a = some o
  np : ∀ a ∈ w'.ps, a ∈ w.ps ∨ w.H a = none
  nb : ∀ a, w'.B a ≠ none → w.B a ≠ none ∨ w.H a = none ∨ a ∈ w.ps
theorem Fut.refl (w : Wd) : Fut w w := ⟨Ex.refl _, Pre.refl _, fun _ _ h _ => h, fun _ h => .inl h, fun _ h => .inl h⟩
theorem Fut.trans {a b c : Wd} (x : Fut a b) (y : Fut b c) : Fut a c := by
  have back : ∀ q, b.H q = none → a.H q = none ∨ q ∈ a.ps := fun q h => by
    cases e : a.H q with
    | none => exact .inl rfl
    | some o =>
      by_cases m : q ∈ a.ps
      · exact .inr m
      · rw [x.fr q o e m] at h
        cases h
  refine ⟨x.b.trans y.b, x.p.trans y.p, fun q o h m => ?_, fun q h => ?_, fun q h => ?_⟩
  · refine y.fr q o (x.fr q o h m) fun z => ?_
    rcases x.np q z with z | z
    · exact m z
    · rw [h] at z
      cases z
  · rcases y.np q h with h | h
    · exact x.np q h
    · exact (back q h).elim .inr .inl
  · rcases y.nb q h with h | h | h
    · exact x.nb q h
    · exact .inr (back q h)
    · exact .inr ((x.np q h).elim .inr .inl)
section
variable {K : PySem.W.Frag} {w w' : Wd} {G G' : Cells} {σ σ' : St} {ρ ρ' : DEnv}
theorem Ok.fresh (x : Ok K w G σ ρ) {p : Addr} (h : w.H p = none) : p ∉ w.ps := fun m => x.al p m h
theorem Ok.freshB (x : Ok K w G σ ρ) {p : Addr} (h : w.H p = none) : w.B p = none := by
  cases e : w.B p with
  | none => rfl
  | some o =>
    rw [x.ex p o e] at h
    cases h
theorem nd_at {l : List Addr} (h : l.Nodup) {i j : Nat} {p : Addr} (a : l[i]? = some p) (b : l[j]? = some p) : i = j := by
  obtain ⟨h1, e1⟩ := List.getElem?_eq_some_iff.mp a
  obtain ⟨h2, e2⟩ := List.getElem?_eq_some_iff.mp b
  exact (List.getElem_inj h).mp (e1.trans e2.symm)
/-- the slots do not matter for the cells -/
theorem Ok.slots (x : Ok K w G σ ρ) (lr : ρ'.length ≤ σ'.length) (sl : ∀ (i : Nat) d, ρ'[i]? = some (some d) → ∃ v, σ'[i]? = some (some v) ∧ Rep K w.B w.ps v d) : Ok K w G σ' ρ' :=
  ⟨x.ex, x.al, x.nd, x.ln, x.nb, x.cs, lr, sl⟩
theorem Ok.none (x : Ok K w G σ ρ) : Ok K w G [] [] := x.slots (Nat.le_refl _) fun i d h => by simp at h
/-- slots are carried to a later world -/
theorem Ok.back (x : Ok K w G σ ρ) (y : Ok K w' G' σ' ρ') (f : Fut w w') : Ok K w' G' σ ρ :=
  y.slots x.lr fun i d h => by
    obtain ⟨v, e, r⟩ := x.sl i d h
    exact ⟨v, e, r.mono f.b f.p⟩
theorem Ok.set (x : Ok K w G σ ρ) {i : Nat} {v : V} {d : D} (r : Rep K w.B w.ps v d) : Ok K w G (σ.set i (some v)) (ρ.set i (some d)) :=
  x.slots (by rw [List.length_set, List.length_set]; exact x.lr) fun j e h => by
    have hj : j < (ρ.set i (some d)).length := (List.getElem?_eq_some_iff.mp h).1
    rw [List.length_set] at hj
    have hs : j < σ.length := Nat.lt_of_lt_of_le hj x.lr
    by_cases hi : i = j
    · subst hi
      rw [List.getElem?_set_self hj] at h
      cases h
      exact ⟨v, by rw [List.getElem?_set_self hs], r⟩
    · rw [List.getElem?_set_ne hi] at h
      obtain ⟨u, e1, r1⟩ := x.sl j e h
      exact ⟨u, by rw [List.getElem?_set_ne hi]; exact e1, r1⟩
/-- a new frozen object -/
theorem Ok.cold (x : Ok K w G σ ρ) {p : Addr} {o : HO} (h : w.H p = Option.none) : Ok K ⟨upd w.B p o, upd w.H p o, w.ps⟩ G σ ρ ∧ Fut w ⟨upd w.B p o, upd w.H p o, w.ps⟩ := by
  have hB := x.freshB h
  have hp := x.fresh h
  have eB : Ex w.B (upd w.B p o) := Ex.new hB
  have ne : ∀ a ∈ w.ps, a ≠ p := fun a m z => hp (z ▸ m)
  refine ⟨⟨fun a u e => ?_, fun a m => ?_, x.nd, x.ln, fun k q c hk hc hd => ?_, fun k q c hk hc => ?_, x.lr, fun i d hi => ?_⟩, eB, Pre.refl _, fun a u e m => ?_, fun a m => .inl m, fun a m => ?_⟩
  · show upd w.H p o a = some u
    have e : upd w.B p o a = some u := e
    by_cases z : a = p
    · subst z
      rw [upd_same] at e ⊢
      exact e
    · rw [upd_ne z] at e ⊢
      exact x.ex a u e
  · show upd w.H p o a ≠ Option.none
    rw [upd_ne (ne a m)]
    exact x.al a m
  · show upd w.B p o q = Option.none
    rw [upd_ne (ne q (List.mem_of_getElem? hk))]
    exact x.nb k q c hk hc hd
  · exact (x.cs k q c hk hc).mono eB (Pre.refl _) (upd_ne (ne q (List.mem_of_getElem? hk)))
  · obtain ⟨v, e, r⟩ := x.sl i d hi
    exact ⟨v, e, r.mono eB (Pre.refl _)⟩
  · show upd w.H p o a = some u
    rw [upd_ne (ne_of_none e h)]
    exact e
  · by_cases z : a = p
    · subst z
      exact .inr (.inl h)
    · have m : upd w.B p o a ≠ Option.none := m
      rw [upd_ne z] at m
      exact .inl m
/-- a new cell -/
theorem Ok.hot (x : Ok K w G σ ρ) {p : Addr} {o : HO} {c : Cell} (h : w.H p = Option.none) (hc : CellR K w.B (w.ps ++ [p]) (upd w.H p o) p c) :
    Ok K ⟨w.B, upd w.H p o, w.ps ++ [p]⟩ (G ++ [c]) σ ρ ∧ Fut w ⟨w.B, upd w.H p o, w.ps ++ [p]⟩ := by
  have hB := x.freshB h
  have hp := x.fresh h
  have pp : Pre w.ps (w.ps ++ [p]) := ⟨[p], rfl⟩
  have ne : ∀ a ∈ w.ps, a ≠ p := fun a m z => hp (z ▸ m)
  have split : ∀ (k : Nat) q d, (w.ps ++ [p])[k]? = some q → (G ++ [c])[k]? = some d → (w.ps[k]? = some q ∧ G[k]? = some d) ∨ (q = p ∧ d = c) := fun k q d h1 h2 => by
    by_cases hk : k < w.ps.length
    · rw [List.getElem?_append_left hk] at h1
      rw [List.getElem?_append_left (by rw [← x.ln]; exact hk)] at h2
      exact .inl ⟨h1, h2⟩
    · have hl : k < (w.ps ++ [p]).length := (List.getElem?_eq_some_iff.mp h1).1
      rw [List.length_append, List.length_singleton] at hl
      have e : k = w.ps.length := by omega
      rw [List.getElem?_append_right (by omega), show k - w.ps.length = 0 by omega] at h1
      rw [List.getElem?_append_right (by rw [← x.ln]; omega), show k - G.length = 0 by rw [← x.ln]; omega] at h2
      cases h1
      cases h2
      exact .inr ⟨rfl, rfl⟩
  refine ⟨⟨fun a u e => ?_, fun a m => ?_, ?_, ?_, fun k q d h1 h2 hd => ?_, fun k q d h1 h2 => ?_, x.lr, fun i d hi => ?_⟩, Ex.refl _, pp, fun a u e m => ?_, fun a m => ?_, fun a m => .inl m⟩
  · show upd w.H p o a = some u
    rw [upd_ne (ne_of_none e hB)]
    exact x.ex a u e
  · show upd w.H p o a ≠ Option.none
    by_cases z : a = p
    · subst z
      rw [upd_same]
      exact fun q => nomatch q
    · rw [upd_ne z]
      rcases List.mem_append.mp m with m | m
      · exact x.al a m
      · exact absurd (by simpa using m) z
  · exact List.nodup_append.mpr ⟨x.nd, by simp, fun a ha b hb => by
      have : b = p := by simpa using hb
      subst this
      exact ne a ha⟩
  · show (w.ps ++ [p]).length = (G ++ [c]).length
    rw [List.length_append, List.length_append, x.ln]
    rfl
  · rcases split k q d h1 h2 with ⟨a1, a2⟩ | ⟨rfl, rfl⟩
    · exact x.nb k q d a1 a2 hd
    · exact hB
  · rcases split k q d h1 h2 with ⟨a1, a2⟩ | ⟨rfl, rfl⟩
    · exact (x.cs k q d a1 a2).mono (Ex.refl _) pp (upd_ne (ne q (List.mem_of_getElem? a1)))
    · exact hc
  · obtain ⟨v, e, r⟩ := x.sl i d hi
    exact ⟨v, e, r.mono (Ex.refl _) pp⟩
  · show upd w.H p o a = some u
    rw [upd_ne (ne_of_none e h)]
    exact e
  · rcases List.mem_append.mp m with m | m
    · exact .inl m
    · have z : a = p := by simpa using m
      rw [z]
      exact .inr h
/-- a cell is written -/
theorem Ok.write (x : Ok K w G σ ρ) {k : Nat} {p : Addr} {o : HO} {c c' : Cell} (hk : w.ps[k]? = some p) (hg : G[k]? = some c) (hd : c ≠ .dead) (hc : CellR K w.B w.ps (upd w.H p o) p c') :
    Ok K ⟨w.B, upd w.H p o, w.ps⟩ (G.set k c') σ ρ ∧ Fut w ⟨w.B, upd w.H p o, w.ps⟩ := by
  have hB := x.nb k p c hk hg hd
  have mp := List.mem_of_getElem? hk
  refine ⟨⟨fun a u e => ?_, fun a m => ?_, x.nd, ?_, fun j q d h1 h2 hd' => ?_, fun j q d h1 h2 => ?_, x.lr, x.sl⟩, Ex.refl _, Pre.refl _, fun a u e m => ?_, fun a m => .inl m, fun a m => .inl m⟩
  · show upd w.H p o a = some u
    rw [upd_ne (ne_of_none e hB)]
    exact x.ex a u e
  · show upd w.H p o a ≠ Option.none
    by_cases z : a = p
    · subst z
      rw [upd_same]
      exact fun q => nomatch q
    · rw [upd_ne z]
      exact x.al a m
  · rw [List.length_set]
    exact x.ln
  · by_cases e : k = j
    · subst e
      rw [hk] at h1
      cases h1
      exact hB
    · rw [List.getElem?_set_ne e] at h2
      exact x.nb j q d h1 h2 hd'
  · by_cases e : k = j
    · subst e
      rw [hk] at h1
      cases h1
      have hl : k < G.length := (List.getElem?_eq_some_iff.mp hg).1
      rw [List.getElem?_set_self hl] at h2
      cases h2
      exact hc
    · rw [List.getElem?_set_ne e] at h2
      have : q ≠ p := fun z => e (nd_at x.nd hk (z ▸ h1))
      exact (x.cs j q d h1 h2).mono (Ex.refl _) (Pre.refl _) (upd_ne this)
  · show upd w.H p o a = some u
    rw [upd_ne (fun z : a = p => m (by rw [z]; exact mp))]
    exact e
end
end DL
/-! DB: what expressions, tests, statements do to data. -/
namespace DL
open PySem PySem.Spec PyProof.Rows L2

def Post (K : PySem.W.Frag) (w : Wd) (σ : St) (ρ : DEnv) (Q : D → Cells → Prop) (R : VK) : Prop :=
  ∀ v d w' G', Q d G' → Ok K w' G' σ ρ → Rep K w'.B w'.ps v d → Fut w w' → R v w'.H
theorem Post.later {K : PySem.W.Frag} {w w' : Wd} {σ : St} {ρ : DEnv} {Q : D → Cells → Prop} {R : VK} (p : Post K w σ ρ Q R) (f : Fut w w') : Post K w' σ ρ Q R :=
  fun v d w2 G2 q x r g => p v d w2 G2 q x r (f.trans g)
def WE (K : PySem.W.Frag) (te : TE) (ρ : DEnv) (G : Cells) (Q : D → Cells → Prop) : Prop :=
  ∀ w σ, Ok K w G σ ρ → ∀ R : VK, Post K w σ ρ Q R → te σ w.H R
def WT (K : PySem.W.Frag) (tt : TT) (ρ : DEnv) (G : Cells) (Q : Bool → Cells → Prop) : Prop :=
  ∀ w σ, Ok K w G σ ρ → ∀ R : Bool → Hp → Prop, (∀ b w' G', Q b G' → Ok K w' G' σ ρ → Fut w w' → R b w'.H) → tt σ w.H R
def WA (K : PySem.W.Frag) (ta : TA) (ρ : DEnv) (G : Cells) (Q : List D → Cells → Prop) : Prop :=
  ∀ w σ, Ok K w G σ ρ → ∀ R : List V → Hp → Prop, (∀ vs ds w' G', Q ds G' → Ok K w' G' σ ρ → Reps K w'.B w'.ps vs ds → Fut w w' → R vs w'.H) → ta σ w.H R
def WO (K : PySem.W.Frag) (to : TO) (ρ : DEnv) (G : Cells) (Q : Option Int → Cells → Prop) : Prop :=
  ∀ w σ, Ok K w G σ ρ → ∀ R : Option Int → Hp → Prop, (∀ b w' G', Q b G' → Ok K w' G' σ ρ → Fut w w' → R b w'.H) → to σ w.H R
structure EndsD where
  nx : DEnv → Cells → Prop
  rt : D → Cells → Prop
  bk : DEnv → Cells → Prop := fun _ _ => False
  ct : DEnv → Cells → Prop := fun _ _ => False
structure Lk (K : PySem.W.Frag) (w : Wd) (E : EndsD) (X : Ends) : Prop where
  nx : ∀ w' G' σ' ρ', E.nx ρ' G' → Ok K w' G' σ' ρ' → Fut w w' → X.nx σ' w'.H
  bk : ∀ w' G' σ' ρ', E.bk ρ' G' → Ok K w' G' σ' ρ' → Fut w w' → X.bk σ' w'.H
  ct : ∀ w' G' σ' ρ', E.ct ρ' G' → Ok K w' G' σ' ρ' → Fut w w' → X.ct σ' w'.H
  rt : ∀ v d w' G', E.rt d G' → Ok K w' G' [] [] → Rep K w'.B w'.ps v d → Fut w w' → X.rt v w'.H
theorem Lk.later {K : PySem.W.Frag} {w w' : Wd} {E : EndsD} {X : Ends} (l : Lk K w E X) (f : Fut w w') : Lk K w' E X :=
  ⟨fun a b c d e g h => l.nx a b c d e g (f.trans h), fun a b c d e g h => l.bk a b c d e g (f.trans h), fun a b c d e g h => l.ct a b c d e g (f.trans h), fun a b c d e g h i => l.rt a b c d e g h (f.trans i)⟩
def WS (K : PySem.W.Frag) (ts : TS) (ρ : DEnv) (G : Cells) (E : EndsD) : Prop :=
  ∀ w σ, Ok K w G σ ρ → ∀ X : Ends, Lk K w E X → ts X σ w.H
def WG (K : PySem.W.Frag) (g : TG) (d : D) (ρ : DEnv) (G : Cells) (Q : DEnv → Cells → Prop) : Prop :=
  ∀ w σ v, Ok K w G σ ρ → Rep K w.B w.ps v d → ∀ R : St → Hp → Prop, (∀ w' G' σ' ρ', Q ρ' G' → Ok K w' G' σ' ρ' → Fut w w' → R σ' w'.H) → g v σ w.H R
def WGs (K : PySem.W.Frag) (g : TGs) (ds : List D) (ρ : DEnv) (G : Cells) (Q : DEnv → Cells → Prop) : Prop :=
  ∀ w σ vs, Ok K w G σ ρ → Reps K w.B w.ps vs ds → ∀ R : St → Hp → Prop, (∀ w' G' σ' ρ', Q ρ' G' → Ok K w' G' σ' ρ' → Fut w w' → R σ' w'.H) → g vs σ w.H R
/-- a two-place operation on data, a one-place one, a call, a method, a slice -/
def RD (K : PySem.W.Frag) (r : R2) (x y : D) (G : Cells) (Q : D → Cells → Prop) : Prop :=
  ∀ w σ ρ, Ok K w G σ ρ → ∀ vx vy, Rep K w.B w.ps vx x → Rep K w.B w.ps vy y → ∀ R : VK, Post K w σ ρ Q R → r vx vy w.H R
def RU (K : PySem.W.Frag) (r : V → Hp → VK → Prop) (x : D) (G : Cells) (Q : D → Cells → Prop) : Prop :=
  ∀ w σ ρ, Ok K w G σ ρ → ∀ vx, Rep K w.B w.ps vx x → ∀ R : VK, Post K w σ ρ Q R → r vx w.H R
def RC (K : PySem.W.Frag) (r : List V → Hp → VK → Prop) (xs : List D) (G : Cells) (Q : D → Cells → Prop) : Prop :=
  ∀ w σ ρ, Ok K w G σ ρ → ∀ vs, Reps K w.B w.ps vs xs → ∀ R : VK, Post K w σ ρ Q R → r vs w.H R
def RM (K : PySem.W.Frag) (r : V → List V → Hp → VK → Prop) (x : D) (xs : List D) (G : Cells) (Q : D → Cells → Prop) : Prop :=
  ∀ w σ ρ, Ok K w G σ ρ → ∀ v vs, Rep K w.B w.ps v x → Reps K w.B w.ps vs xs → ∀ R : VK, Post K w σ ρ Q R → r v vs w.H R
def RS (K : PySem.W.Frag) (r : V → Option Int → Option Int → Hp → VK → Prop) (x : D) (lo hi : Option Int) (G : Cells) (Q : D → Cells → Prop) : Prop :=
  ∀ w σ ρ, Ok K w G σ ρ → ∀ v, Rep K w.B w.ps v x → ∀ R : VK, Post K w σ ρ Q R → r v lo hi w.H R

section
variable {K : PySem.W.Frag} {ρ : DEnv} {G : Cells} {Q : D → Cells → Prop} {ta tb tc te : TE} {x y d : D}
theorem Post.here {w : Wd} {σ : St} {R : VK} {v : V} (p : Post K w σ ρ Q R) (x : Ok K w G σ ρ) (q : Q d G) (r : Rep K w.B w.ps v d) : R v w.H := p v d w G q x r (Fut.refl w)
theorem we_var {i : Nat} (h : ρ[i]? = some (some d)) (q : Q d G) : WE K (tVar i) ρ G Q := fun w σ ok R p => by
  obtain ⟨v, e, r⟩ := ok.sl i d h
  exact ⟨v, e, p.here ok q r⟩
theorem we_int {i : Int} (q : Q (.int i) G) : WE K (tC (.int i)) ρ G Q := fun w σ ok R p => p.here ok q (.int i)
theorem we_bl {i : Bool} (q : Q (.bl i) G) : WE K (tC (.bl i)) ρ G Q := fun w σ ok R p => p.here ok q (.bl i)
theorem we_str {i : Str} (q : Q (.str i) G) : WE K (tC (.str i)) ρ G Q := fun w σ ok R p => p.here ok q (.str i)
theorem we_non (q : Q .non G) : WE K (tC .non) ρ G Q := fun w σ ok R p => p.here ok q .non
theorem we_ty {n : String} (q : Q (.ty n) G) : WE K (tC (.ty n)) ρ G Q := fun w σ ok R p => p.here ok q (.ty n)
theorem we_adr {a : Addr} (q : Q (.adr a) G) : WE K (tC (.ref a)) ρ G Q := fun w σ ok R p => p.here ok q (.adr a)
theorem we_op {r : R2} (h : WE K ta ρ G fun x G1 => WE K tb ρ G1 fun y G2 => RD K r x y G2 Q) : WE K (tOp r ta tb) ρ G Q := fun w σ ok R p =>
  h w σ ok _ fun v d w1 G1 q1 ok1 r1 f1 => q1 w1 σ ok1 _ fun u e w2 G2 q2 ok2 r2 f2 => q2 w2 σ ρ ok2 v u (r1.mono f2.b f2.p) r2 R (p.later (f1.trans f2))
theorem we_un {r : V → Hp → VK → Prop} (h : WE K ta ρ G fun x G1 => RU K r x G1 Q) : WE K (tUn r ta) ρ G Q := fun w σ ok R p =>
  h w σ ok _ fun v d w1 G1 q1 ok1 r1 f1 => q1 w1 σ ρ ok1 v r1 R (p.later f1)
theorem wa_nil {Q : List D → Cells → Prop} (q : Q [] G) : WA K tNil ρ G Q := fun w σ ok R p => p [] [] w G q ok .nil (Fut.refl w)
theorem wa_cons {ta : TE} {tr : TA} {Q : List D → Cells → Prop} (h : WE K ta ρ G fun x G1 => WA K tr ρ G1 fun xs G2 => Q (x :: xs) G2) : WA K (tCons ta tr) ρ G Q := fun w σ ok R p =>
  h w σ ok _ fun v d w1 G1 q1 ok1 r1 f1 => q1 w1 σ ok1 _ fun vs ds w2 G2 q2 ok2 r2 f2 => p (v :: vs) (d :: ds) w2 G2 q2 ok2 (.cons (r1.mono f2.b f2.p) r2) (f1.trans f2)
theorem we_cb {r : List V → Hp → VK → Prop} {t : TA} (h : WA K t ρ G fun xs G1 => RC K r xs G1 Q) : WE K (tCB r t) ρ G Q := fun w σ ok R p =>
  h w σ ok _ fun vs ds w1 G1 q1 ok1 r1 f1 => q1 w1 σ ρ ok1 vs r1 R (p.later f1)

/-! ### new lists and tuples -/
/-- a new list: frozen, or a cell -/
def Nw (Q : D → Cells → Prop) (ds : List D) (G : Cells) : Prop := Q (.lst ds) G ∨ Q (.ptr G.length) (G ++ [.lst ds])
theorem Nw.run {w : Wd} {σ : St} {R : VK} {vs : List V} {ds : List D} (n : Nw Q ds G) (p : Post K w σ ρ Q R) (ok : Ok K w G σ ρ) (r : Reps K w.B w.ps vs ds) : ∀ a, w.H a = none → R (.ref a) (upd w.H a (.lst vs)) := fun a ha => by
  rcases n with q | q
  · obtain ⟨ok1, f1⟩ := ok.cold (o := .lst vs) ha
    exact p (.ref a) (.lst ds) _ G q ok1 (.lst upd_same (r.mono f1.b f1.p)) f1
  · obtain ⟨ok1, f1⟩ := ok.hot (o := .lst vs) (c := .lst ds) ha ⟨vs, upd_same, r.mono (Ex.refl _) ⟨[a], rfl⟩⟩
    refine p (.ref a) (.ptr G.length) _ _ q ok1 (.ptr ?_) f1
    rw [List.getElem?_append_right (by rw [ok.ln]; exact Nat.le_refl _), ok.ln, Nat.sub_self]
    rfl
def NwT (Q : D → Cells → Prop) (ds : List D) (G : Cells) : Prop := Q (.tup ds) G
theorem NwT.run {w : Wd} {σ : St} {R : VK} {vs : List V} {ds : List D} (q : NwT Q ds G) (p : Post K w σ ρ Q R) (ok : Ok K w G σ ρ) (r : Reps K w.B w.ps vs ds) : ∀ a, w.H a = none → R (.ref a) (upd w.H a (.tup vs)) := fun a ha => by
  obtain ⟨ok1, f1⟩ := ok.cold (o := .tup vs) ha
  exact p (.ref a) (.tup ds) _ G q ok1 (.tup (SqT.of upd_same) (r.mono f1.b f1.p)) f1
theorem we_lst {t : TA} (h : WA K t ρ G fun ds G1 => ds.length ≤ sizeLine ∧ Nw Q ds G1) : WE K (tLst t) ρ G Q := fun w σ ok R p =>
  h w σ ok _ fun vs ds w1 G1 q1 ok1 r1 f1 => ⟨by rw [r1.length]; exact q1.1, q1.2.run (p.later f1) ok1 r1⟩
theorem we_tup {t : TA} (h : WA K t ρ G fun ds G1 => ds.length ≤ sizeLine ∧ Q (.tup ds) G1) : WE K (tTup t) ρ G Q := fun w σ ok R p =>
  h w σ ok _ fun vs ds w1 G1 q1 ok1 r1 f1 => ⟨by rw [r1.length]; exact q1.1, NwT.run q1.2 (p.later f1) ok1 r1⟩

/-! ### lists as they stand -/
/-- a list: frozen, or a cell -/
def IsL (G : Cells) (d : D) (ds : List D) : Prop := d = .lst ds ∨ ∃ k, d = .ptr k ∧ G[k]? = some (.lst ds)
/-- a list that is read -/
def IsR (G : Cells) (d : D) (ds : List D) : Prop := d = .ro ds ∨ IsL G d ds
/-- a list or a tuple that is read -/
def IsQ (G : Cells) (d : D) (ds : List D) : Prop := d = .tup ds ∨ IsR G d ds
theorem isL {ds : List D} : IsL G (.lst ds) ds := .inl rfl
theorem isLp {ds : List D} {k : Nat} (h : G[k]? = some (.lst ds)) : IsL G (.ptr k) ds := .inr ⟨k, rfl, h⟩
theorem isR {ds : List D} : IsR G (.lst ds) ds := .inr isL
theorem isRp {ds : List D} {k : Nat} (h : G[k]? = some (.lst ds)) : IsR G (.ptr k) ds := .inr (isLp h)
theorem isRo {ds : List D} : IsR G (.ro ds) ds := .inl rfl
theorem isQ {ds : List D} : IsQ G (.lst ds) ds := .inr isR
theorem isQp {ds : List D} {k : Nat} (h : G[k]? = some (.lst ds)) : IsQ G (.ptr k) ds := .inr (isRp h)
theorem isQt {ds : List D} : IsQ G (.tup ds) ds := .inl rfl
theorem isQo {ds : List D} : IsQ G (.ro ds) ds := .inr isRo
theorem Ok.isL {w : Wd} {σ : St} {ds : List D} {v : V} (ok : Ok K w G σ ρ) (h : IsL G d ds) (r : Rep K w.B w.ps v d) : ∃ a vs, v = .ref a ∧ w.H a = some (.lst vs) ∧ Reps K w.B w.ps vs ds := by
  rcases h with rfl | ⟨k, rfl, hk⟩
  · cases r with
    | lst h r => exact ⟨_, _, rfl, ok.ex _ _ h, r⟩
  · cases r with
    | ptr h =>
      obtain ⟨vs, e, r⟩ := ok.cs k _ _ h hk
      exact ⟨_, vs, rfl, e, r⟩
theorem Ok.isR {w : Wd} {σ : St} {ds : List D} {v : V} (ok : Ok K w G σ ρ) (h : IsR G d ds) (r : Rep K w.B w.ps v d) : ∃ a vs, v = .ref a ∧ SqL K w.H a vs ∧ Reps K w.B w.ps vs ds := by
  rcases h with rfl | h
  · cases r with
    | ro h r => exact ⟨_, _, rfl, ok.ex.sl h, r⟩
  · obtain ⟨a, vs, e, h, r⟩ := ok.isL h r
    exact ⟨a, vs, e, .inl (.inl h), r⟩
theorem Ok.isT {w : Wd} {σ : St} {ds : List D} {v : V} (ok : Ok K w G σ ρ) (r : Rep K w.B w.ps v (.tup ds)) : ∃ a vs, v = .ref a ∧ SqT K w.H a vs ∧ Reps K w.B w.ps vs ds := by
  cases r with
  | tup h r => exact ⟨_, _, rfl, ok.ex.st h, r⟩
theorem Ok.isQ {w : Wd} {σ : St} {ds : List D} {v : V} (ok : Ok K w G σ ρ) (h : IsQ G d ds) (r : Rep K w.B w.ps v d) : ∃ a vs, v = .ref a ∧ (SqL K w.H a vs ∨ SqT K w.H a vs) ∧ Reps K w.B w.ps vs ds := by
  rcases h with rfl | h
  · obtain ⟨a, vs, e, h, r⟩ := ok.isT r
    exact ⟨a, vs, e, .inr h, r⟩
  · obtain ⟨a, vs, e, h, r⟩ := ok.isR h r
    exact ⟨a, vs, e, .inl h, r⟩

/-! ### operators -/
theorem rd_I0 {g : Int → Int → V} {i j : Int} {z : D} (hz : ∀ B ps, Rep K B ps (g i j) z) (q : Q z G) : RD K (rI0 g) (.int i) (.int j) G Q := fun w σ ρ ok vx vy rx ry R p => by
  cases rx
  cases ry
  exact ⟨i, j, rfl, rfl, p.here ok q (hz _ _)⟩
theorem rd_I {C : Int → Int → Prop} {g : Int → Int → V} {i j : Int} {z : D} (hz : ∀ B ps, Rep K B ps (g i j) z) (hc : C i j) (q : Q z G) : RD K (rI C g) (.int i) (.int j) G Q := fun w σ ρ ok vx vy rx ry R p => by
  cases rx
  cases ry
  exact ⟨i, j, rfl, rfl, hc, p.here ok q (hz _ _)⟩
theorem rd_add {i j : Int} (q : Q (.int (i + j)) G) : RD K (rI0 fun i j => .int (i + j)) (.int i) (.int j) G Q := rd_I0 (fun _ _ => .int _) q
theorem rd_sub {i j : Int} (q : Q (.int (i - j)) G) : RD K (rI0 fun i j => .int (i - j)) (.int i) (.int j) G Q := rd_I0 (fun _ _ => .int _) q
theorem rd_mul {i j : Int} (hc : CMul i j) (q : Q (.int (i * j)) G) : RD K (rI CMul fun i j => .int (i * j)) (.int i) (.int j) G Q := rd_I (fun _ _ => .int _) hc q
theorem rd_fdiv {i j : Int} (hc : CDiv i j) (q : Q (.int (i / j)) G) : RD K (rI CDiv fun i j => .int (i / j)) (.int i) (.int j) G Q := rd_I (fun _ _ => .int _) hc q
theorem rd_mod {i j : Int} (hc : 0 < j) (q : Q (.int (i % j)) G) : RD K (rI (fun _ j => 0 < j) fun i j => .int (i % j)) (.int i) (.int j) G Q := rd_I (fun _ _ => .int _) hc q
theorem rd_pow {i j : Int} (hc : CPow i j) (q : Q (.int (i ^ j.toNat)) G) : RD K (rI CPow fun i j => .int (i ^ j.toNat)) (.int i) (.int j) G Q := rd_I (fun _ _ => .int _) hc q
theorem rd_lt {i j : Int} (q : Q (.bl (decide (i < j))) G) : RD K (rI0 fun i j => .bl (decide (i < j))) (.int i) (.int j) G Q := rd_I0 (fun _ _ => .bl _) q
theorem rd_le {i j : Int} (q : Q (.bl (decide (i ≤ j))) G) : RD K (rI0 fun i j => .bl (decide (i ≤ j))) (.int i) (.int j) G Q := rd_I0 (fun _ _ => .bl _) q
theorem rd_gt {i j : Int} (q : Q (.bl (decide (j < i))) G) : RD K (rI0 fun i j => .bl (decide (j < i))) (.int i) (.int j) G Q := rd_I0 (fun _ _ => .bl _) q
theorem rd_ge {i j : Int} (q : Q (.bl (decide (j ≤ i))) G) : RD K (rI0 fun i j => .bl (decide (j ≤ i))) (.int i) (.int j) G Q := rd_I0 (fun _ _ => .bl _) q
theorem ru_neg {i : Int} (q : Q (.int (-i)) G) : RU K (rU fun i => .int (-i)) (.int i) G Q := fun w σ ρ ok vx rx R p => by
  cases rx
  exact ⟨i, rfl, p.here ok q (.int _)⟩
theorem dV_int {i j : Int} : decide (V.int i = V.int j) = decide (i = j) := by
  by_cases e : i = j
  · subst e; simp
  · have : ¬ V.int i = V.int j := fun z => e (V.int.inj z)
    rw [decide_eq_false e, decide_eq_false this]
theorem dV_str {i j : Str} : decide (V.str i = V.str j) = decide (i = j) := by
  by_cases e : i = j
  · subst e; simp
  · have : ¬ V.str i = V.str j := fun z => e (V.str.inj z)
    rw [decide_eq_false e, decide_eq_false this]
theorem dV_bl {i j : Bool} : decide (V.bl i = V.bl j) = decide (i = j) := by
  by_cases e : i = j
  · subst e; simp
  · have : ¬ V.bl i = V.bl j := fun z => e (V.bl.inj z)
    rw [decide_eq_false e, decide_eq_false this]
theorem rd_eqI {i j : Int} (q : Q (.bl (decide (i = j))) G) : RD K rEq (.int i) (.int j) G Q := fun w σ ρ ok vx vy rx ry R p => by
  cases rx
  cases ry
  exact ⟨rfl, by rw [dV_int]; exact p.here ok q (.bl _)⟩
theorem rd_neI {i j : Int} (q : Q (.bl (!decide (i = j))) G) : RD K rNe (.int i) (.int j) G Q := fun w σ ρ ok vx vy rx ry R p => by
  cases rx
  cases ry
  exact ⟨rfl, by rw [dV_int]; exact p.here ok q (.bl _)⟩
theorem rd_eqS {i j : Str} (q : Q (.bl (decide (i = j))) G) : RD K rEq (.str i) (.str j) G Q := fun w σ ρ ok vx vy rx ry R p => by
  cases rx
  cases ry
  exact ⟨rfl, by rw [dV_str]; exact p.here ok q (.bl _)⟩
theorem rd_neS {i j : Str} (q : Q (.bl (!decide (i = j))) G) : RD K rNe (.str i) (.str j) G Q := fun w σ ρ ok vx vy rx ry R p => by
  cases rx
  cases ry
  exact ⟨rfl, by rw [dV_str]; exact p.here ok q (.bl _)⟩
theorem rd_eqB {i j : Bool} (q : Q (.bl (decide (i = j))) G) : RD K rEq (.bl i) (.bl j) G Q := fun w σ ρ ok vx vy rx ry R p => by
  cases rx
  cases ry
  exact ⟨rfl, by rw [dV_bl]; exact p.here ok q (.bl _)⟩
theorem rd_neB {i j : Bool} (q : Q (.bl (!decide (i = j))) G) : RD K rNe (.bl i) (.bl j) G Q := fun w σ ρ ok vx vy rx ry R p => by
  cases rx
  cases ry
  exact ⟨rfl, by rw [dV_bl]; exact p.here ok q (.bl _)⟩
def isNonD : D → Bool
  | .non => true
  | _ => false
theorem dec_nonD {B : Hp} {ps : List Addr} {v : V} (r : Rep K B ps v d) : decide (v = .non) = isNonD d := by
  cases r <;> first | rfl | (apply decide_eq_false; intro z; cases z)
theorem rd_isN (q : Q (.bl (isNonD x)) G) : RD K (fun x y H Q => y = .non ∧ Q (.bl (decide (x = .non))) H) x .non G Q := fun w σ ρ ok vx vy rx ry R p => by
  cases ry
  exact ⟨rfl, by rw [dec_nonD rx]; exact p.here ok q (.bl _)⟩
theorem rd_notN (q : Q (.bl (!isNonD x)) G) : RD K (fun x y H Q => y = .non ∧ Q (.bl (!decide (x = .non))) H) x .non G Q := fun w σ ρ ok vx vy rx ry R p => by
  cases ry
  exact ⟨rfl, by rw [dec_nonD rx]; exact p.here ok q (.bl _)⟩
theorem rd_addS {i j : Str} (hl : i.length + j.length ≤ sizeLine) (q : Q (.str (i ++ j)) G) : RD K (fun x y H Q => ∃ i j, x = .str i ∧ y = .str j ∧ i.length + j.length ≤ sizeLine ∧ Q (.str (i ++ j)) H) (.str i) (.str j) G Q := fun w σ ρ ok vx vy rx ry R p => by
  cases rx
  cases ry
  exact ⟨i, j, rfl, rfl, hl, p.here ok q (.str _)⟩
theorem rd_leS {i j : Str} (q : Q (.bl (!decide (j.cps.toList < i.cps.toList))) G) : RD K (fun x y H Q => ∃ i j, x = .str i ∧ y = .str j ∧ Q (.bl (!decide (j.cps.toList < i.cps.toList))) H) (.str i) (.str j) G Q := fun w σ ρ ok vx vy rx ry R p => by
  cases rx
  cases ry
  exact ⟨i, j, rfl, rfl, p.here ok q (.bl _)⟩
theorem rd_cat {xs ys : List D} (hx : IsL G x xs) (hy : IsL G y ys) (hl : xs.length + ys.length ≤ sizeLine) (q : Nw Q (xs ++ ys) G) : RD K rCat x y G Q := fun w σ ρ ok vx vy rx ry R p => by
  obtain ⟨a, vs, rfl, ha, r1⟩ := ok.isL hx rx
  obtain ⟨b, us, rfl, hb, r2⟩ := ok.isL hy ry
  exact ⟨a, b, vs, us, rfl, rfl, ha, hb, by rw [r1.length, r2.length]; exact hl, q.run p ok (r1.append r2)⟩
theorem rd_rep {xs : List D} {k : Int} (hx : IsL G x xs) (h1 : -(2 ^ 63) ≤ k) (h2 : k < 2 ^ 63) (hl : xs.length * k.toNat ≤ sizeLine) (q : Nw Q (List.replicate k.toNat xs).flatten G) : RD K rRep x (.int k) G Q := fun w σ ρ ok vx vy rx ry R p => by
  obtain ⟨a, vs, rfl, ha, r1⟩ := ok.isL hx rx
  cases ry
  exact ⟨a, k, vs, rfl, rfl, ha, h1, h2, by rw [r1.length]; exact hl, q.run p ok r1.flat⟩
theorem rd_catT {xs ys : List D} (hx : xs ≠ []) (hy : ys ≠ []) (hl : xs.length + ys.length ≤ sizeLine) (q : Q (.tup (xs ++ ys)) G) : RD K (rCatT K) (.tup xs) (.tup ys) G Q := fun w σ ρ ok vx vy rx ry R p => by
  obtain ⟨a, vs, rfl, ha, r1⟩ := ok.isT rx
  obtain ⟨b, us, rfl, hb, r2⟩ := ok.isT ry
  refine ⟨a, b, vs, us, rfl, rfl, ha, hb, fun z => hx ?_, by rw [r1.length, r2.length]; exact hl, fun z => absurd ?_ hy, fun _ => NwT.run q p ok (r1.append r2)⟩
  · have := r1.length
    rw [z] at this
    exact List.eq_nil_of_length_eq_zero this.symm
  · have := r2.length
    rw [z] at this
    exact List.eq_nil_of_length_eq_zero this.symm
theorem rd_ltT {ns ms : List Int} (q : Q (.bl (HT.lexLt ns ms)) G) : RD K (rLtT K) (.tup (ns.map D.int)) (.tup (ms.map D.int)) G Q := fun w σ ρ ok vx vy rx ry R p => by
  obtain ⟨a, vs, rfl, ha, r1⟩ := ok.isT rx
  obtain ⟨b, us, rfl, hb, r2⟩ := ok.isT ry
  rw [r1.ints] at ha
  rw [r2.ints] at hb
  exact ⟨a, b, ns, ms, rfl, rfl, ha, hb, p.here ok q (.bl _)⟩
theorem ixN_len {α β : Type} {l : List α} {m : List β} (h : l.length = m.length) (i : Int) : ixN l.length i = ixN m.length i := by rw [h]
theorem Reps.atI {B : Hp} {ps : List Addr} {vs : List V} {ds : List D} {i : Int} (r : Reps K B ps vs ds) (h : L2.atI ds i = some d) : ∃ v, L2.atI vs i = some v ∧ Rep K B ps v d := by
  unfold L2.atI at h ⊢
  rw [r.length]
  cases e : ixN ds.length i with
  | none =>
    rw [e] at h
    cases h
  | some j =>
    rw [e] at h
    obtain ⟨v, h1, h2⟩ := r.get (i := j) h
    exact ⟨v, h1, h2⟩
theorem rd_ixL {ds : List D} {i : Int} (hx : IsR G x ds) (h : atI ds i = some d) (q : Q d G) : RD K (rIxL K) x (.int i) G Q := fun w σ ρ ok vx vy rx ry R p => by
  obtain ⟨a, vs, rfl, ha, r1⟩ := ok.isR hx rx
  cases ry
  obtain ⟨v, e, rv⟩ := r1.atI h
  exact ⟨a, vs, i, v, rfl, rfl, ha, e, p.here ok q rv⟩
theorem rd_ixT {ds : List D} {i : Int} (h : atI ds i = some d) (q : Q d G) : RD K (rIxT K) (.tup ds) (.int i) G Q := fun w σ ρ ok vx vy rx ry R p => by
  obtain ⟨a, vs, rfl, ha, r1⟩ := ok.isT rx
  cases ry
  obtain ⟨v, e, rv⟩ := r1.atI h
  exact ⟨a, vs, i, v, rfl, rfl, ha, e, p.here ok q rv⟩
theorem rd_ixS {z : Str} {i : Int} {c : Nat} (hl : z.length ≤ sizeLine) (h : atI z.cps.toList i = some c) (q : Q (.str ⟨#[c]⟩) G) : RD K rIxS (.str z) (.int i) G Q := fun w σ ρ ok vx vy rx ry R p => by
  cases rx
  cases ry
  exact ⟨z, i, c, rfl, rfl, hl, h, p.here ok q (.str _)⟩

/-! ### slices -/
theorem wo_none {Q : Option Int → Cells → Prop} (q : Q none G) : WO K tNoPart ρ G Q := fun w σ ok R p => p none w G q ok (Fut.refl w)
theorem wo_some {Q : Option Int → Cells → Prop} (h : WE K te ρ G fun d G1 => ∃ i, d = .int i ∧ Q (some i) G1) : WO K (tPart te) ρ G Q := fun w σ ok R p =>
  h w σ ok _ fun v d w1 G1 ⟨i, e, q⟩ ok1 r1 f1 => by
    subst e
    cases r1
    exact ⟨i, rfl, p (some i) w1 G1 q ok1 f1⟩
theorem we_sl {r : V → Option Int → Option Int → Hp → VK → Prop} {tl th : TO} (h : WE K te ρ G fun x G1 => WO K tl ρ G1 fun lo G2 => WO K th ρ G2 fun hi G3 => RS K r x lo hi G3 Q) : WE K (tSl r te tl th) ρ G Q := fun w σ ok R p =>
  h w σ ok _ fun v d w1 G1 q1 ok1 r1 f1 => q1 w1 σ ok1 _ fun lo w2 G2 q2 ok2 f2 => q2 w2 σ ok2 _ fun hi w3 G3 q3 ok3 f3 =>
    q3 w3 σ ρ ok3 v ((r1.mono f2.b f2.p).mono f3.b f3.p) R (p.later ((f1.trans f2).trans f3))
theorem Reps.cut {B : Hp} {ps : List Addr} {vs : List V} {ds : List D} {lo hi : Option Int} (r : Reps K B ps vs ds) : Reps K B ps (cutV vs lo hi) ((ds.drop (HT.sIx ds.length 0 lo)).take (HT.sIx ds.length ds.length hi - HT.sIx ds.length 0 lo)) := by
  unfold cutV
  rw [r.length]
  exact (r.drop _).take _
def cutD (ds : List D) (lo hi : Option Int) : List D := (ds.drop (HT.sIx ds.length 0 lo)).take (HT.sIx ds.length ds.length hi - HT.sIx ds.length 0 lo)
theorem rs_L {ds : List D} {lo hi : Option Int} (hx : IsR G x ds) (q : Nw Q (cutD ds lo hi) G) : RS K (rSlL K) x lo hi G Q := fun w σ ρ ok vx rx R p => by
  obtain ⟨a, vs, rfl, ha, r1⟩ := ok.isR hx rx
  exact ⟨a, vs, rfl, ha, q.run p ok r1.cut⟩
theorem rs_S {z : Str} {lo hi : Option Int} (hl : z.length ≤ sizeLine) (q : Q (.str (cutS z lo hi)) G) : RS K rSlS (.str z) lo hi G Q := fun w σ ρ ok vx rx R p => by
  cases rx
  exact ⟨z, rfl, hl, p.here ok q (.str _)⟩

/-! ### tests -/
variable {QT : Bool → Cells → Prop} {tA tB' : TT}
theorem wt_test (h : WE K te ρ G fun d G1 => ∃ b, d = .bl b ∧ QT b G1) : WT K (tTest te) ρ G QT := fun w σ ok R p =>
  h w σ ok _ fun v d w1 G1 ⟨b, e, q⟩ ok1 r1 f1 => by
    subst e
    cases r1
    exact ⟨b, rfl, p b w1 G1 q ok1 f1⟩
theorem wt_B (h : WE K te ρ G fun d G1 => ∃ b, d = .bl b ∧ QT b G1) : WT K (L2.tB te) ρ G QT := wt_test h
theorem wt_not (h : WT K tA ρ G fun b G1 => QT (!b) G1) : WT K (tNot tA) ρ G QT := fun w σ ok R p => h w σ ok _ fun b w1 G1 q ok1 f1 => p (!b) w1 G1 q ok1 f1
theorem wt_and (h : WT K tA ρ G fun b G1 => if b = true then WT K tB' ρ G1 QT else QT false G1) : WT K (tAnd tA tB') ρ G QT := fun w σ ok R p =>
  h w σ ok _ fun b w1 G1 q ok1 f1 => by
    cases b with
    | true => exact (show WT K tB' ρ G1 QT from q) w1 σ ok1 _ fun c w2 G2 q2 ok2 f2 => p c w2 G2 q2 ok2 (f1.trans f2)
    | false => exact p false w1 G1 q ok1 f1
theorem wt_or (h : WT K tA ρ G fun b G1 => if b = true then QT true G1 else WT K tB' ρ G1 QT) : WT K (tOr tA tB') ρ G QT := fun w σ ok R p =>
  h w σ ok _ fun b w1 G1 q ok1 f1 => by
    cases b with
    | true => exact p true w1 G1 q ok1 f1
    | false => exact (show WT K tB' ρ G1 QT from q) w1 σ ok1 _ fun c w2 G2 q2 ok2 f2 => p c w2 G2 q2 ok2 (f1.trans f2)
theorem we_if (h : WT K tA ρ G fun b G1 => if b = true then WE K ta ρ G1 Q else WE K tb ρ G1 Q) : WE K (tIf tA ta tb) ρ G Q := fun w σ ok R p =>
  h w σ ok _ fun b w1 G1 q ok1 f1 => by
    cases b with
    | true => exact (show WE K ta ρ G1 Q from q) w1 σ ok1 _ (p.later f1)
    | false => exact (show WE K tb ρ G1 Q from q) w1 σ ok1 _ (p.later f1)
theorem we_andV (h : WE K ta ρ G fun d G1 => ∃ b, d = .bl b ∧ if b = true then WE K tb ρ G1 Q else Q (.bl false) G1) : WE K (tAndV ta tb) ρ G Q := fun w σ ok R p =>
  h w σ ok _ fun v d w1 G1 ⟨b, e, q⟩ ok1 r1 f1 => by
    subst e
    cases r1
    refine ⟨b, rfl, ?_⟩
    cases b with
    | true => exact (show WE K tb ρ G1 Q from q) w1 σ ok1 _ (p.later f1)
    | false => exact (p.later f1).here ok1 (show Q (.bl false) G1 from q) (.bl false)
theorem we_orV (h : WE K ta ρ G fun d G1 => ∃ b, d = .bl b ∧ if b = true then Q (.bl true) G1 else WE K tb ρ G1 Q) : WE K (tOrV ta tb) ρ G Q := fun w σ ok R p =>
  h w σ ok _ fun v d w1 G1 ⟨b, e, q⟩ ok1 r1 f1 => by
    subst e
    cases r1
    refine ⟨b, rfl, ?_⟩
    cases b with
    | true => exact (p.later f1).here ok1 (show Q (.bl true) G1 from q) (.bl true)
    | false => exact (show WE K tb ρ G1 Q from q) w1 σ ok1 _ (p.later f1)
theorem we_notV (h : WE K ta ρ G fun d G1 => ∃ b, d = .bl b ∧ Q (.bl (!b)) G1) : WE K (tNotV ta) ρ G Q := fun w σ ok R p =>
  h w σ ok _ fun v d w1 G1 ⟨b, e, q⟩ ok1 r1 f1 => by
    subst e
    cases r1
    exact ⟨b, rfl, (p.later f1).here ok1 q (.bl _)⟩
theorem we_chain {r r' : R2} (h : WE K ta ρ G fun x G1 => WE K tb ρ G1 fun y G2 => RD K r x y G2 fun z G3 => ∃ k, z = .bl k ∧ if k = true then WE K tc ρ G3 fun u G4 => RD K r' y u G4 Q else Q (.bl false) G3) : WE K (tChain r r' ta tb tc) ρ G Q := fun w σ ok R p =>
  h w σ ok _ fun v d w1 G1 q1 ok1 r1 f1 => q1 w1 σ ok1 _ fun u e w2 G2 q2 ok2 r2 f2 => q2 w2 σ ρ ok2 v u (r1.mono f2.b f2.p) r2 _ fun z dz w3 G3 ⟨k, ez, q3⟩ ok3 r3 f3 => by
    subst ez
    cases r3
    refine ⟨k, rfl, ?_⟩
    cases k with
    | true => exact (show WE K tc ρ G3 _ from q3) w3 σ ok3 _ fun c dc w4 G4 q4 ok4 r4 f4 => q4 w4 σ ρ ok4 u c ((r2.mono f3.b f3.p).mono f4.b f4.p) r4 R (p.later (((f1.trans f2).trans f3).trans f4))
    | false => exact (p.later ((f1.trans f2).trans f3)).here ok3 (show Q (.bl false) G3 from q3) (.bl false)

/-! ### statements -/
variable {nx bk ct : DEnv → Cells → Prop} {rt : D → Cells → Prop} {E : EndsD} {ts tu : TS} {g : TG}
theorem ws_next (q : nx ρ G) : WS K tNext ρ G ⟨nx, rt, bk, ct⟩ := fun w σ ok X l => l.nx w G σ ρ q ok (Fut.refl w)
theorem ws_break (q : bk ρ G) : WS K tBreak ρ G ⟨nx, rt, bk, ct⟩ := fun w σ ok X l => l.bk w G σ ρ q ok (Fut.refl w)
theorem ws_cont (q : ct ρ G) : WS K tCont ρ G ⟨nx, rt, bk, ct⟩ := fun w σ ok X l => l.ct w G σ ρ q ok (Fut.refl w)
theorem ws_seq (h : WS K ts ρ G ⟨fun ρ' G' => WS K tu ρ' G' ⟨nx, rt, bk, ct⟩, rt, bk, ct⟩) : WS K (tSeq ts tu) ρ G ⟨nx, rt, bk, ct⟩ := fun w σ ok X l =>
  h w σ ok { X with nx := tu X } ⟨fun w1 G1 σ1 ρ1 q ok1 f1 => q w1 σ1 ok1 X (l.later f1), l.bk, l.ct, l.rt⟩
theorem ws_asg (h : WE K te ρ G fun d G1 => WG K g d ρ G1 nx) : WS K (tAsg te g) ρ G ⟨nx, rt, bk, ct⟩ := fun w σ ok X l =>
  h w σ ok _ fun v d w1 G1 q ok1 r1 f1 => q w1 σ v ok1 r1 _ fun w2 G2 σ2 ρ2 q2 ok2 f2 => l.nx w2 G2 σ2 ρ2 q2 ok2 (f1.trans f2)
theorem ws_drop (h : WE K te ρ G fun _ G1 => nx ρ G1) : WS K (tDrop te) ρ G ⟨nx, rt, bk, ct⟩ := fun w σ ok X l =>
  h w σ ok _ fun v d w1 G1 q ok1 r1 f1 => l.nx w1 G1 σ ρ q ok1 f1
theorem ws_ret (h : WE K te ρ G rt) : WS K (tRet te) ρ G ⟨nx, rt, bk, ct⟩ := fun w σ ok X l =>
  h w σ ok _ fun v d w1 G1 q ok1 r1 f1 => l.rt v d w1 G1 q ok1.none r1 f1
theorem ws_retN (q : rt .non G) : WS K tRetN ρ G ⟨nx, rt, bk, ct⟩ := fun w σ ok X l => l.rt .non .non w G q ok.none .non (Fut.refl w)
theorem ws_if {c : TT} (h : WT K c ρ G fun b G1 => if b = true then WS K ts ρ G1 E else WS K tu ρ G1 E) : WS K (tIfS c ts tu) ρ G E := fun w σ ok X l =>
  h w σ ok _ fun b w1 G1 q ok1 f1 => by
    cases b with
    | true => exact (show WS K ts ρ G1 E from q) w1 σ ok1 X (l.later f1)
    | false => exact (show WS K tu ρ G1 E from q) w1 σ ok1 X (l.later f1)
theorem wg_name {i : Nat} {Q : DEnv → Cells → Prop} (q : Q (ρ.set i (some d)) G) : WG K (gName i) d ρ G Q := fun w σ v ok r R p => p w G _ _ q (ok.set r) (Fut.refl w)
theorem wgs_nil {Q : DEnv → Cells → Prop} (q : Q ρ G) : WGs K gNil [] ρ G Q := fun w σ vs ok r R p => by
  cases r
  exact ⟨rfl, p w G σ ρ q ok (Fut.refl w)⟩
theorem wgs_cons {u : TGs} {ds : List D} {Q : DEnv → Cells → Prop} (h : WG K g d ρ G fun ρ1 G1 => WGs K u ds ρ1 G1 Q) : WGs K (gCons g u) (d :: ds) ρ G Q := fun w σ vs ok r R p => by
  cases r with
  | cons r1 rr => exact ⟨_, _, rfl, h w σ _ ok r1 _ fun w1 G1 σ1 ρ1 q ok1 f1 => q w1 σ1 _ ok1 (rr.mono f1.b f1.p) _ fun w2 G2 σ2 ρ2 q2 ok2 f2 => p w2 G2 σ2 ρ2 q2 ok2 (f1.trans f2)⟩
theorem wg_tup {n : Nat} {u : TGs} {ds : List D} {Q : DEnv → Cells → Prop} (hn : ds.length = n) (h : WGs K u ds ρ G Q) : WG K (gTup K n u) (.tup ds) ρ G Q := fun w σ v ok r R p => by
  obtain ⟨a, vs, rfl, ha, r1⟩ := ok.isT r
  exact ⟨a, vs, rfl, ha, by rw [r1.length]; exact hn, h w σ vs ok r1 R p⟩
theorem ws_par {i j : Nat} {t : TA} (h : WA K t ρ G fun ds G1 => ∃ a b, ds = [a, b] ∧ nx ((ρ.set i (some a)).set j (some b)) G1) : WS K (tPar i j t) ρ G ⟨nx, rt, bk, ct⟩ := fun w σ ok X l =>
  h w σ ok _ fun vs ds w1 G1 ⟨a, b, e, q⟩ ok1 r1 f1 => by
    subst e
    cases r1 with
    | cons h1 r =>
      cases r with
      | cons h2 r =>
        cases r
        exact ⟨_, _, rfl, l.nx w1 G1 _ _ q ((ok1.set h1).set h2) f1⟩
theorem ws_augI {i : Nat} {f : Int → Int → Int} {a : Int} (h : ρ[i]? = some (some (.int a))) (hh : WE K te ρ G fun d G1 => ∃ b, d = .int b ∧ nx (ρ.set i (some (.int (f a b)))) G1) : WS K (tAug i te (ipI f)) ρ G ⟨nx, rt, bk, ct⟩ := fun w σ ok X l => by
  obtain ⟨v, e, r⟩ := ok.sl i _ h
  cases r
  refine ⟨.int a, e, hh w σ ok _ fun v d w1 G1 ⟨b, e1, q⟩ ok1 r1 f1 => ?_⟩
  subst e1
  cases r1
  exact ⟨a, b, rfl, rfl, l.nx w1 G1 _ _ q (ok1.set (.int _)) f1⟩
end
end DL
/-! DC: what is walked; loops; comprehensions; calls; built-ins. -/
namespace DL
open PySem PySem.Spec PyProof.Rows L2

/-- the iterator J yields the items ds, as long as the cells are S -/
structure Seq (K : PySem.W.Frag) (w : Wd) (J : It) (ds : List D) (S : Cells → Prop) : Prop where
  go : ∀ w' G σ ρ i, Fut w w' → Ok K w' G σ ρ → S G → i < ds.length → J.go i w'.H
  stop : ∀ w' G σ ρ, Fut w w' → Ok K w' G σ ρ → S G → J.stop ds.length w'.H
  yld : ∀ w' G σ ρ i d x H', Fut w w' → Ok K w' G σ ρ → S G → ds[i]? = some d → J.yld i w'.H x H' → ∃ w2, w2.H = H' ∧ Ok K w2 G σ ρ ∧ Fut w' w2 ∧ Rep K w2.B w2.ps x d
def WI (K : PySem.W.Frag) (wi : TI) (ρ : DEnv) (G : Cells) (Q : List D → (Cells → Prop) → Cells → Prop) : Prop :=
  ∀ w σ, Ok K w G σ ρ → ∀ R : It → Hp → Prop, (∀ J ds S w' G', Q ds S G' → Seq K w' J ds S → Ok K w' G' σ ρ → Fut w w' → R J w'.H) → wi σ w.H R
section
variable {K : PySem.W.Frag} {ρ : DEnv} {G : Cells} {ta tb tc te : TE} {x y d : D} {Q : List D → (Cells → Prop) → Cells → Prop}
theorem wi_list {tl : TE} (h : WE K tl ρ G fun d G1 => ∃ ds, IsR G1 d ds ∧ Q ds (fun G => IsR G d ds) G1) : WI K (iList K tl) ρ G Q := fun w σ ok R p =>
  h w σ ok _ fun v d w1 G1 ⟨ds, hd, q⟩ ok1 r1 f1 => by
    obtain ⟨a, vs, rfl, ha, rs⟩ := ok1.isR hd r1
    refine ⟨a, rfl, ⟨vs, ha⟩, p _ ds _ w1 G1 q ⟨fun w' G' σ' ρ' i f ok s hi => ?_, fun w' G' σ' ρ' f ok s => ?_, fun w' G' σ' ρ' i e x H' f ok s hi y => ?_⟩ ok1 f1⟩
    · obtain ⟨a', us, e1, h1, r1'⟩ := ok.isR s (r1.mono f.b f.p)
      cases e1
      have hl : i < us.length := by rw [r1'.length]; exact hi
      exact ⟨us, us[i], h1, by simp [hl]⟩
    · obtain ⟨a', us, e1, h1, r1'⟩ := ok.isR s (r1.mono f.b f.p)
      cases e1
      exact ⟨us, h1, by rw [r1'.length]; exact Nat.le_refl _⟩
    · obtain ⟨a', us, e1, h1, r1'⟩ := ok.isR s (r1.mono f.b f.p)
      cases e1
      obtain ⟨v, hv, rv⟩ := r1'.get hi
      obtain ⟨rfl, y⟩ := y
      have := y us h1
      rw [hv] at this
      cases this
      exact ⟨w', rfl, ok, Fut.refl _, rv⟩
theorem wi_tup {tl : TE} (h : WE K tl ρ G fun d G1 => ∃ ds, d = .tup ds ∧ Q ds (fun _ => True) G1) : WI K (iTup K tl) ρ G Q := fun w σ ok R p =>
  h w σ ok _ fun v d w1 G1 ⟨ds, hd, q⟩ ok1 r1 f1 => by
    subst hd
    obtain ⟨a, vs, rfl, ha, rs⟩ := ok1.isT r1
    refine ⟨a, rfl, ⟨vs, ha⟩, p _ ds _ w1 G1 q ⟨fun w' G' σ' ρ' i f ok s hi => ?_, fun w' G' σ' ρ' f ok s => ?_, fun w' G' σ' ρ' i e x H' f ok s hi y => ?_⟩ ok1 f1⟩
    · obtain ⟨a', us, e1, h1, r1'⟩ := ok.isT (r1.mono f.b f.p)
      cases e1
      have hl : i < us.length := by rw [r1'.length]; exact hi
      exact ⟨us, us[i], h1, by simp [hl]⟩
    · obtain ⟨a', us, e1, h1, r1'⟩ := ok.isT (r1.mono f.b f.p)
      cases e1
      exact ⟨us, h1, by rw [r1'.length]; exact Nat.le_refl _⟩
    · obtain ⟨a', us, e1, h1, r1'⟩ := ok.isT (r1.mono f.b f.p)
      cases e1
      obtain ⟨v, hv, rv⟩ := r1'.get hi
      obtain ⟨rfl, y⟩ := y
      have := y us h1
      rw [hv] at this
      cases this
      exact ⟨w', rfl, ok, Fut.refl _, rv⟩
/-- lo, lo + 1, .. -/
def rgD (lo : Int) (n : Nat) : List D := (List.range n).map fun i => D.int (lo + (i : Nat))
theorem rgD_len (lo : Int) (n : Nat) : (rgD lo n).length = n := by unfold rgD; rw [List.length_map, List.length_range]
theorem rgD_get {lo : Int} {n i : Nat} (h : i < n) : (rgD lo n)[i]? = some (.int (lo + (i : Nat))) := by
  unfold rgD
  rw [List.getElem?_map, List.getElem?_range h]
  rfl
theorem rgD_get' {lo : Int} {n i : Nat} {d : D} (h : (rgD lo n)[i]? = some d) : i < n ∧ d = .int (lo + (i : Nat)) := by
  have hi : i < (rgD lo n).length := (List.getElem?_eq_some_iff.mp h).1
  rw [rgD_len] at hi
  rw [rgD_get hi] at h
  exact ⟨hi, (Option.some.inj h).symm⟩
theorem seq_rng {w : Wd} {lo : Int} {n : Nat} : Seq K w (Itr lo n) (rgD lo n) fun _ => True :=
  ⟨fun w' G' σ' ρ' i f ok s hi => by rw [rgD_len] at hi; exact hi, fun w' G' σ' ρ' f ok s => by show n ≤ (rgD lo n).length; rw [rgD_len]; exact Nat.le_refl _, fun w' G' σ' ρ' i e x H' f ok s hi y => by
    obtain ⟨rfl, rfl⟩ := y
    obtain ⟨hi, rfl⟩ := rgD_get' hi
    exact ⟨w', rfl, ok, Fut.refl _, .int _⟩⟩
theorem wi_rng1 {t : TA} (h : WA K t ρ G fun ds G1 => ∃ j : Int, ds = [.int j] ∧ -(2 ^ 62) ≤ j ∧ j < 2 ^ 62 ∧ Q (rgD 0 j.toNat) (fun _ => True) G1) : WI K (iRng1 t) ρ G Q := fun w σ ok R p =>
  h w σ ok _ fun vs ds w1 G1 ⟨j, e, h1, h2, q⟩ ok1 r1 f1 => by
    subst e
    cases r1 with
    | cons a r =>
      cases r
      cases a
      exact ⟨j, rfl, h1, h2, p _ _ _ w1 G1 q seq_rng ok1 f1⟩
theorem wi_rng2 {t : TA} (h : WA K t ρ G fun ds G1 => ∃ i j : Int, ds = [.int i, .int j] ∧ (-(2 ^ 62) ≤ i ∧ i < 2 ^ 62 ∧ -(2 ^ 62) ≤ j ∧ j < 2 ^ 62) ∧ Q (rgD i (j - i).toNat) (fun _ => True) G1) : WI K (iRng2 t) ρ G Q := fun w σ ok R p =>
  h w σ ok _ fun vs ds w1 G1 ⟨i, j, e, h1, q⟩ ok1 r1 f1 => by
    subst e
    cases r1 with
    | cons a r =>
      cases r with
      | cons b r =>
        cases r
        cases a
        cases b
        exact ⟨i, j, rfl, h1, p _ _ _ w1 G1 q seq_rng ok1 f1⟩
/-- a text's signs -/
def sgD (z : Str) : List D := z.cps.toList.map fun c => D.str ⟨#[c]⟩
theorem wi_str (h : WE K te ρ G fun d G1 => ∃ z, d = .str z ∧ Q (sgD z) (fun _ => True) G1) : WI K (iStr te) ρ G Q := fun w σ ok R p =>
  h w σ ok _ fun v d w1 G1 ⟨z, e, q⟩ ok1 r1 f1 => by
    subst e
    cases r1
    have hl : (sgD z).length = z.cps.size := by unfold sgD; rw [List.length_map, Array.length_toList]
    refine ⟨z, rfl, p _ _ _ w1 G1 q ⟨fun w' G' σ' ρ' i f ok s hi => ?_, fun w' G' σ' ρ' f ok s => ?_, fun w' G' σ' ρ' i e x H' f ok s hi y => ?_⟩ ok1 f1⟩
    · rw [hl] at hi
      exact hi
    · show z.cps.size ≤ (sgD z).length
      rw [hl]
      exact Nat.le_refl _
    · obtain ⟨rfl, c, hc, rfl⟩ := y
      unfold sgD at hi
      rw [List.getElem?_map, Array.getElem?_toList, hc] at hi
      cases hi
      exact ⟨w', rfl, ok, Fut.refl _, .str _⟩
/-- enumerate -/
def enD (ds : List D) : List D := ds.mapIdx fun i d => D.tup [.int (i : Nat), d]
theorem wi_enum {t : TA} (h : WA K t ρ G fun ls G1 => ∃ d ds, ls = [d] ∧ IsR G1 d ds ∧ Q (enD ds) (fun G => IsR G d ds) G1) : WI K (iEnum K t) ρ G Q := fun w σ ok R p =>
  h w σ ok _ fun vs ls w1 G1 ⟨d, ds, e, hd, q⟩ ok1 r1 f1 => by
    subst e
    cases r1 with
    | cons r1 r =>
      cases r
      obtain ⟨a, vs, rfl, ha, rs⟩ := ok1.isR hd r1
      refine ⟨a, vs, rfl, ha, p _ (enD ds) _ w1 G1 q ⟨fun w' G' σ' ρ' i f ok s hi => ?_, fun w' G' σ' ρ' f ok s => ?_, fun w' G' σ' ρ' i e x H' f ok s hi y => ?_⟩ ok1 f1⟩
      · obtain ⟨a', us, e1, h1, r1'⟩ := ok.isR s (r1.mono f.b f.p)
        cases e1
        have hl : i < us.length := by
          rw [r1'.length]
          unfold enD at hi
          rw [List.length_mapIdx] at hi
          exact hi
        exact ⟨us, us[i], h1, by simp [hl]⟩
      · obtain ⟨a', us, e1, h1, r1'⟩ := ok.isR s (r1.mono f.b f.p)
        cases e1
        refine ⟨us, h1, ?_⟩
        unfold enD
        rw [r1'.length, List.length_mapIdx]
        exact Nat.le_refl _
      · obtain ⟨a', us, e1, h1, r1'⟩ := ok.isR s (r1.mono f.b f.p)
        cases e1
        unfold enD at hi
        rw [List.getElem?_mapIdx] at hi
        cases hd : ds[i]? with
        | none =>
          rw [hd] at hi
          cases hi
        | some dd =>
          rw [hd] at hi
          cases hi
          obtain ⟨v, hv, rv⟩ := r1'.get hd
          obtain ⟨T, x, rfl, hT, rfl, y⟩ := y
          have := y us h1
          rw [hv] at this
          cases this
          obtain ⟨ok2, f2⟩ := ok.cold (o := .tup [.int (i : Nat), v]) hT
          exact ⟨_, rfl, ok2, f2, .tup (SqT.of upd_same) (.cons (.int _) (.cons (rv.mono f2.b f2.p) .nil))⟩

/-! ### for, while -/
variable {nx bk ct : DEnv → Cells → Prop} {rt : D → Cells → Prop} {ts tu : TS} {g : TG} {wi : TI}
theorem ws_for (h : WI K wi ρ G fun ds S G1 => ∃ Pv : Nat → DEnv → Cells → Prop, Pv 0 ρ G1 ∧ (∀ i ρ G, Pv i ρ G → S G) ∧
    (∀ i d ρ G, ds[i]? = some d → Pv i ρ G → WG K g d ρ G fun ρ2 G2 => WS K ts ρ2 G2 ⟨Pv (i + 1), rt, nx, Pv (i + 1)⟩) ∧ ∀ ρ G, Pv ds.length ρ G → nx ρ G) : WS K (tFor wi g ts) ρ G ⟨nx, rt, bk, ct⟩ := fun w σ ok X l =>
  h w σ ok _ fun J ds S w1 G1 ⟨Pv, h0, hS, hs, hd⟩ sq ok1 f1 => by
    refine ⟨fun i m σ H => m = ds.length - i ∧ i ≤ ds.length ∧ ∃ w' G' ρ', w'.H = H ∧ Fut w1 w' ∧ Ok K w' G' σ ρ' ∧ Pv i ρ' G', ⟨ds.length, by simp, Nat.zero_le _, w1, G1, ρ, rfl, Fut.refl _, ok1, h0⟩, ?_⟩
    rintro i m σ' H ⟨rfl, hi, w', G', ρ', rfl, f', ok', pv⟩
    by_cases hlt : i < ds.length
    · refine .inr ⟨sq.go w' G' σ' ρ' i f' ok' (hS _ _ _ pv) hlt, fun σ H => ∃ w' G' ρ', w'.H = H ∧ Fut w1 w' ∧ Ok K w' G' σ ρ' ∧ Pv (i + 1) ρ' G', fun σ2 H2 z => ⟨ds.length - (i + 1), by omega, rfl, hlt, z⟩, fun x H' y => ?_⟩
      have hd' : ds[i]? = some ds[i] := List.getElem?_eq_getElem hlt
      obtain ⟨w2, rfl, ok2, f2, rx⟩ := sq.yld w' G' σ' ρ' i _ x H' f' ok' (hS _ _ _ pv) hd' y
      have f12 := f'.trans f2
      refine hs i _ ρ' G' hd' pv w2 σ' x ok2 rx _ fun w3 G3 σ3 ρ3 q3 ok3 f3 => ?_
      have f13 := f12.trans f3
      refine q3 w3 σ3 ok3 _ ⟨fun w4 G4 σ4 ρ4 q4 ok4 f4 => ⟨w4, G4, ρ4, rfl, f13.trans f4, ok4, q4⟩, fun w4 G4 σ4 ρ4 q4 ok4 f4 => l.nx w4 G4 σ4 ρ4 q4 ok4 (f1.trans (f13.trans f4)), fun w4 G4 σ4 ρ4 q4 ok4 f4 => ⟨w4, G4, ρ4, rfl, f13.trans f4, ok4, q4⟩, fun v d w4 G4 q4 ok4 r4 f4 => l.rt v d w4 G4 q4 ok4 r4 (f1.trans (f13.trans f4))⟩
    · have e : i = ds.length := by omega
      subst e
      exact .inl ⟨sq.stop w' G' σ' ρ' f' ok' (hS _ _ _ pv), l.nx w' G' σ' ρ' (hd _ _ pv) ok' (f1.trans f')⟩
theorem ws_while {c : TT} (Pv : DEnv → Cells → Prop) (μ : DEnv → Cells → Nat) (h0 : Pv ρ G) (h : ∀ ρ G, Pv ρ G → WT K c ρ G fun b G1 => if b = true then WS K ts ρ G1 ⟨fun ρ' G' => Pv ρ' G' ∧ μ ρ' G' < μ ρ G, rt, nx, fun ρ' G' => Pv ρ' G' ∧ μ ρ' G' < μ ρ G⟩ else nx ρ G1) :
    WS K (tWhile c ts) ρ G ⟨nx, rt, bk, ct⟩ := fun w σ ok X l => by
  refine ⟨fun m σ H => ∃ w' G' ρ', w'.H = H ∧ Fut w w' ∧ Ok K w' G' σ ρ' ∧ Pv ρ' G' ∧ m = μ ρ' G', ⟨_, w, G, ρ, rfl, Fut.refl _, ok, h0, rfl⟩, ?_⟩
  rintro m σ' H ⟨w', G', ρ', rfl, f', ok', pv, rfl⟩
  refine h ρ' G' pv w' σ' ok' _ fun b w1 G1 q1 ok1 f1 => ?_
  cases b with
  | true =>
    refine ⟨fun σ H => ∃ w2 G2 ρ2, w2.H = H ∧ Fut w w2 ∧ Ok K w2 G2 σ ρ2 ∧ Pv ρ2 G2 ∧ μ ρ2 G2 < μ ρ' G', fun σ2 H2 ⟨w2, G2, ρ2, e, f2, ok2, p2, l2⟩ => ⟨_, l2, w2, G2, ρ2, e, f2, ok2, p2, rfl⟩, ?_⟩
    have f01 := f'.trans f1
    exact (show WS K ts ρ' G1 _ from q1) w1 σ' ok1 _ ⟨fun w4 G4 σ4 ρ4 q4 ok4 f4 => ⟨w4, G4, ρ4, rfl, f01.trans f4, ok4, q4.1, q4.2⟩, fun w4 G4 σ4 ρ4 q4 ok4 f4 => l.nx w4 G4 σ4 ρ4 q4 ok4 (f01.trans f4), fun w4 G4 σ4 ρ4 q4 ok4 f4 => ⟨w4, G4, ρ4, rfl, f01.trans f4, ok4, q4.1, q4.2⟩, fun v d w4 G4 q4 ok4 r4 f4 => l.rt v d w4 G4 q4 ok4 r4 (f01.trans f4)⟩
  | false => exact l.nx w1 G1 σ' ρ' q1 ok1 (f'.trans f1)

/-! ### comprehensions -/
def wipeR (ρ : DEnv) : List Nat → DEnv
  | [] => ρ
  | v :: vs => (wipeR ρ vs).set v none
theorem wipeR_len (ρ : DEnv) : ∀ vs : List Nat, (wipeR ρ vs).length = ρ.length
  | [] => rfl
  | v :: vs => by unfold wipeR; rw [List.length_set, wipeR_len ρ vs]
theorem Ok.wipe {w : Wd} {σ : St} (x : Ok K w G σ ρ) : ∀ vs : List Nat, Ok K w G (L2.wipe σ vs) (wipeR ρ vs)
  | [] => x
  | v :: vs => by
    have y := Ok.wipe x vs
    refine y.slots (by unfold wipeR L2.wipe; rw [List.length_set, List.length_set]; exact y.lr) fun i d h => ?_
    unfold wipeR at h
    unfold L2.wipe
    by_cases e : v = i
    · subst e
      rw [List.getElem?_set] at h
      split at h
      · split at h <;> cases h
      · rename_i z
        exact absurd rfl z
    · rw [List.getElem?_set_ne e] at h ⊢
      exact y.sl i d h
/-- the target stores in the block's own slots alone -/
def Own (g : TG) (vs : List Nat) : Prop := ∀ v σ H R, g v (L2.wipe σ vs) H R → g v (L2.wipe σ vs) H fun σ' H' => L2.wipe σ' vs = L2.wipe σ vs ∧ R σ' H'
theorem wipe_set {σ : St} {i : Nat} {o : Option V} : ∀ {vs : List Nat}, i ∈ vs → L2.wipe (σ.set i o) vs = L2.wipe σ vs
  | v :: vs, h => by
    unfold L2.wipe
    by_cases e : i ∈ vs
    · rw [wipe_set e]
    · have : i = v := by
        rcases List.mem_cons.mp h with z | z
        · exact z
        · exact absurd z e
      subst this
      have comm : ∀ (vs : List Nat), i ∉ vs → L2.wipe (σ.set i o) vs = (L2.wipe σ vs).set i o := fun vs => by
        induction vs with
        | nil => intro _; rfl
        | cons u us ih =>
          intro hn
          unfold L2.wipe
          rw [ih fun z => hn (List.mem_cons_of_mem _ z), List.set_comm _ _ fun z => hn (by rw [z]; exact List.mem_cons_self)]
      rw [comm vs e, List.set_set]
theorem wipe_wipe {σ : St} : ∀ {vs us : List Nat}, (∀ i ∈ us, i ∈ vs) → L2.wipe (L2.wipe σ us) vs = L2.wipe σ vs
  | vs, [], _ => rfl
  | vs, u :: us, h => by
    show L2.wipe ((L2.wipe σ us).set u none) vs = _
    rw [wipe_set (h u List.mem_cons_self)]
    exact wipe_wipe fun i hi => h i (List.mem_cons_of_mem _ hi)
theorem own_name {i : Nat} {vs : List Nat} (h : i ∈ vs) : Own (gName i) vs := fun v σ H R r => ⟨by rw [wipe_set h]; exact wipe_wipe fun _ z => z, r⟩
theorem own_tup {n : Nat} {u : TGs} {vs : List Nat} (h : ∀ us σ H R, L2.wipe σ vs = L2.wipe σ vs → u us σ H R → u us σ H fun σ' H' => L2.wipe σ' vs = L2.wipe σ vs ∧ R σ' H') : Own (gTup K n u) vs := fun v σ H R ⟨a, xs, e, ha, hl, r⟩ => by
  refine ⟨a, xs, e, ha, hl, ?_⟩
  have := h xs (L2.wipe σ vs) H R rfl r
  have ew : L2.wipe (L2.wipe σ vs) vs = L2.wipe σ vs := wipe_wipe fun _ z => z
  rw [ew] at this
  exact this
theorem owns_nil {vs : List Nat} : ∀ us σ H (R : St → Hp → Prop), L2.wipe σ vs = L2.wipe σ vs → gNil us σ H R → gNil us σ H fun σ' H' => L2.wipe σ' vs = L2.wipe σ vs ∧ R σ' H' := fun us σ H R _ ⟨e, r⟩ => ⟨e, rfl, r⟩
theorem owns_cons {i : Nat} {u : TGs} {vs : List Nat} (hi : i ∈ vs) (h : ∀ us σ H (R : St → Hp → Prop), L2.wipe σ vs = L2.wipe σ vs → u us σ H R → u us σ H fun σ' H' => L2.wipe σ' vs = L2.wipe σ vs ∧ R σ' H') :
    ∀ us σ H (R : St → Hp → Prop), L2.wipe σ vs = L2.wipe σ vs → gCons (gName i) u us σ H R → gCons (gName i) u us σ H fun σ' H' => L2.wipe σ' vs = L2.wipe σ vs ∧ R σ' H' := fun us σ H R _ ⟨v, r, e, q⟩ => by
  refine ⟨v, r, e, ?_⟩
  have := h r (σ.set i (some v)) H R rfl q
  rw [wipe_set hi] at this
  exact this
theorem we_lc {tt : TT} {vs : List Nat} {Q : D → Cells → Prop} (ho : Own g vs) (h : WI K wi ρ G fun ds S G1 => ∃ Pv : Nat → List D → Cells → Prop, Pv 0 [] G1 ∧ (∀ i acc G, Pv i acc G → S G) ∧
    (∀ i d acc G, ds[i]? = some d → Pv i acc G → WG K g d (wipeR ρ vs) G fun ρ2 G2 => WT K tt ρ2 G2 fun b G3 => if b = true then WE K te ρ2 G3 fun y G4 => acc.length < sizeLine ∧ Pv (i + 1) (acc ++ [y]) G4 else Pv (i + 1) acc G3) ∧
    ∀ acc G, Pv ds.length acc G → Nw Q acc G) : WE K (tLc wi g tt te vs) ρ G Q := fun w σ ok R p =>
  h w σ ok _ fun J ds S w1 G1 ⟨Pv, h0, hS, hs, hd⟩ sq ok1 f1 DA nDA => by
    -- a state of the block: a world w' in which DA is an untracked list
    have hB := ok1.freshB nDA
    have hP := ok1.fresh nDA
    -- the state: a world whose heap, with the list laid at DA, is the heap at hand
    refine ⟨fun i m H => m = ds.length - i ∧ i ≤ ds.length ∧ ∃ w' G' acc us, w'.H = H ∧ w'.H DA = some (.lst us) ∧ DA ∉ w'.ps ∧ w'.B DA = none ∧ Fut w1 w' ∧ Ok K w' G' σ ρ ∧ Reps K w'.B w'.ps us acc ∧ Pv i acc G', ?_, ?_⟩
    · -- the list is laid
      refine ⟨ds.length, by simp, Nat.zero_le _, ⟨w1.B, upd w1.H DA (.lst []), w1.ps⟩, G1, [], [], rfl, upd_same, hP, hB, ?_, ?_, .nil, h0⟩
      · exact ⟨Ex.refl _, Pre.refl _, fun a o e m => by show upd w1.H DA (.lst []) a = some o; rw [upd_ne (ne_of_none e nDA)]; exact e, fun a m => .inl m, fun a m => .inl m⟩
      · have ne : ∀ a ∈ w1.ps, a ≠ DA := fun a m z => hP (z ▸ m)
        refine ⟨fun a o e => ?_, fun a m => ?_, ok1.nd, ok1.ln, ok1.nb, fun k q c hk hc => ?_, ok1.lr, ok1.sl⟩
        · show upd w1.H DA (.lst []) a = some o
          rw [upd_ne (ne_of_none e hB)]
          exact ok1.ex a o e
        · show upd w1.H DA (.lst []) a ≠ none
          rw [upd_ne (ne a m)]
          exact ok1.al a m
        · exact (ok1.cs k q c hk hc).mono (Ex.refl _) (Pre.refl _) (upd_ne (ne q (List.mem_of_getElem? hk)))
    · rintro i m H ⟨rfl, hi, w', G', acc, us, rfl, eD, nP, nB, f', ok', rs, pv⟩
      by_cases hlt : i < ds.length
      · refine .inr ⟨sq.go w' G' σ ρ i f' ok' (hS _ _ _ pv) hlt, fun H => ∃ w' G' acc us, w'.H = H ∧ w'.H DA = some (.lst us) ∧ DA ∉ w'.ps ∧ w'.B DA = none ∧ Fut w1 w' ∧ Ok K w' G' σ ρ ∧ Reps K w'.B w'.ps us acc ∧ Pv (i + 1) acc G', fun H2 z => ⟨ds.length - (i + 1), by omega, rfl, hlt, z⟩, fun x H' y => ?_⟩
        have hd' : ds[i]? = some ds[i] := List.getElem?_eq_getElem hlt
        have okw := ok'.wipe vs
        obtain ⟨w2, rfl, ok2, f2, rx⟩ := sq.yld w' G' _ _ i _ x H' f' okw (hS _ _ _ pv) hd' y
        -- DA through a step
        have keep : ∀ {a b : Wd}, a.H DA = some (.lst us) → DA ∉ a.ps → a.B DA = none → Fut a b → b.H DA = some (.lst us) ∧ DA ∉ b.ps ∧ b.B DA = none := fun {a b} h1 h2 h3 f => by
          refine ⟨f.fr DA _ h1 h2, fun m => ?_, ?_⟩
          · rcases f.np DA m with z | z
            · exact h2 z
            · rw [h1] at z
              cases z
          · cases e : b.B DA with
            | none => rfl
            | some o =>
              rcases f.nb DA (by rw [e]; exact fun z => nomatch z) with z | z | z
              · exact absurd h3 z
              · rw [h1] at z
                cases z
              · exact absurd z h2
        obtain ⟨e2, p2, b2⟩ := keep eD nP nB f2
        refine ho x σ w2.H _ (hs i _ acc G' hd' pv w2 _ x ok2 rx _ fun w3 G3 σ3 ρ3 q3 ok3 f3 => ?_)
        obtain ⟨e3, p3, b3⟩ := keep e2 p2 b2 f3
        refine q3 w3 σ3 ok3 _ fun b w4 G4 q4 ok4 f4 => ?_
        obtain ⟨e4, p4, b4⟩ := keep e3 p3 b3 f4
        have f14 := ((f'.trans f2).trans f3).trans f4
        cases b with
        | false => exact ⟨w4, G4, acc, us, rfl, e4, p4, b4, f14, ok'.back ok4 ((f2.trans f3).trans f4), rs.mono ((f2.trans f3).trans f4).b ((f2.trans f3).trans f4).p, q4⟩
        | true =>
          refine (show WE K te ρ3 G4 _ from q4) w4 σ3 ok4 _ fun v dv w5 G5 ⟨hl, q5⟩ ok5 r5 f5 => ?_
          obtain ⟨e5, p5, b5⟩ := keep e4 p4 b4 f5
          have f25 := ((f2.trans f3).trans f4).trans f5
          have ok6 := ok'.back ok5 f25
          have rs5 := rs.mono f25.b f25.p
          refine ⟨us, e5, by rw [rs.length]; exact hl, ⟨w5.B, upd w5.H DA (.lst (us ++ [v])), w5.ps⟩, G5, acc ++ [dv], us ++ [v], rfl, upd_same, p5, b5, ?_, ?_, rs5.append (.cons r5 .nil), q5⟩
          · have ff := f14.trans f5
            refine ⟨ff.b, ff.p, fun a o e m => ?_, ff.np, ff.nb⟩
            show upd w5.H DA _ a = some o
            rw [upd_ne (ne_of_none e nDA)]
            exact ff.fr a o e m
          · have ne : ∀ a ∈ w5.ps, a ≠ DA := fun a m z => p5 (z ▸ m)
            refine ⟨fun a o e => ?_, fun a m => ?_, ok6.nd, ok6.ln, ok6.nb, fun k q c hk hc => ?_, ok6.lr, ok6.sl⟩
            · show upd w5.H DA _ a = some o
              rw [upd_ne (ne_of_none e b5)]
              exact ok6.ex a o e
            · show upd w5.H DA _ a ≠ none
              rw [upd_ne (ne a m)]
              exact ok6.al a m
            · exact (ok6.cs k q c hk hc).mono (Ex.refl _) (Pre.refl _) (upd_ne (ne q (List.mem_of_getElem? hk)))
      · have e : i = ds.length := by omega
        subst e
        refine .inl ⟨sq.stop w' G' σ ρ f' ok' (hS _ _ _ pv), ?_⟩
        have nn : ∀ a ∈ w'.ps, a ≠ DA := fun a m z => nP (z ▸ m)
        have hDA : w1.H DA = none := nDA
        rcases hd acc G' pv with q | q
        · -- frozen
          have eB : Ex w'.B (upd w'.B DA (.lst us)) := Ex.new nB
          refine p (.ref DA) (.lst acc) ⟨upd w'.B DA (.lst us), w'.H, w'.ps⟩ G' q ⟨fun a o e => ?_, ok'.al, ok'.nd, ok'.ln, fun k r c hk hc hd => ?_, fun k r c hk hc => (ok'.cs k r c hk hc).mono eB (Pre.refl _) rfl, ok'.lr, fun j d hj => ?_⟩ (.lst upd_same (rs.mono eB (Pre.refl _))) ?_
          · have e : upd w'.B DA (.lst us) a = some o := e
            by_cases z : a = DA
            · subst z
              rw [upd_same] at e
              show w'.H a = some o
              rw [eD]
              exact e
            · rw [upd_ne z] at e
              exact ok'.ex a o e
          · show upd w'.B DA (.lst us) r = none
            rw [upd_ne (nn r (List.mem_of_getElem? hk))]
            exact ok'.nb k r c hk hc hd
          · obtain ⟨v, e1, r1⟩ := ok'.sl j d hj
            exact ⟨v, e1, r1.mono eB (Pre.refl _)⟩
          · have ff := f1.trans f'
            refine ⟨ff.b.trans eB, ff.p, ff.fr, ff.np, fun a m => ?_⟩
            by_cases z : a = DA
            · subst z
              cases e0 : w.H a with
              | none => exact .inr (.inl rfl)
              | some o =>
                by_cases mm : a ∈ w.ps
                · exact .inr (.inr mm)
                · have := f1.fr a o e0 mm
                  rw [hDA] at this
                  cases this
            · have m : upd w'.B DA (.lst us) a ≠ none := m
              rw [upd_ne z] at m
              exact ff.nb a m
        · -- a cell
          have pp : Pre w'.ps (w'.ps ++ [DA]) := ⟨[DA], rfl⟩
          have split : ∀ (k : Nat) q' d', (w'.ps ++ [DA])[k]? = some q' → (G' ++ [Cell.lst acc])[k]? = some d' → (w'.ps[k]? = some q' ∧ G'[k]? = some d') ∨ (q' = DA ∧ d' = .lst acc) := fun k q' d' h1 h2 => by
            by_cases hk : k < w'.ps.length
            · rw [List.getElem?_append_left hk] at h1
              rw [List.getElem?_append_left (by rw [← ok'.ln]; exact hk)] at h2
              exact .inl ⟨h1, h2⟩
            · have hl : k < (w'.ps ++ [DA]).length := (List.getElem?_eq_some_iff.mp h1).1
              rw [List.length_append, List.length_singleton] at hl
              rw [List.getElem?_append_right (by omega), show k - w'.ps.length = 0 by omega] at h1
              rw [List.getElem?_append_right (by rw [← ok'.ln]; omega), show k - G'.length = 0 by rw [← ok'.ln]; omega] at h2
              cases h1
              cases h2
              exact .inr ⟨rfl, rfl⟩
          refine p (.ref DA) (.ptr G'.length) ⟨w'.B, w'.H, w'.ps ++ [DA]⟩ _ q ⟨ok'.ex, fun a m => ?_, ?_, ?_, fun k q' d' h1 h2 hd => ?_, fun k q' d' h1 h2 => ?_, ok'.lr, fun j d hj => ?_⟩ (.ptr ?_) ?_
          · rcases List.mem_append.mp m with m | m
            · exact ok'.al a m
            · have z : a = DA := by simpa using m
              show w'.H a ≠ none
              rw [z, eD]
              exact fun z => nomatch z
          · exact List.nodup_append.mpr ⟨ok'.nd, by simp, fun a ha b hb => by
              have : b = DA := by simpa using hb
              subst this
              exact nn a ha⟩
          · show (w'.ps ++ [DA]).length = (G' ++ [Cell.lst acc]).length
            rw [List.length_append, List.length_append, ok'.ln]
            rfl
          · rcases split k q' d' h1 h2 with ⟨a1, a2⟩ | ⟨rfl, rfl⟩
            · exact ok'.nb k q' d' a1 a2 hd
            · exact nB
          · rcases split k q' d' h1 h2 with ⟨a1, a2⟩ | ⟨rfl, rfl⟩
            · exact (ok'.cs k q' d' a1 a2).mono (Ex.refl _) pp rfl
            · exact ⟨us, eD, rs.mono (Ex.refl _) pp⟩
          · obtain ⟨v, e1, r1⟩ := ok'.sl j d hj
            exact ⟨v, e1, r1.mono (Ex.refl _) pp⟩
          · show (w'.ps ++ [DA])[G'.length]? = some DA
            rw [List.getElem?_append_right (by rw [ok'.ln]; exact Nat.le_refl _), ok'.ln, Nat.sub_self]
            rfl
          · have ff := f1.trans f'
            refine ⟨ff.b, ff.p.trans pp, ff.fr, fun a m => ?_, ff.nb⟩
            rcases List.mem_append.mp m with m | m
            · exact ff.np a m
            · have z : a = DA := by simpa using m
              subst z
              cases e0 : w.H a with
              | none => exact .inr rfl
              | some o =>
                by_cases mm : a ∈ w.ps
                · exact .inl mm
                · have := f1.fr a o e0 mm
                  rw [hDA] at this
                  cases this
end
end DL
/-! DD: defs and their calls; built-ins and methods. -/
namespace DL
open PySem PySem.Spec PyProof.Rows L2

/-! ### closed data -/
mutual
inductive Cl (n : Nat) : D → Prop
  | non : Cl n .non
  | bl (b : Bool) : Cl n (.bl b)
  | int (i : Int) : Cl n (.int i)
  | str (x : Str) : Cl n (.str x)
  | lst {ds : List D} : Cls n ds → Cl n (.lst ds)
  | tup {ds : List D} : Cls n ds → Cl n (.tup ds)
  | ro {ds : List D} : Cls n ds → Cl n (.ro ds)
  | ptr {k : Nat} : k < n → Cl n (.ptr k)
  | adr (a : Addr) : Cl n (.adr a)
  | ty (s : String) : Cl n (.ty s)
inductive Cls (n : Nat) : List D → Prop
  | nil : Cls n []
  | cons {d : D} {ds : List D} : Cl n d → Cls n ds → Cls n (d :: ds)
end
theorem Cls.map {α : Type} {n : Nat} {f : α → D} (h : ∀ a, Cl n (f a)) : ∀ l : List α, Cls n (l.map f)
  | [] => .nil
  | a :: l => .cons (h a) (Cls.map h l)
theorem Cls.append {n : Nat} : ∀ {a b : List D}, Cls n a → Cls n b → Cls n (a ++ b)
  | _, _, .nil, h => h
  | _, _, .cons a r, h => .cons a (Cls.append r h)
def Cell.Cl (n : Nat) : Cell → Prop
  | .dead => True
  | .lst ds => Cls n ds
  | .dct kvs => ∀ p ∈ kvs, DL.Cl n p.2
  | .ins _ fs => ∀ p ∈ fs, DL.Cl n p.2
section
variable {K : PySem.W.Frag} {B : Hp} {ps : List Addr} {n : Nat}
theorem get_take {l : List Addr} {k n : Nat} {a : Addr} (h : l[k]? = some a) (hk : k < n) : (l.take n)[k]? = some a := by
  rw [List.getElem?_take_of_lt hk]
  exact h
mutual
theorem Rep.cut : ∀ {v : V} {d : D}, Rep K B ps v d → Cl n d → Rep K B (ps.take n) v d
  | _, _, .non, _ => .non
  | _, _, .bl b, _ => .bl b
  | _, _, .int i, _ => .int i
  | _, _, .str x, _ => .str x
  | _, _, .lst h r, .lst c => .lst h (Reps.cutN r c)
  | _, _, .tup h r, .tup c => .tup h (Reps.cutN r c)
  | _, _, .ro h r, .ro c => .ro h (Reps.cutN r c)
  | _, _, .ptr h, .ptr c => .ptr (get_take h c)
  | _, _, .adr a, _ => .adr a
  | _, _, .ty s, _ => .ty s
theorem Reps.cutN : ∀ {vs : List V} {ds : List D}, Reps K B ps vs ds → Cls n ds → Reps K B (ps.take n) vs ds
  | _, _, .nil, .nil => .nil
  | _, _, .cons h r, .cons c t => .cons (Rep.cut h c) (Reps.cutN r t)
end
end

section
variable {K : PySem.W.Frag} {B : Hp} {ps : List Addr}
mutual
theorem Rep.closed : ∀ {v : V} {d : D}, Rep K B ps v d → Cl ps.length d
  | _, _, .non => .non
  | _, _, .bl b => .bl b
  | _, _, .int i => .int i
  | _, _, .str x => .str x
  | _, _, .lst h r => .lst (Reps.closed r)
  | _, _, .tup h r => .tup (Reps.closed r)
  | _, _, .ro h r => .ro (Reps.closed r)
  | _, _, .ptr h => .ptr (List.getElem?_eq_some_iff.mp h).1
  | _, _, .adr a => .adr a
  | _, _, .ty s => .ty s
theorem Reps.closed : ∀ {vs : List V} {ds : List D}, Reps K B ps vs ds → Cls ps.length ds
  | _, _, .nil => .nil
  | _, _, .cons h r => .cons (Rep.closed h) (Reps.closed r)
end
theorem CellR.closed {H : Hp} {p : Addr} : ∀ {c : Cell}, CellR K B ps H p c → c.Cl ps.length
  | .dead, _ => trivial
  | .lst ds, ⟨vs, h, r⟩ => r.closed
  | .dct kvs, ⟨us, h, r⟩ => by
    have go : ∀ {us : List (Key × V)} {kvs : List (Key × D)}, RepK K B ps us kvs → ∀ p ∈ kvs, DL.Cl ps.length p.2 := fun {us kvs} r => by
      induction r with
      | nil => intro p hp; cases hp
      | cons a t ih => intro p hp; rcases List.mem_cons.mp hp with rfl | hp; exact a.2.closed; exact ih p hp
    exact go r
  | .ins C fs, ⟨dx, us, h, r⟩ => by
    have go : ∀ {us : List (Str × V)} {kvs : List (Str × D)}, RepF K B ps us kvs → ∀ p ∈ kvs, DL.Cl ps.length p.2 := fun {us kvs} r => by
      induction r with
      | nil => intro p hp; cases hp
      | cons a t ih => intro p hp; rcases List.mem_cons.mp hp with rfl | hp; exact a.2.closed; exact ih p hp
    exact go r
end
/-! ### a def by its body -/
/-- what a def does to data -/
abbrev FD := List D → Cells → (D → Cells → Prop) → Prop
def SpD (K : PySem.W.Frag) (F : FD) : Sp := fun vs H Q _ => ∃ (w : Wd) (G : Cells) (ds : List D) (R : D → Cells → Prop), w.H = H ∧ Ok K w G (vs.map some) (ds.map some) ∧ vs.length = ds.length ∧ F ds G R ∧
  ∀ v d w' G', R d G' → Ok K w' G' [] [] → Rep K w'.B w'.ps v d → Fut w w' → Q v w'.H
/-- the cells that were not there at the entry (G0) are let go -/
def Gc (G0 : Cells) (R : D → Cells → Prop) : D → Cells → Prop := fun d G => R d G ∨ (G0.length ≤ G.length ∧ Cl G0.length d ∧ (∀ c ∈ G.take G0.length, c ∈ G0 ∨ c.Cl G0.length) ∧ R d (G.take G0.length))
theorem Gc.same {G0 more : Cells} {R : D → Cells → Prop} {d : D} (h : Cl G0.length d) (q : R d G0) : Gc G0 R d (G0 ++ more) :=
  .inr ⟨by rw [List.length_append]; exact Nat.le_add_right _ _, h, fun c hc => .inl (by rw [List.take_left'] at hc; exact hc; rfl), by rw [List.take_left']; exact q; rfl⟩
def bodyEnv (N : List Str) (ds : List D) : DEnv := ds.map some ++ List.replicate (N.length - ds.length) none
abbrev endsOf (G0 : Cells) (R : D → Cells → Prop) : EndsD := ⟨fun _ G => Gc G0 R .non G, Gc G0 R, fun _ _ => False, fun _ _ => False⟩
section
variable {P : Program} {w : World} {K : PySem.W.Frag} {mg : Str → Option Value} {base : Heap}
theorem Ok.gc {wd w' : Wd} {G G' : Cells} {n : Nat} {d : D} {v : V} (ok : Ok K w' G' [] []) (r : Rep K w'.B w'.ps v d) (f : Fut wd w') (hn : wd.ps.length = n) (hl : n ≤ G'.length) (hd : Cl n d) (hc : ∀ c ∈ G'.take n, c.Cl n) :
    Ok K ⟨w'.B, w'.H, w'.ps.take n⟩ (G'.take n) [] [] ∧ Rep K w'.B (w'.ps.take n) v d ∧ Fut wd ⟨w'.B, w'.H, w'.ps.take n⟩ := by
  have hx : ∀ (k : Nat) p, (w'.ps.take n)[k]? = some p → w'.ps[k]? = some p ∧ k < n := fun k p h => by
    by_cases hk : k < n
    · rw [List.getElem?_take_of_lt hk] at h
      exact ⟨h, hk⟩
    · rw [List.getElem?_take] at h
      simp [hk] at h
  have hg : ∀ (k : Nat) c, (G'.take n)[k]? = some c → G'[k]? = some c := fun k c h => by
    by_cases hk : k < n
    · rw [List.getElem?_take_of_lt hk] at h
      exact h
    · rw [List.getElem?_take] at h
      simp [hk] at h
  refine ⟨⟨ok.ex, fun a m => ok.al a (List.mem_of_mem_take m), ok.nd.sublist (List.take_sublist _ _), ?_, fun k p c h1 h2 h3 => ok.nb k p c (hx k p h1).1 (hg k c h2) h3, fun k p c h1 h2 => ?_, Nat.le_refl _, fun i d h => by simp at h⟩, r.cut hd, ?_⟩
  · show (w'.ps.take n).length = (G'.take n).length
    rw [List.length_take, List.length_take, ok.ln]
  · have z := ok.cs k p c (hx k p h1).1 (hg k c h2)
    have hcl := hc c (List.mem_of_getElem? h2)
    cases c with
    | dead => trivial
    | lst ds =>
      obtain ⟨vs, e, r⟩ := z
      exact ⟨vs, e, r.cutN hcl⟩
    | dct kvs =>
      obtain ⟨us, e, r⟩ := z
      refine ⟨us, e, ?_⟩
      have go : ∀ {us : List (Key × V)} {kvs : List (Key × D)}, RepK K w'.B w'.ps us kvs → (∀ p ∈ kvs, DL.Cl n p.2) → RepK K w'.B (w'.ps.take n) us kvs := fun {us kvs} r => by
        induction r with
        | nil => intro _; exact .nil
        | cons a t ih => intro h; exact .cons ⟨a.1, a.2.cut (h _ List.mem_cons_self)⟩ (ih fun p hp => h p (List.mem_cons_of_mem _ hp))
      exact go r hcl
    | ins C fs =>
      obtain ⟨dx, us, e, r⟩ := z
      refine ⟨dx, us, e, ?_⟩
      have go : ∀ {us : List (Str × V)} {kvs : List (Str × D)}, RepF K w'.B w'.ps us kvs → (∀ p ∈ kvs, DL.Cl n p.2) → RepF K w'.B (w'.ps.take n) us kvs := fun {us kvs} r => by
        induction r with
        | nil => intro _; exact .nil
        | cons a t ih => intro h; exact .cons ⟨a.1, a.2.cut (h _ List.mem_cons_self)⟩ (ih fun p hp => h p (List.mem_cons_of_mem _ hp))
      exact go r hcl
  · obtain ⟨more, e⟩ := f.p
    refine ⟨f.b, ⟨[], ?_⟩, f.fr, fun a m => f.np a (List.mem_of_mem_take m), f.nb⟩
    show w'.ps.take n = wd.ps ++ []
    rw [e, List.append_nil, ← hn, List.take_left']
    rfl
/-- THE RULE for a def -/
theorem fn_ok {x qual : Str} {st : Stmt} {f : Addr} {fd : FuncData} {N ps : List Str} {k : Nat} {F : FD} (Fn : Fun K x qual st f fd) (S : FnScope N ps (defScope st)) (len : ∀ ds G R, F ds G R → ds.length = ps.length)
    (hbody : ∀ (cdv : Value) (A : Around) (outer : List PySem.Env) (s : Shared) (H : Hp) (E : XK), Room k (A.deeper (envOfC qual (defScope st) s.heap.objs.size f cdv)) →
      ∃ t, PSs (cxOf CX0 P w K mg base N qual (defScope st) f cdv A outer s H E).nox (defBody st) t ∧ ∀ ds G R, F ds G R → WS K t (bodyEnv N ds) G (endsOf G R)) : FnOk P w K mg base CX0 (k + 1) f fd ps (SpD K F) := by
  refine Fn.ok S (fun vs H Q E ⟨wd, G, ds, R, e, ok, hl, hF, q⟩ => hl.trans (len ds G R hF)) fun cdv A outer s H vs Q E hr ⟨wd, G, ds, R, e, ok, hl, hF, q⟩ => ?_
  subst e
  obtain ⟨t, ht, hw⟩ := hbody cdv A outer s wd.H E hr
  refine ⟨t, ht, ?_⟩
  have ok1 : Ok K wd G (L2.start N vs) (bodyEnv N ds) := ok.slots (by unfold L2.start bodyEnv; simp [hl]) fun i d h => by
    unfold bodyEnv at h
    by_cases hi : i < (ds.map some).length
    · rw [List.getElem?_append_left hi] at h
      obtain ⟨v, e, r⟩ := ok.sl i d h
      refine ⟨v, ?_, r⟩
      unfold L2.start
      rw [List.getElem?_append_left (by rw [List.length_map, hl]; rw [List.length_map] at hi; exact hi)]
      exact e
    · rw [List.getElem?_append_right (by omega), List.getElem?_replicate] at h
      split at h <;> cases h
  have cl : ∀ c ∈ G, c.Cl G.length := fun c hc => by
    obtain ⟨k, hk⟩ := List.mem_iff_getElem?.mp hc
    have hl : k < wd.ps.length := by rw [ok.ln]; exact (List.getElem?_eq_some_iff.mp hk).1
    rw [← ok.ln]
    exact (ok.cs k _ c (List.getElem?_eq_getElem hl) hk).closed
  have fin : ∀ v d w' G', Gc G R d G' → Ok K w' G' [] [] → Rep K w'.B w'.ps v d → Fut wd w' → Q v w'.H := fun v d w' G' g ok' r f' => by
    rcases g with g | ⟨g1, g2, g3, g4⟩
    · exact q v d w' G' g ok' r f'
    · obtain ⟨a, b, c⟩ := ok'.gc (G := G) r f' ok.ln g1 g2 fun c hc => (g3 c hc).elim (cl c) id
      exact q v d ⟨w'.B, w'.H, w'.ps.take G.length⟩ _ g4 a b c
  exact hw ds G R hF wd (L2.start N vs) ok1 _ ⟨fun w' G' σ' ρ' g ok' f' => fin .non .non w' G' g ok'.none .non f', fun _ _ _ _ g _ _ => g.elim, fun _ _ _ _ g _ _ => g.elim, fin⟩
end
section
variable {K : PySem.W.Frag} {ρ : DEnv} {G : Cells} {Q : D → Cells → Prop} {ta tb tc te : TE} {x y d : D}
theorem we_call {F : FD} {t : TA} {E : XK} (h : WA K t ρ G fun ds G1 => F ds G1 Q) : WE K (tCall (SpD K F) [] E t) ρ G Q := fun w σ ok R p =>
  h w σ ok _ fun vs ds w1 G1 q ok1 r1 f1 => by
    refine ⟨w1, G1, ds, Q, rfl, ok1.slots (by rw [List.append_nil, List.length_map, List.length_map, r1.length]; exact Nat.le_refl _) fun i d h => ?_, by rw [List.append_nil]; exact r1.length, q, fun v d w' G' q' ok' r' f' => p v d w' G' q' (ok1.back ok' f') r' (f1.trans f')⟩
    rw [List.append_nil]
    rw [List.getElem?_map] at h
    cases e : ds[i]? with
    | none =>
      rw [e] at h
      cases h
    | some d' =>
      rw [e] at h
      cases h
      obtain ⟨v, hv, rv⟩ := r1.get e
      exact ⟨v, by rw [List.getElem?_map, hv]; rfl, rv⟩

/-! ### built-ins -/
theorem rc_int {i : Int} (q : Q (.int i) G) : RC K (fun xs H Q => (∃ i, xs = [.int i] ∧ Q (.int i) H) ∨ ∃ k, xs = [.bl k] ∧ Q (.int (if k then 1 else 0)) H) [.int i] G Q := fun w σ ρ ok vs r R p => by
  cases r with
  | cons a r =>
    cases r
    cases a
    exact .inl ⟨i, rfl, p.here ok q (.int _)⟩
theorem rc_intB {b : Bool} (q : Q (.int (if b then 1 else 0)) G) : RC K (fun xs H Q => (∃ i, xs = [.int i] ∧ Q (.int i) H) ∨ ∃ k, xs = [.bl k] ∧ Q (.int (if k then 1 else 0)) H) [.bl b] G Q := fun w σ ρ ok vs r R p => by
  cases r with
  | cons a r =>
    cases r
    cases a
    exact .inr ⟨b, rfl, p.here ok q (.int _)⟩
theorem rc_len {ds : List D} (h : IsQ G x ds) (q : Q (.int ds.length) G) : RC K (fun xs H Q => ∃ p ys, xs = [.ref p] ∧ (SqL K H p ys ∨ SqT K H p ys) ∧ Q (.int ys.length) H) [x] G Q := fun w σ ρ ok vs r R p => by
  cases r with
  | cons a r =>
    cases r
    obtain ⟨a', us, rfl, ha, rs⟩ := ok.isQ h a
    exact ⟨a', us, rfl, ha, by rw [rs.length]; exact p.here ok q (.int _)⟩
theorem rc_lenS {z : Str} (hl : z.length ≤ sizeLine) (q : Q (.int z.length) G) : RC K (fun xs H Q => ∃ z, xs = [.str z] ∧ z.length ≤ sizeLine ∧ Q (.int z.length) H) [.str z] G Q := fun w σ ρ ok vs r R p => by
  cases r with
  | cons a r =>
    cases r
    cases a
    exact ⟨z, rfl, hl, p.here ok q (.int _)⟩
theorem rc_list {ds : List D} (h : IsQ G x ds) (q : Nw Q ds G) : RC K (fun xs H Q => ∃ p ys, xs = [.ref p] ∧ (SqL K H p ys ∨ SqT K H p ys) ∧ ∀ l, H l = none → Q (.ref l) (upd H l (.lst ys))) [x] G Q := fun w σ ρ ok vs r R p => by
  cases r with
  | cons a r =>
    cases r
    obtain ⟨a', us, rfl, ha, rs⟩ := ok.isQ h a
    exact ⟨a', us, rfl, ha, q.run p ok rs⟩
theorem rc_tuple {ds : List D} (h : IsQ G x ds) (q : Q (.tup ds) G) : RC K (fun xs H Q => ∃ p ys, xs = [.ref p] ∧ ((SqL K H p ys ∧ ∀ l, H l = none → Q (.ref l) (upd H l (.tup ys))) ∨ (SqT K H p ys ∧ Q (.ref p) H))) [x] G Q := fun w σ ρ ok vs r R p => by
  cases r with
  | cons a r =>
    cases r
    rcases h with rfl | h
    · obtain ⟨a', us, rfl, ha, rs⟩ := ok.isT a
      exact ⟨a', us, rfl, .inr ⟨ha, p.here ok q a⟩⟩
    · obtain ⟨a', us, rfl, ha, rs⟩ := ok.isR h a
      exact ⟨a', us, rfl, .inl ⟨ha, NwT.run q p ok rs⟩⟩
theorem rc_sum {ns : List Int} (h : IsR G x (ns.map D.int)) (q : Q (.int ns.sum) G) : RC K (rSum K) [x] G Q := fun w σ ρ ok vs r R p => by
  cases r with
  | cons a r =>
    cases r
    obtain ⟨a', us, rfl, ha, rs⟩ := ok.isR h a
    rw [rs.ints] at ha
    exact ⟨a', ns, rfl, ha, p.here ok q (.int _)⟩
theorem rc_all {ns : List Bool} (h : IsR G x (ns.map D.bl)) (q : Q (.bl (ns.all id)) G) : RC K (rAll K) [x] G Q := fun w σ ρ ok vs r R p => by
  cases r with
  | cons a r =>
    cases r
    obtain ⟨a', us, rfl, ha, rs⟩ := ok.isR h a
    rw [rs.bls] at ha
    exact ⟨a', ns, rfl, ha, p.here ok q (.bl _)⟩
theorem rc_any {ns : List Bool} (h : IsR G x (ns.map D.bl)) (q : Q (.bl (ns.any id)) G) : RC K (rAny K) [x] G Q := fun w σ ρ ok vs r R p => by
  cases r with
  | cons a r =>
    cases r
    obtain ⟨a', us, rfl, ha, rs⟩ := ok.isR h a
    rw [rs.bls] at ha
    exact ⟨a', ns, rfl, ha, p.here ok q (.bl _)⟩
theorem rc_min2 {i j : Int} (q : Q (.int (if j < i then j else i)) G) : RC K (fun xs H Q => ∃ i j, xs = [.int i, .int j] ∧ Q (.int (if j < i then j else i)) H) [.int i, .int j] G Q := fun w σ ρ ok vs r R p => by
  cases r with
  | cons a r =>
    cases r with
    | cons b r =>
      cases r
      cases a
      cases b
      exact ⟨i, j, rfl, p.here ok q (.int _)⟩
theorem rc_max2 {i j : Int} (q : Q (.int (if j > i then j else i)) G) : RC K (fun xs H Q => ∃ i j, xs = [.int i, .int j] ∧ Q (.int (if j > i then j else i)) H) [.int i, .int j] G Q := fun w σ ρ ok vs r R p => by
  cases r with
  | cons a r =>
    cases r with
    | cons b r =>
      cases r
      cases a
      cases b
      exact ⟨i, j, rfl, p.here ok q (.int _)⟩
theorem rc_abs {i : Int} (q : Q (.int (if i < 0 then -i else i)) G) : RC K (fun xs H Q => ∃ i, xs = [.int i] ∧ Q (.int (if i < 0 then -i else i)) H) [.int i] G Q := fun w σ ρ ok vs r R p => by
  cases r with
  | cons a r =>
    cases r
    cases a
    exact ⟨i, rfl, p.here ok q (.int _)⟩
theorem rc_strI {i : Int} (hl : i.natAbs.log2 < 1920) (q : Q (.str (toString i)) G) : RC K (fun xs H Q => ∃ i, xs = [.int i] ∧ i.natAbs.log2 < 1920 ∧ Q (.str (toString i)) H) [.int i] G Q := fun w σ ρ ok vs r R p => by
  cases r with
  | cons a r =>
    cases r
    cases a
    exact ⟨i, rfl, hl, p.here ok q (.str _)⟩
theorem rc_sortedI {ns : List Int} (h : IsR G x (ns.map D.int)) (q : ∀ ns' : List Int, ns'.Perm ns → ns'.Pairwise (· ≤ ·) → Nw Q (ns'.map D.int) G) : RC K (rSortedI K) [x] G Q := fun w σ ρ ok vs r R p => by
  cases r with
  | cons a r =>
    cases r
    obtain ⟨a', us, rfl, ha, rs⟩ := ok.isR h a
    rw [rs.ints] at ha
    exact ⟨a', ns, rfl, ha, fun ns' a h1 h2 h3 => (q ns' h1 h2).run p ok (Reps.map (fun i => .int i) ns') a h3⟩
/-- list(range(a, b)) -/
def WRg (K : PySem.W.Frag) (te : St → Hp → (Int → Int → Hp → Prop) → Prop) (ρ : DEnv) (G : Cells) (Q : Int → Int → Cells → Prop) : Prop :=
  ∀ w σ, Ok K w G σ ρ → ∀ R : Int → Int → Hp → Prop, (∀ a b w' G', Q a b G' → Ok K w' G' σ ρ → Fut w w' → R a b w'.H) → te σ w.H R
theorem wrg_2 {Q : Int → Int → Cells → Prop} (h : WE K ta ρ G fun x G1 => WE K tb ρ G1 fun y G2 => ∃ i j, x = .int i ∧ y = .int j ∧ Q i j G2) : WRg K (tRg2 ta tb) ρ G Q := fun w σ ok R p =>
  h w σ ok _ fun v d w1 G1 q1 ok1 r1 f1 => q1 w1 σ ok1 _ fun u e w2 G2 ⟨i, j, e1, e2, q⟩ ok2 r2 f2 => by
    subst e1
    subst e2
    cases r1
    cases r2
    exact ⟨i, j, rfl, rfl, p i j w2 G2 q ok2 (f1.trans f2)⟩
theorem wrg_1 {Q : Int → Int → Cells → Prop} (h : WE K ta ρ G fun x G1 => ∃ n, x = .int n ∧ Q 0 n G1) : WRg K (tRg1 ta) ρ G Q := fun w σ ok R p =>
  h w σ ok _ fun v d w1 G1 ⟨n, e, q⟩ ok1 r1 f1 => by
    subst e
    cases r1
    exact ⟨n, rfl, p 0 n w1 G1 q ok1 f1⟩
theorem reps_rg {B : Hp} {ps : List Addr} (a b : Int) : Reps K B ps (rgV a b) (rgD a (b - a).toNat) := by
  unfold rgV rgD
  exact Reps.map (fun i => .int _) _
theorem we_listRg {tr : St → Hp → (Int → Int → Hp → Prop) → Prop} (h : WRg K tr ρ G fun a b G1 => RgOk a b ∧ Nw Q (rgD a (b - a).toNat) G1) : WE K (tLstRg tr) ρ G Q := fun w σ ok R p =>
  h w σ ok _ fun a b w1 G1 ⟨hr, q⟩ ok1 f1 => ⟨hr, q.run (p.later f1) ok1 (reps_rg a b)⟩

/-! ### isinstance -/
/-- the built-in type of a datum -/
def isK (G : Cells) : D → String → Prop
  | .non, s => s = "NoneType"
  | .bl _, s => s = "bool"
  | .int _, s => s = "int"
  | .str _, s => s = "str"
  | .lst _, s => s = "list"
  | .tup _, s => s = "tuple"
  | .ptr k, s => (s = "list" ∧ ∃ ds, G[k]? = some (.lst ds)) ∨ (s = "dict" ∧ ∃ ds, G[k]? = some (.dct ds))
  | _, _ => False
theorem Ok.tyX {w : Wd} {σ : St} {v : V} {s : String} (ok : Ok K w G σ ρ) (r : Rep K w.B w.ps v d) (h : isK G d s) : TyX K w.H v (.type s) := by
  cases r with
  | non => cases h; exact .base .non
  | bl b => cases h; exact .base (.bl b)
  | int i => cases h; exact .base (.int i)
  | str x => cases h; exact .base (.str x)
  | lst e r => cases h; exact .base (.lst (ok.ex _ _ e))
  | tup e r =>
    cases h
    rcases e with (e | ⟨o, e⟩) | ⟨o, its, n, e, c, _⟩
    · exact .base (.tup (ok.ex _ _ e))
    · exact .fTuple (ok.ex _ _ e)
    · exact .kTuple e c
  | ro e r => exact h.elim
  | adr a => exact h.elim
  | ty n => exact h.elim
  | ptr e =>
    rcases h with ⟨rfl, ds, h⟩ | ⟨rfl, ds, h⟩
    · obtain ⟨vs, e1, _⟩ := ok.cs _ _ _ e h
      exact .base (.lst e1)
    · obtain ⟨vs, e1, _⟩ := ok.cs _ _ _ e h
      exact .base (.dK e1)
theorem rc_isi {s t : String} {b : Bool} (h : isK G x s) (hb : kitB s t = some b) (q : Q (.bl b) G) : RC K (rIsi K) [x, .ty t] G Q := fun w σ ρ ok vs r R p => by
  cases r with
  | cons a r =>
    cases r with
    | cons c r =>
      cases r
      cases c
      exact ⟨_, _, _, _, b, rfl, .ty t, ok.tyX a h, kit_ty hb, p.here ok q (.bl b)⟩
def kitBs (s : String) : List String → Option Bool
  | [] => some false
  | t :: ts => match kitB s t with
    | some true => some true
    | some false => kitBs s ts
    | none => none
theorem kitBs_ok {s : String} : ∀ {ts : List String} {b : Bool}, kitBs s ts = some b → PySem.W.kitAny K (.type s) (ts.map Value.type) = some b
  | [], b, h => h
  | t :: ts, b, h => by
    unfold kitBs at h
    cases e : kitB s t with
    | none =>
      rw [e] at h
      cases h
    | some c =>
      rw [e] at h
      cases c with
      | true =>
        cases h
        exact kitAny_cons (kit_ty e) (fun z => nomatch z) fun _ => rfl
      | false => exact kitAny_cons (kit_ty e) (fun _ => kitBs_ok h) fun z => nomatch z
theorem reps_ty {B : Hp} {ps : List Addr} : ∀ {vs : List V} {ts : List String}, Reps K B ps vs (ts.map D.ty) → vs = ts.map V.ty ∧ Paired ClsV vs (ts.map Value.type)
  | [], [], .nil => ⟨rfl, .nil⟩
  | _ :: _, [], h => by cases h
  | [], _ :: _, h => by cases h
  | v :: vs, t :: ts, h => by
    cases h with
    | cons h r =>
      cases h
      obtain ⟨e, c⟩ := reps_ty r
      exact ⟨by rw [e]; rfl, .cons (.ty t) c⟩
/-- isinstance(x, (A, B)): the tuple is new -/
theorem we_isiT {s : String} {b : Bool} {ts : List String} {tx : TE} {tp : TA} (hx : WE K tx ρ G fun x G1 => WA K tp ρ G1 fun ds G2 => ds = ts.map D.ty ∧ ds.length ≤ sizeLine ∧ isK G2 x s ∧ kitBs s ts = some b ∧ Q (.bl b) G2) :
    WE K (tCB (rIsiT K) (tCons tx (tCons (tTup tp) tNil))) ρ G Q := fun w σ ok R p =>
  hx w σ ok _ fun v d w1 G1 q1 ok1 r1 f1 => q1 w1 σ ok1 _ fun vs ds w2 G2 ⟨e, hl, hk, hb, q⟩ ok2 r2 f2 => by
    subst e
    refine ⟨by rw [r2.length]; exact hl, fun a ha => ?_⟩
    obtain ⟨ok3, f3⟩ := ok2.cold (o := .tup vs) ha
    obtain ⟨e, c⟩ := reps_ty r2
    exact ⟨v, a, vs, .type s, ts.map Value.type, b, rfl, upd_same, c, ok3.tyX ((r1.mono f2.b f2.p).mono f3.b f3.p) hk, kitBs_ok hb, p (.bl b) (.bl b) _ G2 q ok3 (.bl b) ((f1.trans f2).trans f3)⟩

/-! ### methods -/
theorem we_bm {T : String} {r : V → List V → Hp → VK → Prop} {to : TE} {t : TA} (hT : ∀ w σ v G1 ρ d, Ok K w G1 σ ρ → Rep K w.B w.ps v d → (∃ ds, IsL G1 d ds) → tyV K T v w.H) (h : WE K to ρ G fun x G1 => (∃ ds, IsL G1 x ds) ∧ WA K t ρ G1 fun xs G2 => RM K r x xs G2 Q) : WE K (tBM K T r to t) ρ G Q := fun w σ ok R p =>
  h w σ ok _ fun v d w1 G1 ⟨hl, q1⟩ ok1 r1 f1 => ⟨hT w1 σ v G1 ρ d ok1 r1 hl, q1 w1 σ ok1 _ fun vs ds w2 G2 q2 ok2 r2 f2 => q2 w2 σ ρ ok2 v vs (r1.mono f2.b f2.p) r2 R (p.later (f1.trans f2))⟩
theorem ty_list {w : Wd} {σ : St} {v : V} {G1 : Cells} {ρ : DEnv} {d : D} (ok : Ok K w G1 σ ρ) (r : Rep K w.B w.ps v d) (h : ∃ ds, IsL G1 d ds) : tyV K "list" v w.H := by
  obtain ⟨ds, h⟩ := h
  obtain ⟨a, vs, rfl, ha, _⟩ := ok.isL h r
  exact .inl ⟨rfl, vs, .inl (.inl ha)⟩
theorem we_bmL {r : V → List V → Hp → VK → Prop} {to : TE} {t : TA} (h : WE K to ρ G fun x G1 => (∃ ds, IsL G1 x ds) ∧ WA K t ρ G1 fun xs G2 => RM K r x xs G2 Q) : WE K (tBM K "list" r to t) ρ G Q := we_bm (fun _ _ _ _ _ _ ok r h => ty_list ok r h) h
theorem we_bmL0 {r : V → List V → Hp → VK → Prop} {to : TE} (h : WE K to ρ G fun x G1 => (∃ ds, IsL G1 x ds) ∧ RM K r x [] G1 Q) : WE K (tBM0 K "list" r to) ρ G Q := fun w σ ok R p =>
  h w σ ok _ fun v d w1 G1 ⟨hl, q1⟩ ok1 r1 f1 => ⟨ty_list ok1 r1 hl, q1 w1 σ ρ ok1 v [] r1 .nil R (p.later f1)⟩
/-- a cell's list is changed -/
theorem cell_put {w : Wd} {σ : St} {R : VK} {k : Nat} {a : Addr} {c c' : Cell} {o : HO} {v : V} (ok : Ok K w G σ ρ) (p : Post K w σ ρ Q R) (ha : w.ps[k]? = some a) (hk : G[k]? = some c) (hd : c ≠ .dead) (hc : CellR K w.B w.ps (upd w.H a o) a c') (q : Q d (G.set k c')) (r : Rep K w.B w.ps v d) : R v (upd w.H a o) := by
  obtain ⟨ok1, f1⟩ := ok.write (o := o) (c' := c') ha hk hd hc
  exact p v d _ _ q ok1 r f1
theorem rm_append {k : Nat} {ds : List D} {z : D} (hk : G[k]? = some (.lst ds)) (hl : ds.length < sizeLine) (q : Q .non (G.set k (.lst (ds ++ [z])))) : RM K rAppend (.ptr k) [z] G Q := fun w σ ρ ok v vs rx r R p => by
  cases rx with
  | ptr ha =>
    cases r with
    | cons rz r =>
      cases r
      obtain ⟨us, e, rs⟩ := ok.cs k _ _ ha hk
      exact ⟨_, us, _, rfl, rfl, e, by rw [rs.length]; exact hl, cell_put (c' := .lst (ds ++ [_])) ok p ha hk (fun z => nomatch z) ⟨_, upd_same, rs.append (.cons rz .nil)⟩ q .non⟩
theorem rm_extend {k : Nat} {ds es : List D} (hk : G[k]? = some (.lst ds)) (hy : IsL G y es) (hl : ds.length + es.length ≤ sizeLine) (q : Q .non (G.set k (.lst (ds ++ es)))) : RM K rExtend (.ptr k) [y] G Q := fun w σ ρ ok v vs rx r R p => by
  cases rx with
  | ptr ha =>
    cases r with
    | cons ry r =>
      cases r
      obtain ⟨us, e, rs⟩ := ok.cs k _ _ ha hk
      obtain ⟨b, zs, rfl, hb, rz⟩ := ok.isL hy ry
      exact ⟨_, b, us, zs, rfl, rfl, e, hb, by rw [rs.length, rz.length]; exact hl, cell_put (c' := .lst (ds ++ es)) ok p ha hk (fun z => nomatch z) ⟨_, upd_same, rs.append rz⟩ q .non⟩
theorem rm_pop {k : Nat} {ds : List D} {z : D} (hk : G[k]? = some (.lst ds)) (hz : ds[ds.length - 1]? = some z) (q : Q z (G.set k (.lst ds.dropLast))) : RM K rPop (.ptr k) [] G Q := fun w σ ρ ok v vs rx r R p => by
  cases rx with
  | ptr ha =>
    cases r
    obtain ⟨us, e, rs⟩ := ok.cs k _ _ ha hk
    obtain ⟨u, eu, ru⟩ := rs.get hz
    refine ⟨_, us, u, rfl, rfl, e, by rw [rs.length]; exact eu, cell_put (c' := .lst ds.dropLast) ok p ha hk (fun z => nomatch z) ⟨_, upd_same, ?_⟩ q ru⟩
    rw [List.dropLast_eq_take, List.dropLast_eq_take, rs.length]
    exact rs.take _
/-- xs[i] = v -/
theorem wg_setL {to ti : TE} {Q : DEnv → Cells → Prop} (h : WE K to ρ G fun x G1 => WE K ti ρ G1 fun y G2 => ∃ k ds i j, x = .ptr k ∧ y = .int i ∧ G2[k]? = some (.lst ds) ∧ ixN ds.length i = some j ∧ Q ρ (G2.set k (.lst (ds.set j d)))) : WG K (gSub to ti rSetL) d ρ G Q := fun w σ v ok rv R p =>
  h w σ ok _ fun vo x w1 G1 q1 ok1 r1 f1 => q1 w1 σ ok1 _ fun vi y w2 G2 ⟨k, ds, i, j, e1, e2, hk, hj, q⟩ ok2 r2 f2 => by
    subst e1
    subst e2
    cases r2
    have r1' := r1.mono f2.b f2.p
    cases r1' with
    | ptr ha =>
      obtain ⟨us, e, rs⟩ := ok2.cs k _ _ ha hk
      have rv2 := (rv.mono f1.b f1.p).mono f2.b f2.p
      refine ⟨_, us, i, j, rfl, rfl, e, by rw [rs.length]; exact hj, ?_⟩
      obtain ⟨ok3, f3⟩ := ok2.write (o := .lst (us.set j v)) (c' := .lst (ds.set j d)) ha hk (fun z => nomatch z) ⟨_, upd_same, rs.set rv2 j⟩
      exact p _ _ σ ρ q ok3 ((f1.trans f2).trans f3)
theorem we_m1 {r : V → List V → Hp → VK → Prop} {to : TE} (h : WE K to ρ G fun x G1 => (∃ z, x = .str z) ∧ WE K te ρ G1 fun y G2 => RM K r x [y] G2 Q) : WE K (tM1 r to te) ρ G Q := fun w σ ok R p =>
  h w σ ok _ fun v d w1 G1 ⟨⟨z, e⟩, q1⟩ ok1 r1 f1 => by
    subst e
    cases r1
    exact ⟨⟨z, rfl⟩, q1 w1 σ ok1 _ fun u e w2 G2 q2 ok2 r2 f2 => q2 w2 σ ρ ok2 _ [u] (.str z) (.cons r2 .nil) R (p.later (f1.trans f2))⟩
theorem we_m0 {r : V → List V → Hp → VK → Prop} {to : TE} (h : WE K to ρ G fun x G1 => (∃ z, x = .str z) ∧ RM K r x [] G1 Q) : WE K (tM0 r to) ρ G Q := fun w σ ok R p =>
  h w σ ok _ fun v d w1 G1 ⟨⟨z, e⟩, q1⟩ ok1 r1 f1 => by
    subst e
    cases r1
    exact ⟨⟨z, rfl⟩, q1 w1 σ ρ ok1 _ [] (.str z) .nil R (p.later f1)⟩
theorem rm_split {a b : Str} (hb : (b.length == 0) = false) (hl : a.length + 2 ≤ sizeLine) (q : Nw Q ((Txt.split a b).map D.str) G) :
    RM K (fun x xs H Q => ∃ a b, x = .str a ∧ xs = [.str b] ∧ (b.length == 0) = false ∧ a.length + 2 ≤ sizeLine ∧ rNewStrs (Txt.split a b) H Q) (.str a) [.str b] G Q := fun w σ ρ ok v vs rx r R p => by
  cases rx
  cases r with
  | cons r1 r =>
    cases r
    cases r1
    exact ⟨a, b, rfl, rfl, hb, hl, q.run p ok (Reps.map (fun z => .str z) _)⟩
theorem rm_join {a : Str} {ys : List Str} (hy : IsR G y (ys.map D.str)) (hl : (ys.map (·.length)).sum + ys.length * a.length ≤ 16777216) (q : Q (.str (Txt.join a ys)) G) :
    RM K (fun x xs H Q => ∃ a p, ∃ ys : List Str, x = .str a ∧ xs = [.ref p] ∧ (SqL K H p (ys.map V.str) ∨ SqT K H p (ys.map V.str)) ∧ (ys.map (·.length)).sum + ys.length * a.length ≤ 16777216 ∧ Q (.str (Txt.join a ys)) H) (.str a) [y] G Q := fun w σ ρ ok v vs rx r R p => by
  cases rx
  cases r with
  | cons ry r =>
    cases r
    obtain ⟨b, zs, rfl, hb, rz⟩ := ok.isR hy ry
    rw [rz.strs] at hb
    exact ⟨a, b, ys, rfl, rfl, .inl hb, hl, p.here ok q (.str _)⟩
/-- text * number -/
def rMulS : R2 := fun x y H Q => ∃ (z : Str) (n : Int), x = .str z ∧ y = .int n ∧ -(2 ^ 62) < n ∧ n < 2 ^ 62 ∧ z.length * n.toNat ≤ sizeLine ∧ Q (.str ⟨(List.replicate n.toNat z.cps.toList).flatten.toArray⟩) H
theorem foldl_cat : ∀ (n : Nat) (a : Array Nat) (b : Array Nat), (List.replicate n a).foldl (· ++ ·) b = b ++ (List.replicate n a.toList).flatten.toArray
  | 0, a, b => by simp
  | n + 1, a, b => by
    rw [List.replicate_succ, List.replicate_succ, List.foldl_cons, foldl_cat n a (b ++ a), List.flatten_cons]
    apply Array.toList_inj.mp
    simp
theorem op_mulS {X : Cx} : OpR X (binaryOp .Mult) rMulS := by
  intro pins s σ H x y v u Q I rx ry h
  obtain ⟨z, n, rfl, rfl, h1, h2, hl, q⟩ := h
  obtain ⟨t, rfl⟩ := rx
  obtain ⟨t', rfl⟩ := ry
  have hbig : ¬ n < 1 → ((x : Nat) → x = z.length → (x : Int) * n ≤ 2 ^ 62) := fun hn x hx => by
    subst hx
    have e : ((z.length * n.toNat : Nat) : Int) = (z.length : Int) * n := by
      rw [Int.natCast_mul]
      congr 1
      omega
    have : ((z.length * n.toNat : Nat) : Int) ≤ (sizeLine : Nat) := by exact_mod_cast hl
    rw [e] at this
    rw [sizeLine_eq] at this
    omega
  refine PySem.P.mul_str ?_ (fun hn h0 hc => ?_) (fun hn h0 => ?_) ?_
  · rw [decide_eq_false (by omega), decide_eq_false (by omega)]
    rfl
  · have hb := hbig hn z.length rfl
    have hn0 : 0 < n := by omega
    have hle : (2 ^ 63 - 1) / n < (z.length : Int) := hc
    have h3 := (Int.ediv_lt_iff_lt_mul hn0).mp hle
    omega
  · show Builtin.Str.tooLong _ = false
    unfold Builtin.Str.tooLong
    rw [decide_eq_false_iff_not]
    omega
  · by_cases hn : n < 1
    · rw [if_pos hn]
      have e : n.toNat = 0 := by omega
      rw [e] at q
      exact ⟨by decide, ⟨.str _, H, I.tok _, ⟨_, rfl⟩, q⟩⟩
    · rw [if_neg hn]
      by_cases h0 : (n == 1 || z.length == 0) = true
      · rw [if_pos h0]
        refine ⟨.str z, H, I, ⟨_, rfl⟩, ?_⟩
        have : (⟨(List.replicate n.toNat z.cps.toList).flatten.toArray⟩ : Str) = z := by
          rw [Bool.or_eq_true] at h0
          rcases h0 with h0 | h0
          · have : n = 1 := by simpa using h0
            subst this
            show (⟨(List.replicate 1 z.cps.toList).flatten.toArray⟩ : Str) = z
            simp
          · have hz : z.cps.toList = [] := by
              have : z.cps.size = 0 := by simpa [Str.length] using h0
              exact List.eq_nil_of_length_eq_zero (by simpa using this)
            have e2 : z = ⟨#[]⟩ := by
              cases z with
              | mk c => simp at hz; rw [hz]
            rw [hz]
            rw [e2]
            simp
        rw [this] at q
        exact q
      · rw [if_neg h0, foldl_cat]
        have ee : (#[] : Array Nat) ++ (List.replicate n.toNat z.cps.toList).flatten.toArray = (List.replicate n.toNat z.cps.toList).flatten.toArray := by simp
        rw [ee]
        refine ⟨?_, ⟨.str _, H, I.tok _, ⟨_, rfl⟩, q⟩⟩
        show (List.replicate n.toNat z.cps.toList).flatten.toArray.size ≤ sizeLine
        simp [Str.length] at hl ⊢
        rw [Nat.mul_comm]
        exact hl
theorem rd_mulS {z : Str} {n : Int} (h1 : -(2 ^ 62) < n) (h2 : n < 2 ^ 62) (hl : z.length * n.toNat ≤ sizeLine) (q : Q (.str ⟨(List.replicate n.toNat z.cps.toList).flatten.toArray⟩) G) : RD K rMulS (.str z) (.int n) G Q := fun w σ ρ ok vx vy rx ry R p => by
  cases rx
  cases ry
  exact ⟨z, n, rfl, rfl, h1, h2, hl, p.here ok q (.str _)⟩

/-! ### a slot's cell is frozen -/
theorem Ok.freeze {w : Wd} {σ : St} {k : Nat} {ds : List D} {a : Addr} (ok : Ok K w G σ ρ) (ha : w.ps[k]? = some a) (hk : G[k]? = some (.lst ds)) : ∃ w', w'.H = w.H ∧ Ok K w' (G.set k .dead) σ ρ ∧ Fut w w' ∧ w'.ps = w.ps ∧ Rep K w'.B w'.ps (.ref a) (.lst ds) := by
  obtain ⟨vs, e, r⟩ := ok.cs k a _ ha hk
  have nB := ok.nb k a _ ha hk (fun z => nomatch z)
  have eB : Ex w.B (upd w.B a (.lst vs)) := Ex.new nB
  refine ⟨⟨upd w.B a (.lst vs), w.H, w.ps⟩, rfl, ⟨fun b o z => ?_, ok.al, ok.nd, by rw [List.length_set]; exact ok.ln, fun j p c h1 h2 h3 => ?_, fun j p c h1 h2 => ?_, ok.lr, fun i d h => ?_⟩, ⟨eB, Pre.refl _, fun _ _ h _ => h, fun _ h => .inl h, fun b m => ?_⟩, rfl, .lst upd_same (r.mono eB (Pre.refl _))⟩
  · have z : upd w.B a (.lst vs) b = some o := z
    by_cases eb : b = a
    · subst eb
      rw [upd_same] at z
      rw [← z]
      exact e
    · rw [upd_ne eb] at z
      exact ok.ex b o z
  · by_cases ej : k = j
    · subst ej
      have hl : k < G.length := (List.getElem?_eq_some_iff.mp hk).1
      rw [List.getElem?_set_self hl] at h2
      cases h2
      exact absurd rfl h3
    · rw [List.getElem?_set_ne ej] at h2
      show upd w.B a (.lst vs) p = Option.none
      rw [upd_ne (fun z : p = a => ej (nd_at ok.nd ha (by rw [← z]; exact h1)))]
      exact ok.nb j p c h1 h2 h3
  · by_cases ej : k = j
    · subst ej
      have hl : k < G.length := (List.getElem?_eq_some_iff.mp hk).1
      rw [List.getElem?_set_self hl] at h2
      cases h2
      trivial
    · rw [List.getElem?_set_ne ej] at h2
      exact (ok.cs j p c h1 h2).mono eB (Pre.refl _) rfl
  · obtain ⟨v, e1, r1⟩ := ok.sl i d h
    exact ⟨v, e1, r1.mono eB (Pre.refl _)⟩
  · have m : upd w.B a (.lst vs) b ≠ Option.none := m
    by_cases eb : b = a
    · subst eb
      exact .inr (.inr (List.mem_of_getElem? ha))
    · rw [upd_ne eb] at m
      exact .inl m
/-- at a slot: its cell is a list no more, but a datum -/
theorem ws_fz {E : EndsD} {ts : TS} {ds : List D} (i k : Nat) (hi : ρ[i]? = some (some (.ptr k))) (hk : G[k]? = some (.lst ds)) (h : WS K ts (ρ.set i (some (.lst ds))) (G.set k .dead) E) : WS K ts ρ G E := fun w σ ok X l => by
  obtain ⟨v, ev, rv⟩ := ok.sl i _ hi
  cases rv with
  | ptr ha =>
    obtain ⟨w', e, ok', f, ep, r⟩ := ok.freeze ha hk
    rw [← e]
    refine h w' σ (ok'.slots (by rw [List.length_set]; exact ok'.lr) fun j d hj => ?_) X (l.later f)
    by_cases ej : i = j
    · subst ej
      rw [List.getElem?_set_self (List.getElem?_eq_some_iff.mp hi).1] at hj
      cases hj
      exact ⟨_, ev, r⟩
    · rw [List.getElem?_set_ne ej] at hj
      exact ok'.sl j d hj
/-- what an expression gives, a cell's list, is frozen -/
theorem we_fz (h : WE K te ρ G fun d G1 => ∃ k ds, d = .ptr k ∧ G1[k]? = some (.lst ds) ∧ Q (.lst ds) (G1.set k .dead)) : WE K te ρ G Q := fun w σ ok R p =>
  h w σ ok _ fun v d w1 G1 ⟨k, ds, e, hk, q⟩ ok1 r1 f1 => by
    subst e
    cases r1 with
    | ptr ha =>
      obtain ⟨w', e, ok', f, ep, r⟩ := ok1.freeze ha hk
      rw [← e]
      exact p _ _ w' _ q ok' r (f1.trans f)
end
end DL
/-! DE: small helps for the readings. -/
namespace DL
open PySem PySem.Spec PyProof.Rows L2
theorem ite_P {c A B : Prop} [Decidable c] (h1 : c → A) (h2 : ¬ c → B) : if decide c = true then A else B := by
  by_cases h : c
  · rw [if_pos (decide_eq_true h)]
    exact h1 h
  · rw [if_neg (by rw [decide_eq_false h]; exact Bool.false_ne_true)]
    exact h2 h
theorem ite_N {c A B : Prop} [Decidable c] (h1 : ¬ c → A) (h2 : c → B) : if (!decide c) = true then A else B := by
  by_cases h : c
  · rw [decide_eq_true h]
    exact h2 h
  · rw [decide_eq_false h]
    exact h1 h
theorem ite_b {b : Bool} {A B : Prop} (h1 : b = true → A) (h2 : b = false → B) : if b = true then A else B := by
  cases b with
  | true => exact h1 rfl
  | false => exact h2 rfl
theorem ite_nb {b : Bool} {A B : Prop} (h1 : b = false → A) (h2 : b = true → B) : if (!b) = true then A else B := by
  cases b with
  | true => exact h2 rfl
  | false => exact h1 rfl
theorem ite_T {A B : Prop} (h : A) : if true = true then A else B := h
theorem ite_F {A B : Prop} (h : B) : if false = true then A else B := h
theorem ite_nT {A B : Prop} (h : B) : if (!true) = true then A else B := h
theorem ite_nF {A B : Prop} (h : A) : if (!false) = true then A else B := h
theorem ite_yes {c A B : Prop} [Decidable c] (hc : c) (h : A) : if decide c = true then A else B := by
  rw [if_pos (decide_eq_true hc)]
  exact h
theorem ite_no {c A B : Prop} [Decidable c] (hc : ¬ c) (h : B) : if decide c = true then A else B := by
  rw [if_neg (by rw [decide_eq_false hc]; exact Bool.false_ne_true)]
  exact h
theorem ite_nyes {c A B : Prop} [Decidable c] (hc : c) (h : B) : if (!decide c) = true then A else B := by
  rw [decide_eq_true hc]
  exact h
theorem ite_nno {c A B : Prop} [Decidable c] (hc : ¬ c) (h : A) : if (!decide c) = true then A else B := by
  rw [decide_eq_false hc]
  exact h
section
variable {K : PySem.W.Frag} {ρ ρ' : DEnv} {G G' : Cells} {Q : D → Cells → Prop} {x y d : D}
theorem nn_n : isNonD .non = true := rfl
theorem nn_b {b : Bool} : isNonD (.bl b) = false := rfl
theorem nn_i {b : Int} : isNonD (.int b) = false := rfl
theorem nn_s {b : Str} : isNonD (.str b) = false := rfl
theorem nn_l {b : List D} : isNonD (.lst b) = false := rfl
theorem nn_t {b : List D} : isNonD (.tup b) = false := rfl
theorem nn_p {b : Nat} : isNonD (.ptr b) = false := rfl
theorem nm_n : (!isNonD .non) = false := rfl
theorem nm_b {b : Bool} : (!isNonD (.bl b)) = true := rfl
theorem nm_i {b : Int} : (!isNonD (.int b)) = true := rfl
theorem nm_s {b : Str} : (!isNonD (.str b)) = true := rfl
theorem nm_l {b : List D} : (!isNonD (.lst b)) = true := rfl
theorem nm_t {b : List D} : (!isNonD (.tup b)) = true := rfl
theorem nm_p {b : Nat} : (!isNonD (.ptr b)) = true := rfl
theorem rd_isN' {b : Bool} (e : isNonD x = b) (q : Q (.bl b) G) : RD K (fun x y H Q => y = .non ∧ Q (.bl (decide (x = .non))) H) x .non G Q := rd_isN (by rw [e]; exact q)
theorem rd_notN' {b : Bool} (e : (!isNonD x) = b) (q : Q (.bl b) G) : RD K (fun x y H Q => y = .non ∧ Q (.bl (!decide (x = .non))) H) x .non G Q := rd_notN (by rw [e]; exact q)
theorem wg_name' {i : Nat} {Q : DEnv → Cells → Prop} (e : ρ.set i (some d) = ρ') (q : Q ρ' G) : WG K (gName i) d ρ G Q := wg_name (e ▸ q)
theorem ws_par' {i j : Nat} {nx bk ct : DEnv → Cells → Prop} {rt : D → Cells → Prop} {t : TA} (h : WA K t ρ G fun ds G1 => ∃ a b, ds = [a, b] ∧ ∃ ρ', (ρ.set i (some a)).set j (some b) = ρ' ∧ nx ρ' G1) : WS K (tPar i j t) ρ G ⟨nx, rt, bk, ct⟩ := by
  refine ws_par fun w σ ok R p => h w σ ok R fun vs ds w' G' ⟨a, b, e, ρ', e2, q⟩ => p vs ds w' G' ⟨a, b, e, ?_⟩
  rw [e2]
  exact q
end
theorem cpow18 : CPow 10 18 := ⟨by decide, by decide, by decide⟩
theorem ex_bl {b : Bool} {Q : Bool → Prop} (h : Q b) : ∃ c, D.bl b = D.bl c ∧ Q c := ⟨b, rfl, h⟩
theorem ex_int {b : Int} {Q : Int → Prop} (h : Q b) : ∃ c, D.int b = D.int c ∧ Q c := ⟨b, rfl, h⟩
theorem ex_str {b : Str} {Q : Str → Prop} (h : Q b) : ∃ c, D.str b = D.str c ∧ Q c := ⟨b, rfl, h⟩
theorem ex_tup {b : List D} {Q : List D → Prop} (h : Q b) : ∃ c, D.tup b = D.tup c ∧ Q c := ⟨b, rfl, h⟩
theorem and_str {b : Str} {Q : Prop} (h : Q) : (∃ c, D.str b = D.str c) ∧ Q := ⟨⟨b, rfl⟩, h⟩
theorem ex_int2 {a b : Int} {Q : Int → Int → Prop} (h : Q a b) : ∃ c d, D.int a = D.int c ∧ D.int b = D.int d ∧ Q c d := ⟨a, b, rfl, rfl, h⟩
theorem ex_par {x y : D} {ρ ρ' : DEnv} {Q : DEnv → Prop} {i j : Nat} (e : (ρ.set i (some x)).set j (some y) = ρ') (h : Q ρ') : ∃ a b, [x, y] = [a, b] ∧ ∃ ρ', (ρ.set i (some a)).set j (some b) = ρ' ∧ Q ρ' := ⟨x, y, rfl, ρ', e, h⟩
theorem ex_rg1 {a : Int} {Q : Int → Prop} (h : -(2 ^ 62) ≤ a ∧ a < 2 ^ 62) (q : Q a) : ∃ j : Int, [D.int a] = [D.int j] ∧ -(2 ^ 62) ≤ j ∧ j < 2 ^ 62 ∧ Q j := ⟨a, rfl, h.1, h.2, q⟩
theorem ex_rg2 {a b : Int} {Q : Int → Int → Prop} (h : -(2 ^ 62) ≤ a ∧ a < 2 ^ 62 ∧ -(2 ^ 62) ≤ b ∧ b < 2 ^ 62) (q : Q a b) : ∃ i j : Int, [D.int a, D.int b] = [D.int i, D.int j] ∧ (-(2 ^ 62) ≤ i ∧ i < 2 ^ 62 ∧ -(2 ^ 62) ≤ j ∧ j < 2 ^ 62) ∧ Q i j := ⟨a, b, rfl, h, q⟩
theorem map_get {α β : Type} {f : α → β} {l : List α} {i : Nat} {d : β} (h : (l.map f)[i]? = some d) : ∃ a, l[i]? = some a ∧ d = f a := by
  rw [List.getElem?_map] at h
  cases e : l[i]? with
  | none =>
    rw [e] at h
    cases h
  | some a =>
    rw [e] at h
    exact ⟨a, rfl, (Option.some.inj h).symm⟩
theorem get_app {α : Type} {a b : List α} {k : Nat} : (a ++ b)[a.length + k]? = b[k]? := by
  rw [List.getElem?_append_right (Nat.le_add_right _ _), Nat.add_sub_cancel_left]
theorem set_app {α : Type} {a b : List α} {k : Nat} {c : α} : (a ++ b).set (a.length + k) c = a ++ b.set k c := by
  rw [List.set_append_right _ _ (Nat.le_add_right _ _), Nat.add_sub_cancel_left]
theorem set_same {α : Type} {l : List α} {k : Nat} {c d : α} (h : l[k]? = some d) : (l.set k c)[k]? = some c := List.getElem?_set_self (List.getElem?_eq_some_iff.mp h).1
theorem get_last {α : Type} {a : List α} {c : α} : (a ++ [c])[a.length]? = some c := get_app (k := 0)
theorem set_last {α : Type} {a : List α} {c d : α} : (a ++ [c]).set a.length d = a ++ [d] := set_app (k := 0)
theorem get_prev {α : Type} {a : List α} {c : α} {k : Nat} (h : k < a.length) : (a ++ [c])[k]? = a[k]? := List.getElem?_append_left h
theorem le_size {n : Nat} (h : n ≤ 100000) : n ≤ sizeLine := Nat.le_trans h (by decide)
theorem lt_size {n : Nat} (h : n < 100000) : n < sizeLine := Nat.lt_of_lt_of_le h (by decide)
theorem at0 {α : Type} {d : α} {ds : List α} : atI (d :: ds) 0 = some d := by
  unfold atI ixN
  simp
theorem atZ {α : Type} {d : α} {ds : List α} {i : Int} (h0 : 0 ≤ i) (h : ds[i.toNat]? = some d) : atI ds i = some d := by
  have hl := (List.getElem?_eq_some_iff.mp h).1
  unfold atI ixN
  rw [if_pos h0, if_pos (by omega)]
  exact h
theorem ix0 {n : Nat} (h : 0 < n) : ixN n 0 = some 0 := by
  unfold ixN
  rw [if_pos (Int.le_refl 0), if_pos (by omega)]
  rfl
theorem ixZ {n : Nat} {i : Int} (h0 : 0 ≤ i) (h : i < n) : ixN n i = some i.toNat := by
  unfold ixN
  rw [if_pos h0, if_pos h]
theorem ws_par3' {K : PySem.W.Frag} {ρ : DEnv} {G : Cells} {i j l : Nat} {nx bk ct : DEnv → Cells → Prop} {rt : D → Cells → Prop} {t : TA} (h : WA K t ρ G fun ds G1 => ∃ a b c, ds = [a, b, c] ∧ ∃ ρ', ((ρ.set i (some a)).set j (some b)).set l (some c) = ρ' ∧ nx ρ' G1) : WS K (tPar3 i j l t) ρ G ⟨nx, rt, bk, ct⟩ := fun w σ ok X lk =>
  h w σ ok _ fun vs ds w1 G1 ⟨a, b, c, e, ρ', e2, q⟩ ok1 r1 f1 => by
    subst e
    cases r1 with
    | cons h1 r =>
      cases r with
      | cons h2 r =>
        cases r with
        | cons h3 r =>
          cases r
          refine ⟨_, _, _, rfl, lk.nx w1 G1 _ _ q ?_ f1⟩
          rw [← e2]
          exact ((ok1.set h1).set h2).set h3
theorem ex_par3 {x y z : D} {ρ ρ' : DEnv} {Q : DEnv → Prop} {i j l : Nat} (e : ((ρ.set i (some x)).set j (some y)).set l (some z) = ρ') (h : Q ρ') : ∃ a b c, [x, y, z] = [a, b, c] ∧ ∃ ρ', ((ρ.set i (some a)).set j (some b)).set l (some c) = ρ' ∧ Q ρ' := ⟨x, y, z, rfl, ρ', e, h⟩
theorem kb_ii : kitB "int" "int" = some true := by decide +kernel
theorem kb_ib : kitB "int" "bool" = some false := by decide +kernel
theorem kb_is : kitB "int" "str" = some false := by decide +kernel
theorem kb_il : kitB "int" "list" = some false := by decide +kernel
theorem kb_it : kitB "int" "tuple" = some false := by decide +kernel
theorem kb_id : kitB "int" "dict" = some false := by decide +kernel
theorem kb_bi : kitB "bool" "int" = some true := by decide +kernel
theorem kb_bb : kitB "bool" "bool" = some true := by decide +kernel
theorem kb_bs : kitB "bool" "str" = some false := by decide +kernel
theorem kb_bl : kitB "bool" "list" = some false := by decide +kernel
theorem kb_bt : kitB "bool" "tuple" = some false := by decide +kernel
theorem kb_bd : kitB "bool" "dict" = some false := by decide +kernel
theorem kb_si : kitB "str" "int" = some false := by decide +kernel
theorem kb_sb : kitB "str" "bool" = some false := by decide +kernel
theorem kb_ss : kitB "str" "str" = some true := by decide +kernel
theorem kb_sl : kitB "str" "list" = some false := by decide +kernel
theorem kb_st : kitB "str" "tuple" = some false := by decide +kernel
theorem kb_sd : kitB "str" "dict" = some false := by decide +kernel
theorem kb_li : kitB "list" "int" = some false := by decide +kernel
theorem kb_lb : kitB "list" "bool" = some false := by decide +kernel
theorem kb_ls : kitB "list" "str" = some false := by decide +kernel
theorem kb_ll : kitB "list" "list" = some true := by decide +kernel
theorem kb_lt : kitB "list" "tuple" = some false := by decide +kernel
theorem kb_ld : kitB "list" "dict" = some false := by decide +kernel
theorem kb_ti : kitB "tuple" "int" = some false := by decide +kernel
theorem kb_tb : kitB "tuple" "bool" = some false := by decide +kernel
theorem kb_ts : kitB "tuple" "str" = some false := by decide +kernel
theorem kb_tl : kitB "tuple" "list" = some false := by decide +kernel
theorem kb_tt : kitB "tuple" "tuple" = some true := by decide +kernel
theorem kb_td : kitB "tuple" "dict" = some false := by decide +kernel
theorem kb_ni : kitB "NoneType" "int" = some false := by decide +kernel
theorem kb_nb : kitB "NoneType" "bool" = some false := by decide +kernel
theorem kb_ns : kitB "NoneType" "str" = some false := by decide +kernel
theorem kb_nl : kitB "NoneType" "list" = some false := by decide +kernel
theorem kb_nt : kitB "NoneType" "tuple" = some false := by decide +kernel
theorem kb_nd : kitB "NoneType" "dict" = some false := by decide +kernel
end DL
/-! TX: texts as lists of codes: lines, places, spans. Plain Lean. -/
namespace Tx

/-- the lines of a text (10 is the line feed) -/
def lines : List Nat → List (List Nat)
  | [] => [[]]
  | c :: r => if c = 10 then [] :: lines r else (c :: (lines r).headD []) :: (lines r).tail
theorem lines_ne : ∀ l, lines l ≠ []
  | [] => by simp [lines]
  | c :: r => by
    unfold lines
    split <;> simp
theorem lines_cons (l : List Nat) : ∃ h t, lines l = h :: t := by
  cases e : lines l with
  | nil => exact absurd e (lines_ne l)
  | cons h t => exact ⟨h, t, rfl⟩
theorem lines_nl (r : List Nat) : lines (10 :: r) = [] :: lines r := by
  show (if (10 : Nat) = 10 then _ else _) = _
  rw [if_pos rfl]
theorem lines_c {c : Nat} (h : c ≠ 10) {r : List Nat} {l : List Nat} {t : List (List Nat)} (e : lines r = l :: t) : lines (c :: r) = (c :: l) :: t := by
  show (if c = 10 then _ else _) = _
  rw [if_neg h, e]
  rfl
/-- lines of two texts, one behind the other -/
theorem lines_app : ∀ (a b : List Nat) {p q : List Nat} {i t : List (List Nat)}, lines a = i ++ [p] → lines b = q :: t → lines (a ++ b) = i ++ (p ++ q) :: t
  | [], b, p, q, i, t, ha, hb => by
    have : i = [] ∧ p = [] := by
      unfold lines at ha
      cases i with
      | nil => simp at ha; exact ⟨rfl, ha⟩
      | cons x y =>
        simp at ha
    obtain ⟨rfl, rfl⟩ := this
    simpa using hb
  | c :: a, b, p, q, i, t, ha, hb => by
    by_cases hc : c = 10
    · subst hc
      rw [lines_nl] at ha
      rw [List.cons_append, lines_nl]
      cases i with
      | nil =>
        simp at ha
        exact absurd ha.2 (lines_ne a)
      | cons x y =>
        simp at ha
        obtain ⟨rfl, ha⟩ := ha
        rw [lines_app a b ha hb]
        rfl
    · obtain ⟨h, t', e⟩ := lines_cons a
      rw [lines_c hc e] at ha
      rw [List.cons_append]
      cases i with
      | nil =>
        simp at ha
        obtain ⟨rfl, rfl⟩ := ha
        have := lines_app a b (i := []) (p := h) (by simpa using e) hb
        rw [lines_c hc this]
        rfl
      | cons x y =>
        simp at ha
        obtain ⟨rfl, ha⟩ := ha
        have := lines_app a b (i := h :: y) (p := p) (by rw [e, ha]; rfl) hb
        rw [lines_c hc (show lines (a ++ b) = h :: (y ++ (p ++ q) :: t) from this)]
        rfl
theorem lines_split (l : List Nat) : ∃ i p, lines l = i ++ [p] := by
  have := lines_ne l
  exact ⟨(lines l).dropLast, (lines l).getLast this, (List.dropLast_concat_getLast this).symm⟩
theorem lines_free : ∀ l, ∀ p ∈ lines l, 10 ∉ p
  | [], p, h => by
    simp [lines] at h
    simp [h]
  | c :: r, p, h => by
    by_cases hc : c = 10
    · subst hc
      rw [lines_nl] at h
      rcases List.mem_cons.mp h with rfl | h
      · simp
      · exact lines_free r p h
    · obtain ⟨q, t, e⟩ := lines_cons r
      rw [lines_c hc e] at h
      have ih := lines_free r
      rw [e] at ih
      rcases List.mem_cons.mp h with rfl | h
      · intro z
        rcases List.mem_cons.mp z with z | z
        · exact hc z.symm
        · exact ih q List.mem_cons_self z
      · exact ih p (List.mem_cons_of_mem _ h)
/-- texts joined by line feeds -/
def joinL : List (List Nat) → List Nat
  | [] => []
  | [x] => x
  | x :: r => x ++ 10 :: joinL r
theorem joinL_cons (x y : List Nat) (r : List (List Nat)) : joinL (x :: y :: r) = x ++ 10 :: joinL (y :: r) := rfl
theorem lines_of_free : ∀ {x : List Nat}, 10 ∉ x → lines x = [x]
  | [], _ => rfl
  | c :: x, h => by
    have hc : c ≠ 10 := fun z => h (by rw [z]; exact List.mem_cons_self)
    rw [lines_c hc (lines_of_free (x := x) fun z => h (List.mem_cons_of_mem _ z))]
theorem lines_join : ∀ (ps : List (List Nat)), ps ≠ [] → (∀ p ∈ ps, 10 ∉ p) → lines (joinL ps) = ps
  | [], h, _ => absurd rfl h
  | [x], _, h => lines_of_free (h x (by simp))
  | x :: y :: r, _, h => by
    rw [joinL_cons]
    have ih := lines_join (y :: r) (by simp) fun p hp => h p (List.mem_cons_of_mem _ hp)
    have e1 : lines x = [] ++ [x] := by rw [lines_of_free (h x (by simp))]; rfl
    have e2 : lines (10 :: joinL (y :: r)) = [] :: y :: r := by rw [lines_nl, ih]
    rw [lines_app x _ e1 e2, List.append_nil]
    rfl
theorem join_lines : ∀ l, joinL (lines l) = l
  | [] => rfl
  | c :: r => by
    obtain ⟨q, t, e⟩ := lines_cons r
    have ih := join_lines r
    by_cases hc : c = 10
    · subst hc
      rw [lines_nl, e, joinL_cons, ← e, ih]
      rfl
    · rw [lines_c hc e]
      rw [e] at ih
      cases t with
      | nil => exact congrArg (c :: ·) ih
      | cons y t' => exact congrArg (c :: ·) ih
theorem lines_len : ∀ l, (lines l).length = l.count 10 + 1
  | [] => rfl
  | c :: r => by
    have ih := lines_len r
    by_cases hc : c = 10
    · subst hc
      rw [lines_nl, List.length_cons, ih, List.count_cons_self]
    · obtain ⟨q, t, e⟩ := lines_cons r
      rw [lines_c hc e, List.length_cons]
      rw [e, List.length_cons] at ih
      rw [List.count_cons_of_ne hc, ← ih]

/-! ### what is a text -/
def isSign (c : Nat) : Bool := decide (32 ≤ c) && decide (c ≤ 126)
def isLine (l : List Nat) : Bool := decide (l.length ≤ 100) && l.all isSign
def isText (l : List Nat) : Bool := decide ((lines l).length ≤ 400) && (lines l).all isLine

/-! ### places -/
/-- the place that has a signs ahead of it -/
def placeOf (t : List Nat) (a : Nat) : Nat × Nat := ((lines (t.take a)).length, ((lines (t.take a)).getLastD []).length + 1)
/-- the signs and line feeds ahead of a line -/
def offs (ls : List (List Nat)) : Nat := (ls.map fun l => l.length + 1).sum
def placeAt (t : List Nat) (line column : Int) : Option Int :=
  if 1 ≤ line ∧ line ≤ (lines t).length then
    if 1 ≤ column ∧ column ≤ (((lines t).getD (line - 1).toNat []).length : Int) + 1 then some ((offs ((lines t).take (line - 1).toNat) : Int) + column - 1) else none
  else none
/-- a ≤ |t| signs ahead: a line and a column of the whole -/
theorem lines_take : ∀ (t : List Nat) (a : Nat), a ≤ t.length → ∃ (i : List (List Nat)) (l : List Nat) (j : Nat) (r : List (List Nat)), lines t = i ++ l :: r ∧ j ≤ l.length ∧ lines (t.take a) = i ++ [l.take j] ∧ offs i + j = a
  | t, 0, _ => by
    obtain ⟨q, r, e⟩ := lines_cons t
    exact ⟨[], q, 0, r, e, Nat.zero_le _, by simp [lines], by simp [offs]⟩
  | [], a + 1, h => by simp at h
  | c :: t, a + 1, h => by
    obtain ⟨i, l, j, r, e1, h1, e2, h2⟩ := lines_take t a (by simpa using h)
    by_cases hc : c = 10
    · subst hc
      refine ⟨[] :: i, l, j, r, by rw [lines_nl, e1]; rfl, h1, by rw [List.take_succ_cons, lines_nl, e2]; rfl, ?_⟩
      have : offs ([] :: i) = offs i + 1 := by unfold offs; simp; omega
      omega
    · cases i with
      | nil =>
        refine ⟨[], c :: l, j + 1, r, lines_c hc e1, by simpa using h1, ?_, ?_⟩
        · rw [List.take_succ_cons, lines_c hc (show lines (t.take a) = l.take j :: [] from e2)]
          rfl
        · simp [offs] at h2 ⊢
          omega
      | cons x y =>
        refine ⟨(c :: x) :: y, l, j, r, lines_c hc e1, h1, ?_, ?_⟩
        · rw [List.take_succ_cons, lines_c hc (show lines (t.take a) = x :: (y ++ [l.take j]) from e2)]
          rfl
        · have : offs ((c :: x) :: y) = offs (x :: y) + 1 := by unfold offs; simp; omega
          omega
theorem placeOf_row (t : List Nat) (a : Nat) : (placeOf t a).1 = (t.take a).count 10 + 1 := lines_len _
theorem place_back {t : List Nat} {a : Nat} (h : a ≤ t.length) : placeAt t (placeOf t a).1 (placeOf t a).2 = some (a : Int) := by
  obtain ⟨i, l, j, r, e1, h1, e2, h2⟩ := lines_take t a h
  have p1 : (placeOf t a).1 = i.length + 1 := by unfold placeOf; rw [e2]; simp
  have p2 : (placeOf t a).2 = j + 1 := by
    unfold placeOf
    rw [e2]
    simp [List.getLastD_concat]
    omega
  rw [p1, p2]
  unfold placeAt
  rw [e1]
  have q1 : ((i.length + 1 : Nat) : Int) - 1 = (i.length : Nat) := by omega
  rw [q1]
  have q2 : (i ++ l :: r).getD (i.length : Int).toNat [] = l := by simp
  have q3 : (i ++ l :: r).take (i.length : Int).toNat = i := by simp
  rw [q2, q3, if_pos ⟨by omega, by simp; omega⟩, if_pos ⟨by omega, by omega⟩]
  congr 1
  omega
/-- places are in order -/
theorem place_mono {t : List Nat} {a b : Nat} (h : a ≤ b) (hb : b ≤ t.length) : (placeOf t a).1 < (placeOf t b).1 ∨ ((placeOf t a).1 = (placeOf t b).1 ∧ (placeOf t a).2 ≤ (placeOf t b).2) := by
  -- t.take b = t.take a ++ m
  have e : t.take b = t.take a ++ (t.take b).drop a := by
    have := (List.take_append_drop a (t.take b)).symm
    rwa [List.take_take, Nat.min_eq_left h] at this
  generalize (t.take b).drop a = m at e
  obtain ⟨i, p, ea⟩ := lines_split (t.take a)
  obtain ⟨q, r, em⟩ := lines_cons m
  have eb := lines_app (t.take a) m ea em
  unfold placeOf
  rw [e, eb, ea]
  cases r with
  | nil =>
    right
    simp [List.getLastD_concat]
  | cons y r' =>
    left
    simp

/-! ### spans -/
abbrev Span := Nat × Nat × List Nat
def Val (n : Nat) : Nat → List Span → Prop
  | _, [] => True
  | e, (f, s, _) :: r => e ≤ f ∧ f ≤ s ∧ s ≤ n ∧ Val n (s + 1) r
theorem Val.mono {n : Nat} : ∀ {e e' : Nat} {sp : List Span}, Val n e sp → e' ≤ e → Val n e' sp
  | _, _, [], _, _ => trivial
  | _, _, (_, _, _) :: _, ⟨a, b, c, d⟩, h => ⟨Nat.le_trans h a, b, c, d⟩
def cut (t : List Nat) (a b : Nat) : List Nat := (t.drop a).take (b - a)
theorem cut_len {t : List Nat} {a b : Nat} (hb : b ≤ t.length) : (cut t a b).length = b - a := by
  unfold cut
  rw [List.length_take, List.length_drop]
  omega
theorem cut_get {t : List Nat} {a b j : Nat} (h : j < b - a) : (cut t a b)[j]? = t[a + j]? := by
  unfold cut
  rw [List.getElem?_take_of_lt h, List.getElem?_drop]
def replaced (t : List Nat) : Nat → List Span → List Nat
  | e, [] => t.drop e
  | e, (f, s, p) :: r => cut t e f ++ p ++ replaced t s r
def moved : List Span → Int → Int → Int
  | [], a, sh => a + sh
  | (f, s, p) :: r, a, sh => if a ≤ f then a + sh else if a ≤ s then f + sh + p.length else moved r a (sh + p.length - (s - f))
/-- the law's table: where each place goes, whether its sign stays, where it comes back to -/
def ways (n : Nat) : Nat → Nat → List Span → List (Nat × Bool × Nat)
  | e, told, [] => (List.range (n - e)).map fun i => (told + 1 + i, true, e + 1 + i)
  | e, told, (f, s, p) :: r => ((List.range (f - e)).map fun i => (told + 1 + i, true, e + 1 + i)) ++ ((List.range (s - f)).map fun _ => (told + (f - e) + p.length, false, if p = [] then f else s)) ++ ways n s (told + (f - e) + p.length) r
theorem ways_len {n : Nat} : ∀ {e told : Nat} {sp : List Span}, Val n e sp → (ways n e told sp).length = n - e
  | e, told, [], _ => by simp [ways]
  | e, told, (f, s, p) :: r, ⟨h1, h2, h3, h4⟩ => by
    have ih := ways_len (n := n) (e := s) (told := told + (f - e) + p.length) (h4.mono (Nat.le_succ s))
    unfold ways
    rw [List.length_append, List.length_append, ih]
    simp
    omega
/-- the three parts of a table -/
theorem get3 {α : Type} {a b c : List α} {i : Nat} {x : α} (h : (a ++ b ++ c)[i]? = some x) : (i < a.length ∧ a[i]? = some x) ∨ (a.length ≤ i ∧ i < a.length + b.length ∧ b[i - a.length]? = some x) ∨ (a.length + b.length ≤ i ∧ c[i - (a.length + b.length)]? = some x) := by
  by_cases h1 : i < a.length
  · rw [List.append_assoc, List.getElem?_append_left h1] at h
    exact .inl ⟨h1, h⟩
  · by_cases h2 : i < a.length + b.length
    · rw [List.append_assoc, List.getElem?_append_right (by omega), List.getElem?_append_left (by omega)] at h
      exact .inr (.inl ⟨by omega, h2, h⟩)
    · rw [List.getElem?_append_right (by rw [List.length_append]; omega), List.length_append] at h
      exact .inr (.inr ⟨by omega, h⟩)
theorem rng_get {β : Type} {f : Nat → β} {m i : Nat} {x : β} (h : ((List.range m).map f)[i]? = some x) : i < m ∧ x = f i := by
  rw [List.getElem?_map] at h
  by_cases hi : i < m
  · rw [List.getElem?_range hi] at h
    exact ⟨hi, (Option.some.inj h).symm⟩
  · rw [List.getElem?_eq_none (by simp; omega)] at h
    cases h
theorem ways_moved {n : Nat} : ∀ {sp : List Span} {e told i to ag : Nat} {st : Bool} {sh : Int}, Val n e sp → (told : Int) = e + sh → (ways n e told sp)[i]? = some (to, st, ag) → moved sp ((e + i + 1 : Nat) : Int) sh = to
  | [], e, told, i, to, ag, st, sh, _, ht, h => by
    obtain ⟨hi, e1⟩ := rng_get h
    cases e1
    show ((e + i + 1 : Nat) : Int) + sh = _
    omega
  | (f, s, p) :: r, e, told, i, to, ag, st, sh, ⟨h1, h2, h3, h4⟩, ht, h => by
    unfold ways at h
    unfold moved
    rcases get3 h with ⟨a1, a2⟩ | ⟨a0, a1, a2⟩ | ⟨a1, a2⟩
    · obtain ⟨hi, e1⟩ := rng_get a2
      cases e1
      rw [if_pos (by omega)]
      omega
    · rw [List.length_map, List.length_range] at a0 a1 a2
      rw [List.length_map, List.length_range] at a1
      obtain ⟨hi, e1⟩ := rng_get a2
      cases e1
      rw [if_neg (by omega), if_pos (by omega)]
      omega
    · rw [List.length_map, List.length_range, List.length_map, List.length_range] at a1 a2
      rw [if_neg (by omega), if_neg (by omega)]
      have ih := ways_moved (n := n) (sp := r) (e := s) (sh := sh + p.length - (s - f)) (h4.mono (Nat.le_succ s)) (by omega) a2
      have e2 : s + (i - (f - e + (s - f))) + 1 = e + i + 1 := by omega
      rw [e2] at ih
      exact ih
/-- further places go beyond -/
theorem ways_gt {n : Nat} : ∀ {sp : List Span} {e told : Nat}, Val n (e + 1) sp → ∀ x ∈ ways n e told sp, told < x.1
  | [], e, told, _, x, h => by
    obtain ⟨i, _, rfl⟩ := List.mem_map.mp h
    show told < told + 1 + i
    omega
  | (f, s, p) :: r, e, told, ⟨h1, h2, h3, h4⟩, x, h => by
    unfold ways at h
    rcases List.mem_append.mp h with h | h
    · rcases List.mem_append.mp h with h | h
      · obtain ⟨i, _, rfl⟩ := List.mem_map.mp h
        show told < told + 1 + i
        omega
      · obtain ⟨i, _, rfl⟩ := List.mem_map.mp h
        show told < told + (f - e) + p.length
        omega
    · have := ways_gt h4 x h
      omega
/-- the row that leads back -/
def backs (t : List Nat) : Nat → Nat → List Span → List Span
  | _, _, [] => []
  | e, told, (f, s, p) :: r => (told + (f - e), told + (f - e) + p.length, cut t f s) :: backs t s (told + (f - e) + p.length) r
theorem ways_back {t : List Nat} : ∀ {sp : List Span} {e told i to ag : Nat} {st : Bool}, Val t.length e sp → (ways t.length e told sp)[i]? = some (to, st, ag) → moved (backs t e told sp) (to : Int) ((e : Int) - told) = ag
  | [], e, told, i, to, ag, st, _, h => by
    obtain ⟨hi, e1⟩ := rng_get h
    cases e1
    show ((told + 1 + i : Nat) : Int) + ((e : Int) - told) = _
    omega
  | (f, s, p) :: r, e, told, i, to, ag, st, ⟨h1, h2, h3, h4⟩, h => by
    unfold ways at h
    unfold backs moved
    rcases get3 h with ⟨a1, a2⟩ | ⟨a0, a1, a2⟩ | ⟨a1, a2⟩
    · obtain ⟨hi, e1⟩ := rng_get a2
      cases e1
      rw [if_pos (by omega)]
      omega
    · rw [List.length_map, List.length_range] at a0 a1 a2
      rw [List.length_map, List.length_range] at a1
      obtain ⟨hi, e1⟩ := rng_get a2
      cases e1
      by_cases hp : p = []
      · subst hp
        rw [if_pos (by simp), if_pos rfl]
        simp
        omega
      · have : 0 < p.length := List.length_pos_iff.mpr hp
        rw [if_neg (by omega), if_pos (by omega), if_neg hp, cut_len h3]
        omega
    · have hm := List.mem_of_getElem? a2
      have hg := ways_gt h4 _ hm
      have hg : told + (f - e) + p.length < to := hg
      rw [if_neg (by omega), if_neg (by omega)]
      have ih := ways_back (t := t) (sp := r) (h4.mono (Nat.le_succ s)) a2
      rw [cut_len h3]
      have e2 : (e : Int) - told + ((s - f : Nat) : Int) - (((told + (f - e) + p.length : Nat) : Int) - ((told + (f - e) : Nat) : Int)) = (s : Int) - ((told + (f - e) + p.length : Nat) : Int) := by omega
      rw [e2]
      exact ih
theorem moved_0 {n : Nat} : ∀ {sp : List Span}, moved sp 0 0 = 0
  | [] => rfl
  | (f, s, p) :: r => by
    unfold moved
    rw [if_pos (by omega)]
    rfl
theorem cut_app {t : List Nat} {a b c : Nat} (h1 : a ≤ b) (h2 : b ≤ c) : cut t a b ++ cut t b c = cut t a c := by
  unfold cut
  have e1 : t.drop b = (t.drop a).drop (b - a) := by rw [List.drop_drop]; congr 1; omega
  have e2 : c - a = (b - a) + (c - b) := by omega
  rw [e1, e2, List.take_add]
theorem cut_drop {t : List Nat} {a b : Nat} (h1 : a ≤ b) : cut t a b ++ t.drop b = t.drop a := by
  unfold cut
  have e1 : t.drop b = (t.drop a).drop (b - a) := by rw [List.drop_drop]; congr 1; omega
  rw [e1]
  exact List.take_append_drop _ _
theorem cut_pre {pre x y : List Nat} {a b : Nat} (ha : pre.length = a) (hb : a + x.length = b) : cut (pre ++ (x ++ y)) a b = x := by
  subst ha
  subst hb
  unfold cut
  rw [List.drop_left]
  rw [show pre.length + x.length - pre.length = x.length by omega, List.take_left]
/-- the row back is a row, and leads back -/
theorem backs_val {t : List Nat} : ∀ {sp : List Span} {e told b : Nat} {pre : List Nat}, Val t.length e sp → (∀ f s p r, sp = (f, s, p) :: r → b ≤ told + (f - e)) → e ≤ t.length → pre.length = told → Val (pre ++ replaced t e sp).length b (backs t e told sp)
  | [], _, _, _, _, _, _, _, _ => trivial
  | (f, s, p) :: r, e, told, b, pre, ⟨h1, h2, h3, h4⟩, hb, he, hp => by
    unfold backs replaced
    have hb := hb f s p r rfl
    have hc : (cut t e f).length = f - e := cut_len (by omega)
    refine ⟨by omega, by omega, ?_, ?_⟩
    · simp only [List.length_append, hc]
      omega
    · have ih := backs_val (t := t) (sp := r) (e := s) (told := told + (f - e) + p.length) (b := told + (f - e) + p.length + 1) (pre := pre ++ cut t e f ++ p) (h4.mono (Nat.le_succ s)) (fun f' s' p' r' e' => ?_) h3 (by simp only [List.length_append, hc]; omega)
      · simpa [List.append_assoc] using ih
      · subst e'
        have := h4.1
        omega
theorem backs_replaced {t : List Nat} : ∀ {sp : List Span} {e told : Nat} {pre : List Nat}, Val t.length e sp → e ≤ t.length → pre.length = told → replaced (pre ++ replaced t e sp) told (backs t e told sp) = t.drop e
  | [], e, told, pre, _, _, hp => by
    subst hp
    show (pre ++ t.drop e).drop pre.length = _
    rw [List.drop_left]
  | (f, s, p) :: r, e, told, pre, ⟨h1, h2, h3, h4⟩, he, hp => by
    unfold backs
    show cut _ told (told + (f - e)) ++ cut t f s ++ replaced _ (told + (f - e) + p.length) _ = _
    have hc : (cut t e f).length = f - e := cut_len (by omega)
    have ih := backs_replaced (t := t) (sp := r) (e := s) (told := told + (f - e) + p.length) (pre := pre ++ cut t e f ++ p) (h4.mono (Nat.le_succ s)) h3 (by simp only [List.length_append, hc]; omega)
    have e1 : pre ++ replaced t e ((f, s, p) :: r) = pre ++ cut t e f ++ p ++ replaced t s r := by
      show pre ++ (cut t e f ++ p ++ replaced t s r) = _
      simp [List.append_assoc]
    rw [e1, ih]
    have e2 : cut (pre ++ cut t e f ++ p ++ replaced t s r) told (told + (f - e)) = cut t e f := by
      have := cut_pre (pre := pre) (x := cut t e f) (y := p ++ replaced t s r) (a := told) (b := told + (f - e)) hp (by rw [hc])
      have e3 : pre ++ cut t e f ++ p ++ replaced t s r = pre ++ (cut t e f ++ (p ++ replaced t s r)) := by simp [List.append_assoc]
      rw [e3]
      exact this
    rw [e2, List.append_assoc, cut_drop h2, cut_drop h1]

/-! ### two rows as one -/
def rng (a b : Nat) : List Int := (List.range (b - a)).map fun i => ((a + i : Nat) : Int)
/-- for each sign behind a row its number ahead of it, or -1 -/
def orig (n : Nat) : Nat → List Span → List Int
  | e, [] => rng e n
  | e, (f, s, p) :: r => rng e f ++ List.replicate p.length (-1) ++ orig n s r
theorem rng_len {a b : Nat} : (rng a b).length = b - a := by simp [rng]
theorem orig_len {t : List Nat} : ∀ {sp : List Span} {e : Nat}, Val t.length e sp → (orig t.length e sp).length = (replaced t e sp).length
  | [], e, _ => by simp [orig, replaced, rng_len]
  | (f, s, p) :: r, e, ⟨h1, h2, h3, h4⟩ => by
    have ih := orig_len (t := t) (sp := r) (e := s) (h4.mono (Nat.le_succ s))
    unfold orig replaced
    rw [List.length_append, List.length_append, ih, List.length_append, List.length_append, rng_len, List.length_replicate, cut_len (by omega)]
theorem ways_orig {n : Nat} : ∀ {sp : List Span} {e told i to ag : Nat}, Val n e sp → (ways n e told sp)[i]? = some (to, true, ag) → told < to ∧ (orig n e sp)[to - 1 - told]? = some ((e + i : Nat) : Int)
  | [], e, told, i, to, ag, _, h => by
    obtain ⟨hi, e1⟩ := rng_get h
    cases e1
    refine ⟨by omega, ?_⟩
    show (rng e n)[told + 1 + i - 1 - told]? = _
    have : told + 1 + i - 1 - told = i := by omega
    rw [this]
    unfold rng
    rw [List.getElem?_map, List.getElem?_range hi]
    rfl
  | (f, s, p) :: r, e, told, i, to, ag, ⟨h1, h2, h3, h4⟩, h => by
    unfold ways at h
    unfold orig
    rcases get3 h with ⟨a1, a2⟩ | ⟨a0, a1, a2⟩ | ⟨a1, a2⟩
    · obtain ⟨hi, e1⟩ := rng_get a2
      cases e1
      refine ⟨by omega, ?_⟩
      have : told + 1 + i - 1 - told = i := by omega
      rw [this, List.append_assoc, List.getElem?_append_left (by rw [rng_len]; exact hi)]
      unfold rng
      rw [List.getElem?_map, List.getElem?_range hi]
      rfl
    · rw [List.length_map, List.length_range] at a0 a1 a2
      obtain ⟨hi, e1⟩ := rng_get a2
      cases e1
    · rw [List.length_map, List.length_range, List.length_map, List.length_range] at a1 a2
      obtain ⟨h5, ih⟩ := ways_orig (n := n) (sp := r) (e := s) (h4.mono (Nat.le_succ s)) a2
      refine ⟨by omega, ?_⟩
      rw [List.getElem?_append_right (by rw [List.length_append, rng_len, List.length_replicate]; omega), List.length_append, rng_len, List.length_replicate]
      have e2 : to - 1 - told - (f - e + p.length) = to - 1 - (told + (f - e) + p.length) := by omega
      rw [e2, ih]
      congr 1
      omega
/-- the numbers that are none of -1 rise -/
def Inc : Int → List Int → Prop
  | _, [] => True
  | lo, x :: r => if x < 0 then Inc lo r else lo ≤ x ∧ Inc (x + 1) r
theorem Inc.mono : ∀ {l : List Int} {lo lo' : Int}, Inc lo l → lo' ≤ lo → Inc lo' l
  | [], _, _, _, _ => trivial
  | x :: r, lo, lo', h, hl => by
    unfold Inc at h ⊢
    split
    · rename_i hx
      rw [if_pos hx] at h
      exact h.mono hl
    · rename_i hx
      rw [if_neg hx] at h
      exact ⟨by omega, h.2⟩
theorem Inc.neg {l : List Int} {lo : Int} (h : Inc lo l) : ∀ (m : Nat), Inc lo (List.replicate m (-1) ++ l)
  | 0 => h
  | m + 1 => by
    rw [List.replicate_succ, List.cons_append]
    unfold Inc
    rw [if_pos (by decide)]
    exact h.neg m
theorem Inc.rng : ∀ {m a : Nat} {l : List Int}, Inc ((a + m : Nat) : Int) l → Inc a (((List.range m).map fun i => ((a + i : Nat) : Int)) ++ l)
  | 0, a, l, h => by simpa using h
  | m + 1, a, l, h => by
    rw [List.range_succ_eq_map, List.map_cons, List.cons_append]
    unfold Inc
    rw [if_neg (by omega)]
    refine ⟨by omega, ?_⟩
    have ih := Inc.rng (m := m) (a := a + 1) (l := l) (by rw [show a + 1 + m = a + (m + 1) by omega]; exact h)
    have e3 : (List.map (fun i => ((a + i : Nat) : Int)) (List.map Nat.succ (List.range m))) = (List.range m).map fun i => ((a + 1 + i : Nat) : Int) := by
      rw [List.map_map]
      apply List.map_congr_left
      intro i _
      show ((a + (i + 1) : Nat) : Int) = _
      omega
    rw [e3]
    have e4 : ((a + 0 : Nat) : Int) + 1 = ((a + 1 : Nat) : Int) := by omega
    rw [e4]
    exact ih
theorem orig_inc {n : Nat} : ∀ {sp : List Span} {e : Nat}, Val n e sp → e ≤ n → Inc e (orig n e sp)
  | [], e, _, he => by
    have := Inc.rng (m := n - e) (a := e) (l := []) trivial
    rw [List.append_nil] at this
    exact this
  | (f, s, p) :: r, e, ⟨h1, h2, h3, h4⟩, he => by
    unfold orig
    rw [List.append_assoc]
    have ih := orig_inc (n := n) (sp := r) (e := s) (h4.mono (Nat.le_succ s)) h3
    refine Inc.rng (m := f - e) ?_
    exact (ih.mono (by omega)).neg _
theorem orig_lt {n : Nat} : ∀ {sp : List Span} {e : Nat}, Val n e sp → ∀ x ∈ orig n e sp, x < (n : Int)
  | [], e, _, x, h => by
    obtain ⟨i, hi, rfl⟩ := List.mem_map.mp h
    have := List.mem_range.mp hi
    omega
  | (f, s, p) :: r, e, ⟨h1, h2, h3, h4⟩, x, h => by
    unfold orig at h
    rcases List.mem_append.mp h with h | h
    · rcases List.mem_append.mp h with h | h
      · obtain ⟨i, hi, rfl⟩ := List.mem_map.mp h
        have := List.mem_range.mp hi
        omega
      · have := (List.mem_replicate.mp h).2
        omega
    · exact orig_lt (h4.mono (Nat.le_succ s)) x h
/-- a sign that stays is the same sign -/
theorem orig_get {t : List Nat} : ∀ {sp : List Span} {e j : Nat} {o : Int}, Val t.length e sp → (orig t.length e sp)[j]? = some o → 0 ≤ o → (replaced t e sp)[j]? = t[o.toNat]?
  | [], e, j, o, _, h, ho => by
    obtain ⟨hi, e1⟩ := rng_get h
    subst e1
    show (t.drop e)[j]? = _
    rw [List.getElem?_drop]
    congr 1
  | (f, s, p) :: r, e, j, o, ⟨h1, h2, h3, h4⟩, h, ho => by
    unfold orig at h
    unfold replaced
    have hc : (cut t e f).length = f - e := cut_len (by omega)
    rcases get3 h with ⟨a1, a2⟩ | ⟨a0, a1, a2⟩ | ⟨a1, a2⟩
    · obtain ⟨hi, e1⟩ := rng_get a2
      subst e1
      rw [List.append_assoc, List.getElem?_append_left (by rw [hc]; exact hi), cut_get hi]
      congr 1
    · rw [rng_len] at a0 a1 a2
      rw [List.length_replicate] at a1
      rw [List.getElem?_replicate] at a2
      split at a2
      · cases a2
        omega
      · cases a2
    · rw [rng_len, List.length_replicate] at a1 a2
      rw [List.getElem?_append_right (by rw [List.length_append, hc]; exact a1), List.length_append, hc]
      exact orig_get (h4.mono (Nat.le_succ s)) a2 ho
/-- the one row from what stays -/
def rb (told : List Nat) : Nat → Nat → Nat → List Int → List Span
  | _, _, _, [] => []
  | b, st, a, x :: r => if x < 0 then rb told b st (a + 1) r else (if (b : Int) < x ∨ st < a then [(b, x.toNat, cut told st a)] else []) ++ rb told (x.toNat + 1) (a + 1) (a + 1) r
theorem rb_val {n : Nat} {told : List Nat} : ∀ {l : List Int} {b st a : Nat}, Inc b l → (∀ x ∈ l, x ≤ (n : Int)) → Val n b (rb told b st a l)
  | [], _, _, _, _, _ => trivial
  | x :: r, b, st, a, h, hn => by
    unfold Inc at h
    unfold rb
    split
    · rename_i hx
      rw [if_pos hx] at h
      exact rb_val h fun y hy => hn y (List.mem_cons_of_mem _ hy)
    · rename_i hx
      rw [if_neg hx] at h
      have hxn := hn x List.mem_cons_self
      have ih := rb_val (n := n) (told := told) (l := r) (b := x.toNat + 1) (st := a + 1) (a := a + 1) (h.2.mono (by omega)) fun y hy => hn y (List.mem_cons_of_mem _ hy)
      split
      · exact ⟨by omega, by omega, by omega, ih⟩
      · exact ih.mono (by omega)
theorem rb_moved {told : List Nat} : ∀ {l : List Int} {b st a i : Nat} {o : Nat}, Inc b l → st ≤ a → a + l.length ≤ told.length + 1 → l[i]? = some (o : Int) → moved (rb told b st a l) ((o : Int) + 1) ((st : Int) - b) = ((a + i + 1 : Nat) : Int) ∨ (a + i = told.length)
  | [], _, _, _, i, o, _, _, _, h => by simp at h
  | x :: r, b, st, a, i, o, hI, hst, hlen, h => by
    unfold Inc at hI
    unfold rb
    have hlen' : a + 1 + r.length ≤ told.length + 1 := by simp at hlen; omega
    split
    · rename_i hx
      rw [if_pos hx] at hI
      cases i with
      | zero =>
        simp at h
        omega
      | succ i =>
        have ih := rb_moved (told := told) (l := r) (b := b) (st := st) (a := a + 1) (i := i) (o := o) hI (by omega) hlen' (by simpa using h)
        have e : a + 1 + i = a + (i + 1) := by omega
        rw [e] at ih
        exact ih
    · rename_i hx
      rw [if_neg hx] at hI
      have hcl : a ≤ told.length → ((cut told st a).length : Int) = a - st := fun h => by rw [cut_len h]; omega
      -- the rest's shift
      have step : ∀ y : Int, x.toNat < y → a ≤ told.length → moved ((if (b : Int) < x ∨ st < a then [(b, x.toNat, cut told st a)] else []) ++ rb told (x.toNat + 1) (a + 1) (a + 1) r) y ((st : Int) - b) = moved (rb told (x.toNat + 1) (a + 1) (a + 1) r) y (((a + 1 : Nat) : Int) - ((x.toNat + 1 : Nat) : Int)) := fun y hy ha => by
        split
        · rename_i hc
          rw [List.singleton_append]
          show (if y ≤ (b : Int) then _ else if y ≤ (x.toNat : Int) then _ else _) = _
          rw [if_neg (by omega), if_neg (by omega), hcl ha]
          congr 1
          omega
        · rename_i hc
          rw [List.nil_append]
          congr 1
          omega
      cases i with
      | zero =>
        have e : x = o := by simpa using h
        subst e
        by_cases ha : a = told.length
        · exact .inr (by omega)
        · left
          rw [step _ (by omega) (by simp at hlen; omega)]
          have first : ∀ {l : List Int} {b st a : Nat} {sh : Int}, Inc b l → moved (rb told b st a l) (b : Int) sh = b + sh := fun {l} => by
            induction l with
            | nil => intro b st a sh _; rfl
            | cons z r ih =>
              intro b st a sh hz
              unfold Inc at hz
              unfold rb
              split
              · rename_i h1
                rw [if_pos h1] at hz
                exact ih hz
              · rename_i h1
                rw [if_neg h1] at hz
                split
                · rw [List.singleton_append]
                  show (if (b : Int) ≤ (b : Int) then _ else _) = _
                  rw [if_pos (Int.le_refl _)]
                · rename_i h2
                  rw [List.nil_append]
                  have hb : z = b := by omega
                  have gen : ∀ {l : List Int} {c st a : Nat} {y sh : Int}, Inc c l → y ≤ c → moved (rb told c st a l) y sh = y + sh := fun {l} => by
                    induction l with
                    | nil => intro c st a y sh _ _; rfl
                    | cons w r ih =>
                      intro c st a y sh hw hy
                      unfold Inc at hw
                      unfold rb
                      split
                      · rename_i h1
                        rw [if_pos h1] at hw
                        exact ih hw hy
                      · rename_i h1
                        rw [if_neg h1] at hw
                        split
                        · rw [List.singleton_append]
                          show (if y ≤ (c : Int) then _ else _) = _
                          rw [if_pos hy]
                        · rw [List.nil_append]
                          exact ih (hw.2.mono (by omega)) (by omega)
                  exact gen (hz.2.mono (by omega)) (by omega)
          have e1 : ((o : Int)) + 1 = (((o : Int).toNat + 1 : Nat) : Int) := by omega
          rw [e1, first (hI.2.mono (by omega))]
          omega
      | succ i =>
        have hr : r[i]? = some (o : Int) := by simpa using h
        have hil : i < r.length := (List.getElem?_eq_some_iff.mp hr).1
        have ih := rb_moved (told := told) (l := r) (b := x.toNat + 1) (st := a + 1) (a := a + 1) (i := i) (o := o) (hI.2.mono (by omega)) (Nat.le_refl _) hlen' hr
        -- x < o
        have lt : ∀ {l : List Int} {lo : Int} {i : Nat} {o : Int}, Inc lo l → l[i]? = some o → 0 ≤ o → lo ≤ o := fun {l} => by
          induction l with
          | nil => intro lo i o _ h _; simp at h
          | cons z r ih =>
            intro lo i o hz h ho
            unfold Inc at hz
            cases i with
            | zero =>
              have : z = o := by simpa using h
              subst this
              rw [if_neg (by omega)] at hz
              exact hz.1
            | succ i =>
              split at hz
              · exact ih hz (by simpa using h) ho
              · have := ih hz.2 (by simpa using h) ho
                omega
        have hxo := lt hI.2 hr (by omega)
        rw [step _ (by omega) (by omega)]
        have e : a + 1 + i = a + (i + 1) := by omega
        rw [e] at ih
        exact ih
end Tx
/-! TY: more of texts: the row of two rows; what is a text. -/
namespace Tx

theorem drop_cons {t : List Nat} {e : Nat} (h : e < t.length) : t.drop e = t[e] :: t.drop (e + 1) := List.drop_eq_getElem_cons h
theorem cut_cons {t : List Nat} {e f : Nat} (h : e < t.length) (hf : e + 1 ≤ f) : cut t e f = t[e] :: cut t (e + 1) f := by
  unfold cut
  rw [drop_cons h, show f - e = (f - (e + 1)) + 1 by omega, List.take_succ_cons]
theorem cut_self {t : List Nat} {e : Nat} : cut t e e = [] := by simp [cut]
theorem replaced_step {t : List Nat} {n : Nat} : ∀ {sp : List Span} {e : Nat}, Val n (e + 1) sp → (h : e < t.length) → replaced t e sp = t[e] :: replaced t (e + 1) sp
  | [], e, _, h => drop_cons h
  | (f, s, p) :: r, e, ⟨h1, _⟩, h => by
    show cut t e f ++ p ++ replaced t s r = t[e] :: (cut t (e + 1) f ++ p ++ replaced t s r)
    rw [cut_cons h h1]
    rfl
theorem rb_replaced {t told : List Nat} : ∀ {ks : List Int} {b st a : Nat}, a + ks.length = told.length → Inc b (ks ++ [(t.length : Int)]) → st ≤ a →
    (∀ (j : Nat) o, ks[j]? = some o → 0 ≤ o → o < (t.length : Int) ∧ told[a + j]? = t[o.toNat]?) → replaced t b (rb told b st a (ks ++ [(t.length : Int)])) = told.drop st
  | [], b, st, a, hl, hI, hst, _ => by
    have hl : a = told.length := by simpa using hl
    have hI : Inc b [(t.length : Int)] := hI
    unfold Inc at hI
    rw [if_neg (by omega)] at hI
    have hb := hI.1
    show replaced t b (rb told b st a [(t.length : Int)]) = _
    unfold rb
    rw [if_neg (by omega)]
    show replaced t b (_ ++ []) = _
    rw [List.append_nil]
    split
    · show cut t b b ++ cut told st a ++ t.drop (t.length : Int).toNat = _
      rw [cut_self, List.nil_append, Int.toNat_natCast, List.drop_length, List.append_nil]
      unfold cut
      subst hl
      rw [List.take_of_length_le]
      rw [List.length_drop]
      omega
    · show t.drop b = _
      have e1 : b = t.length := by omega
      have e2 : st = told.length := by omega
      rw [e1, e2, List.drop_length, List.drop_length]
  | x :: ks, b, st, a, hl, hI, hst, hk => by
    have hl' : a + 1 + ks.length = told.length := by simp at hl; omega
    have hI : Inc b (x :: (ks ++ [(t.length : Int)])) := hI
    unfold Inc at hI
    have hk' : ∀ (j : Nat) o, ks[j]? = some o → 0 ≤ o → o < (t.length : Int) ∧ told[a + 1 + j]? = t[o.toNat]? := fun j o h h0 => by
      have := hk (j + 1) o (by simpa using h) h0
      rw [show a + 1 + j = a + (j + 1) by omega]
      exact this
    show replaced t b (rb told b st a (x :: (ks ++ [(t.length : Int)]))) = _
    unfold rb
    split
    · rename_i hx
      rw [if_pos hx] at hI
      exact rb_replaced hl' hI (by omega) hk'
    · rename_i hx
      rw [if_neg hx] at hI
      obtain ⟨h1, h2⟩ := hk 0 x rfl (by omega)
      have hxl : x.toNat < t.length := by omega
      have hal : a < told.length := by omega
      have e1 : t[x.toNat] = told[a] := by
        rw [Nat.add_zero, List.getElem?_eq_getElem hal, List.getElem?_eq_getElem hxl] at h2
        exact (Option.some.inj h2).symm
      have ih := rb_replaced (t := t) (told := told) (ks := ks) (b := x.toNat + 1) (st := a + 1) (a := a + 1) hl' (hI.2.mono (by omega)) (Nat.le_refl _) hk'
      have hv : Val t.length (x.toNat + 1) (rb told (x.toNat + 1) (a + 1) (a + 1) (ks ++ [(t.length : Int)])) := rb_val (hI.2.mono (by omega)) fun y hy => by
        rcases List.mem_append.mp hy with hy | hy
        · obtain ⟨j, hj⟩ := List.mem_iff_getElem?.mp hy
          by_cases y0 : 0 ≤ y
          · have := (hk' j y hj y0).1
            omega
          · omega
        · have : y = t.length := by simpa using hy
          omega
      have go : replaced t x.toNat (rb told (x.toNat + 1) (a + 1) (a + 1) (ks ++ [(t.length : Int)])) = told.drop a := by
        rw [replaced_step hv hxl, ih, e1]
        exact (drop_cons hal).symm
      split
      · rw [List.singleton_append]
        show cut t b b ++ cut told st a ++ replaced t x.toNat _ = _
        rw [cut_self, List.nil_append, go, cut_drop hst]
      · rename_i hc
        rw [List.nil_append]
        have e2 : b = x.toNat := by omega
        have e3 : st = a := by omega
        rw [e2, e3]
        exact go
/-- the second row's numbers through the first -/
def comp (first second : List Int) : List Int := second.map fun a => if a ≥ 0 then first.getD a.toNat (-1) else -1
theorem inc_lt : ∀ {l : List Int} {lo : Int} {i j : Nat} {x y : Int}, Inc lo l → i < j → l[i]? = some x → l[j]? = some y → 0 ≤ x → 0 ≤ y → x < y
  | [], _, i, j, x, y, _, _, h, _, _, _ => by simp at h
  | z :: r, lo, 0, j + 1, x, y, hI, _, hx, hy, x0, y0 => by
    have e : z = x := by simpa using hx
    subst e
    unfold Inc at hI
    rw [if_neg (by omega)] at hI
    have low : ∀ {l : List Int} {lo : Int} {i : Nat} {o : Int}, Inc lo l → l[i]? = some o → 0 ≤ o → lo ≤ o := fun {l} => by
      induction l with
      | nil => intro lo i o _ h _; simp at h
      | cons z r ih =>
        intro lo i o hz h ho
        unfold Inc at hz
        cases i with
        | zero =>
          have : z = o := by simpa using h
          subst this
          rw [if_neg (by omega)] at hz
          exact hz.1
        | succ i =>
          split at hz
          · exact ih hz (by simpa using h) ho
          · have := ih hz.2 (by simpa using h) ho
            omega
    have := low hI.2 (by simpa using hy) y0
    omega
  | z :: r, lo, i + 1, j + 1, x, y, hI, hij, hx, hy, x0, y0 => by
    unfold Inc at hI
    split at hI
    · exact inc_lt (i := i) (j := j) hI (by omega) (by simpa using hx) (by simpa using hy) x0 y0
    · exact inc_lt (i := i) (j := j) hI.2 (by omega) (by simpa using hx) (by simpa using hy) x0 y0
theorem comp_inc {first : List Int} {l0 : Int} (hf : Inc l0 first) : ∀ {second : List Int} {lo : Nat} {v : Int}, Inc lo second → (∀ (i : Nat) x, lo ≤ i → first[i]? = some x → 0 ≤ x → v ≤ x) → Inc v (comp first second)
  | [], _, _, _, _ => trivial
  | a :: r, lo, v, hI, hv => by
    unfold Inc at hI
    show Inc v ((if a ≥ 0 then first.getD a.toNat (-1) else -1) :: comp first r)
    unfold Inc
    by_cases ha : a < 0
    · rw [if_pos ha] at hI
      rw [if_neg (by omega : ¬ a ≥ 0), if_pos (by decide)]
      exact comp_inc hf hI hv
    · rw [if_neg ha] at hI
      rw [if_pos (by omega : a ≥ 0)]
      have hI2 : Inc ((a.toNat + 1 : Nat) : Int) r := by
        have e : ((a.toNat + 1 : Nat) : Int) = a + 1 := by omega
        rw [e]
        exact hI.2
      cases e : first[a.toNat]? with
      | none =>
        have : first.getD a.toNat (-1) = -1 := by rw [List.getD_eq_getElem?_getD, e]; rfl
        rw [this, if_pos (by decide)]
        exact comp_inc hf hI2 fun i x hi => hv i x (by omega)
      | some y =>
        have : first.getD a.toNat (-1) = y := by rw [List.getD_eq_getElem?_getD, e]; rfl
        rw [this]
        split
        · exact comp_inc hf hI2 fun i x hi => hv i x (by omega)
        · rename_i hy
          refine ⟨hv a.toNat y (by omega) e (by omega), comp_inc hf hI2 fun i x hi hx x0 => ?_⟩
          have := inc_lt hf (show a.toNat < i by omega) e hx (by omega) x0
          omega
theorem inc_snoc : ∀ {l : List Int} {lo n : Int}, Inc lo l → (∀ x ∈ l, x < n) → lo ≤ n → 0 ≤ n → Inc lo (l ++ [n])
  | [], lo, n, _, _, h, h0 => by
    show Inc lo [n]
    unfold Inc
    rw [if_neg (by omega)]
    exact ⟨h, trivial⟩
  | x :: r, lo, n, hI, hn, h, h0 => by
    show Inc lo (x :: (r ++ [n]))
    unfold Inc at hI ⊢
    have hx := hn x List.mem_cons_self
    split
    · rename_i z
      rw [if_pos z] at hI
      exact inc_snoc hI (fun y hy => hn y (List.mem_cons_of_mem _ hy)) h h0
    · rename_i z
      rw [if_neg z] at hI
      exact ⟨hI.1, inc_snoc hI.2 (fun y hy => hn y (List.mem_cons_of_mem _ hy)) (by omega) h0⟩

/-- both rows as one -/
structure Both (t : List Nat) (sp more : List Span) : Prop where
  v1 : Val t.length 0 sp
  v2 : Val (replaced t 0 sp).length 0 more
def kept (t : List Nat) (sp more : List Span) : List Int := comp (orig t.length 0 sp) (orig (replaced t 0 sp).length 0 more)
def lastT (t : List Nat) (sp more : List Span) : List Nat := replaced (replaced t 0 sp) 0 more
def bothS (t : List Nat) (sp more : List Span) : List Span := rb (lastT t sp more) 0 0 0 (kept t sp more ++ [(t.length : Int)])
section
variable {t : List Nat} {sp more : List Span}
theorem Both.len (B : Both t sp more) : (kept t sp more).length = (lastT t sp more).length := by
  unfold kept comp lastT
  rw [List.length_map]
  exact orig_len B.v2
theorem Both.get (B : Both t sp more) {j : Nat} {o : Int} (h : (kept t sp more)[j]? = some o) (h0 : 0 ≤ o) : o < (t.length : Int) ∧ (lastT t sp more)[j]? = t[o.toNat]? := by
  unfold kept comp at h
  rw [List.getElem?_map] at h
  cases e : (orig (replaced t 0 sp).length 0 more)[j]? with
  | none =>
    rw [e] at h
    cases h
  | some a =>
    rw [e] at h
    have h : (if a ≥ 0 then (orig t.length 0 sp).getD a.toNat (-1) else -1) = o := Option.some.inj h
    by_cases ha : a ≥ 0
    · rw [if_pos ha, List.getD_eq_getElem?_getD] at h
      cases e2 : (orig t.length 0 sp)[a.toNat]? with
      | none =>
        rw [e2] at h
        have : (-1 : Int) = o := h
        omega
      | some o' =>
        rw [e2] at h
        have h : o' = o := h
        subst h
        refine ⟨orig_lt B.v1 _ (List.mem_of_getElem? e2), ?_⟩
        unfold lastT
        rw [orig_get B.v2 e ha, orig_get B.v1 e2 h0]
    · rw [if_neg ha] at h
      omega
theorem Both.lt (B : Both t sp more) : ∀ x ∈ kept t sp more, x < (t.length : Int) := fun x hx => by
  obtain ⟨j, hj⟩ := List.mem_iff_getElem?.mp hx
  by_cases h0 : 0 ≤ x
  · exact (B.get hj h0).1
  · omega
theorem Both.inc (B : Both t sp more) : Inc 0 (kept t sp more ++ [(t.length : Int)]) :=
  inc_snoc (comp_inc (orig_inc B.v1 (Nat.zero_le _)) (orig_inc B.v2 (Nat.zero_le _)) fun i x _ _ h => h) B.lt (by omega) (by omega)
theorem Both.val (B : Both t sp more) : Val t.length 0 (bothS t sp more) := rb_val B.inc fun x hx => by
  rcases List.mem_append.mp hx with hx | hx
  · exact Int.le_of_lt (B.lt x hx)
  · have : x = t.length := by simpa using hx
    omega
theorem Both.told (B : Both t sp more) : replaced t 0 (bothS t sp more) = lastT t sp more := by
  have := rb_replaced (t := t) (told := lastT t sp more) (ks := kept t sp more) (b := 0) (st := 0) (a := 0) (by rw [B.len, Nat.zero_add]) B.inc (Nat.le_refl _) fun j o h h0 => by
    rw [Nat.zero_add]
    exact B.get h h0
  exact this
/-- a place whose sign stays by both goes alike -/
theorem Both.moved (B : Both t sp more) {i to ag due ag2 : Nat} (h1 : (ways t.length 0 0 sp)[i]? = some (to, true, ag)) (h2 : (ways (replaced t 0 sp).length 0 0 more)[to - 1]? = some (due, true, ag2)) : Tx.moved (bothS t sp more) ((i : Int) + 1) 0 = due := by
  obtain ⟨g1, o1⟩ := ways_orig B.v1 h1
  obtain ⟨g2, o2⟩ := ways_orig B.v2 h2
  rw [Nat.zero_add, Nat.sub_zero] at o1 o2
  have hk : (kept t sp more)[due - 1]? = some ((i : Nat) : Int) := by
    unfold kept comp
    rw [List.getElem?_map, o2]
    show some (if ((to - 1 : Nat) : Int) ≥ 0 then (orig t.length 0 sp).getD ((to - 1 : Nat) : Int).toNat (-1) else -1) = _
    rw [if_pos (by omega), List.getD_eq_getElem?_getD, Int.toNat_natCast, o1]
    rfl
  have hl : due - 1 < (kept t sp more).length := (List.getElem?_eq_some_iff.mp hk).1
  have := rb_moved (told := lastT t sp more) (l := kept t sp more ++ [(t.length : Int)]) (b := 0) (st := 0) (a := 0) (i := due - 1) (o := i) B.inc (Nat.le_refl _) (by rw [List.length_append, B.len]; simp) (by rw [List.getElem?_append_left hl]; exact hk)
  rcases this with h | h
  · have e : ((0 : Nat) : Int) - ((0 : Nat) : Int) = 0 := rfl
    rw [e] at h
    unfold bothS
    rw [h]
    omega
  · rw [B.len] at hl
    omega
end

/-! ### what is a text -/
theorem isLine_app {a b : List Nat} (h : isLine (a ++ b) = true) : isLine a = true ∧ isLine b = true := by
  unfold isLine at h ⊢
  simp only [Bool.and_eq_true, decide_eq_true_eq, List.length_append, List.all_append] at h ⊢
  exact ⟨⟨by omega, h.2.1⟩, ⟨by omega, h.2.2⟩⟩
theorem isText_app {a b : List Nat} (h : isText (a ++ b) = true) : isText a = true ∧ isText b = true := by
  obtain ⟨i, p, ea⟩ := lines_split a
  obtain ⟨q, r, eb⟩ := lines_cons b
  have e := lines_app a b ea eb
  unfold isText at h ⊢
  rw [e] at h
  rw [ea, eb]
  simp only [Bool.and_eq_true, decide_eq_true_eq, List.length_append, List.all_append, List.length_cons, List.all_cons, List.length_nil, List.all_nil] at h ⊢
  have := isLine_app h.2.2.1
  exact ⟨⟨by omega, h.2.1, this.1, trivial⟩, ⟨by omega, this.2, h.2.2.2⟩⟩
theorem isText_cut {t : List Nat} {a b : Nat} (h : isText t = true) : isText (cut t a b) = true := by
  unfold cut
  have h1 := (isText_app (a := t.take a) (b := t.drop a) (by rw [List.take_append_drop]; exact h)).2
  exact (isText_app (a := (t.drop a).take (b - a)) (b := (t.drop a).drop (b - a)) (by rw [List.take_append_drop]; exact h1)).1
theorem lines_le : ∀ (l : List Nat), ∀ p ∈ lines l, p.length ≤ l.length ∧ ∀ c ∈ p, c ∈ l := fun l p hp => by
  induction l generalizing p with
  | nil =>
    have : p = [] := by simpa [lines] using hp
    subst this
    simp
  | cons c r ih =>
    obtain ⟨q, t, e⟩ := lines_cons r
    by_cases hc : c = 10
    · subst hc
      rw [lines_nl] at hp
      rcases List.mem_cons.mp hp with rfl | hp
      · simp
      · obtain ⟨a, b⟩ := ih p hp
        exact ⟨by rw [List.length_cons]; omega, fun x hx => List.mem_cons_of_mem _ (b x hx)⟩
    · rw [lines_c hc e] at hp
      rw [e] at ih
      rcases List.mem_cons.mp hp with rfl | hp
      · obtain ⟨a, b⟩ := ih q List.mem_cons_self
        refine ⟨by rw [List.length_cons, List.length_cons]; omega, fun x hx => ?_⟩
        rcases List.mem_cons.mp hx with rfl | hx
        · exact List.mem_cons_self
        · exact List.mem_cons_of_mem _ (b x hx)
      · obtain ⟨a, b⟩ := ih p (List.mem_cons_of_mem _ hp)
        exact ⟨by rw [List.length_cons]; omega, fun x hx => List.mem_cons_of_mem _ (b x hx)⟩
theorem isText_small {l : List Nat} (h : l.length ≤ 100) (hc : ∀ c ∈ l, c = 10 ∨ isSign c = true) : isText l = true := by
  unfold isText
  rw [Bool.and_eq_true, decide_eq_true_eq, lines_len]
  refine ⟨by have := List.count_le_length (a := 10) (l := l); omega, List.all_eq_true.mpr fun p hp => ?_⟩
  obtain ⟨a, b⟩ := lines_le l p hp
  unfold isLine
  rw [Bool.and_eq_true, decide_eq_true_eq]
  refine ⟨by omega, List.all_eq_true.mpr fun c hcp => ?_⟩
  rcases hc c (b c hcp) with rfl | h
  · exact absurd hcp (lines_free l p hp)
  · exact h
end Tx
/-! TZ: texts again: bounds on what a row of spans makes of a text. Plain Lean. -/
namespace Tx
/-- lines of at most m signs, the first of at most c -/
def Lim : Nat → Nat → List Nat → Prop
  | _, _, [] => True
  | c, m, x :: r => if x = 10 then Lim m m r else 0 < c ∧ Lim (c - 1) m r
theorem Lim.mono {m m' : Nat} (hm : m ≤ m') : ∀ {l : List Nat} {c c' : Nat}, c ≤ c' → Lim c m l → Lim c' m' l
  | [], _, _, _, _ => trivial
  | x :: r, c, c', hc, h => by
    show if x = 10 then _ else _
    have h : if x = 10 then Lim m m r else 0 < c ∧ Lim (c - 1) m r := h
    split
    · rename_i e
      rw [if_pos e] at h
      exact Lim.mono hm hm h
    · rename_i e
      rw [if_neg e] at h
      exact ⟨by omega, Lim.mono hm (by omega) h.2⟩
theorem Lim.drop {m : Nat} : ∀ {l : List Nat} {c : Nat} (e : Nat), c ≤ m → Lim c m l → Lim m m (l.drop e)
  | l, c, 0, hc, h => Lim.mono (Nat.le_refl _) hc h
  | [], c, e + 1, hc, h => trivial
  | x :: r, c, e + 1, hc, h => by
    have h : if x = 10 then Lim m m r else 0 < c ∧ Lim (c - 1) m r := h
    split at h
    · exact Lim.drop e (Nat.le_refl _) h
    · exact Lim.drop e (by omega) h.2
/-- behind the first line feed there is room again -/
theorem Lim.l1 {m k : Nat} {b x : List Nat} : ∀ {a : List Nat} {c : Nat}, c ≤ m → Lim c m (a ++ b) → Lim k (m + k) x → Lim (c + k) (m + k) (a ++ x)
  | [], c, hc, h, hx => Lim.mono (Nat.le_refl _) (by omega) hx
  | y :: a, c, hc, h, hx => by
    have h : if y = 10 then Lim m m (a ++ b) else 0 < c ∧ Lim (c - 1) m (a ++ b) := h
    show if y = 10 then _ else _
    split
    · rename_i e
      rw [if_pos e] at h
      exact Lim.l1 (Nat.le_refl _) h hx
    · rename_i e
      rw [if_neg e] at h
      refine ⟨by omega, ?_⟩
      have := Lim.l1 (c := c - 1) (by omega) h.2 hx
      rw [show c - 1 + k = c + k - 1 by omega] at this
      exact this
theorem Lim.l2 {m k : Nat} {b x : List Nat} : ∀ {a : List Nat} {c : Nat}, c ≤ m → c < a.length → Lim c m (a ++ b) → Lim k (m + k) x → Lim c (m + k) (a ++ x)
  | [], c, hc, hl, h, hx => absurd hl (Nat.not_lt_zero _)
  | y :: a, c, hc, hl, h, hx => by
    have h : if y = 10 then Lim m m (a ++ b) else 0 < c ∧ Lim (c - 1) m (a ++ b) := h
    show if y = 10 then _ else _
    split
    · rename_i e
      rw [if_pos e] at h
      exact Lim.l1 (Nat.le_refl _) h hx
    · rename_i e
      rw [if_neg e] at h
      exact ⟨h.1, Lim.l2 (by omega) (by simp at hl; omega) h.2 hx⟩
theorem Lim.pre {m : Nat} {x : List Nat} : ∀ {p : List Nat} {c : Nat}, 10 ∉ p → Lim c m x → Lim (p.length + c) m (p ++ x)
  | [], c, _, h => by simpa using h
  | y :: p, c, hp, h => by
    show if y = 10 then _ else _
    rw [if_neg (fun z => hp (by rw [z]; exact List.mem_cons_self))]
    refine ⟨by rw [List.length_cons]; omega, ?_⟩
    have := Lim.pre (c := c) (p := p) (fun z => hp (List.mem_cons_of_mem _ z)) h
    rw [show (y :: p).length + c - 1 = p.length + c by rw [List.length_cons]; omega]
    exact this
theorem Lim.lines {m : Nat} : ∀ {l : List Nat} {c : Nat}, c ≤ m → Lim c m l → ∃ h t, Tx.lines l = h :: t ∧ h.length ≤ c ∧ ∀ p ∈ t, p.length ≤ m
  | [], c, hc, _ => ⟨[], [], rfl, Nat.zero_le _, fun _ h => nomatch h⟩
  | x :: r, c, hc, h => by
    have h : if x = 10 then Lim m m r else 0 < c ∧ Lim (c - 1) m r := h
    split at h
    · rename_i e
      obtain ⟨a, t, e1, h1, h2⟩ := Lim.lines (Nat.le_refl _) h
      subst e
      refine ⟨[], a :: t, by rw [lines_nl, e1], Nat.zero_le _, fun p hp => ?_⟩
      rcases List.mem_cons.mp hp with z | z
      · rw [z]; exact h1
      · exact h2 p z
    · rename_i e
      obtain ⟨a, t, e1, h1, h2⟩ := Lim.lines (by omega) h.2
      exact ⟨x :: a, t, lines_c e e1, by rw [List.length_cons]; omega, h2⟩
theorem isText_lim {l : List Nat} (h : Lim 100 100 l) (hc : ∀ c ∈ l, c = 10 ∨ isSign c = true) (hn : l.count 10 ≤ 399) : isText l = true := by
  unfold isText
  rw [decide_eq_true (by rw [lines_len]; omega), Bool.true_and, List.all_eq_true]
  intro p hp
  obtain ⟨a, t, e, h1, h2⟩ := Lim.lines (Nat.le_refl _) h
  have hlp : p.length ≤ 100 := by
    rw [e] at hp
    rcases List.mem_cons.mp hp with z | z
    · rw [z]; exact h1
    · exact h2 p z
  unfold isLine
  rw [decide_eq_true hlp, Bool.true_and, List.all_eq_true]
  intro c hcp
  rcases hc c ((lines_le l p hp).2 c hcp) with z | z
  · exact absurd (z ▸ hcp) (lines_free l p hp)
  · exact z
theorem mem_cut {t : List Nat} {a b c : Nat} (h : c ∈ cut t a b) : c ∈ t := List.mem_of_mem_drop (List.mem_of_mem_take h)
theorem mem_replaced {t : List Nat} {c : Nat} : ∀ {sp : List Span} {e : Nat}, c ∈ replaced t e sp → c ∈ t ∨ ∃ x ∈ sp, c ∈ x.2.2
  | [], e, h => .inl (List.mem_of_mem_drop h)
  | (f, s, p) :: r, e, h => by
    have h : c ∈ cut t e f ++ p ++ replaced t s r := h
    rcases List.mem_append.mp h with h | h
    · rcases List.mem_append.mp h with h | h
      · exact .inl (mem_cut h)
      · exact .inr ⟨_, List.mem_cons_self, h⟩
    · rcases mem_replaced h with z | ⟨x, hx, z⟩
      · exact .inl z
      · exact .inr ⟨x, List.mem_cons_of_mem _ hx, z⟩
theorem replaced_len {t : List Nat} {m : Nat} : ∀ {sp : List Span} {e : Nat}, Val t.length e sp → (∀ x ∈ sp, x.2.2.length ≤ m + (x.2.1 - x.1)) → (replaced t e sp).length ≤ (t.length - e) + m * sp.length
  | [], e, _, _ => by simp [replaced]
  | (f, s, p) :: r, e, hv, hp => by
    obtain ⟨v1, v2, v3, v4⟩ := hv
    have h1 := replaced_len (e := s) (v4.mono (Nat.le_succ _)) fun x hx => hp x (List.mem_cons_of_mem _ hx)
    have h2 : p.length ≤ m + (s - f) := hp _ List.mem_cons_self
    show (cut t e f ++ p ++ replaced t s r).length ≤ _
    rw [List.length_append, List.length_append, cut_len (by omega), List.length_cons, Nat.mul_succ]
    omega
theorem replaced_count {t : List Nat} : ∀ {sp : List Span} {e : Nat}, Val t.length e sp → (∀ x ∈ sp, 10 ∉ x.2.2) → (replaced t e sp).count 10 ≤ (t.drop e).count 10
  | [], e, _, _ => Nat.le_refl _
  | (f, s, p) :: r, e, hv, hp => by
    obtain ⟨v1, v2, v3, v4⟩ := hv
    have h1 := replaced_count (e := s) (v4.mono (Nat.le_succ _)) fun x hx => hp x (List.mem_cons_of_mem _ hx)
    have h2 : p.count 10 = 0 := List.count_eq_zero.mpr (hp _ List.mem_cons_self)
    show (cut t e f ++ p ++ replaced t s r).count 10 ≤ _
    rw [List.count_append, List.count_append, h2, ← cut_drop (t := t) v1, ← cut_drop (t := t) v2, List.count_append, List.count_append]
    omega
/-- spans far from one another -/
def Far : Nat → List Span → Prop
  | _, [] => True
  | e, (f, s, _) :: r => e + 41 ≤ f ∧ f ≤ s ∧ Far s r
theorem replaced_lim {t : List Nat} : ∀ {sp : List Span} {e : Nat}, Val t.length e sp → Far e sp → (∀ x ∈ sp, 10 ∉ x.2.2 ∧ x.2.2.length ≤ 20) → Lim 40 40 (t.drop e) → Lim 40 100 (replaced t e sp)
  | [], e, _, _, _, h => Lim.mono (by decide) (Nat.le_refl _) h
  | (f, s, p) :: r, e, hv, hf, hp, h => by
    obtain ⟨v1, v2, v3, v4⟩ := hv
    obtain ⟨f1, f2, f3⟩ := hf
    have hd : Lim 40 40 (t.drop s) := by
      have := h.drop (s - e) (Nat.le_refl _)
      rw [List.drop_drop, show e + (s - e) = s by omega] at this
      exact this
    have ih := replaced_lim (e := s) (v4.mono (Nat.le_succ _)) f3 (fun x hx => hp x (List.mem_cons_of_mem _ hx)) hd
    have h2 := hp _ List.mem_cons_self
    have h3 : Lim 60 100 (p ++ replaced t s r) := (Lim.pre h2.1 ih).mono (Nat.le_refl _) (by have := h2.2; simp at this; omega)
    show Lim 40 100 (cut t e f ++ p ++ replaced t s r)
    rw [List.append_assoc]
    refine Lim.l2 (m := 40) (k := 60) (b := t.drop f) (Nat.le_refl _) (by rw [cut_len (by omega)]; omega) ?_ h3
    rw [cut_drop v1]
    exact h
end Tx
namespace Tx
/-- the law's table, by spans that end with one at the text's end -/
def waysS : Nat → Nat → List Span → List (Nat × Bool × Nat)
  | _, _, [] => []
  | e, told, (f, s, p) :: r => ((List.range (f - e)).map fun i => (told + 1 + i, true, e + 1 + i)) ++ ((List.range (s - f)).map fun _ => (told + (f - e) + p.length, false, if p = [] then f else s)) ++ waysS s (told + (f - e) + p.length) r
theorem ways_S {n : Nat} : ∀ {sp : List Span} {e told : Nat}, ways n e told sp = waysS e told (sp ++ [(n, n, [])])
  | [], e, told => by
    show (List.range (n - e)).map _ = _ ++ _ ++ []
    rw [Nat.sub_self]
    simp
  | (f, s, p) :: r, e, told => by
    show _ ++ _ ++ ways n s _ r = _ ++ _ ++ waysS s _ (r ++ [(n, n, [])])
    rw [ways_S]
def Mon (n : Nat) : Nat → List Span → Prop
  | _, [] => True
  | e, (f, s, _) :: r => e ≤ f ∧ f ≤ s ∧ s ≤ n ∧ Mon n s r
theorem Val.toMon {n : Nat} : ∀ {sp : List Span} {e : Nat}, e ≤ n → Val n e sp → Mon n e (sp ++ [(n, n, [])])
  | [], e, he, _ => ⟨he, Nat.le_refl _, Nat.le_refl _, trivial⟩
  | (f, s, p) :: r, e, he, ⟨v1, v2, v3, v4⟩ => ⟨v1, v2, v3, Val.toMon v3 (v4.mono (Nat.le_succ _))⟩
theorem range_snoc {α : Type} {g : Nat → α} {j : Nat} : (List.range (j + 1)).map g = (List.range j).map g ++ [g j] := by
  rw [List.range_succ, List.map_append]
  rfl
end Tx
namespace Tx
theorem Lim.join {m : Nat} : ∀ {ps : List (List Nat)}, (∀ p ∈ ps, p.length ≤ m ∧ 10 ∉ p) → Lim m m (joinL ps)
  | [], _ => trivial
  | [x], h => by
    have hx := h x List.mem_cons_self
    have := Lim.pre (m := m) (c := 0) (x := []) hx.2 trivial
    rw [List.append_nil] at this
    exact this.mono (Nat.le_refl _) hx.1
  | x :: y :: r, h => by
    have hx := h x List.mem_cons_self
    rw [joinL_cons]
    have h2 : Lim 0 m (10 :: joinL (y :: r)) := by
      show if (10 : Nat) = 10 then _ else _
      rw [if_pos rfl]
      exact Lim.join fun p hp => h p (List.mem_cons_of_mem _ hp)
    exact (Lim.pre hx.2 h2).mono (Nat.le_refl _) hx.1
theorem mem_join {c : Nat} : ∀ {ps : List (List Nat)}, c ∈ joinL ps → c = 10 ∨ ∃ p ∈ ps, c ∈ p
  | [], h => nomatch h
  | [x], h => .inr ⟨x, List.mem_cons_self, h⟩
  | x :: y :: r, h => by
    rw [joinL_cons] at h
    rcases List.mem_append.mp h with h | h
    · exact .inr ⟨x, List.mem_cons_self, h⟩
    · rcases List.mem_cons.mp h with h | h
      · exact .inl h
      · rcases mem_join h with z | ⟨p, hp, z⟩
        · exact .inl z
        · exact .inr ⟨p, List.mem_cons_of_mem _ hp, z⟩
theorem sum_le {m : Nat} : ∀ {ps : List (List Nat)}, (∀ p ∈ ps, p.length ≤ m) → (ps.map (·.length)).sum ≤ m * ps.length
  | [], _ => Nat.zero_le _
  | x :: r, h => by
    rw [List.map_cons, List.sum_cons, List.length_cons, Nat.mul_succ]
    have h1 := sum_le fun p hp => h p (List.mem_cons_of_mem _ hp)
    have h2 := h x List.mem_cons_self
    omega
theorem join_len {m : Nat} : ∀ {ps : List (List Nat)}, (∀ p ∈ ps, p.length ≤ m) → (joinL ps).length ≤ (m + 1) * ps.length
  | [], _ => Nat.zero_le _
  | [x], h => by
    have h2 := h x List.mem_cons_self
    show x.length ≤ _
    simp
    omega
  | x :: y :: r, h => by
    rw [joinL_cons, List.length_append, List.length_cons, List.length_cons, Nat.mul_succ]
    have h1 := join_len fun p hp => h p (List.mem_cons_of_mem _ hp)
    have h2 := h x List.mem_cons_self
    omega
theorem replaced_from {t : List Nat} : ∀ {sp : List Span} {e : Nat}, e ≤ t.length → Val t.length e sp → replaced t 0 sp = cut t 0 e ++ replaced t e sp
  | [], e, he, _ => by
    show t.drop 0 = cut t 0 e ++ t.drop e
    rw [cut_drop (Nat.zero_le _)]
  | (f, s, p) :: r, e, he, ⟨v1, v2, v3, v4⟩ => by
    show cut t 0 f ++ p ++ replaced t s r = cut t 0 e ++ (cut t e f ++ p ++ replaced t s r)
    rw [← cut_app (Nat.zero_le e) v1]
    simp [List.append_assoc]
theorem mem_flat {n c : Nat} {l : List Nat} (h : c ∈ (List.replicate n l).flatten) : c ∈ l := by
  obtain ⟨p, hp, hc⟩ := List.mem_flatten.mp h
  rw [List.eq_of_mem_replicate hp] at hc
  exact hc
theorem len_flat {l : List Nat} : ∀ {n : Nat}, (List.replicate n l).flatten.length = n * l.length
  | 0 => by simp
  | n + 1 => by rw [List.replicate_succ, List.flatten_cons, List.length_append, len_flat, Nat.succ_mul, Nat.add_comm]
/-- the law's big text: 100 q's, and 399 lines of at most 40 signs -/
structure BigT (t : List Nat) : Prop where
  ex : ∃ ps : List (List Nat), t = List.replicate 100 113 ++ 10 :: joinL ps ∧ ps.length = 399 ∧ ∀ p ∈ ps, p.length ≤ 40 ∧ ∀ c ∈ p, isSign c = true
theorem no10 {p : List Nat} (h : ∀ c ∈ p, isSign c = true) : 10 ∉ p := fun z => nomatch h 10 z
theorem BigT.sign {t : List Nat} (B : BigT t) : ∀ c ∈ t, c = 10 ∨ isSign c = true := by
  obtain ⟨ps, rfl, hn, hp⟩ := B.ex
  intro c hc
  rcases List.mem_append.mp hc with h | h
  · rw [List.eq_of_mem_replicate h]
    exact .inr rfl
  · rcases List.mem_cons.mp h with h | h
    · exact .inl h
    · rcases mem_join h with z | ⟨p, hp', z⟩
      · exact .inl z
      · exact .inr ((hp p hp').2 c z)
theorem BigT.count {t : List Nat} (B : BigT t) : t.count 10 ≤ 399 := by
  obtain ⟨ps, rfl, hn, hp⟩ := B.ex
  have h1 := lines_len (joinL ps)
  rw [lines_join ps (by intro z; rw [z] at hn; exact nomatch hn) (fun p h => no10 (hp p h).2), hn] at h1
  rw [List.count_append, List.count_cons, List.count_replicate]
  simp
  omega
theorem BigT.len {t : List Nat} (B : BigT t) : 101 ≤ t.length ∧ t.length ≤ 20000 := by
  obtain ⟨ps, rfl, hn, hp⟩ := B.ex
  have := join_len fun p h => (hp p h).1
  rw [hn] at this
  simp
  omega
theorem BigT.lim {t : List Nat} (B : BigT t) : Lim 40 40 (t.drop 101) := by
  obtain ⟨ps, rfl, hn, hp⟩ := B.ex
  have e : (List.replicate 100 113 ++ 10 :: joinL ps).drop 101 = joinL ps := by
    rw [List.drop_append]
    simp
  rw [e]
  exact Lim.join fun p h => ⟨(hp p h).1, no10 (hp p h).2⟩
theorem BigT.cut {t : List Nat} (B : BigT t) : Tx.cut t 0 101 = List.replicate 100 113 ++ [10] := by
  obtain ⟨ps, rfl, hn, hp⟩ := B.ex
  unfold Tx.cut
  rw [List.drop_zero, List.take_append]
  simp
theorem BigT.behind {t : List Nat} (B : BigT t) {sp : List Span} (hv : Val t.length 101 sp) (hf : Far 101 sp) (hp : ∀ x ∈ sp, x.2.2.length ≤ 20 ∧ ∀ c ∈ x.2.2, isSign c = true) : isText (replaced t 0 sp) = true := by
  refine isText_lim ?_ ?_ ?_
  · rw [replaced_from B.len.1 hv, B.cut, List.append_assoc]
    have h113 : 10 ∉ List.replicate 100 113 := fun z => absurd (List.eq_of_mem_replicate z) (by decide)
    have hl : (List.replicate 100 113).length + 0 = 100 := by rw [List.length_replicate]
    have := Lim.pre (m := 100) (c := 0) (p := List.replicate 100 113) (x := [10] ++ replaced t 101 sp) h113 ?_
    rw [hl] at this
    exact this
    show if (10 : Nat) = 10 then _ else _
    rw [if_pos rfl]
    exact (replaced_lim hv hf (fun x hx => ⟨no10 (hp x hx).2, (hp x hx).1⟩) B.lim).mono (Nat.le_refl _) (by decide)
  · intro c hc
    rcases mem_replaced hc with z | ⟨x, hx, z⟩
    · exact B.sign c z
    · exact .inr ((hp x hx).2 c z)
  · have := replaced_count (e := 0) (hv.mono (Nat.zero_le _)) fun x hx => no10 (hp x hx).2
    rw [List.drop_zero] at this
    exact Nat.le_trans this B.count
theorem BigT.text {t : List Nat} (B : BigT t) : isText t = true := by
  have := B.behind (sp := []) trivial trivial (fun x hx => nomatch hx)
  exact this
end Tx
namespace Tx
theorem val_mem {n : Nat} : ∀ {sp : List Span} {e : Nat}, Val n e sp → ∀ x ∈ sp, e ≤ x.1 ∧ x.1 ≤ x.2.1 ∧ x.2.1 ≤ n
  | (f, s, p) :: r, e, ⟨v1, v2, v3, v4⟩, x, hx => by
    rcases List.mem_cons.mp hx with h | h
    · subst h
      exact ⟨v1, v2, v3⟩
    · have := val_mem v4 x h
      exact ⟨by omega, this.2⟩
theorem Val.wide {n m : Nat} (h : n ≤ m) : ∀ {sp : List Span} {e : Nat}, Val n e sp → Val m e sp
  | [], _, _ => trivial
  | (f, s, p) :: r, e, ⟨v1, v2, v3, v4⟩ => ⟨v1, v2, Nat.le_trans v3 h, v4.wide h⟩
theorem backs_len {t : List Nat} : ∀ {sp : List Span} {e told : Nat}, (backs t e told sp).length = sp.length
  | [], _, _ => rfl
  | (f, s, p) :: r, e, told => by
    show (_ :: backs t s _ r).length = _
    rw [List.length_cons, backs_len, List.length_cons]
theorem mem_backs {t : List Nat} : ∀ {sp : List Span} {e told : Nat}, ∀ x ∈ backs t e told sp, ∃ a b, x.2.2 = cut t a b
  | (f, s, p) :: r, e, told, x, hx => by
    have hx : x ∈ (_, _, cut t f s) :: backs t s _ r := hx
    rcases List.mem_cons.mp hx with h | h
    · exact ⟨f, s, by rw [h]⟩
    · exact mem_backs x h
theorem rb_len {told : List Nat} : ∀ {l : List Int} {b st a : Nat}, (rb told b st a l).length ≤ l.length
  | [], _, _, _ => Nat.le_refl _
  | x :: r, b, st, a => by
    show (if x < 0 then rb told b st (a + 1) r else (if (b : Int) < x ∨ st < a then [(b, x.toNat, cut told st a)] else []) ++ rb told (x.toNat + 1) (a + 1) (a + 1) r).length ≤ _
    rw [List.length_cons]
    split
    · have := rb_len (told := told) (l := r) (b := b) (st := st) (a := a + 1)
      omega
    · have := rb_len (told := told) (l := r) (b := x.toNat + 1) (st := a + 1) (a := a + 1)
      rw [List.length_append]
      split <;> simp <;> omega
theorem mem_rb {told : List Nat} : ∀ {l : List Int} {b st a : Nat}, ∀ x ∈ rb told b st a l, ∃ i j, x.2.2 = cut told i j
  | y :: r, b, st, a, x, hx => by
    have hx : x ∈ (if y < 0 then rb told b st (a + 1) r else (if (b : Int) < y ∨ st < a then [(b, y.toNat, cut told st a)] else []) ++ rb told (y.toNat + 1) (a + 1) (a + 1) r) := hx
    split at hx
    · exact mem_rb x hx
    · rcases List.mem_append.mp hx with h | h
      · split at h
        · rw [List.mem_singleton.mp h]
          exact ⟨st, a, rfl⟩
        · exact nomatch h
      · exact mem_rb x h
theorem ways_le {t : List Nat} : ∀ {sp : List Span} {e told : Nat}, Val t.length e sp → e ≤ t.length → ∀ x ∈ ways t.length e told sp, x.1 ≤ told + (replaced t e sp).length
  | [], e, told, _, he, x, hx => by
    obtain ⟨i, hi, rfl⟩ := List.mem_map.mp hx
    have hi := List.mem_range.mp hi
    show told + 1 + i ≤ told + (t.drop e).length
    rw [List.length_drop]
    omega
  | (f, s, p) :: r, e, told, ⟨v1, v2, v3, v4⟩, he, x, hx => by
    have hx : x ∈ ((List.range (f - e)).map fun i => (told + 1 + i, true, e + 1 + i)) ++ ((List.range (s - f)).map fun _ => (told + (f - e) + p.length, false, if p = [] then f else s)) ++ ways t.length s (told + (f - e) + p.length) r := hx
    show x.1 ≤ told + (cut t e f ++ p ++ replaced t s r).length
    rw [List.length_append, List.length_append, cut_len (by omega)]
    rcases List.mem_append.mp hx with h | h
    · rcases List.mem_append.mp h with h | h
      · obtain ⟨i, hi, rfl⟩ := List.mem_map.mp h
        have hi := List.mem_range.mp hi
        show told + 1 + i ≤ _
        omega
      · obtain ⟨i, hi, rfl⟩ := List.mem_map.mp h
        show told + (f - e) + p.length ≤ _
        omega
    · have := ways_le (v4.mono (Nat.le_succ _)) v3 x h
      omega
theorem ways_mono {n : Nat} : ∀ {sp : List Span} {e told : Nat}, Val n e sp → (ways n e told sp).Pairwise fun x y => x.1 ≤ y.1
  | [], e, told, _ => by
    show ((List.range (n - e)).map _).Pairwise _
    rw [List.pairwise_map]
    exact List.pairwise_lt_range.imp fun h => by show told + 1 + _ ≤ told + 1 + _; omega
  | (f, s, p) :: r, e, told, ⟨v1, v2, v3, v4⟩ => by
    show (((List.range (f - e)).map fun i => (told + 1 + i, true, e + 1 + i)) ++ ((List.range (s - f)).map fun _ => (told + (f - e) + p.length, false, if p = [] then f else s)) ++ ways n s (told + (f - e) + p.length) r).Pairwise _
    have hr : ∀ x ∈ ways n s (told + (f - e) + p.length) r, told + (f - e) + p.length < x.1 := ways_gt v4
    rw [List.pairwise_append, List.pairwise_append]
    refine ⟨⟨?_, ?_, ?_⟩, ways_mono (v4.mono (Nat.le_succ _)), ?_⟩
    · rw [List.pairwise_map]
      exact List.pairwise_lt_range.imp fun h => by show told + 1 + _ ≤ told + 1 + _; omega
    · rw [List.pairwise_map]
      exact List.pairwise_lt_range.imp fun h => Nat.le_refl _
    · intro x hx y hy
      obtain ⟨i, hi, rfl⟩ := List.mem_map.mp hx
      obtain ⟨j, hj, rfl⟩ := List.mem_map.mp hy
      have hi := List.mem_range.mp hi
      show told + 1 + i ≤ told + (f - e) + p.length
      omega
    · intro x hx y hy
      have h2 := hr y hy
      rcases List.mem_append.mp hx with h | h
      · obtain ⟨i, hi, rfl⟩ := List.mem_map.mp h
        have hi := List.mem_range.mp hi
        show told + 1 + i ≤ _
        omega
      · obtain ⟨i, hi, rfl⟩ := List.mem_map.mp h
        show told + (f - e) + p.length ≤ _
        omega
/-- the law's table with the text's begin -/
abbrev W (n : Nat) (sp : List Span) : List (Nat × Bool × Nat) := (0, true, 0) :: ways n 0 0 sp
theorem W_len {n : Nat} {sp : List Span} (hv : Val n 0 sp) : (W n sp).length = n + 1 := by
  rw [List.length_cons, ways_len hv]
  rfl
theorem W_moved {n a to ag : Nat} {st : Bool} {sp : List Span} (hv : Val n 0 sp) (h : (W n sp)[a]? = some (to, st, ag)) : moved sp (a : Int) 0 = to := by
  cases a with
  | zero =>
    rw [List.getElem?_cons_zero] at h
    obtain ⟨rfl, _⟩ := Prod.mk.inj (Option.some.inj h)
    exact moved_0 (n := n)
  | succ i =>
    rw [List.getElem?_cons_succ] at h
    have := ways_moved (sh := 0) hv (by rfl) h
    rw [Nat.zero_add] at this
    exact this
theorem W_back {t : List Nat} {a to ag : Nat} {st : Bool} {sp : List Span} (hv : Val t.length 0 sp) (h : (W t.length sp)[a]? = some (to, st, ag)) : moved (backs t 0 0 sp) (to : Int) 0 = ag := by
  cases a with
  | zero =>
    rw [List.getElem?_cons_zero] at h
    obtain ⟨rfl, h3⟩ := Prod.mk.inj (Option.some.inj h)
    obtain ⟨_, rfl⟩ := Prod.mk.inj h3
    exact moved_0 (n := t.length)
  | succ i =>
    rw [List.getElem?_cons_succ] at h
    exact ways_back hv h
theorem W_le {t : List Nat} {a to ag : Nat} {st : Bool} {sp : List Span} (hv : Val t.length 0 sp) (h : (W t.length sp)[a]? = some (to, st, ag)) : to ≤ (replaced t 0 sp).length := by
  cases a with
  | zero =>
    rw [List.getElem?_cons_zero] at h
    obtain ⟨rfl, _⟩ := Prod.mk.inj (Option.some.inj h)
    exact Nat.zero_le _
  | succ i =>
    rw [List.getElem?_cons_succ] at h
    have := ways_le hv (Nat.zero_le _) _ (List.mem_of_getElem? h)
    rw [Nat.zero_add] at this
    exact this
theorem W_mono {n a b : Nat} {x y : Nat × Bool × Nat} {sp : List Span} (hv : Val n 0 sp) (hab : a ≤ b) (ha : (W n sp)[a]? = some x) (hb : (W n sp)[b]? = some y) : x.1 ≤ y.1 := by
  have hp : (W n sp).Pairwise fun x y => x.1 ≤ y.1 := List.pairwise_cons.mpr ⟨fun y _ => Nat.zero_le _, ways_mono hv⟩
  rcases Nat.lt_or_eq_of_le hab with h | h
  · obtain ⟨la, ea⟩ := List.getElem?_eq_some_iff.mp ha
    obtain ⟨lb, eb⟩ := List.getElem?_eq_some_iff.mp hb
    have := List.pairwise_iff_getElem.mp hp a b la lb h
    rw [ea, eb] at this
    exact this
  · subst h
    rw [ha] at hb
    rw [Option.some.inj hb]
    exact Nat.le_refl _
theorem W_both {t : List Nat} {sp more : List Span} (B : Both t sp more) {a to ag due ag2 : Nat} (h1 : (W t.length sp)[a]? = some (to, true, ag)) (h2 : (W (replaced t 0 sp).length more)[to]? = some (due, true, ag2)) : moved (bothS t sp more) (a : Int) 0 = due := by
  cases a with
  | zero =>
    rw [List.getElem?_cons_zero] at h1
    obtain ⟨rfl, _⟩ := Prod.mk.inj (Option.some.inj h1)
    rw [List.getElem?_cons_zero] at h2
    obtain ⟨rfl, _⟩ := Prod.mk.inj (Option.some.inj h2)
    exact moved_0 (n := t.length)
  | succ i =>
    rw [List.getElem?_cons_succ] at h1
    have hto : 0 < to := (ways_orig B.v1 h1).1
    obtain ⟨j, rfl⟩ : ∃ j, to = j + 1 := ⟨to - 1, by omega⟩
    rw [List.getElem?_cons_succ] at h2
    exact B.moved h1 h2
end Tx
/-! DF: texts as data. -/
namespace DL
open PySem PySem.Spec PyProof.Rows L2
def S (l : List Nat) : Str := ⟨l.toArray⟩
theorem S_len (l : List Nat) : (S l).length = l.length := by simp [S, Str.length]
theorem S_app (a b : List Nat) : S a ++ S b = S (a ++ b) := by
  apply PySem.Str.ext'
  show a.toArray ++ b.toArray = (a ++ b).toArray
  simp
theorem S_cps (l : List Nat) : (S l).cps.toList = l := by simp [S]
theorem S_inj {a b : List Nat} (h : S a = S b) : a = b := by
  have := congrArg (fun z : Str => z.cps.toList) h
  simpa [S] using this
theorem S_eta (z : Str) : S z.cps.toList = z := by
  apply PySem.Str.ext'
  simp [S]
theorem S_eq {z : Str} {l : List Nat} (h : z.cps.toList = l) : z = S l := by rw [← h, S_eta]
def cutL (l : List Nat) (lo hi : Option Int) : List Nat := (l.drop (HT.sIx l.length 0 lo)).take (HT.sIx l.length l.length hi - HT.sIx l.length 0 lo)
theorem S_cut (l : List Nat) (lo hi : Option Int) : cutS (S l) lo hi = S (cutL l lo hi) := by
  unfold cutS cutL
  rw [S_len, S_cps]
  rfl
theorem cutL_nn {l : List Nat} {a b : Nat} (h : a ≤ b) (hb : b ≤ l.length) : cutL l (some (a : Int)) (some (b : Int)) = Tx.cut l a b := by
  unfold cutL Tx.cut
  rw [HT.sIx_nat, HT.sIx_nat, Nat.min_eq_left hb, Nat.min_eq_left (Nat.le_trans h hb)]
theorem cutL_no {l : List Nat} {a : Nat} (h : a ≤ l.length) : cutL l (some (a : Int)) none = l.drop a := by
  unfold cutL
  rw [HT.sIx_nat, HT.sIx_none, Nat.min_eq_left h, List.take_of_length_le]
  rw [List.length_drop]
  omega
theorem cutL_on {l : List Nat} {b : Nat} : cutL l none (some (b : Int)) = l.take b := by
  unfold cutL
  rw [HT.sIx_nat, HT.sIx_none, List.drop_zero, Nat.sub_zero]
  by_cases h : b ≤ l.length
  · rw [Nat.min_eq_left h]
  · rw [Nat.min_eq_right (by omega), List.take_of_length_le (Nat.le_refl _), List.take_of_length_le (by omega)]
/-- texts joined -/
theorem join_nl : ∀ ps : List (List Nat), Str.join (S [10]) (ps.map S) = S (Tx.joinL ps)
  | [] => rfl
  | [x] => rfl
  | x :: y :: r => by
    show S x ++ S [10] ++ Str.join (S [10]) (S y :: r.map S) = S (x ++ 10 :: Tx.joinL (y :: r))
    rw [show (S y :: r.map S) = (y :: r).map S from rfl, join_nl (y :: r), S_app, S_app]
    congr 1
    simp
theorem join_no : ∀ ps : List (List Nat), Str.join (S []) (ps.map S) = S ps.flatten
  | [] => rfl
  | [x] => by simp [Str.join]
  | x :: y :: r => by
    show S x ++ S [] ++ Str.join (S []) (S y :: r.map S) = _
    rw [show (S y :: r.map S) = (y :: r).map S from rfl, join_no (y :: r), S_app, S_app]
    simp
theorem tjoin_nl (ps : List (List Nat)) : Txt.join (S [10]) (ps.map S) = S (Tx.joinL ps) := (PySem.StrLaws.glued_eq_join _ _).trans (join_nl ps)
theorem tjoin_no (ps : List (List Nat)) : Txt.join (S []) (ps.map S) = S ps.flatten := (PySem.StrLaws.glued_eq_join _ _).trans (join_no ps)
theorem split_ne (x y : Str) : Txt.split x y ≠ [] := by
  unfold Txt.split
  split
  · simp
  · split
    · simp
    · rw [PySem.StrLaws.partsBetween_eq]
      obtain ⟨p, r, e⟩ := PySem.StrLaws.partsFrom_ne x y.length 0 (Builtin.Str.occurrences x y 0 x.length (x.length + 1))
      rw [e]
      simp
theorem split_nl (l : List Nat) : Txt.split (S l) (S [10]) = (Tx.lines l).map S := by
  have h1 := PySem.StrLaws.join_split (S l) (S [10])
  have h2 : ∀ p ∈ Txt.split (S l) (S [10]), 10 ∉ p.cps.toList := PySem.StrLaws.split_free (S l) 10
  have h0 := split_ne (S l) (S [10])
  generalize Txt.split (S l) (S [10]) = ps at h1 h2 h0
  have e1 : ps = (ps.map fun z => z.cps.toList).map S := by
    rw [List.map_map]
    conv => lhs; rw [← List.map_id ps]
    apply List.map_congr_left
    intro z _
    exact (S_eta z).symm
  rw [e1, join_nl] at h1
  have h3 := S_inj h1
  rw [← h3, Tx.lines_join _ (by simpa using h0) fun p hp => by
    obtain ⟨z, hz, rfl⟩ := List.mem_map.mp hp
    exact h2 z hz]
  exact e1
/-- one sign before another -/
theorem sign_le (a b : Nat) : (!decide ((S [b]).cps.toList < (S [a]).cps.toList)) = decide (a ≤ b) := by
  rw [S_cps, S_cps]
  by_cases h : a ≤ b
  · have : ¬ [b] < [a] := by
      rw [List.cons_lt_cons_iff]
      simp
      omega
    rw [decide_eq_true h, decide_eq_false this]
    rfl
  · have : [b] < [a] := by
      rw [List.cons_lt_cons_iff]
      left
      omega
    rw [decide_eq_false h, decide_eq_true this]
    rfl
theorem S1 (c : Nat) : (⟨#[c]⟩ : Str) = S [c] := rfl
theorem sgD_S (l : List Nat) : sgD (S l) = l.map fun c => D.str (S [c]) := by
  unfold sgD
  rw [S_cps]
  rfl
section
variable {K : PySem.W.Frag} {ρ : DEnv} {G : Cells} {Q : D → Cells → Prop} {te : TE} {g : TG} {wi : TI} {x y : D} {QI : List D → (Cells → Prop) → Cells → Prop}
theorem rd_addT {a b : List Nat} (hl : a.length + b.length ≤ 100000) (q : Q (.str (S (a ++ b))) G) : RD K (fun x y H Q => ∃ i j, x = .str i ∧ y = .str j ∧ i.length + j.length ≤ sizeLine ∧ Q (.str (i ++ j)) H) (.str (S a)) (.str (S b)) G Q :=
  rd_addS (by rw [S_len, S_len]; exact le_size hl) (by rw [S_app]; exact q)
theorem rs_T {a : List Nat} {lo hi : Option Int} (hl : a.length ≤ 100000) (q : Q (.str (S (cutL a lo hi))) G) : RS K rSlS (.str (S a)) lo hi G Q := rs_S (by rw [S_len]; exact le_size hl) (by rw [S_cut]; exact q)
theorem rc_lenT {a : List Nat} (hl : a.length ≤ 100000) (q : Q (.int a.length) G) : RC K (fun xs H Q => ∃ z, xs = [.str z] ∧ z.length ≤ sizeLine ∧ Q (.int z.length) H) [.str (S a)] G Q := rc_lenS (by rw [S_len]; exact le_size hl) (by rw [S_len]; exact q)
theorem rd_eqT {a b : List Nat} (q : Q (.bl (decide (a = b))) G) : RD K rEq (.str (S a)) (.str (S b)) G Q := rd_eqS (by
  have : decide (S a = S b) = decide (a = b) := by
    by_cases e : a = b
    · subst e; simp
    · rw [decide_eq_false e, decide_eq_false fun z => e (S_inj z)]
  rw [this]
  exact q)
theorem rd_neT {a b : List Nat} (q : Q (.bl (!decide (a = b))) G) : RD K rNe (.str (S a)) (.str (S b)) G Q := rd_neS (by
  have : decide (S a = S b) = decide (a = b) := by
    by_cases e : a = b
    · subst e; simp
    · rw [decide_eq_false e, decide_eq_false fun z => e (S_inj z)]
  rw [this]
  exact q)
theorem rd_leT {a b : Nat} (q : Q (.bl (decide (a ≤ b))) G) : RD K (fun x y H Q => ∃ i j, x = .str i ∧ y = .str j ∧ Q (.bl (!decide (j.cps.toList < i.cps.toList))) H) (.str (S [a])) (.str (S [b])) G Q := rd_leS (by rw [sign_le]; exact q)
theorem rd_ixT' {l : List Nat} {i : Int} {c : Nat} (hl : l.length ≤ 100000) (h0 : 0 ≤ i) (h : l[i.toNat]? = some c) (q : Q (.str (S [c])) G) : RD K rIxS (.str (S l)) (.int i) G Q := rd_ixS (by rw [S_len]; exact le_size hl) (by rw [S_cps]; exact atZ h0 h) q
theorem rm_splitT {l : List Nat} (hl : l.length ≤ 100000) (q : Nw Q ((Tx.lines l).map fun p => D.str (S p)) G) :
    RM K (fun x xs H Q => ∃ a b, x = .str a ∧ xs = [.str b] ∧ (b.length == 0) = false ∧ a.length + 2 ≤ sizeLine ∧ rNewStrs (Txt.split a b) H Q) (.str (S l)) [.str (S [10])] G Q :=
  rm_split rfl (by rw [S_len]; exact Nat.le_trans (Nat.add_le_add_right hl 2) (by decide)) (by rw [split_nl, List.map_map]; exact q)
theorem rm_joinT {ps : List (List Nat)} (hy : IsR G y (ps.map fun p => D.str (S p))) (hl : (ps.map (·.length)).sum ≤ 1000000) (q : Q (.str (S ps.flatten)) G) :
    RM K (fun x xs H Q => ∃ a p, ∃ ys : List Str, x = .str a ∧ xs = [.ref p] ∧ (SqL K H p (ys.map V.str) ∨ SqT K H p (ys.map V.str)) ∧ (ys.map (·.length)).sum + ys.length * a.length ≤ 16777216 ∧ Q (.str (Txt.join a ys)) H) (.str (S [])) [y] G Q := by
  refine rm_join (ys := ps.map S) (by rw [List.map_map]; exact hy) ?_ (by rw [tjoin_no]; exact q)
  rw [List.map_map, S_len]
  have : ps.map ((·.length) ∘ S) = ps.map (·.length) := List.map_congr_left fun p _ => S_len p
  rw [this]
  simp
  omega
theorem rm_joinN {ps : List (List Nat)} (hy : IsR G y (ps.map fun p => D.str (S p))) (hl : (ps.map (·.length)).sum + ps.length ≤ 1000000) (q : Q (.str (S (Tx.joinL ps))) G) :
    RM K (fun x xs H Q => ∃ a p, ∃ ys : List Str, x = .str a ∧ xs = [.ref p] ∧ (SqL K H p (ys.map V.str) ∨ SqT K H p (ys.map V.str)) ∧ (ys.map (·.length)).sum + ys.length * a.length ≤ 16777216 ∧ Q (.str (Txt.join a ys)) H) (.str (S [10])) [y] G Q := by
  refine rm_join (ys := ps.map S) (by rw [List.map_map]; exact hy) ?_ (by rw [tjoin_nl]; exact q)
  rw [List.map_map, S_len]
  have : ps.map ((·.length) ∘ S) = ps.map (·.length) := List.map_congr_left fun p _ => S_len p
  rw [this]
  simp
  omega
theorem rd_mulT {l : List Nat} {n : Nat} (hl : l.length * n ≤ 100000) (hn : n ≤ 100000) (q : Q (.str (S (List.replicate n l).flatten)) G) : RD K rMulS (.str (S l)) (.int (n : Int)) G Q :=
  rd_mulS (by omega) (by omega) (by rw [S_len, Int.toNat_natCast]; exact le_size hl) (by rw [Int.toNat_natCast, S_cps]; exact q)
theorem wi_strT (h : WE K te ρ G fun d G1 => ∃ l, d = .str (S l) ∧ QI (l.map fun c => D.str (S [c])) (fun _ => True) G1) : WI K (iStr te) ρ G QI := wi_str fun w σ ok R p => h w σ ok R fun v d w' G' ⟨l, e, q⟩ => p v d w' G' ⟨S l, e, by rw [sgD_S]; exact q⟩
theorem ex_strT {b : List Nat} {Q : List Nat → Prop} (h : Q b) : ∃ c, D.str (S b) = D.str (S c) ∧ Q c := ⟨b, rfl, h⟩
/-- a comprehension whose items are told by a function -/
theorem we_lcmap {α : Type} {vs : List Nat} (ho : Own g vs) (h : WI K wi ρ G fun ds S G1 => ∃ (as : List α) (enc f : α → D), ds = as.map enc ∧ S G1 ∧ as.length ≤ 100000 ∧ (∀ a ∈ as, WG K g (enc a) (wipeR ρ vs) G1 fun ρ2 G2 => WE K te ρ2 G2 fun y G3 => y = f a ∧ G3 = G1) ∧ Nw Q (as.map f) G1) : WE K (tLc wi g tYes te vs) ρ G Q := by
  refine we_lc ho fun w σ ok R p => h w σ ok R fun J ds S w' G' ⟨as, enc, f, e0, hS, hl, he, q⟩ sq ok' f' => p J ds S w' G' ⟨fun i acc G => acc = (as.take i).map f ∧ G = G', ⟨by simp, rfl⟩, fun i acc G ⟨_, e⟩ => by rw [e]; exact hS, ?_, fun acc G ⟨e1, e2⟩ => ?_⟩ sq ok' f'
  · rintro i d acc G hi ⟨rfl, rfl⟩
    subst e0
    obtain ⟨a, ha, rfl⟩ := map_get hi
    have hm := List.mem_of_getElem? ha
    intro w σ v ok r R p
    refine he a hm w σ v ok r R fun w' G' σ' ρ' q ok' f' => p w' G' σ' ρ' (fun w σ ok R p => p true w _ ?_ ok (Fut.refl w)) ok' f'
    show WE K te ρ' G' _
    intro w σ ok R p
    refine q w σ ok R fun v y w2 G2 ⟨e1, e2⟩ ok2 r2 f2 => p v y w2 G2 ⟨?_, ?_, e2⟩ ok2 r2 f2
    · rw [List.length_map, List.length_take]
      exact lt_size (by have := (List.getElem?_eq_some_iff.mp ha).1; omega)
    · rw [e1, List.take_add_one, ha, List.map_append]
      rfl
  · have e3 : ds.length = as.length := by rw [e0, List.length_map]
    rw [e1, e2, e3, List.take_of_length_le (Nat.le_refl _)]
    exact q
end
end DL
namespace My
open PySem PySem.Spec PyProof.Rows L2 DL
local macro_rules | `(tactic| walk_at "w") => `(tactic| first
  | ((with_reducible refine' we_isiT (ts := ["list", "tuple"]) ?_); rotate_left 2)
  | with_reducible refine ws_seq ?_
  | with_reducible refine ws_asg ?_
  | with_reducible refine ws_if ?_
  | with_reducible refine ws_ret ?_
  | with_reducible refine ws_retN ?_
  | with_reducible refine ws_drop ?_
  | with_reducible refine ws_next ?_
  | with_reducible refine ws_break ?_
  | with_reducible refine ws_cont ?_
  | with_reducible refine ws_par' ?_
  | with_reducible refine ws_par3' ?_
  | with_reducible refine we_var (by with_unfolding_all exact rfl) ?_
  | with_reducible refine we_int ?_
  | with_reducible refine we_str ?_
  | with_reducible refine we_bl ?_
  | with_reducible refine we_non ?_
  | with_reducible refine we_ty ?_
  | with_reducible refine we_op ?_
  | with_reducible refine we_cb ?_
  | with_reducible refine wa_cons ?_
  | with_reducible refine wa_nil ?_
  | with_reducible refine wt_test ?_
  | with_reducible refine wt_B ?_
  | with_reducible refine wt_not ?_
  | with_reducible refine wt_and ?_
  | with_reducible refine wt_or ?_
  | with_reducible refine we_un ?_
  | with_reducible refine we_if ?_
  | with_reducible refine we_andV ?_
  | with_reducible refine we_orV ?_
  | with_reducible refine we_notV ?_
  | with_reducible refine we_chain ?_
  | with_reducible refine we_call ?_
  | with_reducible refine we_sl ?_
  | with_reducible refine wo_none ?_
  | with_reducible refine wo_some ?_
  | with_reducible refine we_lst ?_
  | with_reducible refine we_tup ?_
  | with_reducible refine we_m1 ?_
  | with_reducible refine we_bmL ?_
  | with_reducible refine we_bmL0 ?_
  | with_reducible refine we_listRg ?_
  | with_reducible refine wrg_2 ?_
  | with_reducible refine wrg_1 ?_
  | with_reducible refine wg_name' (by dsimp only [List.set, wipeR]) ?_
  | with_reducible refine wg_tup (by with_unfolding_all exact rfl) ?_
  | with_reducible refine wgs_cons ?_
  | with_reducible refine wgs_nil ?_
  | with_reducible refine wg_setL ?_
  | with_reducible refine rd_add ?_
  | with_reducible refine rd_sub ?_
  | with_reducible refine rd_lt ?_
  | with_reducible refine rd_le ?_
  | with_reducible refine rd_gt ?_
  | with_reducible refine rd_ge ?_
  | with_reducible refine rd_eqI ?_
  | with_reducible refine rd_neI ?_
  | with_reducible refine rd_eqT ?_
  | with_reducible refine rd_neT ?_
  | with_reducible refine rd_eqS ?_
  | with_reducible refine rd_neS ?_
  | with_reducible refine rd_leT ?_
  | with_reducible refine rd_eqB ?_
  | with_reducible refine rd_neB ?_
  | with_reducible refine rd_isN' (by first | exact nn_n | exact nn_b | exact nn_i | exact nn_s | exact nn_l | exact nn_t | exact nn_p | exact rfl) ?_
  | with_reducible refine rd_notN' (by first | exact nm_n | exact nm_b | exact nm_i | exact nm_s | exact nm_l | exact nm_t | exact nm_p | exact rfl) ?_
  | with_reducible refine rd_leS ?_
  | with_reducible refine ru_neg ?_
  | ((with_reducible refine rd_catT ?h1 ?h2 ?h3 ?_); (case h1 => exact List.cons_ne_nil _ _); (case h2 => exact List.cons_ne_nil _ _); (case h3 => simp [sizeLine_eq]))
  | ((with_reducible refine rd_mul ?c ?_); rotate_left)
  | ((with_reducible refine rd_fdiv ?c ?_); rotate_left)
  | ((with_reducible refine rd_mod ?c ?_); rotate_left)
  | ((with_reducible refine rd_pow ?c ?_); rotate_left)
  | ((with_reducible refine rd_addT ?c ?_); rotate_left)
  | with_reducible refine rd_ixT (by with_unfolding_all exact rfl) ?_
  | with_reducible refine rc_int ?_
  | with_reducible refine rc_intB ?_
  | with_reducible refine rc_len isQ ?_
  | with_reducible refine rc_len isQt ?_
  | with_reducible refine rc_len isQo ?_
  | with_reducible refine rc_len (isQp (by with_unfolding_all exact rfl)) ?_
  | ((with_reducible refine rc_lenT ?c ?_); rotate_left)
  | with_reducible refine rc_min2 ?_
  | with_reducible refine rc_max2 ?_
  | with_reducible refine rc_abs ?_
  | ((with_reducible refine rs_T ?c ?_); rotate_left)
  | ((with_reducible refine And.intro (a := List.length _ ≤ sizeLine) ?len ?_); (case len => simp [sizeLine_eq]))
  | with_reducible refine ite_T ?_
  | with_reducible refine ite_F ?_
  | with_reducible refine ite_nT ?_
  | with_reducible refine ite_nF ?_
  | ((with_reducible refine ite_nyes ?h ?_); (case h => exact rfl))
  | ((with_reducible refine ite_yes ?h ?_); (case h => exact rfl))
  | with_reducible refine ex_bl ?_
  | with_reducible refine ex_int ?_
  | with_reducible refine ex_strT ?_
  | with_reducible refine ex_str ?_
  | with_reducible refine ex_tup ?_
  | with_reducible refine and_str ?_
  | with_reducible refine ex_int2 ?_
  | with_reducible refine ex_par (by dsimp only [List.set, wipeR]) ?_
  | with_reducible refine ex_par3 (by dsimp only [List.set, wipeR]) ?_)
local macro_rules | `(tactic| walk_at "kb") => `(tactic| first | exact kb_ii | exact kb_ib | exact kb_is | exact kb_il | exact kb_it | exact kb_id | exact kb_bi | exact kb_bb | exact kb_bs | exact kb_bl | exact kb_bt | exact kb_bd | exact kb_si | exact kb_sb | exact kb_ss | exact kb_sl | exact kb_st | exact kb_sd | exact kb_li | exact kb_lb | exact kb_ls | exact kb_ll | exact kb_lt | exact kb_ld | exact kb_ti | exact kb_tb | exact kb_ts | exact kb_tl | exact kb_tt | exact kb_td | exact kb_ni | exact kb_nb | exact kb_ns | exact kb_nl | exact kb_nt | exact kb_nd)
local macro_rules | `(tactic| walk_at "isi") => `(tactic| (with_reducible refine rc_isi (by with_unfolding_all exact rfl) (by walk_at "kb") ?_))
local macro_rules | `(tactic| walk_at "ww") => `(tactic| repeat (first | walk_at "w" | walk_at "isi"))
local macro_rules | `(tactic| walk_at "cold") => `(tactic| (refine Or.inl ?_; walk_at "ww"))
local macro_rules | `(tactic| walk_at "hot") => `(tactic| (refine Or.inr ?_; walk_at "ww"))
local macro_rules | `(tactic| walk_at "side") => `(tactic| first | decide | omega | exact ⟨by decide, by decide⟩ | exact ⟨by omega, by omega⟩ | exact .inl ⟨by omega, by omega⟩ | exact .inr ⟨by omega, by omega⟩ | exact cpow18)

def topS (i : Nat) : Stmt := PySem.Challenge.pw_asifnew_k05_whole_places_behind_changes.main.body.getD i (.Pass ⟨0, 0, 0, 0⟩)
abbrev s_is_number : Stmt := topS 9
theorem sc_is_number : FnScope ["value"] ["value"] (defScope s_is_number) := ⟨rfl, rfl, rfl, by decide +kernel, rfl, by decide +kernel, by decide +kernel⟩
abbrev s_is_line : Stmt := topS 10
theorem sc_is_line : FnScope ["value", "sign"] ["value"] (defScope s_is_line) := ⟨rfl, rfl, rfl, by decide +kernel, rfl, by decide +kernel, by decide +kernel⟩
abbrev s_is_text : Stmt := topS 11
theorem sc_is_text : FnScope ["value", "lines", "line"] ["value"] (defScope s_is_text) := ⟨rfl, rfl, rfl, by decide +kernel, rfl, by decide +kernel, by decide +kernel⟩
abbrev s_check_text : Stmt := topS 12
theorem sc_check_text : FnScope ["value"] ["value"] (defScope s_check_text) := ⟨rfl, rfl, rfl, by decide +kernel, rfl, by decide +kernel, by decide +kernel⟩
abbrev s_place_at : Stmt := topS 13
theorem sc_place_at : FnScope ["text", "line", "column", "lines", "one"] ["text", "line", "column"] (defScope s_place_at) := ⟨rfl, rfl, rfl, by decide +kernel, rfl, by decide +kernel, by decide +kernel⟩
abbrev s_place_of : Stmt := topS 14
theorem sc_place_of : FnScope ["text", "at", "ahead"] ["text", "at"] (defScope s_place_of) := ⟨rfl, rfl, rfl, by decide +kernel, rfl, by decide +kernel, by decide +kernel⟩
abbrev s_span_of : Stmt := topS 15
theorem sc_span_of : FnScope ["text", "change", "first", "second"] ["text", "change"] (defScope s_span_of) := ⟨rfl, rfl, rfl, by decide +kernel, rfl, by decide +kernel, by decide +kernel⟩
abbrev s_spans_of : Stmt := topS 16
theorem sc_spans_of : FnScope ["text", "changes", "spans", "end", "number", "change", "span"] ["text", "changes"] (defScope s_spans_of) := ⟨rfl, rfl, rfl, by decide +kernel, rfl, by decide +kernel, by decide +kernel⟩
abbrev s_replaced : Stmt := topS 17
theorem sc_replaced : FnScope ["text", "spans", "parts", "end", "first", "second", "put"] ["text", "spans"] (defScope s_replaced) := ⟨rfl, rfl, rfl, by decide +kernel, rfl, by decide +kernel, by decide +kernel⟩
abbrev s_changed : Stmt := topS 18
theorem sc_changed : FnScope ["text", "changes", "told"] ["text", "changes"] (defScope s_changed) := ⟨rfl, rfl, rfl, by decide +kernel, rfl, by decide +kernel, by decide +kernel⟩
abbrev s_moved : Stmt := topS 19
theorem sc_moved : FnScope ["spans", "at", "shift", "first", "second", "put"] ["spans", "at"] (defScope s_moved) := ⟨rfl, rfl, rfl, by decide +kernel, rfl, by decide +kernel, by decide +kernel⟩
abbrev s_mapped : Stmt := topS 20
theorem sc_mapped : FnScope ["text", "changes", "line", "column", "told", "at"] ["text", "changes", "line", "column"] (defScope s_mapped) := ⟨rfl, rfl, rfl, by decide +kernel, rfl, by decide +kernel, by decide +kernel⟩
abbrev s_back_of : Stmt := topS 21
theorem sc_back_of : FnScope ["text", "changes", "told", "back", "shift", "first", "second", "put", "begin"] ["text", "changes"] (defScope s_back_of) := ⟨rfl, rfl, rfl, by decide +kernel, rfl, by decide +kernel, by decide +kernel⟩
abbrev s_origins : Stmt := topS 22
theorem sc_origins : FnScope ["size", "spans", "told", "end", "first", "second", "put"] ["size", "spans"] (defScope s_origins) := ⟨rfl, rfl, rfl, by decide +kernel, rfl, by decide +kernel, by decide +kernel⟩
abbrev s_row_between : Stmt := topS 23
theorem sc_row_between : FnScope ["text", "told", "kept", "row", "begin", "start", "at", "old"] ["text", "told", "kept"] (defScope s_row_between) := ⟨rfl, rfl, rfl, by decide +kernel, rfl, by decide +kernel, by decide +kernel⟩
abbrev s_joined : Stmt := topS 24
theorem sc_joined : FnScope ["text", "changes", "more", "middle", "told", "first", "second", "at"] ["text", "changes", "more"] (defScope s_joined) := ⟨rfl, rfl, rfl, by decide +kernel, rfl, by decide +kernel, by decide +kernel⟩
abbrev s_law_pool : Stmt := topS 26
theorem sc_law_pool : FnScope ["script", "pool", "cell", "rest", "k", "state"] ["script"] (defScope s_law_pool) := ⟨rfl, rfl, rfl, by decide +kernel, rfl, by decide +kernel, by decide +kernel⟩
abbrev s_law_stream : Stmt := topS 27
theorem sc_law_stream : FnScope ["script"] ["script"] (defScope s_law_stream) := ⟨rfl, rfl, rfl, by decide +kernel, rfl, by decide +kernel, by decide +kernel⟩
abbrev s_law_pick : Stmt := topS 28
theorem sc_law_pick : FnScope ["pool", "many", "place"] ["pool", "many"] (defScope s_law_pick) := ⟨rfl, rfl, rfl, by decide +kernel, rfl, by decide +kernel, by decide +kernel⟩
abbrev s_law_same : Stmt := topS 29
theorem sc_law_same : FnScope ["one", "other", "k"] ["one", "other"] (defScope s_law_same) := ⟨rfl, rfl, rfl, by decide +kernel, rfl, by decide +kernel, by decide +kernel⟩
abbrev s_law_place : Stmt := topS 30
theorem sc_law_place : FnScope ["text", "at", "line", "column", "sign"] ["text", "at"] (defScope s_law_place) := ⟨rfl, rfl, rfl, by decide +kernel, rfl, by decide +kernel, by decide +kernel⟩
abbrev s_law_row : Stmt := topS 31
theorem sc_law_row : FnScope ["text", "spans", "first", "second", "put"] ["text", "spans"] (defScope s_law_row) := ⟨rfl, rfl, rfl, by decide +kernel, rfl, by decide +kernel, by decide +kernel⟩
abbrev s_law_string : Stmt := topS 32
theorem sc_law_string : FnScope ["pool", "most", "signs", "k"] ["pool", "most"] (defScope s_law_string) := ⟨rfl, rfl, rfl, by decide +kernel, rfl, by decide +kernel, by decide +kernel⟩
abbrev s_law_spans : Stmt := topS 33
theorem sc_law_spans : FnScope ["pool", "text", "most", "spans", "at", "size", "turn", "first", "second", "put", "kind"] ["pool", "text", "most"] (defScope s_law_spans) := ⟨rfl, rfl, rfl, by decide +kernel, rfl, by decide +kernel, by decide +kernel⟩
abbrev s_law_behind : Stmt := topS 34
theorem sc_law_behind : FnScope ["text", "spans", "told", "end", "first", "second", "put"] ["text", "spans"] (defScope s_law_behind) := ⟨rfl, rfl, rfl, by decide +kernel, rfl, by decide +kernel, by decide +kernel⟩
abbrev s_law_case : Stmt := topS 35
theorem sc_law_case : FnScope ["pool", "text", "step", "most", "spans", "at", "turn", "first", "second", "put", "k"] ["pool"] (defScope s_law_case) := ⟨rfl, rfl, rfl, by decide +kernel, rfl, by decide +kernel, by decide +kernel⟩
abbrev s_law_ways : Stmt := topS 36
theorem sc_law_ways : FnScope ["size", "spans", "found", "told", "place", "first", "second", "put", "at", "back"] ["size", "spans"] (defScope s_law_ways) := ⟨rfl, rfl, rfl, by decide +kernel, rfl, by decide +kernel, by decide +kernel⟩
abbrev s_law_asked : Stmt := topS 37
theorem sc_law_asked : FnScope ["text", "row", "at", "line", "column"] ["text", "row", "at"] (defScope s_law_asked) := ⟨rfl, rfl, rfl, by decide +kernel, rfl, by decide +kernel, by decide +kernel⟩
abbrev s_law : Stmt := topS 38
theorem sc_law : FnScope ["script", "pool", "text", "spans", "row", "behind", "back", "ways", "ats", "more", "first", "second", "put", "second_row", "second_ways", "both", "last", "places", "ahead", "at", "to", "stays", "again", "line", "column", "told", "due", "k", "one"] ["script"] (defScope s_law) := ⟨rfl, rfl, rfl, by decide +kernel, rfl, by decide +kernel, by decide +kernel⟩
theorem lit_0 : Str.ofString " " = S [32] := by decide +kernel
theorem lit_1 : Str.ofString "~" = S [126] := by decide +kernel
theorem lit_2 : Str.ofString "\n" = S [10] := by decide +kernel
theorem lit_3 : Str.ofString "" = S [] := by decide +kernel
theorem lit_4 : Str.ofString "ab \n~-Z\\\"\n0_=b\na x" = S [97, 98, 32, 10, 126, 45, 90, 92, 34, 10, 48, 95, 61, 98, 10, 97, 32, 120] := by decide +kernel
theorem lit_5 : Str.ofString "q" = S [113] := by decide +kernel
theorem lit_6 : Str.ofString "put = -1 \\" = S [112, 117, 116, 32, 61, 32, 45, 49, 32, 92] := by decide +kernel
theorem lit_7 : Str.ofString "ab c~-_ZY." = S [97, 98, 32, 99, 126, 45, 95, 90, 89, 46] := by decide +kernel
structure FnAt (K : PySem.W.Frag) (mg : Str → Option Value) (x : Str) (st : Stmt) (ps : List Str) (f : Addr) (fd : FuncData) : Prop where
  fn : Fun K x x st f fd
  bd : Binds K fd ps []
  mg : mg x = some (.ref f)
structure Top (K : PySem.W.Frag) (mg : Str → Option Value) where
  a_is_number : Addr
  d_is_number : FuncData
  is_number : FnAt K mg "is_number" s_is_number ["value"] a_is_number d_is_number
  a_is_line : Addr
  d_is_line : FuncData
  is_line : FnAt K mg "is_line" s_is_line ["value"] a_is_line d_is_line
  a_is_text : Addr
  d_is_text : FuncData
  is_text : FnAt K mg "is_text" s_is_text ["value"] a_is_text d_is_text
  a_check_text : Addr
  d_check_text : FuncData
  check_text : FnAt K mg "check_text" s_check_text ["value"] a_check_text d_check_text
  a_place_at : Addr
  d_place_at : FuncData
  place_at : FnAt K mg "place_at" s_place_at ["text", "line", "column"] a_place_at d_place_at
  a_place_of : Addr
  d_place_of : FuncData
  place_of : FnAt K mg "place_of" s_place_of ["text", "at"] a_place_of d_place_of
  a_span_of : Addr
  d_span_of : FuncData
  span_of : FnAt K mg "span_of" s_span_of ["text", "change"] a_span_of d_span_of
  a_spans_of : Addr
  d_spans_of : FuncData
  spans_of : FnAt K mg "spans_of" s_spans_of ["text", "changes"] a_spans_of d_spans_of
  a_replaced : Addr
  d_replaced : FuncData
  replaced : FnAt K mg "replaced" s_replaced ["text", "spans"] a_replaced d_replaced
  a_changed : Addr
  d_changed : FuncData
  changed : FnAt K mg "changed" s_changed ["text", "changes"] a_changed d_changed
  a_moved : Addr
  d_moved : FuncData
  moved : FnAt K mg "moved" s_moved ["spans", "at"] a_moved d_moved
  a_mapped : Addr
  d_mapped : FuncData
  mapped : FnAt K mg "mapped" s_mapped ["text", "changes", "line", "column"] a_mapped d_mapped
  a_back_of : Addr
  d_back_of : FuncData
  back_of : FnAt K mg "back_of" s_back_of ["text", "changes"] a_back_of d_back_of
  a_origins : Addr
  d_origins : FuncData
  origins : FnAt K mg "origins" s_origins ["size", "spans"] a_origins d_origins
  a_row_between : Addr
  d_row_between : FuncData
  row_between : FnAt K mg "row_between" s_row_between ["text", "told", "kept"] a_row_between d_row_between
  a_joined : Addr
  d_joined : FuncData
  joined : FnAt K mg "joined" s_joined ["text", "changes", "more"] a_joined d_joined
  a_law_pool : Addr
  d_law_pool : FuncData
  law_pool : FnAt K mg "_law_pool" s_law_pool ["script"] a_law_pool d_law_pool
  a_law_stream : Addr
  d_law_stream : FuncData
  law_stream : FnAt K mg "_law_stream" s_law_stream ["script"] a_law_stream d_law_stream
  a_law_pick : Addr
  d_law_pick : FuncData
  law_pick : FnAt K mg "_law_pick" s_law_pick ["pool", "many"] a_law_pick d_law_pick
  a_law_same : Addr
  d_law_same : FuncData
  law_same : FnAt K mg "_law_same" s_law_same ["one", "other"] a_law_same d_law_same
  a_law_place : Addr
  d_law_place : FuncData
  law_place : FnAt K mg "_law_place" s_law_place ["text", "at"] a_law_place d_law_place
  a_law_row : Addr
  d_law_row : FuncData
  law_row : FnAt K mg "_law_row" s_law_row ["text", "spans"] a_law_row d_law_row
  a_law_string : Addr
  d_law_string : FuncData
  law_string : FnAt K mg "_law_string" s_law_string ["pool", "most"] a_law_string d_law_string
  a_law_spans : Addr
  d_law_spans : FuncData
  law_spans : FnAt K mg "_law_spans" s_law_spans ["pool", "text", "most"] a_law_spans d_law_spans
  a_law_behind : Addr
  d_law_behind : FuncData
  law_behind : FnAt K mg "_law_behind" s_law_behind ["text", "spans"] a_law_behind d_law_behind
  a_law_case : Addr
  d_law_case : FuncData
  law_case : FnAt K mg "_law_case" s_law_case ["pool"] a_law_case d_law_case
  a_law_ways : Addr
  d_law_ways : FuncData
  law_ways : FnAt K mg "_law_ways" s_law_ways ["size", "spans"] a_law_ways d_law_ways
  a_law_asked : Addr
  d_law_asked : FuncData
  law_asked : FnAt K mg "_law_asked" s_law_asked ["text", "row", "at"] a_law_asked d_law_asked
  a_law : Addr
  d_law : FuncData
  law : FnAt K mg "law" s_law ["script"] a_law d_law
  t_MOST_LINES : Tok
  MOST_LINES : mg "MOST_LINES" = some (Value.int 400 t_MOST_LINES)
  t_MOST_SIGNS : Tok
  MOST_SIGNS : mg "MOST_SIGNS" = some (Value.int 100 t_MOST_SIGNS)
  range : mg "range" = none
  int : mg "int" = none
  len : mg "len" = none
  bool : mg "bool" = none
  str : mg "str" = none
  list : mg "list" = none
  tuple : mg "tuple" = none
  isinstance : mg "isinstance" = none
  all : mg "all" = none
  sum : mg "sum" = none
  enumerate : mg "enumerate" = none
  min : mg "min" = none
  sorted : mg "sorted" = none

local macro_rules | `(tactic| walk_at "go") => `(tactic| ((try dsimp only [cxOf, Cx.nox, Cx.wish, List.map_cons, List.map_nil]); (try simp only [lit_0, lit_1, lit_2, lit_3, lit_4, lit_5, lit_6, lit_7])))

section
variable {P : Program} {w : World} {K : PySem.W.Frag} {mg : Str → Option Value} {base : Heap}
/-- the pool: its place, and numbers from 0 to 59 -/
def Pool (ns : List Int) : Prop := ∃ (i : Nat) (r : List Int), ns = (i : Int) :: r ∧ 1 ≤ i ∧ i ≤ r.length ∧ r.length ≤ 100000 ∧ ∀ z ∈ r, 0 ≤ z ∧ z < 60
def F_pick : FD := fun ds G R => ∃ (k : Nat) (ns : List Int) (n : Int), ds = [.ptr k, .int n] ∧ 0 < n ∧ G[k]? = some (.lst (ns.map D.int)) ∧ Pool ns ∧
  ∀ (z : Int) (ns' : List Int), 0 ≤ z → z < n → Pool ns' → R (.int z) (G.set k (.lst (ns'.map D.int)))
theorem ok_law_pick (T : Top K mg) : FnOk P w K mg base CX0 1 T.a_law_pick T.d_law_pick ["pool", "many"] (SpD K F_pick) := by
  refine fn_ok T.law_pick.fn sc_law_pick (fun ds G R h => ?_) fun cdv A outer s H E hr => ⟨_, (pss_cons (ps_set (i := 2) sc_law_pick.nd rfl (Or.inl rfl) (pe_ix (show IxR _ (rIxL K) from ix_list) (pv 0) pe_int (fun _ _ => rfl)))
  (pss_cons (ps_asg (pe_op op_add (pv 2) pe_int) (pg_sub (pv 0) pe_int set_list))
  (pss_cons (ps_if (pt_cmpR op_eq (pe_ix (show IxR _ (rIxL K) from ix_list) (pv 0) pe_int (fun _ _ => rfl)) (pe_callB (show CallR _ (Value.builtin "len") (fun xs H Q => ∃ p ys, xs = [L2.V.ref p] ∧ (SqL K H p ys ∨ SqT K H p ys) ∧ Q (L2.V.int ys.length) H) from call_len_seq) (by rfl) T.len (by decide +kernel) (pa_cons (pv 0) pa_nil)) (nomark _))
   (pss_one (ps_asg pe_int (pg_sub (pv 0) pe_int set_list)))
   pss_nil)
  (pss_one (ps_ret (pe_op op_mod (pe_callTy call_int1 (by rfl) T.int (by decide +kernel) (pa_cons (pe_ix (show IxR _ (rIxL K) from ix_list) (pv 0) (pv 2) (fun _ _ => rfl)) pa_nil)) (pv 1))))))), fun ds G R hF => ?_⟩
  · obtain ⟨k, ns, n, rfl, _⟩ := h
    rfl
  · obtain ⟨k, ns, n, rfl, hn, hk, hP, q⟩ := hF
    (try dsimp only [cxOf, Cx.nox, Cx.wish])
    change WS K _ [some _, some _, none] _ _
    obtain ⟨i, r, rfl, h1, h2, h3, h4⟩ := hP
    have hi : i - 1 < r.length := by omega
    obtain ⟨z, hz⟩ : ∃ z, r[i - 1]? = some z := ⟨_, List.getElem?_eq_getElem hi⟩
    have hl : k < G.length := (List.getElem?_eq_some_iff.mp hk).1
    walk_at "ww"
    refine rd_ixL (isRp hk) at0 ?_
    walk_at "ww"
    refine ⟨_, _, _, _, rfl, rfl, hk, ix0 (by simp), ?_⟩
    walk_at "ww"
    refine rd_ixL (isRp (List.getElem?_set_self hl)) at0 ?_
    walk_at "ww"
    refine rc_len (isQp (List.getElem?_set_self hl)) ?_
    walk_at "ww"
    have e0 : (List.map D.int ((i : Int) :: r)).set 0 (.int ((i : Int) + 1)) = List.map D.int (((i : Int) + 1) :: r) := rfl
    rw [e0]
    have get : ∀ (G' : Cells) (y : Int), G'[k]? = some (.lst (List.map D.int (y :: r))) → atI (List.map D.int (y :: r)) (i : Int) = some (.int z) := fun G' y _ => atZ (by omega) (by
      have e : ((i : Int)).toNat = (i - 1) + 1 := by omega
      rw [e, List.map_cons, List.getElem?_cons_succ, List.getElem?_map, hz]
      rfl)
    have hz4 := h4 z (List.mem_of_getElem? hz)
    refine ite_P (fun hc => ?_) (fun hc => ?_)
    · walk_at "ww"
      refine ⟨_, _, _, _, rfl, rfl, List.getElem?_set_self hl, ix0 (by simp), ?_⟩
      walk_at "ww"
      rw [List.set_set, show (List.map D.int (((i : Int) + 1) :: r)).set 0 (.int 1) = List.map D.int ((1 : Int) :: r) from rfl]
      refine rd_ixL (isRp (List.getElem?_set_self hl)) (get _ _ (List.getElem?_set_self hl)) ?_
      walk_at "ww"
      · exact .inl (q _ _ (Int.emod_nonneg _ (by omega)) (Int.emod_lt_of_pos _ hn) ⟨1, r, rfl, by omega, by omega, h3, h4⟩)
      · exact hn
    · walk_at "ww"
      refine rd_ixL (isRp (List.getElem?_set_self hl)) (get _ _ (List.getElem?_set_self hl)) ?_
      walk_at "ww"
      · refine .inl (q _ _ (Int.emod_nonneg _ (by omega)) (Int.emod_lt_of_pos _ hn) ⟨i + 1, r, by simp, by omega, ?_, h3, h4⟩)
        simp at hc
        omega
      · exact hn
/-- a list of numbers from 0 to 59 -/
def Digs (ns : List Int) : Prop := ∀ z ∈ ns, 0 ≤ z ∧ z < 60
theorem Digs.snoc {ns : List Int} (h : Digs ns) {z : Int} : Digs (ns ++ [z % 60]) := fun y hy => by
  rcases List.mem_append.mp hy with hy | hy
  · exact h y hy
  · rw [List.mem_singleton.mp hy]
    exact ⟨Int.emod_nonneg _ (by decide), Int.emod_lt_of_pos _ (by decide)⟩
theorem map_snoc {ns : List Int} {z : Int} : List.map D.int ns ++ [D.int z] = List.map D.int (ns ++ [z]) := by rw [List.map_append]; rfl
/-- a pool that grows at a slot -/
def Grow (G : Cells) (n : Nat) (o : Option D) (G' : Cells) : Prop := ∃ (k : Nat) (ms : List Int) (more : Cells), o = some (.ptr (G.length + k)) ∧ G' = G ++ more ∧ more[k]? = some (.lst (ms.map D.int)) ∧ Digs ms ∧ ms.length ≤ n
def F_pool : FD := fun ds G R => ∃ ns : List Int, ds = [.ro (ns.map D.int)] ∧ ns.length ≤ 63 ∧ ∀ ms : List Int, Digs ms → 300 ≤ ms.length → ms.length ≤ 5000 → R (.lst (ms.map D.int)) G
theorem ok_law_pool (T : Top K mg) : FnOk P w K mg base CX0 1 T.a_law_pool T.d_law_pool ["script"] (SpD K F_pool) := by
  refine fn_ok T.law_pool.fn sc_law_pool (fun ds G R h => ?_) fun cdv A outer s H E hr => ⟨_, (pss_cons (ps_set (i := 1) sc_law_pool.nd rfl (Or.inl rfl) (pe_lst pa_nil))
  (pss_cons (ps_for PassesOwn.never rfl (pi_list (pv 0)) (pg_name (i := 2) sc_law_pool.nd rfl (Or.inl rfl))
   (pss_cons (ps_set (i := 3) sc_law_pool.nd rfl (Or.inl rfl) (pe_callTy call_int1 (by rfl) T.int (by decide +kernel) (pa_cons (pv 2) pa_nil)))
  (pss_one (ps_if (pt_cmpR op_ge (pv 3) (pe_op op_pow pe_int pe_int) (nomark _))
   (pss_one (ps_for PassesOwn.never rfl (pi_range1 rfl T.range (pa_cons pe_int pa_nil)) (pg_name (i := 4) sc_law_pool.nd rfl (Or.inl rfl))
   (pss_cons (ps_expr (pe_bm PySem.F.plainAttrs_list PySem.F.slot_list_append PySem.F.type_list_append mt_append (pv 1) (pa_cons (pe_op op_mod (pe_callTy call_int1 (by rfl) T.int (by decide +kernel) (pa_cons (pv 3) pa_nil)) pe_int) pa_nil)))
  (pss_cons (ps_set (i := 3) sc_law_pool.nd rfl (Or.inl rfl) (pe_callTy call_int1 (by rfl) T.int (by decide +kernel) (pa_cons (pe_op op_fdiv (pv 3) pe_int) pa_nil)))
  (pss_one (ps_if (pt_cmpR op_eq (pv 3) pe_int (nomark _))
   (pss_one ps_break)
   pss_nil))))))
   (pss_one (ps_set (i := 1) sc_law_pool.nd rfl (Or.inl rfl) (pe_op op_cat (pv 1) (pe_lst (pa_cons (pe_op op_mod (pe_callTy call_int1 (by rfl) T.int (by decide +kernel) (pa_cons (pv 3) pa_nil)) pe_int) (pa_cons (pe_op op_mod (pe_callTy call_int1 (by rfl) T.int (by decide +kernel) (pa_cons (pe_op op_fdiv (pv 3) pe_int) pa_nil)) pe_int) pa_nil))))))))))
  (pss_cons (ps_set (i := 5) sc_law_pool.nd rfl (Or.inl rfl) pe_int)
  (pss_cons (ps_for PassesOwn.never rfl (pi_list (pv 0)) (pg_name (i := 2) sc_law_pool.nd rfl (Or.inl rfl))
   (pss_one (ps_set (i := 5) sc_law_pool.nd rfl (Or.inl rfl) (pe_op op_mod (pe_op op_add (pe_op op_mul (pv 5) pe_int) (pe_callTy call_int1 (by rfl) T.int (by decide +kernel) (pa_cons (pv 2) pa_nil))) pe_int))))
  (pss_cons (ps_for PassesOwn.never rfl (pi_range1 rfl T.range (pa_cons pe_int pa_nil)) (pg_name (i := 4) sc_law_pool.nd rfl (Or.inl rfl))
   (pss_cons (ps_set (i := 5) sc_law_pool.nd rfl (Or.inl rfl) (pe_op op_mod (pe_op op_add (pe_op op_mul (pv 5) pe_int) pe_int) pe_int))
  (pss_one (ps_expr (pe_bm PySem.F.plainAttrs_list PySem.F.slot_list_append PySem.F.type_list_append mt_append (pv 1) (pa_cons (pe_op op_mod (pe_callTy call_int1 (by rfl) T.int (by decide +kernel) (pa_cons (pe_op op_fdiv (pv 5) pe_int) pa_nil)) pe_int) pa_nil))))))
  (pss_one (ps_ret (pv 1)))))))), fun ds G R hF => ?_⟩
  · obtain ⟨ns, rfl, _⟩ := h
    rfl
  · obtain ⟨ns, rfl, hn, q⟩ := hF
    (try dsimp only [cxOf, Cx.nox, Cx.wish])
    change WS K _ [some _, none, none, none, none, none] _ _
    walk_at "ww"
    walk_at "hot"
    -- for cell in script
    refine ws_for (wi_list (we_var rfl ⟨_, isRo, fun i ρ G' => ∃ o x2 x3 x4, ρ = [some (.ro (ns.map D.int)), o, x2, x3, x4, none] ∧ Grow G (60 * i) o G', ⟨_, none, none, none, rfl, 0, [], [.lst []], rfl, rfl, rfl, (fun z hz => by cases hz), Nat.zero_le _⟩, fun i ρ G' _ => isRo, ?_, ?_⟩))
    · rintro i d ρ G' hi ⟨o, x2, x3, x4, rfl, k, ms, more, rfl, rfl, hk, hd, hl⟩
      obtain ⟨c, hc, rfl⟩ := map_get hi
      have hi63 : i < 63 := Nat.lt_of_lt_of_le (List.getElem?_eq_some_iff.mp hc).1 hn
      walk_at "ww"
      · refine ite_P (fun hb => ?_) (fun hb => ?_)
        · -- for k in range(60)
          refine ws_for (wi_rng1 (wa_cons (we_int (wa_nil ⟨60, rfl, by decide, by decide, fun j ρ G' => ∃ (o x2 : Option D) (x3 : Int) (x4 : Option D), ρ = [some (.ro (ns.map D.int)), o, x2, some (.int x3), x4, none] ∧ Grow G (60 * i + j) o G', ⟨_, _, c, x4, rfl, k, ms, more, rfl, rfl, hk, hd, hl⟩, fun _ _ _ _ => trivial, ?_, ?_⟩))))
          · rintro j d ρ G' hj ⟨o, x2, x3, x4, rfl, k, ms, more, rfl, rfl, hk, hd, hl⟩
            obtain ⟨hj', rfl⟩ := rgD_get' hj
            have hj : j < 60 := hj'
            walk_at "ww"
            refine ⟨⟨_, isLp (get_app.trans hk)⟩, ?_⟩
            walk_at "ww"
            · refine rm_append (get_app.trans hk) (by rw [List.length_map]; exact lt_size (by omega)) ?_
              rw [set_app, map_snoc]
              walk_at "ww"
              · have z : Grow G (60 * i + (j + 1)) (some (.ptr (G.length + k))) (G ++ more.set k (.lst (List.map D.int (ms ++ [x3 % 60])))) := ⟨k, ms ++ [x3 % 60], _, rfl, rfl, set_same hk, hd.snoc, by rw [List.length_append]; simp; omega⟩
                refine ite_P (fun _ => ?_) (fun _ => ?_)
                · walk_at "ww"
                  obtain ⟨k', ms', more', e1, e2, e3, e4, e5⟩ := z
                  exact ⟨_, _, _, _, rfl, k', ms', more', e1, e2, e3, e4, by omega⟩
                · walk_at "ww"
                  exact ⟨_, _, _, _, rfl, z⟩
              · exact ⟨by decide, by decide⟩
            · decide
          · rintro ρ G' ⟨o, x2, x3, x4, rfl, k, ms, more, rfl, rfl, hk, hd, hl⟩
            have hl : ms.length ≤ 60 * i + 60 := hl
            exact ⟨_, _, _, _, rfl, k, ms, more, rfl, rfl, hk, hd, by omega⟩
        · walk_at "ww"
          · walk_at "cold"
            refine rd_cat (isLp (get_app.trans hk)) isL (by rw [List.length_map]; exact le_size (by simp; omega)) ?_
            walk_at "hot"
            refine ⟨_, _, _, _, rfl, more.length, ms ++ [c % 60] ++ [c / 60 % 60], more ++ [.lst (List.map D.int (ms ++ [c % 60] ++ [c / 60 % 60]))], ?_, ?_, ?_, hd.snoc.snoc, ?_⟩
            · rw [List.length_append]
            · rw [List.append_assoc, ← map_snoc, ← map_snoc, List.append_assoc]
              rfl
            · rw [List.getElem?_append_right (Nat.le_refl _), Nat.sub_self]
              rfl
            · simp
              omega
          all_goals first | decide | exact ⟨by decide, by decide⟩
      · exact cpow18
    · rintro ρ G' ⟨o, x2, x3, x4, rfl, k, ms, more, rfl, rfl, hk, hd, hl⟩
      rw [List.length_map] at hl
      walk_at "ww"
      -- the state's loop
      refine ws_for (wi_list (we_var rfl ⟨_, isRo, fun i ρ G' => ∃ (x2 : Option D) (x5 : Int), ρ = [some (.ro (ns.map D.int)), some (.ptr (G.length + k)), x2, x3, x4, some (.int x5)] ∧ G' = G ++ more ∧ 0 ≤ x5 ∧ x5 < 2147483647, ⟨_, 17, rfl, rfl, by decide, by decide⟩, fun i ρ G' _ => isRo, ?_, ?_⟩))
      · rintro i d ρ G' hi ⟨x2, x5, rfl, rfl, h5, h6⟩
        obtain ⟨c, hc, rfl⟩ := map_get hi
        walk_at "ww"
        · exact ⟨_, _, rfl, rfl, Int.emod_nonneg _ (by decide), Int.emod_lt_of_pos _ (by decide)⟩
        · exact .inl ⟨by omega, by omega⟩
        · decide
      · rintro ρ G' ⟨x2, x5, rfl, rfl, h5, h6⟩
        walk_at "ww"
        -- three hundred behind
        refine ws_for (wi_rng1 (wa_cons (we_int (wa_nil ⟨300, rfl, by decide, by decide, fun j ρ G' => ∃ (o x4 : Option D) (x5 : Int), ρ = [some (.ro (ns.map D.int)), o, x2, x3, x4, some (.int x5)] ∧ 0 ≤ x5 ∧ x5 < 2147483647 ∧ ∃ (k : Nat) (ms : List Int) (more : Cells), o = some (.ptr (G.length + k)) ∧ G' = G ++ more ∧ more[k]? = some (.lst (ms.map D.int)) ∧ Digs ms ∧ ms.length ≤ 4000 + j ∧ j ≤ ms.length,
          ⟨_, x4, x5, rfl, h5, h6, k, ms, more, rfl, rfl, hk, hd, by omega, by omega⟩, fun _ _ _ _ => trivial, ?_, ?_⟩))))
        · rintro j d ρ G' hj ⟨o, x4, x5, rfl, h5, h6, k, ms, more, rfl, rfl, hk, hd, hl, hj2⟩
          obtain ⟨hj', rfl⟩ := rgD_get' hj
          have hj : j < 300 := hj'
          walk_at "ww"
          · refine ⟨⟨_, isLp (get_app.trans hk)⟩, ?_⟩
            walk_at "ww"
            · refine rm_append (get_app.trans hk) (by rw [List.length_map]; exact lt_size (by omega)) ?_
              rw [set_app, map_snoc]
              refine ⟨_, _, _, rfl, Int.emod_nonneg _ (by decide), Int.emod_lt_of_pos _ (by decide), k, _, _, rfl, rfl, set_same hk, hd.snoc, ?_, ?_⟩
              · rw [List.length_append]
                simp
                omega
              · rw [List.length_append]
                simp
                omega
            all_goals walk_at "side"
          all_goals walk_at "side"
        · rintro ρ G' ⟨o, x4, x5, rfl, h5, h6, k, ms, more, rfl, rfl, hk, hd, hl, hj2⟩
          have hl : ms.length ≤ 4000 + 300 := hl
          have hj2 : 300 ≤ ms.length := hj2
          refine ws_ret (we_fz (we_var rfl ⟨_, _, rfl, get_app.trans hk, ?_⟩))
          rw [set_app]
          exact Gc.same (.lst (Cls.map (fun i => .int i) _)) (q ms hd hj2 (by omega))
def F_stream : FD := fun ds G R => ∃ ns : List Int, ds = [.ro (ns.map D.int)] ∧ ns.length ≤ 63 ∧ ∀ ms : List Int, Pool ms → R (.ptr G.length) (G ++ [.lst (ms.map D.int)])
theorem ok_law_stream (T : Top K mg) : FnOk P w K mg base CX0 2 T.a_law_stream T.d_law_stream ["script"] (SpD K F_stream) := by
  refine fn_ok T.law_stream.fn sc_law_stream (fun ds G R h => ?_) fun cdv A outer s H E hr => ⟨_, (pss_one (ps_ret (pe_op op_cat (pe_lst (pa_cons pe_int pa_nil)) (pe_call (ok_law_pool T) (hr.mono (by decide)) (by rfl) T.law_pool.mg T.law_pool.fn.kp T.law_pool.bd .nil pass0 (pa_cons (pv 0) pa_nil))))), fun ds G R hF => ?_⟩
  · obtain ⟨ns, rfl, _⟩ := h
    rfl
  · obtain ⟨ns, rfl, hn, q⟩ := hF
    (try dsimp only [cxOf, Cx.nox, Cx.wish])
    change WS K _ [some _] _ _
    walk_at "ww"
    walk_at "cold"
    refine ⟨ns, rfl, hn, fun ms h1 h2 h3 => ?_⟩
    refine rd_cat isL isL (by rw [List.length_map]; exact le_size (by simp; omega)) (.inr (.inl ?_))
    exact q (1 :: ms) ⟨1, ms, rfl, by omega, by omega, by omega, h1⟩
end

section
variable {P : Program} {w : World} {K : PySem.W.Frag} {mg : Str → Option Value} {base : Heap}
def F_is_number : FD := fun ds G R => ∃ i : Int, ds = [.int i] ∧ R (.bl true) G
theorem ok_is_number (T : Top K mg) : FnOk P w K mg base CX0 1 T.a_is_number T.d_is_number ["value"] (SpD K F_is_number) := by
  refine fn_ok T.is_number.fn sc_is_number (fun ds G R h => ?_) fun cdv A outer s H E hr => ⟨_, (pss_one (ps_ret (pe_and (pe_callB call_isi (by rfl) T.isinstance (by decide +kernel) (pa_cons (pv 0) (pa_cons (pe_bltn (v := .ty "int") (by rfl) T.int (by decide +kernel) rfl) pa_nil))) (pe_one (pe_not (pe_callB call_isi (by rfl) T.isinstance (by decide +kernel) (pa_cons (pv 0) (pa_cons (pe_bltn (v := .ty "bool") (by rfl) T.bool (by decide +kernel) rfl) pa_nil)))))))), fun ds G R hF => ?_⟩
  · obtain ⟨i, rfl, _⟩ := h
    rfl
  · obtain ⟨i, rfl, q⟩ := hF
    walk_at "go"
    change WS K _ [some _] _ _
    walk_at "ww"
    exact .inl q
def F_is_line : FD := fun ds G R => ∃ l : List Nat, ds = [.str (S l)] ∧ l.length ≤ 100000 ∧ R (.bl (Tx.isLine l)) G
theorem ok_is_line (T : Top K mg) : FnOk P w K mg base CX0 1 T.a_is_line T.d_is_line ["value"] (SpD K F_is_line) := by
  refine fn_ok T.is_line.fn sc_is_line (fun ds G R h => ?_) fun cdv A outer s H E hr => ⟨_, (pss_one (ps_ret (pe_and (pe_callB call_isi (by rfl) T.isinstance (by decide +kernel) (pa_cons (pv 0) (pa_cons (pe_bltn (v := .ty "str") (by rfl) T.str (by decide +kernel) rfl) pa_nil))) (pe_and (pe_cmpR op_le (pe_callB call_len_str (by rfl) T.len (by decide +kernel) (pa_cons (pv 0) pa_nil)) (pe_glob (v := .int 100) rfl T.MOST_SIGNS ⟨_, rfl⟩) (nomark _)) (pe_one (pe_callB (cr_all rfl) (by rfl) T.all (by decide +kernel) (pa_cons (pe_lc (own := [("sign", 1)]) rfl sc_is_line.nd (pi_str (pv 0)) (blkOk_by (N := ["value", "sign"]) (sc := defScope s_is_line) (by decide +kernel)) (fun _ _ _ _ _ => (pg_name (i := 1) sc_is_line.nd rfl (Or.inl rfl))) (fun _ _ _ _ _ => pts_nil) (fun _ _ _ _ _ => (pe_chain op_le_str op_le_str pe_str (pv 1) pe_str))) pa_nil))))))), fun ds G R hF => ?_⟩
  · obtain ⟨l, rfl, _⟩ := h
    rfl
  · obtain ⟨l, rfl, hl, q⟩ := hF
    walk_at "go"
    change WS K _ [some _, none] _ _
    walk_at "ww"
    · refine ite_P (fun h1 => ?_) (fun h1 => ?_)
      · walk_at "ww"
        refine we_lcmap (own_name (by decide)) (wi_strT (we_var rfl (ex_strT ⟨l, _, fun c => .bl (Tx.isSign c), rfl, trivial, hl, fun c hc => ?_, ?_⟩)))
        · walk_at "ww"
          refine ite_P (fun h2 => ?_) (fun h2 => ?_)
          · walk_at "ww"
            exact ⟨by show _ = D.bl (decide (32 ≤ c) && decide (c ≤ 126)); rw [decide_eq_true h2, Bool.true_and], rfl⟩
          · exact ⟨by show _ = D.bl (decide (32 ≤ c) && decide (c ≤ 126)); rw [decide_eq_false h2, Bool.false_and], rfl⟩
        · walk_at "cold"
          refine rc_all (ns := l.map Tx.isSign) (by rw [List.map_map]; exact isR) ?_
          have e : Tx.isLine l = ((l.map Tx.isSign).all id) := by
            unfold Tx.isLine
            rw [decide_eq_true (by omega), Bool.true_and, List.all_map]
            rfl
          rw [← e]
          exact .inl q
      · have e : Tx.isLine l = false := by
          unfold Tx.isLine
          rw [decide_eq_false (by omega), Bool.false_and]
        rw [e] at q
        exact .inl q
    · exact hl
def F_is_text : FD := fun ds G R => ∃ l : List Nat, ds = [.str (S l)] ∧ l.length ≤ 90000 ∧ R (.bl (Tx.isText l)) G
theorem ok_is_text (T : Top K mg) : FnOk P w K mg base CX0 2 T.a_is_text T.d_is_text ["value"] (SpD K F_is_text) := by
  refine fn_ok T.is_text.fn sc_is_text (fun ds G R h => ?_) fun cdv A outer s H E hr => ⟨_, (pss_cons (ps_if (pt_not (pt_val (pe_callB call_isi (by rfl) T.isinstance (by decide +kernel) (pa_cons (pv 0) (pa_cons (pe_bltn (v := .ty "str") (by rfl) T.str (by decide +kernel) rfl) pa_nil)))))
   (pss_one (ps_ret pe_bl))
   pss_nil)
  (pss_cons (ps_set (i := 1) sc_is_text.nd rfl (Or.inl rfl) (pe_split (pv 0) pe_str))
  (pss_one (ps_ret (pe_and (pe_cmpR op_le (pe_callB (show CallR _ (Value.builtin "len") (fun xs H Q => ∃ p ys, xs = [L2.V.ref p] ∧ (SqL K H p ys ∨ SqT K H p ys) ∧ Q (L2.V.int ys.length) H) from call_len_seq) (by rfl) T.len (by decide +kernel) (pa_cons (pv 1) pa_nil)) (pe_glob (v := .int 400) rfl T.MOST_LINES ⟨_, rfl⟩) (nomark _)) (pe_one (pe_callB (cr_all rfl) (by rfl) T.all (by decide +kernel) (pa_cons (pe_lc (own := [("line", 2)]) rfl sc_is_text.nd (pi_list (pv 1)) (blkOk_by (N := ["value", "lines", "line"]) (sc := defScope s_is_text) (by decide +kernel)) (fun _ _ _ _ _ => (pg_name (i := 2) sc_is_text.nd rfl (Or.inl rfl))) (fun _ _ _ _ _ => pts_nil) (fun _ _ _ _ _ => (pe_call (ok_is_line T) (hr.mono (by decide)) (by rfl) T.is_line.mg T.is_line.fn.kp T.is_line.bd .nil pass0 (pa_cons (pv 2) pa_nil)))) pa_nil)))))))), fun ds G R hF => ?_⟩
  · obtain ⟨l, rfl, _⟩ := h
    rfl
  · obtain ⟨l, rfl, hl, q⟩ := hF
    walk_at "go"
    change WS K _ [some _, none, none] _ _
    walk_at "ww"
    refine rm_splitT (Nat.le_trans hl (by decide)) ?_
    walk_at "cold"
    have hll : (Tx.lines l).length ≤ 100000 := by rw [Tx.lines_len]; have := List.count_le_length (a := 10) (l := l); omega
    rw [List.length_map]
    refine ite_P (fun h1 => ?_) (fun h1 => ?_)
    · walk_at "ww"
      refine we_lcmap (own_name (by decide)) (wi_list (we_var rfl ⟨_, isR, Tx.lines l, _, fun p => .bl (Tx.isLine p), rfl, isR, hll, fun p hp => ?_, ?_⟩))
      · walk_at "ww"
        exact ⟨p, rfl, by have := (Tx.lines_le l p hp).1; omega, rfl, rfl⟩
      · walk_at "cold"
        refine rc_all (ns := (Tx.lines l).map Tx.isLine) (by rw [List.map_map]; exact isR) ?_
        have e : Tx.isText l = (((Tx.lines l).map Tx.isLine).all id) := by
          unfold Tx.isText
          rw [decide_eq_true (by omega), Bool.true_and, List.all_map]
          rfl
        rw [← e]
        exact .inl q
    · have e : Tx.isText l = false := by
        unfold Tx.isText
        rw [decide_eq_false (by omega), Bool.false_and]
      rw [e] at q
      exact .inl q
def F_check_text : FD := fun ds G R => ∃ l : List Nat, ds = [.str (S l)] ∧ l.length ≤ 90000 ∧ Tx.isText l = true ∧ R .non G
theorem ok_check_text (T : Top K mg) : FnOk P w K mg base CX0 3 T.a_check_text T.d_check_text ["value"] (SpD K F_check_text) := by
  refine fn_ok T.check_text.fn sc_check_text (fun ds G R h => ?_) fun cdv A outer s H E hr => ⟨_, (pss_one (ps_if (pt_not (pt_val (pe_call (ok_is_text T) (hr.mono (by decide)) (by rfl) T.is_text.mg T.is_text.fn.kp T.is_text.bd .nil pass0 (pa_cons (pv 0) pa_nil))))
   (pss_one ps_never)
   pss_nil)), fun ds G R hF => ?_⟩
  · obtain ⟨l, rfl, _⟩ := h
    rfl
  · obtain ⟨l, rfl, hl, ht, q⟩ := hF
    walk_at "go"
    change WS K _ [some _] _ _
    walk_at "ww"
    refine ⟨l, rfl, hl, ?_⟩
    rw [ht]
    walk_at "ww"
    exact .inl q
def oInt : Option Int → D
  | none => .non
  | some a => .int a
def F_place_at : FD := fun ds G R => ∃ (t : List Nat) (i j : Int), ds = [.str (S t), .int i, .int j] ∧ t.length ≤ 90000 ∧ R (oInt (Tx.placeAt t i j)) G
theorem ok_place_at (T : Top K mg) : FnOk P w K mg base CX0 2 T.a_place_at T.d_place_at ["text", "line", "column"] (SpD K F_place_at) := by
  refine fn_ok T.place_at.fn sc_place_at (fun ds G R h => ?_) fun cdv A outer s H E hr => ⟨_, (pss_cons (ps_if (PW.pt (pw_or (pt_not (pt_val (pe_call (ok_is_number T) (hr.mono (by decide)) (by rfl) T.is_number.mg T.is_number.fn.kp T.is_number.bd .nil pass0 (pa_cons (pv 1) pa_nil)))) (pw_or1 (pt_not (pt_val (pe_call (ok_is_number T) (hr.mono (by decide)) (by rfl) T.is_number.mg T.is_number.fn.kp T.is_number.bd .nil pass0 (pa_cons (pv 2) pa_nil)))))))
   (pss_one (ps_ret pe_non))
   pss_nil)
  (pss_cons (ps_set (i := 3) sc_place_at.nd rfl (Or.inl rfl) (pe_split (pv 0) pe_str))
  (pss_cons (ps_if (PW.pt (pw_or (pt_not (pt_chain op_le op_le pe_int (pv 1) (pe_callB (show CallR _ (Value.builtin "len") (fun xs H Q => ∃ p ys, xs = [L2.V.ref p] ∧ (SqL K H p ys ∨ SqT K H p ys) ∧ Q (L2.V.int ys.length) H) from call_len_seq) (by rfl) T.len (by decide +kernel) (pa_cons (pv 3) pa_nil)))) (pw_or1 (pt_not (pt_chain op_le op_le pe_int (pv 2) (pe_op op_add (pe_callB call_len_str (by rfl) T.len (by decide +kernel) (pa_cons (pe_ix (show IxR _ (rIxL K) from ix_list) (pv 3) (pe_op op_sub (pv 1) pe_int) (fun _ _ => rfl)) pa_nil)) pe_int))))))
   (pss_one (ps_ret pe_non))
   pss_nil)
  (pss_one (ps_ret (pe_op op_sub (pe_op op_add (pe_callB (cr_sum rfl) (by rfl) T.sum (by decide +kernel) (pa_cons (pe_lc (own := [("one", 4)]) rfl sc_place_at.nd (pi_list (pe_slice (show SlR _ (rSlL K) from sl_list) (pv 3) po_none (po_some (pe_op op_sub (pv 1) pe_int)))) (blkOk_by (N := ["text", "line", "column", "lines", "one"]) (sc := defScope s_place_at) (by decide +kernel)) (fun _ _ _ _ _ => (pg_name (i := 4) sc_place_at.nd rfl (Or.inl rfl))) (fun _ _ _ _ _ => pts_nil) (fun _ _ _ _ _ => (pe_op op_add (pe_callB call_len_str (by rfl) T.len (by decide +kernel) (pa_cons (pv 4) pa_nil)) pe_int))) pa_nil)) (pv 2)) pe_int)))))), fun ds G R hF => ?_⟩
  · obtain ⟨t, i, j, rfl, _⟩ := h
    rfl
  · obtain ⟨t, i, j, rfl, hl, q⟩ := hF
    walk_at "go"
    change WS K _ [some _, some _, some _, none, none] _ _
    walk_at "ww"
    refine ⟨i, rfl, ?_⟩
    walk_at "ww"
    refine ⟨j, rfl, ?_⟩
    walk_at "ww"
    refine rm_splitT (Nat.le_trans hl (by decide)) ?_
    walk_at "cold"
    have hll : (Tx.lines t).length ≤ 100000 := by rw [Tx.lines_len]; have := List.count_le_length (a := 10) (l := t); omega
    have none1 : ¬ (1 ≤ i ∧ i ≤ (Tx.lines t).length) → Gc G R .non G := fun h => by
      unfold Tx.placeAt at q
      rw [if_neg h] at q
      exact .inl q
    refine ite_P (fun h1 => ?_) (fun h1 => ?_)
    · walk_at "ww"
      rw [List.length_map]
      refine ite_N (fun h2 => ?_) (fun h2 => ?_)
      · walk_at "ww"
        exact none1 fun z => h2 z.2
      · walk_at "ww"
        have hi : (i - 1).toNat < (Tx.lines t).length := by omega
        have hat : atI ((Tx.lines t).map fun p => D.str (S p)) (i - 1) = some (.str (S ((Tx.lines t).getD (i - 1).toNat []))) := atZ (by omega) (by rw [List.getElem?_map, List.getElem?_eq_getElem hi, List.getD_eq_getElem?_getD, List.getElem?_eq_getElem hi]; rfl)
        have hlen : ((Tx.lines t).getD (i - 1).toNat []).length ≤ 100000 := by
          rw [List.getD_eq_getElem?_getD, List.getElem?_eq_getElem hi]
          have := (Tx.lines_le t _ (List.getElem_mem hi)).1
          show (Tx.lines t)[(i - 1).toNat].length ≤ _
          omega
        have fin : ¬ (1 ≤ j ∧ j ≤ (((Tx.lines t).getD (i - 1).toNat []).length : Int) + 1) → R .non G := fun h => by
          unfold Tx.placeAt at q
          rw [if_pos ⟨h1, h2⟩, if_neg h] at q
          exact q
        refine ite_P (fun h3 => ?_) (fun h3 => ?_)
        · walk_at "ww"
          refine rd_ixL isR hat ?_
          walk_at "ww"
          · refine ite_N (fun h4 => ?_) (fun h4 => ?_)
            · walk_at "ww"
              exact .inl (fin fun z => h4 z.2)
            · walk_at "ww"
              refine we_lcmap (own_name (by decide)) (wi_list (by
                walk_at "ww"
                refine rs_L isR (.inl ⟨_, isR, (Tx.lines t).take (i - 1).toNat, (fun p => D.str (S p)), (fun p => D.int ((p.length + 1 : Nat) : Int)), ?_, isR, by rw [List.length_take]; omega, fun p hp => ?_, ?_⟩)
                · unfold DL.cutD
                  rw [show (i - 1) = (((i - 1).toNat : Nat) : Int) by omega, HT.sIx_nat, HT.sIx_none, List.drop_zero, Nat.sub_zero, List.length_map, Nat.min_eq_left (by omega), List.map_take, Int.toNat_natCast]
                · have hp2 := (Tx.lines_le t p (List.mem_of_mem_take hp)).1
                  walk_at "ww"
                  · exact ⟨rfl, rfl⟩
                  · omega
                · walk_at "cold"
                  refine rc_sum (ns := ((Tx.lines t).take (i - 1).toNat).map fun p => ((p.length + 1 : Nat) : Int)) (by rw [List.map_map]; exact isR) ?_
                  walk_at "ww"
                  have e : ((((Tx.lines t).take (i - 1).toNat).map fun p => ((p.length + 1 : Nat) : Int)).sum) = (Tx.offs ((Tx.lines t).take (i - 1).toNat) : Int) := by
                    unfold Tx.offs
                    generalize (Tx.lines t).take (i - 1).toNat = ls
                    induction ls with
                    | nil => rfl
                    | cons x r ih =>
                      rw [List.map_cons, List.map_cons, List.sum_cons, List.sum_cons, ih]
                      omega
                  rw [e]
                  unfold Tx.placeAt at q
                  rw [if_pos ⟨h1, h2⟩, if_pos ⟨h3, h4⟩] at q
                  exact .inl q))
          · exact hlen
        · walk_at "ww"
          exact .inl (fin fun z => h3 z.1)
    · walk_at "ww"
      exact none1 fun z => h1 z.1
abbrev plD (p : Nat × Nat) : D := .tup [.int (p.1 : Nat), .int (p.2 : Nat)]
def F_place_of : FD := fun ds G R => ∃ (t : List Nat) (a : Nat), ds = [.str (S t), .int (a : Nat)] ∧ t.length ≤ 90000 ∧ R (plD (Tx.placeOf t a)) G
theorem ok_place_of (T : Top K mg) : FnOk P w K mg base CX0 1 T.a_place_of T.d_place_of ["text", "at"] (SpD K F_place_of) := by
  refine fn_ok T.place_of.fn sc_place_of (fun ds G R h => ?_) fun cdv A outer s H E hr => ⟨_, (pss_cons (ps_set (i := 2) sc_place_of.nd rfl (Or.inl rfl) (pe_split (pe_slice sl_str (pv 0) po_none (po_some (pv 1))) pe_str))
  (pss_one (ps_ret (pe_tup (pa_cons (pe_callB (show CallR _ (Value.builtin "len") (fun xs H Q => ∃ p ys, xs = [L2.V.ref p] ∧ (SqL K H p ys ∨ SqT K H p ys) ∧ Q (L2.V.int ys.length) H) from call_len_seq) (by rfl) T.len (by decide +kernel) (pa_cons (pv 2) pa_nil)) (pa_cons (pe_op op_add (pe_callB call_len_str (by rfl) T.len (by decide +kernel) (pa_cons (pe_ix (show IxR _ (rIxL K) from ix_list) (pv 2) (pe_un un_neg pe_int) (fun _ _ => rfl)) pa_nil)) pe_int) pa_nil)))))), fun ds G R hF => ?_⟩
  · obtain ⟨t, a, rfl, _⟩ := h
    rfl
  · obtain ⟨t, a, rfl, hl, q⟩ := hF
    walk_at "go"
    change WS K _ [some _, some _, none] _ _
    walk_at "ww"
    · rw [cutL_on]
      walk_at "ww"
      have htl : (t.take a).length ≤ t.length := by rw [List.length_take]; omega
      refine rm_splitT (by omega) ?_
      walk_at "cold"
      obtain ⟨i, p, e⟩ := Tx.lines_split (t.take a)
      have hp := (Tx.lines_le (t.take a) p (by rw [e]; simp)).1
      rw [e, List.map_append]
      refine rd_ixL isR (atI_last _ _) ?_
      walk_at "ww"
      · unfold plD Tx.placeOf at q
        rw [e] at q
        have e1 : ((i ++ [p]).getLastD []) = p := by simp
        rw [e1] at q
        have e2 : (List.map (fun p => D.str (S p)) i ++ List.map (fun p => D.str (S p)) [p]).length = (i ++ [p]).length := by simp
        rw [e2]
        exact .inl q
      · omega
    · omega
end

section
variable {P : Program} {w : World} {K : PySem.W.Frag} {mg : Str → Option Value} {base : Heap}
abbrev spD (x : Tx.Span) : D := .tup [.int (x.1 : Nat), .int (x.2.1 : Nat), .str (S x.2.2)]
abbrev chD (t : List Nat) (x : Tx.Span) : D := .tup [.int ((Tx.placeOf t x.1).1 : Nat), .int ((Tx.placeOf t x.1).2 : Nat), .int ((Tx.placeOf t x.2.1).1 : Nat), .int ((Tx.placeOf t x.2.1).2 : Nat), .str (S x.2.2)]
/-- every span puts in a text -/
def Puts (sp : List Tx.Span) : Prop := ∀ x ∈ sp, Tx.isText x.2.2 = true ∧ x.2.2.length ≤ 90000
def F_span_of : FD := fun ds G R => ∃ (t : List Nat) (f s : Nat) (p : List Nat), ds = [.str (S t), chD t (f, s, p)] ∧ t.length ≤ 90000 ∧ f ≤ s ∧ s ≤ t.length ∧ Tx.isText p = true ∧ p.length ≤ 90000 ∧ R (spD (f, s, p)) G
theorem ok_span_of (T : Top K mg) : FnOk P w K mg base CX0 3 T.a_span_of T.d_span_of ["text", "change"] (SpD K F_span_of) := by
  refine fn_ok T.span_of.fn sc_span_of (fun ds G R h => ?_) fun cdv A outer s H E hr => ⟨_, (pss_cons (ps_if (PW.pt (pw_or (pt_not (pt_val (pe_callB call_isi (by rfl) T.isinstance (by decide +kernel) (pa_cons (pv 1) (pa_cons (pe_bltn (v := .ty "tuple") (by rfl) T.tuple (by decide +kernel) rfl) pa_nil))))) (pw_or1 (pt_cmpR op_ne (pe_callB (show CallR _ (Value.builtin "len") (fun xs H Q => ∃ p ys, xs = [L2.V.ref p] ∧ (SqL K H p ys ∨ SqT K H p ys) ∧ Q (L2.V.int ys.length) H) from call_len_seq) (by rfl) T.len (by decide +kernel) (pa_cons (pv 1) pa_nil)) pe_int (nomark _)))))
   (pss_one (ps_ret pe_non))
   pss_nil)
  (pss_cons (ps_par (i := 2) (j := 3) rfl sc_span_of.nd rfl rfl (by decide) rfl rfl (pa_cons (pe_call (ok_place_at T) (hr.mono (by decide)) (by rfl) T.place_at.mg T.place_at.fn.kp T.place_at.bd .nil pass0 (pa_cons (pv 0) (pa_cons (pe_ix (show IxR _ (rIxT K) from ix_tup) (pv 1) pe_int (fun _ _ => rfl)) (pa_cons (pe_ix (show IxR _ (rIxT K) from ix_tup) (pv 1) pe_int (fun _ _ => rfl)) pa_nil)))) (pa_cons (pe_call (ok_place_at T) (hr.mono (by decide)) (by rfl) T.place_at.mg T.place_at.fn.kp T.place_at.bd .nil pass0 (pa_cons (pv 0) (pa_cons (pe_ix (show IxR _ (rIxT K) from ix_tup) (pv 1) pe_int (fun _ _ => rfl)) (pa_cons (pe_ix (show IxR _ (rIxT K) from ix_tup) (pv 1) pe_int (fun _ _ => rfl)) pa_nil)))) pa_nil)) (by rfl))
  (pss_cons (ps_if (PW.pt (pw_or (pt_cmpR op_isN (pv 2) pe_non (nomark _)) (pw_or (pt_cmpR op_isN (pv 3) pe_non (nomark _)) (pw_or (pt_cmpR op_lt (pv 3) (pv 2) (nomark _)) (pw_or1 (pt_not (pt_val (pe_call (ok_is_text T) (hr.mono (by decide)) (by rfl) T.is_text.mg T.is_text.fn.kp T.is_text.bd .nil pass0 (pa_cons (pe_ix (show IxR _ (rIxT K) from ix_tup) (pv 1) pe_int (fun _ _ => rfl)) pa_nil)))))))))
   (pss_one (ps_ret pe_non))
   pss_nil)
  (pss_one (ps_ret (pe_tup (pa_cons (pv 2) (pa_cons (pv 3) (pa_cons (pe_ix (show IxR _ (rIxT K) from ix_tup) (pv 1) pe_int (fun _ _ => rfl)) pa_nil))))))))), fun ds G R hF => ?_⟩
  · obtain ⟨t, f, s, p, rfl, _⟩ := h
    rfl
  · obtain ⟨t, f, s, p, rfl, hl, h1, h2, h3, h4, q⟩ := hF
    walk_at "go"
    change WS K _ [some _, some _, none, none] _ _
    dsimp only [chD]
    walk_at "ww"
    refine ⟨t, _, _, rfl, hl, ?_⟩
    rw [Tx.place_back (Nat.le_trans h1 h2)]
    walk_at "ww"
    refine ⟨t, _, _, rfl, hl, ?_⟩
    rw [Tx.place_back h2]
    dsimp only [oInt]
    walk_at "ww"
    refine ite_no (by omega) ?_
    walk_at "ww"
    refine ⟨p, rfl, h4, ?_⟩
    rw [h3]
    walk_at "ww"
    exact .inl q
theorem en_get {ds : List D} {i : Nat} {d : D} (h : (enD ds)[i]? = some d) : ∃ x, ds[i]? = some x ∧ d = .tup [.int (i : Nat), x] := by
  unfold enD at h
  rw [List.getElem?_mapIdx] at h
  cases e : ds[i]? with
  | none =>
    rw [e] at h
    cases h
  | some x =>
    rw [e] at h
    exact ⟨x, rfl, (Option.some.inj h).symm⟩
theorem enD_len {ds : List D} : (enD ds).length = ds.length := by
  unfold enD
  rw [List.length_mapIdx]
theorem drop_at {α : Type} {l : List α} {i : Nat} {a : α} (h : l[i]? = some a) : l.drop i = a :: l.drop (i + 1) := by
  obtain ⟨h1, h2⟩ := List.getElem?_eq_some_iff.mp h
  rw [← h2]
  exact List.drop_eq_getElem_cons h1
theorem take_at {α : Type} {l : List α} {i : Nat} {a : α} (h : l[i]? = some a) : l.take (i + 1) = l.take i ++ [a] := by
  rw [List.take_add_one, h]
  rfl
theorem snoc_at {α β : Type} {f : α → β} {l : List α} {i : Nat} {a : α} (h : l[i]? = some a) : (l.take i).map f ++ [f a] = (l.take (i + 1)).map f := by
  rw [take_at h, List.map_append]
  rfl
def F_spans_of : FD := fun ds G R => ∃ (t : List Nat) (sp : List Tx.Span), ds = [.str (S t), .lst (sp.map (chD t))] ∧ t.length ≤ 90000 ∧ Tx.Val t.length 0 sp ∧ Puts sp ∧ sp.length ≤ 90000 ∧ R (.lst (sp.map spD)) G
theorem ok_spans_of (T : Top K mg) : FnOk P w K mg base CX0 4 T.a_spans_of T.d_spans_of ["text", "changes"] (SpD K F_spans_of) := by
  refine fn_ok T.spans_of.fn sc_spans_of (fun ds G R h => ?_) fun cdv A outer s H E hr => ⟨_, (pss_cons (ps_if (pt_not (pt_val (pe_callB call_isi (by rfl) T.isinstance (by decide +kernel) (pa_cons (pv 1) (pa_cons (pe_bltn (v := .ty "list") (by rfl) T.list (by decide +kernel) rfl) pa_nil)))))
   (pss_one ps_never)
   pss_nil)
  (pss_cons (ps_par (i := 2) (j := 3) rfl sc_spans_of.nd rfl rfl (by decide) rfl rfl (pa_cons (pe_lst pa_nil) (pa_cons (pe_un un_neg pe_int) pa_nil)) (by rfl))
  (pss_cons (ps_for PassesOwn.never rfl (pi_enum (by rfl) T.enumerate (pa_cons (pv 1) pa_nil)) (show PG _ _ (gTup K 2 _) from pg_tup rfl (pgs_cons (pg_name (i := 4) sc_spans_of.nd rfl (Or.inl rfl)) (pgs_cons (pg_name (i := 5) sc_spans_of.nd rfl (Or.inl rfl)) pgs_nil)))
   (pss_cons (ps_set (i := 6) sc_spans_of.nd rfl (Or.inl rfl) (pe_call (ok_span_of T) (hr.mono (by decide)) (by rfl) T.span_of.mg T.span_of.fn.kp T.span_of.bd .nil pass0 (pa_cons (pv 0) (pa_cons (pv 5) pa_nil))))
  (pss_cons (ps_if (PW.pt (pw_or (pt_cmpR op_isN (pv 6) pe_non (nomark _)) (pw_or1 (pt_cmpR op_le (pe_ix (show IxR _ (rIxT K) from ix_tup) (pv 6) pe_int (fun _ _ => rfl)) (pv 3) (nomark _)))))
   (pss_one ps_never)
   pss_nil)
  (pss_cons (ps_expr (pe_bm PySem.F.plainAttrs_list PySem.F.slot_list_append PySem.F.type_list_append mt_append (pv 2) (pa_cons (pv 6) pa_nil)))
  (pss_one (ps_set (i := 3) sc_spans_of.nd rfl (Or.inl rfl) (pe_ix (show IxR _ (rIxT K) from ix_tup) (pv 6) pe_int (fun _ _ => rfl))))))))
  (pss_one (ps_ret (pv 2)))))), fun ds G R hF => ?_⟩
  · obtain ⟨t, sp, rfl, _⟩ := h
    rfl
  · obtain ⟨t, sp, rfl, hl, hv, hp, hn, q⟩ := hF
    walk_at "go"
    change WS K _ [some _, some _, none, none, none, none, none] _ _
    walk_at "ww"
    walk_at "hot"
    refine ws_for (wi_enum (wa_cons (we_var rfl (wa_nil ⟨_, _, rfl, isR, fun i ρ G' => ∃ (e : Int) (x4 x5 x6 : Option D), ρ = [some (.str (S t)), some (.lst (sp.map (chD t))), some (.ptr G.length), some (.int e), x4, x5, x6] ∧ G' = G ++ [.lst ((sp.take i).map spD)] ∧ -1 ≤ e ∧ Tx.Val t.length (e + 1).toNat (sp.drop i),
      ⟨-1, none, none, none, rfl, rfl, by decide, hv⟩, fun i ρ G' _ => isR, ?_, ?_⟩))))
    · rintro i d ρ G' hi ⟨e, x4, x5, x6, rfl, rfl, he, hvi⟩
      obtain ⟨c, hc, rfl⟩ := en_get hi
      obtain ⟨⟨f, s', p⟩, hx, rfl⟩ := map_get hc
      have hk : (G ++ [Cell.lst ((sp.take i).map spD)])[G.length]? = some (.lst ((sp.take i).map spD)) := get_app (k := 0)
      rw [drop_at hx] at hvi
      obtain ⟨v1, v2, v3, v4⟩ := hvi
      obtain ⟨p1, p2⟩ := hp _ (List.mem_of_getElem? hx)
      walk_at "ww"
      refine ⟨t, f, s', p, rfl, hl, v2, v3, p1, p2, ?_⟩
      dsimp only [spD]
      walk_at "ww"
      refine ite_no (by omega) ?_
      walk_at "ww"
      refine ⟨⟨_, isLp hk⟩, ?_⟩
      walk_at "ww"
      have hil := (List.getElem?_eq_some_iff.mp hx).1
      refine rm_append hk (by rw [List.length_map, List.length_take]; exact lt_size (by omega)) ?_
      walk_at "ww"
      refine ⟨(s' : Int), _, _, _, rfl, ?_, by omega, ?_⟩
      · rw [set_last]
        exact congrArg (fun z => G ++ [Cell.lst z]) (snoc_at hx)
      · rw [show ((s' : Int) + 1).toNat = s' + 1 by omega]
        exact v4
    · rintro ρ G' ⟨e, x4, x5, x6, rfl, rfl, he, hvi⟩
      rw [enD_len, List.length_map, List.take_of_length_le (Nat.le_refl _)]
      refine ws_ret (we_fz (we_var rfl ⟨_, _, rfl, get_last, ?_⟩))
      rw [set_last]
      exact Gc.same (.lst (Cls.map (fun x => .tup (.cons (.int _) (.cons (.int _) (.cons (.str _) .nil)))) _)) q
def F_replaced : FD := fun ds G R => ∃ (t : List Nat) (sp : List Tx.Span), ds = [.str (S t), .lst (sp.map spD)] ∧ t.length ≤ 90000 ∧ Tx.Val t.length 0 sp ∧ (Tx.replaced t 0 sp).length ≤ 90000 ∧ sp.length ≤ 40000 ∧ R (.str (S (Tx.replaced t 0 sp))) G
theorem ok_replaced (T : Top K mg) : FnOk P w K mg base CX0 1 T.a_replaced T.d_replaced ["text", "spans"] (SpD K F_replaced) := by
  refine fn_ok T.replaced.fn sc_replaced (fun ds G R h => ?_) fun cdv A outer s H E hr => ⟨_, (pss_cons (ps_par (i := 2) (j := 3) rfl sc_replaced.nd rfl rfl (by decide) rfl rfl (pa_cons (pe_lst pa_nil) (pa_cons pe_int pa_nil)) (by rfl))
  (pss_cons (ps_for PassesOwn.never rfl (pi_list (pv 1)) (show PG _ _ (gTup K 3 _) from pg_tup rfl (pgs_cons (pg_name (i := 4) sc_replaced.nd rfl (Or.inl rfl)) (pgs_cons (pg_name (i := 5) sc_replaced.nd rfl (Or.inl rfl)) (pgs_cons (pg_name (i := 6) sc_replaced.nd rfl (Or.inl rfl)) pgs_nil))))
   (pss_cons (ps_expr (pe_bm PySem.F.plainAttrs_list PySem.F.slot_list_append PySem.F.type_list_append mt_append (pv 2) (pa_cons (pe_slice sl_str (pv 0) (po_some (pv 3)) (po_some (pv 4))) pa_nil)))
  (pss_cons (ps_expr (pe_bm PySem.F.plainAttrs_list PySem.F.slot_list_append PySem.F.type_list_append mt_append (pv 2) (pa_cons (pv 6) pa_nil)))
  (pss_one (ps_set (i := 3) sc_replaced.nd rfl (Or.inl rfl) (pv 5))))))
  (pss_cons (ps_expr (pe_bm PySem.F.plainAttrs_list PySem.F.slot_list_append PySem.F.type_list_append mt_append (pv 2) (pa_cons (pe_slice sl_str (pv 0) (po_some (pv 3)) po_none) pa_nil)))
  (pss_one (ps_ret (pe_join pe_str (pv 2))))))), fun ds G R hF => ?_⟩
  · obtain ⟨t, sp, rfl, _⟩ := h
    rfl
  · obtain ⟨t, sp, rfl, hl, hv, hr2, hn, q⟩ := hF
    walk_at "go"
    change WS K _ [some _, some _, none, none, none, none, none] _ _
    walk_at "ww"
    walk_at "hot"
    refine ws_for (wi_list (we_var rfl ⟨_, isR, fun i ρ G' => ∃ (e : Nat) (ps : List (List Nat)) (x4 x5 x6 : Option D), ρ = [some (.str (S t)), some (.lst (sp.map spD)), some (.ptr G.length), some (.int (e : Nat)), x4, x5, x6] ∧ G' = G ++ [.lst (ps.map fun p => .str (S p))] ∧ e ≤ t.length ∧ Tx.Val t.length e (sp.drop i) ∧ ps.length = 2 * i ∧ ps.flatten ++ Tx.replaced t e (sp.drop i) = Tx.replaced t 0 sp,
      ⟨0, [], none, none, none, rfl, rfl, Nat.zero_le _, hv, rfl, rfl⟩, fun i ρ G' _ => isR, ?_, ?_⟩))
    · rintro i d ρ G' hi ⟨e, ps, x4, x5, x6, rfl, rfl, he, hvi, hps, hq⟩
      obtain ⟨⟨f, s', p⟩, hx, rfl⟩ := map_get hi
      have hil := (List.getElem?_eq_some_iff.mp hx).1
      rw [drop_at hx] at hvi hq
      obtain ⟨v1, v2, v3, v4⟩ := hvi
      walk_at "ww"
      refine ⟨⟨_, isLp get_last⟩, ?_⟩
      walk_at "ww"
      · refine rm_append get_last (by rw [List.length_map]; exact lt_size (by omega)) ?_
        rw [set_last, cutL_nn v1 (by omega)]
        walk_at "ww"
        refine ⟨⟨_, isLp get_last⟩, ?_⟩
        walk_at "ww"
        refine rm_append get_last (by rw [List.length_append, List.length_map]; exact lt_size (by simp; omega)) ?_
        rw [set_last]
        walk_at "ww"
        refine ⟨s', ps ++ [Tx.cut t e f] ++ [p], _, _, _, rfl, ?_, v3, v4.mono (Nat.le_succ _), ?_, ?_⟩
        · simp
        · simp
          omega
        · rw [← hq]
          simp [Tx.replaced]
      · omega
    · rintro ρ G' ⟨e, ps, x4, x5, x6, rfl, rfl, he, hvi, hps, hq⟩
      rw [List.length_map] at hps hvi hq
      rw [List.drop_length] at hq
      have hq : ps.flatten ++ t.drop e = Tx.replaced t 0 sp := hq
      walk_at "ww"
      refine ⟨⟨_, isLp get_last⟩, ?_⟩
      walk_at "ww"
      · refine rm_append get_last (by rw [List.length_map]; exact lt_size (by omega)) ?_
        rw [set_last, cutL_no he]
        walk_at "ww"
        have e1 : (List.map (fun p => D.str (S p)) ps ++ [D.str (S (t.drop e))]) = List.map (fun p => D.str (S p)) (ps ++ [t.drop e]) := by simp
        rw [e1]
        refine rm_joinT (isRp get_last) ?_ ?_
        · have e2 : ((ps ++ [t.drop e]).map (·.length)).sum = (ps ++ [t.drop e]).flatten.length := by rw [List.length_flatten]
          have e3 : (ps ++ [t.drop e]).flatten = Tx.replaced t 0 sp := by rw [← hq]; simp
          rw [e2, e3]
          omega
        · have e3 : (ps ++ [t.drop e]).flatten = Tx.replaced t 0 sp := by rw [← hq]; simp
          rw [e3]
          exact Gc.same (.str _) q
      · omega
def F_changed : FD := fun ds G R => ∃ (t : List Nat) (sp : List Tx.Span), ds = [.str (S t), .lst (sp.map (chD t))] ∧ t.length ≤ 90000 ∧ Tx.isText t = true ∧ Tx.Val t.length 0 sp ∧ Puts sp ∧ sp.length ≤ 40000 ∧ (Tx.replaced t 0 sp).length ≤ 90000 ∧ Tx.isText (Tx.replaced t 0 sp) = true ∧ R (.str (S (Tx.replaced t 0 sp))) G
theorem ok_changed (T : Top K mg) : FnOk P w K mg base CX0 5 T.a_changed T.d_changed ["text", "changes"] (SpD K F_changed) := by
  refine fn_ok T.changed.fn sc_changed (fun ds G R h => ?_) fun cdv A outer s H E hr => ⟨_, (pss_cons (ps_expr (pe_call (ok_check_text T) (hr.mono (by decide)) (by rfl) T.check_text.mg T.check_text.fn.kp T.check_text.bd .nil pass0 (pa_cons (pv 0) pa_nil)))
  (pss_cons (ps_set (i := 2) sc_changed.nd rfl (Or.inl rfl) (pe_call (ok_replaced T) (hr.mono (by decide)) (by rfl) T.replaced.mg T.replaced.fn.kp T.replaced.bd .nil pass0 (pa_cons (pv 0) (pa_cons (pe_call (ok_spans_of T) (hr.mono (by decide)) (by rfl) T.spans_of.mg T.spans_of.fn.kp T.spans_of.bd .nil pass0 (pa_cons (pv 0) (pa_cons (pv 1) pa_nil))) pa_nil))))
  (pss_cons (ps_if (pt_not (pt_val (pe_call (ok_is_text T) (hr.mono (by decide)) (by rfl) T.is_text.mg T.is_text.fn.kp T.is_text.bd .nil pass0 (pa_cons (pv 2) pa_nil))))
   (pss_one ps_never)
   pss_nil)
  (pss_one (ps_ret (pv 2)))))), fun ds G R hF => ?_⟩
  · obtain ⟨t, sp, rfl, _⟩ := h
    rfl
  · obtain ⟨t, sp, rfl, hl, ht, hv, hp, hn, hl2, ht2, q⟩ := hF
    walk_at "go"
    change WS K _ [some _, some _, none] _ _
    walk_at "ww"
    refine ⟨t, rfl, hl, ht, ?_⟩
    walk_at "ww"
    refine ⟨t, sp, rfl, hl, hv, hp, by omega, ?_⟩
    walk_at "ww"
    refine ⟨t, sp, rfl, hl, hv, hl2, hn, ?_⟩
    walk_at "ww"
    refine ⟨_, rfl, hl2, ?_⟩
    rw [ht2]
    walk_at "ww"
    exact .inl q
def F_moved : FD := fun ds G R => ∃ (sp : List Tx.Span) (a : Int), ds = [.lst (sp.map spD), .int a] ∧ (∀ x ∈ sp, x.2.2.length ≤ 90000) ∧ R (.int (Tx.moved sp a 0)) G
theorem ok_moved (T : Top K mg) : FnOk P w K mg base CX0 1 T.a_moved T.d_moved ["spans", "at"] (SpD K F_moved) := by
  refine fn_ok T.moved.fn sc_moved (fun ds G R h => ?_) fun cdv A outer s H E hr => ⟨_, (pss_cons (ps_set (i := 2) sc_moved.nd rfl (Or.inl rfl) pe_int)
  (pss_cons (ps_for PassesOwn.never rfl (pi_list (pv 0)) (show PG _ _ (gTup K 3 _) from pg_tup rfl (pgs_cons (pg_name (i := 3) sc_moved.nd rfl (Or.inl rfl)) (pgs_cons (pg_name (i := 4) sc_moved.nd rfl (Or.inl rfl)) (pgs_cons (pg_name (i := 5) sc_moved.nd rfl (Or.inl rfl)) pgs_nil))))
   (pss_cons (ps_if (pt_cmpR op_le (pv 1) (pv 3) (nomark _))
   (pss_one (ps_ret (pe_op op_add (pv 1) (pv 2))))
   pss_nil)
  (pss_cons (ps_if (pt_cmpR op_le (pv 1) (pv 4) (nomark _))
   (pss_one (ps_ret (pe_op op_add (pe_op op_add (pv 3) (pv 2)) (pe_callB call_len_str (by rfl) T.len (by decide +kernel) (pa_cons (pv 5) pa_nil)))))
   pss_nil)
  (pss_one (ps_set (i := 2) sc_moved.nd rfl (Or.inl rfl) (pe_op op_sub (pe_op op_add (pv 2) (pe_callB call_len_str (by rfl) T.len (by decide +kernel) (pa_cons (pv 5) pa_nil))) (pe_op op_sub (pv 4) (pv 3))))))))
  (pss_one (ps_ret (pe_op op_add (pv 1) (pv 2)))))), fun ds G R hF => ?_⟩
  · obtain ⟨sp, a, rfl, _⟩ := h
    rfl
  · obtain ⟨sp, a, rfl, hp, q⟩ := hF
    walk_at "go"
    change WS K _ [some _, some _, none, none, none, none] _ _
    walk_at "ww"
    refine ws_for (wi_list (we_var rfl ⟨_, isR, fun i ρ G' => ∃ (sh : Int) (x3 x4 x5 : Option D), ρ = [some (.lst (sp.map spD)), some (.int a), some (.int sh), x3, x4, x5] ∧ G' = G ∧ Tx.moved (sp.drop i) a sh = Tx.moved sp a 0,
      ⟨0, none, none, none, rfl, rfl, rfl⟩, fun i ρ G' _ => isR, ?_, ?_⟩))
    · rintro i d ρ G' hi ⟨sh, x3, x4, x5, rfl, rfl, hq⟩
      obtain ⟨⟨f, s', p⟩, hx, rfl⟩ := map_get hi
      rw [drop_at hx] at hq
      have hp1 : p.length ≤ 90000 := hp _ (List.mem_of_getElem? hx)
      have hq : (if a ≤ f then a + sh else if a ≤ s' then f + sh + p.length else Tx.moved (sp.drop (i + 1)) a (sh + p.length - (s' - f))) = Tx.moved sp a 0 := hq
      walk_at "ww"
      refine ite_P (fun h1 => ?_) (fun h1 => ?_)
      · walk_at "ww"
        rw [if_pos h1] at hq
        rw [hq]
        exact .inl q
      · walk_at "ww"
        refine ite_P (fun h2 => ?_) (fun h2 => ?_)
        · walk_at "ww"
          · rw [if_neg h1, if_pos h2] at hq
            rw [hq]
            exact .inl q
          · omega
        · walk_at "ww"
          · rw [if_neg h1, if_neg h2] at hq
            exact ⟨_, _, _, _, rfl, rfl, hq⟩
          · omega
    · rintro ρ G' ⟨sh, x3, x4, x5, rfl, rfl, hq⟩
      rw [List.length_map, List.drop_length] at hq
      have hq : a + sh = Tx.moved sp a 0 := hq
      walk_at "ww"
      rw [hq]
      exact .inl q
def F_mapped : FD := fun ds G R => ∃ (t : List Nat) (sp : List Tx.Span) (a b : Nat), ds = [.str (S t), .lst (sp.map (chD t)), .int ((Tx.placeOf t a).1 : Nat), .int ((Tx.placeOf t a).2 : Nat)] ∧ t.length ≤ 90000 ∧ Tx.isText t = true ∧ Tx.Val t.length 0 sp ∧ Puts sp ∧ sp.length ≤ 40000 ∧ (Tx.replaced t 0 sp).length ≤ 90000 ∧ Tx.isText (Tx.replaced t 0 sp) = true ∧
  a ≤ t.length ∧ Tx.moved sp a 0 = (b : Nat) ∧ R (plD (Tx.placeOf (Tx.replaced t 0 sp) b)) G
theorem ok_mapped (T : Top K mg) : FnOk P w K mg base CX0 6 T.a_mapped T.d_mapped ["text", "changes", "line", "column"] (SpD K F_mapped) := by
  refine fn_ok T.mapped.fn sc_mapped (fun ds G R h => ?_) fun cdv A outer s H E hr => ⟨_, (pss_cons (ps_set (i := 4) sc_mapped.nd rfl (Or.inl rfl) (pe_call (ok_changed T) (hr.mono (by decide)) (by rfl) T.changed.mg T.changed.fn.kp T.changed.bd .nil pass0 (pa_cons (pv 0) (pa_cons (pv 1) pa_nil))))
  (pss_cons (ps_set (i := 5) sc_mapped.nd rfl (Or.inl rfl) (pe_call (ok_place_at T) (hr.mono (by decide)) (by rfl) T.place_at.mg T.place_at.fn.kp T.place_at.bd .nil pass0 (pa_cons (pv 0) (pa_cons (pv 2) (pa_cons (pv 3) pa_nil)))))
  (pss_cons (ps_if (pt_cmpR op_isN (pv 5) pe_non (nomark _))
   (pss_one ps_never)
   pss_nil)
  (pss_one (ps_ret (pe_call (ok_place_of T) (hr.mono (by decide)) (by rfl) T.place_of.mg T.place_of.fn.kp T.place_of.bd .nil pass0 (pa_cons (pv 4) (pa_cons (pe_call (ok_moved T) (hr.mono (by decide)) (by rfl) T.moved.mg T.moved.fn.kp T.moved.bd .nil pass0 (pa_cons (pe_call (ok_spans_of T) (hr.mono (by decide)) (by rfl) T.spans_of.mg T.spans_of.fn.kp T.spans_of.bd .nil pass0 (pa_cons (pv 0) (pa_cons (pv 1) pa_nil))) (pa_cons (pv 5) pa_nil))) pa_nil)))))))), fun ds G R hF => ?_⟩
  · obtain ⟨t, sp, a, b, rfl, _⟩ := h
    rfl
  · obtain ⟨t, sp, a, b, rfl, hl, ht, hv, hp, hn, hl2, ht2, ha, hb, q⟩ := hF
    walk_at "go"
    change WS K _ [some _, some _, some _, some _, none, none] _ _
    walk_at "ww"
    refine ⟨t, sp, rfl, hl, ht, hv, hp, hn, hl2, ht2, ?_⟩
    walk_at "ww"
    refine ⟨t, _, _, rfl, hl, ?_⟩
    rw [Tx.place_back ha]
    dsimp only [oInt]
    walk_at "ww"
    refine ⟨t, sp, rfl, hl, hv, hp, by omega, ?_⟩
    walk_at "ww"
    refine ⟨sp, _, rfl, fun x hx => (hp x hx).2, ?_⟩
    rw [hb]
    walk_at "ww"
    exact ⟨_, b, rfl, hl2, .inl q⟩
end

section
variable {P : Program} {w : World} {K : PySem.W.Frag} {mg : Str → Option Value} {base : Heap}
theorem cl_ch (t : List Nat) (l : List Tx.Span) (n : Nat) : Cl n (.lst (l.map (chD t))) := .lst (Cls.map (fun x => .tup (.cons (.int _) (.cons (.int _) (.cons (.int _) (.cons (.int _) (.cons (.str _) .nil)))))) _)
def F_back_of : FD := fun ds G R => ∃ (t : List Nat) (sp : List Tx.Span), ds = [.str (S t), .lst (sp.map (chD t))] ∧ t.length ≤ 90000 ∧ Tx.isText t = true ∧ Tx.Val t.length 0 sp ∧ Puts sp ∧ sp.length ≤ 40000 ∧ (Tx.replaced t 0 sp).length ≤ 90000 ∧ Tx.isText (Tx.replaced t 0 sp) = true ∧
  R (.lst ((Tx.backs t 0 0 sp).map (chD (Tx.replaced t 0 sp)))) G
theorem ok_back_of (T : Top K mg) : FnOk P w K mg base CX0 6 T.a_back_of T.d_back_of ["text", "changes"] (SpD K F_back_of) := by
  refine fn_ok T.back_of.fn sc_back_of (fun ds G R h => ?_) fun cdv A outer s H E hr => ⟨_, (pss_cons (ps_par3 (i := 2) (j := 3) (l := 4) rfl sc_back_of.nd rfl rfl rfl (by decide) (by decide) (by decide) rfl rfl rfl (pa_cons (pe_call (ok_changed T) (hr.mono (by decide)) (by rfl) T.changed.mg T.changed.fn.kp T.changed.bd .nil pass0 (pa_cons (pv 0) (pa_cons (pv 1) pa_nil))) (pa_cons (pe_lst pa_nil) (pa_cons pe_int pa_nil))) (by rfl))
  (pss_cons (ps_for PassesOwn.never rfl (pi_list (pe_call (ok_spans_of T) (hr.mono (by decide)) (by rfl) T.spans_of.mg T.spans_of.fn.kp T.spans_of.bd .nil pass0 (pa_cons (pv 0) (pa_cons (pv 1) pa_nil)))) (show PG _ _ (gTup K 3 _) from pg_tup rfl (pgs_cons (pg_name (i := 5) sc_back_of.nd rfl (Or.inl rfl)) (pgs_cons (pg_name (i := 6) sc_back_of.nd rfl (Or.inl rfl)) (pgs_cons (pg_name (i := 7) sc_back_of.nd rfl (Or.inl rfl)) pgs_nil))))
   (pss_cons (ps_set (i := 8) sc_back_of.nd rfl (Or.inl rfl) (pe_op op_add (pv 5) (pv 4)))
  (pss_cons (ps_expr (pe_bm PySem.F.plainAttrs_list PySem.F.slot_list_append PySem.F.type_list_append mt_append (pv 3) (pa_cons (pe_op (show OpR _ _ (rCatT K) from op_catT) (pe_op (show OpR _ _ (rCatT K) from op_catT) (pe_call (ok_place_of T) (hr.mono (by decide)) (by rfl) T.place_of.mg T.place_of.fn.kp T.place_of.bd .nil pass0 (pa_cons (pv 2) (pa_cons (pv 8) pa_nil))) (pe_call (ok_place_of T) (hr.mono (by decide)) (by rfl) T.place_of.mg T.place_of.fn.kp T.place_of.bd .nil pass0 (pa_cons (pv 2) (pa_cons (pe_op op_add (pv 8) (pe_callB call_len_str (by rfl) T.len (by decide +kernel) (pa_cons (pv 7) pa_nil))) pa_nil)))) (pe_tup (pa_cons (pe_slice sl_str (pv 0) (po_some (pv 5)) (po_some (pv 6))) pa_nil))) pa_nil)))
  (pss_one (ps_set (i := 4) sc_back_of.nd rfl (Or.inl rfl) (pe_op op_sub (pe_op op_add (pv 4) (pe_callB call_len_str (by rfl) T.len (by decide +kernel) (pa_cons (pv 7) pa_nil))) (pe_op op_sub (pv 6) (pv 5))))))))
  (pss_one (ps_ret (pv 3))))), fun ds G R hF => ?_⟩
  · obtain ⟨t, sp, rfl, _⟩ := h
    rfl
  · obtain ⟨t, sp, rfl, hl, ht, hv, hp, hn, hl2, ht2, q⟩ := hF
    walk_at "go"
    change WS K _ [some _, some _, none, none, none, none, none, none, none] _ _
    walk_at "ww"
    refine ⟨t, sp, rfl, hl, ht, hv, hp, hn, hl2, ht2, ?_⟩
    walk_at "ww"
    walk_at "hot"
    refine ws_for (wi_list (by
      walk_at "ww"
      refine ⟨t, sp, rfl, hl, hv, hp, by omega, _, isR, fun i ρ G' => ∃ (e c : Nat) (acc : List Tx.Span) (x5 x6 x7 x8 : Option D), ρ = [some (.str (S t)), some (.lst (sp.map (chD t))), some (.str (S (Tx.replaced t 0 sp))), some (.ptr G.length), some (.int ((c : Int) - e)), x5, x6, x7, x8] ∧ G' = G ++ [.lst (acc.map (chD (Tx.replaced t 0 sp)))] ∧ e ≤ t.length ∧ Tx.Val t.length e (sp.drop i) ∧ acc.length = i ∧ acc ++ Tx.backs t e c (sp.drop i) = Tx.backs t 0 0 sp,
        ⟨0, 0, [], none, none, none, none, rfl, rfl, Nat.zero_le _, hv, rfl, rfl⟩, fun i ρ G' _ => isR, ?_, ?_⟩
      · rintro i d ρ G' hi ⟨e, c, acc, x5, x6, x7, x8, rfl, rfl, he, hvi, hacc, hq⟩
        obtain ⟨⟨f, s', p⟩, hx, rfl⟩ := map_get hi
        have hil := (List.getElem?_eq_some_iff.mp hx).1
        have hp1 : p.length ≤ 90000 := (hp _ (List.mem_of_getElem? hx)).2
        rw [drop_at hx] at hvi hq
        obtain ⟨v1, v2, v3, v4⟩ := hvi
        walk_at "ww"
        refine ⟨⟨_, isLp get_last⟩, ?_⟩
        have e1 : (f : Int) + ((c : Int) - e) = ((c + (f - e) : Nat) : Int) := by omega
        rw [e1]
        walk_at "ww"
        refine ⟨_, _, rfl, hl2, ?_⟩
        walk_at "ww"
        · have e2 : ((c + (f - e) : Nat) : Int) + (p.length : Int) = ((c + (f - e) + p.length : Nat) : Int) := by omega
          rw [e2]
          refine ⟨_, _, rfl, hl2, ?_⟩
          walk_at "ww"
          · refine rm_append get_last (by rw [List.length_map]; exact lt_size (by omega)) ?_
            rw [set_last, cutL_nn v2 v3]
            walk_at "ww"
            · have e3 : (c : Int) - e + (p.length : Int) - ((s' : Int) - f) = ((c + (f - e) + p.length : Nat) : Int) - (s' : Nat) := by omega
              rw [e3]
              refine ⟨s', c + (f - e) + p.length, acc ++ [(c + (f - e), c + (f - e) + p.length, Tx.cut t f s')], _, _, _, _, rfl, ?_, v3, v4.mono (Nat.le_succ _), by rw [List.length_append, hacc]; rfl, ?_⟩
              · rw [List.map_append]
                rfl
              · rw [← hq, List.append_assoc]
                rfl
            · omega
          · omega
        · omega
      · rintro ρ G' ⟨e, c, acc, x5, x6, x7, x8, rfl, rfl, he, hvi, hacc, hq⟩
        rw [List.length_map, List.drop_length] at hq
        have hq : acc ++ [] = _ := hq
        rw [List.append_nil] at hq
        refine ws_ret (we_fz (we_var rfl ⟨_, _, rfl, get_last, ?_⟩))
        rw [set_last, hq]
        exact Gc.same (cl_ch _ _ _) q))
def F_origins : FD := fun ds G R => ∃ (n : Nat) (sp : List Tx.Span), ds = [.int (n : Nat), .lst (sp.map spD)] ∧ n ≤ 90000 ∧ Tx.Val n 0 sp ∧ (∀ x ∈ sp, x.2.2.length ≤ 90000) ∧ (Tx.orig n 0 sp).length ≤ 90000 ∧ R (.lst ((Tx.orig n 0 sp).map D.int)) G
theorem rgD_rng {a b : Nat} : rgD (a : Int) ((b : Int) - a).toNat = (Tx.rng a b).map D.int := by
  unfold rgD Tx.rng
  rw [List.map_map, show ((b : Int) - (a : Int)).toNat = b - a by omega]
  apply List.map_congr_left
  intro i _
  show D.int ((a : Int) + (i : Nat)) = D.int ((a + i : Nat) : Int)
  congr 1
theorem rep_int {n : Nat} {z : Int} : (List.replicate n [D.int z]).flatten = (List.replicate n z).map D.int := by
  induction n with
  | zero => rfl
  | succ n ih =>
    rw [List.replicate_succ, List.flatten_cons, ih, List.replicate_succ, List.map_cons]
    rfl
theorem ok_origins (T : Top K mg) : FnOk P w K mg base CX0 1 T.a_origins T.d_origins ["size", "spans"] (SpD K F_origins) := by
  refine fn_ok T.origins.fn sc_origins (fun ds G R h => ?_) fun cdv A outer s H E hr => ⟨_, (pss_cons (ps_par (i := 2) (j := 3) rfl sc_origins.nd rfl rfl (by decide) rfl rfl (pa_cons (pe_lst pa_nil) (pa_cons pe_int pa_nil)) (by rfl))
  (pss_cons (ps_for PassesOwn.never rfl (pi_list (pv 1)) (show PG _ _ (gTup K 3 _) from pg_tup rfl (pgs_cons (pg_name (i := 4) sc_origins.nd rfl (Or.inl rfl)) (pgs_cons (pg_name (i := 5) sc_origins.nd rfl (Or.inl rfl)) (pgs_cons (pg_name (i := 6) sc_origins.nd rfl (Or.inl rfl)) pgs_nil))))
   (pss_cons (ps_expr (pe_bm PySem.F.plainAttrs_list PySem.F.slot_list_extend PySem.F.type_list_extend mt_extend (pv 2) (pa_cons (pe_listRg rfl (by rfl) T.list (prg_2 (by rfl) T.range (pv 3) (pv 4))) pa_nil)))
  (pss_cons (ps_expr (pe_bm PySem.F.plainAttrs_list PySem.F.slot_list_extend PySem.F.type_list_extend mt_extend (pv 2) (pa_cons (pe_op op_rep (pe_lst (pa_cons (pe_un un_neg pe_int) pa_nil)) (pe_callB call_len_str (by rfl) T.len (by decide +kernel) (pa_cons (pv 6) pa_nil))) pa_nil)))
  (pss_one (ps_set (i := 3) sc_origins.nd rfl (Or.inl rfl) (pv 5))))))
  (pss_cons (ps_expr (pe_bm PySem.F.plainAttrs_list PySem.F.slot_list_extend PySem.F.type_list_extend mt_extend (pv 2) (pa_cons (pe_listRg rfl (by rfl) T.list (prg_2 (by rfl) T.range (pv 3) (pv 0))) pa_nil)))
  (pss_one (ps_ret (pv 2)))))), fun ds G R hF => ?_⟩
  · obtain ⟨n, sp, rfl, _⟩ := h
    rfl
  · obtain ⟨n, sp, rfl, hn, hv, hp, hl, q⟩ := hF
    walk_at "go"
    change WS K _ [some _, some _, none, none, none, none, none] _ _
    walk_at "ww"
    walk_at "hot"
    refine ws_for (wi_list (we_var rfl ⟨_, isR, fun i ρ G' => ∃ (e : Nat) (acc : List Int) (x4 x5 x6 : Option D), ρ = [some (.int (n : Nat)), some (.lst (sp.map spD)), some (.ptr G.length), some (.int (e : Nat)), x4, x5, x6] ∧ G' = G ++ [.lst (acc.map D.int)] ∧ e ≤ n ∧ Tx.Val n e (sp.drop i) ∧ acc ++ Tx.orig n e (sp.drop i) = Tx.orig n 0 sp,
      ⟨0, [], none, none, none, rfl, rfl, Nat.zero_le _, hv, rfl⟩, fun i ρ G' _ => isR, ?_, ?_⟩))
    · rintro i d ρ G' hi ⟨e, acc, x4, x5, x6, rfl, rfl, he, hvi, hq⟩
      obtain ⟨⟨f, s', p⟩, hx, rfl⟩ := map_get hi
      have hp1 : p.length ≤ 90000 := hp _ (List.mem_of_getElem? hx)
      rw [drop_at hx] at hvi hq
      obtain ⟨v1, v2, v3, v4⟩ := hvi
      have hq : acc ++ (Tx.rng e f ++ List.replicate p.length (-1) ++ Tx.orig n s' (sp.drop (i + 1))) = Tx.orig n 0 sp := hq
      have hlen := congrArg List.length hq
      simp only [List.length_append, List.length_replicate, Tx.rng_len] at hlen
      walk_at "ww"
      refine ⟨⟨_, isLp get_last⟩, ?_⟩
      walk_at "ww"
      refine ⟨⟨by omega, by omega, by omega, by omega, by omega⟩, .inl ?_⟩
      rw [rgD_rng]
      walk_at "ww"
      refine rm_extend get_last isL (by rw [List.length_map, List.length_map, Tx.rng_len]; exact le_size (by omega)) ?_
      rw [set_last]
      walk_at "ww"
      refine ⟨⟨_, isLp get_last⟩, ?_⟩
      walk_at "ww"
      walk_at "cold"
      · refine rd_rep isL (by omega) (by omega) (le_size (by simp; omega)) (.inl ?_)
        rw [Int.toNat_natCast, rep_int]
        walk_at "ww"
        refine rm_extend get_last isL (by simp only [List.length_append, List.length_map, List.length_replicate, Tx.rng_len]; exact le_size (by omega)) ?_
        rw [set_last]
        walk_at "ww"
        refine ⟨s', acc ++ Tx.rng e f ++ List.replicate p.length (-1), _, _, _, rfl, ?_, v3, v4.mono (Nat.le_succ _), ?_⟩
        · rw [List.map_append, List.map_append]
        · rw [← hq]
          simp [List.append_assoc]
      · omega
    · rintro ρ G' ⟨e, acc, x4, x5, x6, rfl, rfl, he, hvi, hq⟩
      rw [List.length_map, List.drop_length] at hq
      have hq : acc ++ Tx.rng e n = Tx.orig n 0 sp := hq
      have hlen := congrArg List.length hq
      simp only [List.length_append, Tx.rng_len] at hlen
      walk_at "ww"
      refine ⟨⟨_, isLp get_last⟩, ?_⟩
      walk_at "ww"
      refine ⟨⟨by omega, by omega, by omega, by omega, by omega⟩, .inl ?_⟩
      rw [rgD_rng]
      walk_at "ww"
      refine rm_extend get_last isL (by rw [List.length_map, List.length_map, Tx.rng_len]; exact le_size (by omega)) ?_
      rw [set_last]
      refine ws_ret (we_fz (we_var rfl ⟨_, _, rfl, get_last, ?_⟩))
      rw [set_last, ← List.map_append, hq]
      exact Gc.same (.lst (Cls.map (fun i => .int i) _)) q
theorem ite_or {c A B C : Prop} (d : Prop) [Decidable c] (h1 : c ∨ d → A) (h2 : ¬ c → (d → A) → C) : if decide c = true then (if true = true then A else B) else C := by
  by_cases h : c
  · rw [if_pos (decide_eq_true h)]
    exact h1 (.inl h)
  · rw [if_neg (by rw [decide_eq_false h]; exact Bool.false_ne_true)]
    exact h2 h fun x => h1 (.inr x)
def F_row_between : FD := fun ds G R => ∃ (t told : List Nat) (ks : List Int), ds = [.str (S t), .str (S told), .lst (ks.map D.int)] ∧ t.length ≤ 90000 ∧ told.length ≤ 90000 ∧ ks.length = told.length ∧ Tx.Inc 0 (ks ++ [(t.length : Int)]) ∧ (∀ x ∈ ks ++ [(t.length : Int)], x ≤ (t.length : Int)) ∧
  R (.lst ((Tx.rb told 0 0 0 (ks ++ [(t.length : Int)])).map (chD t))) G
theorem ok_row_between (T : Top K mg) : FnOk P w K mg base CX0 2 T.a_row_between T.d_row_between ["text", "told", "kept"] (SpD K F_row_between) := by
  refine fn_ok T.row_between.fn sc_row_between (fun ds G R h => ?_) fun cdv A outer s H E hr => ⟨_, (pss_cons (ps_par3 (i := 3) (j := 4) (l := 5) rfl sc_row_between.nd rfl rfl rfl (by decide) (by decide) (by decide) rfl rfl rfl (pa_cons (pe_lst pa_nil) (pa_cons pe_int (pa_cons pe_int pa_nil))) (by rfl))
  (pss_cons (ps_for PassesOwn.never rfl (pi_enum (by rfl) T.enumerate (pa_cons (pe_op op_cat (pv 2) (pe_lst (pa_cons (pe_callB call_len_str (by rfl) T.len (by decide +kernel) (pa_cons (pv 0) pa_nil)) pa_nil))) pa_nil)) (show PG _ _ (gTup K 2 _) from pg_tup rfl (pgs_cons (pg_name (i := 6) sc_row_between.nd rfl (Or.inl rfl)) (pgs_cons (pg_name (i := 7) sc_row_between.nd rfl (Or.inl rfl)) pgs_nil)))
   (pss_one (ps_if (pt_cmpR op_ge (pv 7) pe_int (nomark _))
   (pss_cons (ps_if (PW.pt (pw_or (pt_cmpR op_gt (pv 7) (pv 4) (nomark _)) (pw_or1 (pt_cmpR op_gt (pv 6) (pv 5) (nomark _)))))
   (pss_one (ps_expr (pe_bm PySem.F.plainAttrs_list PySem.F.slot_list_append PySem.F.type_list_append mt_append (pv 3) (pa_cons (pe_op (show OpR _ _ (rCatT K) from op_catT) (pe_op (show OpR _ _ (rCatT K) from op_catT) (pe_call (ok_place_of T) (hr.mono (by decide)) (by rfl) T.place_of.mg T.place_of.fn.kp T.place_of.bd .nil pass0 (pa_cons (pv 0) (pa_cons (pv 4) pa_nil))) (pe_call (ok_place_of T) (hr.mono (by decide)) (by rfl) T.place_of.mg T.place_of.fn.kp T.place_of.bd .nil pass0 (pa_cons (pv 0) (pa_cons (pv 7) pa_nil)))) (pe_tup (pa_cons (pe_slice sl_str (pv 1) (po_some (pv 5)) (po_some (pv 6))) pa_nil))) pa_nil))))
   pss_nil)
  (pss_one (ps_par (i := 4) (j := 5) rfl sc_row_between.nd rfl rfl (by decide) rfl rfl (pa_cons (pe_op op_add (pv 7) pe_int) (pa_cons (pe_op op_add (pv 6) pe_int) pa_nil)) (by rfl))))
   pss_nil)))
  (pss_one (ps_ret (pv 3))))), fun ds G R hF => ?_⟩
  · obtain ⟨t, told, ks, rfl, _⟩ := h
    rfl
  · obtain ⟨t, told, ks, rfl, hl, hl2, hk, hI, hx, q⟩ := hF
    walk_at "go"
    change WS K _ [some _, some _, some _, none, none, none, none, none] _ _
    walk_at "ww"
    walk_at "hot"
    refine ws_for (wi_enum (by
      walk_at "ww"
      walk_at "cold"
      · refine rd_cat isL isL (by rw [List.length_map]; exact le_size (by simp; omega)) (.inl ?_)
        have el : (List.map D.int ks ++ [D.int (t.length : Int)]) = List.map D.int (ks ++ [(t.length : Int)]) := by rw [List.map_append]; rfl
        rw [el]
        walk_at "ww"
        refine ⟨_, _, rfl, isR, fun i ρ G' => ∃ (b st : Nat) (acc : List Tx.Span) (x6 x7 : Option D), ρ = [some (.str (S t)), some (.str (S told)), some (.lst (ks.map D.int)), some (.ptr G.length), some (.int (b : Nat)), some (.int (st : Nat)), x6, x7] ∧ G' = G ++ [.lst (acc.map (chD t))] ∧ st ≤ i ∧ acc.length ≤ i ∧ Tx.Inc b ((ks ++ [(t.length : Int)]).drop i) ∧ acc ++ Tx.rb told b st i ((ks ++ [(t.length : Int)]).drop i) = Tx.rb told 0 0 0 (ks ++ [(t.length : Int)]),
          ⟨0, 0, [], none, none, rfl, rfl, Nat.le_refl _, Nat.le_refl _, hI, rfl⟩, fun i ρ G' _ => isR, ?_, ?_⟩
        · rintro i d ρ G' hi ⟨b, st, acc, x6, x7, rfl, rfl, hst, hacc, hIi, hq⟩
          obtain ⟨c, hc, rfl⟩ := en_get hi
          obtain ⟨x, hxi, rfl⟩ := map_get hc
          have hil := (List.getElem?_eq_some_iff.mp hxi).1
          rw [List.length_append] at hil
          have hil : i < ks.length + 1 := hil
          have hxn := hx x (List.mem_of_getElem? hxi)
          rw [drop_at hxi] at hIi hq
          unfold Tx.Inc at hIi
          have hq : acc ++ (if x < 0 then Tx.rb told b st (i + 1) ((ks ++ [(t.length : Int)]).drop (i + 1)) else (if (b : Int) < x ∨ st < i then [(b, x.toNat, Tx.cut told st i)] else []) ++ Tx.rb told (x.toNat + 1) (i + 1) (i + 1) ((ks ++ [(t.length : Int)]).drop (i + 1))) = Tx.rb told 0 0 0 (ks ++ [(t.length : Int)]) := hq
          walk_at "ww"
          refine ite_P (fun h1 => ?_) (fun h1 => ?_)
          · rw [if_neg (by omega)] at hIi hq
            have ex : x = ((x.toNat : Nat) : Int) := by omega
            have fin : ∀ acc' : List Tx.Span, acc'.length ≤ i + 1 → acc' = acc ++ (if (b : Int) < x ∨ st < i then [(b, x.toNat, Tx.cut told st i)] else []) → ∃ (b st : Nat) (acc : List Tx.Span) (x6 x7 : Option D), [some (D.str (S t)), some (.str (S told)), some (.lst (ks.map D.int)), some (.ptr G.length), some (.int (x + 1)), some (.int ((i : Int) + 1)), some (.int (i : Nat)), some (.int x)] = [some (.str (S t)), some (.str (S told)), some (.lst (ks.map D.int)), some (.ptr G.length), some (.int (b : Nat)), some (.int (st : Nat)), x6, x7] ∧ (G ++ [Cell.lst (acc'.map (chD t))]) = G ++ [.lst (acc.map (chD t))] ∧ st ≤ i + 1 ∧ acc.length ≤ i + 1 ∧ Tx.Inc b ((ks ++ [(t.length : Int)]).drop (i + 1)) ∧ acc ++ Tx.rb told b st (i + 1) ((ks ++ [(t.length : Int)]).drop (i + 1)) = Tx.rb told 0 0 0 (ks ++ [(t.length : Int)]) := fun acc' h1 h2 => by
              refine ⟨x.toNat + 1, i + 1, acc', some (.int (i : Nat)), some (.int x), ?_, rfl, Nat.le_refl _, h1, hIi.2.mono (by omega), ?_⟩
              · have e1 : x + 1 = ((x.toNat + 1 : Nat) : Int) := by omega
                have e2 : (i : Int) + 1 = ((i + 1 : Nat) : Int) := by omega
                rw [e1, e2]
              · rw [h2, List.append_assoc]
                exact hq
            walk_at "ww"
            refine ite_or ((st : Int) < (i : Int)) (fun hb => ?_) (fun hb hA => ?_)
            · walk_at "ww"
              refine ⟨⟨_, isLp get_last⟩, ?_⟩
              walk_at "ww"
              refine ⟨_, _, rfl, hl, ?_⟩
              walk_at "ww"
              refine ⟨t, x.toNat, by rw [← ex], hl, ?_⟩
              walk_at "ww"
              · refine rm_append get_last (by rw [List.length_map]; exact lt_size (by omega)) ?_
                rw [set_last, cutL_nn hst (by omega)]
                walk_at "ww"
                have f1 := fin (acc ++ [(b, x.toNat, Tx.cut told st i)]) (by rw [List.length_append]; exact Nat.succ_le_succ hacc) (by rw [if_pos (hb.imp id (by omega))])
                rw [List.map_append] at f1
                exact f1
              · omega
            · walk_at "ww"
              refine ite_P hA fun hd => ?_
              walk_at "ww"
              exact fin acc (by omega) (by rw [if_neg (fun h => h.elim hb (by omega)), List.append_nil])
          · rw [if_pos (by omega)] at hIi hq
            walk_at "ww"
            exact ⟨b, st, acc, _, _, rfl, rfl, by omega, by omega, hIi, hq⟩
        · rintro ρ G' ⟨b, st, acc, x6, x7, rfl, rfl, hst, hacc, hIi, hq⟩
          rw [enD_len, List.length_map, List.drop_length] at hq
          have hq : acc ++ [] = _ := hq
          rw [List.append_nil] at hq
          refine ws_ret (we_fz (we_var rfl ⟨_, _, rfl, get_last, ?_⟩))
          rw [set_last, hq]
          exact Gc.same (cl_ch _ _ _) q
      · omega))
def F_joined : FD := fun ds G R => ∃ (t : List Nat) (sp more : List Tx.Span), ds = [.str (S t), .lst (sp.map (chD t)), .lst (more.map (chD (Tx.replaced t 0 sp)))] ∧ t.length ≤ 90000 ∧ Tx.isText t = true ∧ Tx.Both t sp more ∧ Puts sp ∧ Puts more ∧ sp.length ≤ 40000 ∧ more.length ≤ 40000 ∧ (Tx.replaced t 0 sp).length ≤ 90000 ∧ Tx.isText (Tx.replaced t 0 sp) = true ∧ (Tx.lastT t sp more).length ≤ 90000 ∧ Tx.isText (Tx.lastT t sp more) = true ∧
  R (.lst ((Tx.bothS t sp more).map (chD t))) G
theorem ok_joined (T : Top K mg) : FnOk P w K mg base CX0 6 T.a_joined T.d_joined ["text", "changes", "more"] (SpD K F_joined) := by
  refine fn_ok T.joined.fn sc_joined (fun ds G R h => ?_) fun cdv A outer s H E hr => ⟨_, (pss_cons (ps_set (i := 3) sc_joined.nd rfl (Or.inl rfl) (pe_call (ok_changed T) (hr.mono (by decide)) (by rfl) T.changed.mg T.changed.fn.kp T.changed.bd .nil pass0 (pa_cons (pv 0) (pa_cons (pv 1) pa_nil))))
  (pss_cons (ps_set (i := 4) sc_joined.nd rfl (Or.inl rfl) (pe_call (ok_changed T) (hr.mono (by decide)) (by rfl) T.changed.mg T.changed.fn.kp T.changed.bd .nil pass0 (pa_cons (pv 3) (pa_cons (pv 2) pa_nil))))
  (pss_cons (ps_set (i := 5) sc_joined.nd rfl (Or.inr rfl) (pe_call (ok_origins T) (hr.mono (by decide)) (by rfl) T.origins.mg T.origins.fn.kp T.origins.bd .nil pass0 (pa_cons (pe_callB call_len_str (by rfl) T.len (by decide +kernel) (pa_cons (pv 0) pa_nil)) (pa_cons (pe_call (ok_spans_of T) (hr.mono (by decide)) (by rfl) T.spans_of.mg T.spans_of.fn.kp T.spans_of.bd .nil pass0 (pa_cons (pv 0) (pa_cons (pv 1) pa_nil))) pa_nil))))
  (pss_cons (ps_set (i := 6) sc_joined.nd rfl (Or.inl rfl) (pe_call (ok_origins T) (hr.mono (by decide)) (by rfl) T.origins.mg T.origins.fn.kp T.origins.bd .nil pass0 (pa_cons (pe_callB call_len_str (by rfl) T.len (by decide +kernel) (pa_cons (pv 3) pa_nil)) (pa_cons (pe_call (ok_spans_of T) (hr.mono (by decide)) (by rfl) T.spans_of.mg T.spans_of.fn.kp T.spans_of.bd .nil pass0 (pa_cons (pv 3) (pa_cons (pv 2) pa_nil))) pa_nil))))
  (pss_one (ps_ret (pe_call (ok_row_between T) (hr.mono (by decide)) (by rfl) T.row_between.mg T.row_between.fn.kp T.row_between.bd .nil pass0 (pa_cons (pv 0) (pa_cons (pv 4) (pa_cons (pe_lc (own := [("at", 7)]) rfl sc_joined.nd (pi_list (pv 6)) (blkOk_by (N := ["text", "changes", "more", "middle", "told", "first", "second", "at"]) (sc := defScope s_joined) (by decide +kernel)) (fun _ _ _ _ _ => (pg_name (i := 7) sc_joined.nd rfl (Or.inl rfl))) (fun _ _ _ _ _ => pts_nil) (fun _ _ _ _ _ => (pe_ifExp (pt_cmpR op_ge (pv 7) pe_int (nomark _)) (pe_ix (show IxR _ (rIxL K) from ix_list) (pv 5) (pv 7) (fun _ _ => rfl)) (pe_un un_neg pe_int)))) pa_nil)))))))))), fun ds G R hF => ?_⟩
  · obtain ⟨t, sp, more, rfl, _⟩ := h
    rfl
  · obtain ⟨t, sp, more, rfl, hl, ht, B, hp1, hp2, hn1, hn2, hl2, ht2, hl3, ht3, q⟩ := hF
    walk_at "go"
    change WS K _ [some _, some _, some _, none, none, none, none, none] _ _
    walk_at "ww"
    refine ⟨t, sp, rfl, hl, ht, B.v1, hp1, hn1, hl2, ht2, ?_⟩
    walk_at "ww"
    refine ⟨Tx.replaced t 0 sp, more, rfl, hl2, ht2, B.v2, hp2, hn2, hl3, ht3, ?_⟩
    walk_at "ww"
    refine ⟨t, sp, rfl, hl, B.v1, hp1, by omega, ?_⟩
    walk_at "ww"
    · have o1 : (Tx.orig t.length 0 sp).length = (Tx.replaced t 0 sp).length := Tx.orig_len B.v1
      have o2 : (Tx.orig (Tx.replaced t 0 sp).length 0 more).length = (Tx.lastT t sp more).length := Tx.orig_len B.v2
      refine ⟨t.length, sp, rfl, hl, B.v1, fun x hx => (hp1 x hx).2, by omega, ?_⟩
      walk_at "ww"
      · refine ⟨Tx.replaced t 0 sp, more, rfl, hl2, B.v2, hp2, by omega, ?_⟩
        walk_at "ww"
        refine ⟨(Tx.replaced t 0 sp).length, more, rfl, hl2, B.v2, fun x hx => (hp2 x hx).2, by omega, ?_⟩
        walk_at "ww"
        · refine we_lcmap (own_name (by decide)) (wi_list (we_var rfl ⟨_, isR, Tx.orig (Tx.replaced t 0 sp).length 0 more, D.int, fun a => .int (if a ≥ 0 then (Tx.orig t.length 0 sp).getD a.toNat (-1) else -1), rfl, isR, by omega, fun a ha => ?_, ?_⟩))
          · have hlt := Tx.orig_lt B.v2 a ha
            walk_at "ww"
            refine ite_P (fun h2 => ?_) (fun h2 => ?_)
            · walk_at "ww"
              refine rd_ixL isR (atZ h2 (by rw [List.getElem?_map, List.getElem?_eq_getElem (by omega)]; rfl)) ⟨?_, rfl⟩
              show D.int _ = D.int (if a ≥ 0 then (Tx.orig t.length 0 sp).getD a.toNat (-1) else -1)
              rw [if_pos h2, List.getD_eq_getElem?_getD, List.getElem?_eq_getElem (by omega)]
              rfl
            · walk_at "ww"
              refine ⟨?_, rfl⟩
              show D.int _ = D.int (if a ≥ 0 then (Tx.orig t.length 0 sp).getD a.toNat (-1) else -1)
              rw [if_neg h2]
          · walk_at "cold"
            refine ⟨t, Tx.lastT t sp more, Tx.kept t sp more, by unfold Tx.kept Tx.comp; rw [List.map_map]; rfl, hl, hl3, B.len, B.inc, fun x hx => ?_, .inl q⟩
            rcases List.mem_append.mp hx with h | h
            · exact Int.le_of_lt (B.lt x h)
            · rw [List.mem_singleton.mp h]
              exact Int.le_refl _
      · omega
    · omega
end

section
variable {P : Program} {w : World} {K : PySem.W.Frag} {mg : Str → Option Value} {base : Heap}
/-- plain data: numbers and texts -/
def Plain (d : D) : Prop := (∃ i, d = .int i) ∨ ∃ l, d = .str (S l) ∧ l.length ≤ 90000
def PlainT (d : D) : Prop := ∃ ds, d = .tup ds ∧ ds.length ≤ 1000 ∧ ∀ x ∈ ds, Plain x
def F_same (Q : D → Prop) : FD := fun ds G R => ∃ x, ds = [x, x] ∧ Q x ∧ R (.bl true) G
theorem ok_same0 (T : Top K mg) (IH : FnOk P w K mg base CX0 0 T.a_law_same T.d_law_same ["one", "other"] (SpD K fun _ _ _ => False)) : FnOk P w K mg base CX0 1 T.a_law_same T.d_law_same ["one", "other"] (SpD K (F_same Plain)) := by
  refine fn_ok T.law_same.fn sc_law_same (fun ds G R h => ?_) fun cdv A outer s H E hr => ⟨_, (pss_cons (ps_if (pt_cmpR op_isN (pv 1) pe_non (nomark _))
   (pss_one (ps_ret (pe_cmpR op_isN (pv 0) pe_non (nomark _))))
   pss_nil)
  (pss_cons (ps_if (pt_val (pe_callB call_isi (by rfl) T.isinstance (by decide +kernel) (pa_cons (pv 1) (pa_cons (pe_bltn (v := .ty "bool") (by rfl) T.bool (by decide +kernel) rfl) pa_nil))))
   (pss_one (ps_ret (pe_and (pe_callB call_isi (by rfl) T.isinstance (by decide +kernel) (pa_cons (pv 0) (pa_cons (pe_bltn (v := .ty "bool") (by rfl) T.bool (by decide +kernel) rfl) pa_nil))) (pe_one (pe_cmpR op_eq (pv 0) (pv 1) (nomark _))))))
   pss_nil)
  (pss_cons (ps_if (pt_val (pe_callB call_isi (by rfl) T.isinstance (by decide +kernel) (pa_cons (pv 1) (pa_cons (pe_bltn (v := .ty "int") (by rfl) T.int (by decide +kernel) rfl) pa_nil))))
   (pss_one (ps_ret (pe_and (pe_callB call_isi (by rfl) T.isinstance (by decide +kernel) (pa_cons (pv 0) (pa_cons (pe_bltn (v := .ty "int") (by rfl) T.int (by decide +kernel) rfl) pa_nil))) (pe_and (pe_not (pe_callB call_isi (by rfl) T.isinstance (by decide +kernel) (pa_cons (pv 0) (pa_cons (pe_bltn (v := .ty "bool") (by rfl) T.bool (by decide +kernel) rfl) pa_nil)))) (pe_one (pe_cmpR op_eq (pv 0) (pv 1) (nomark _)))))))
   pss_nil)
  (pss_cons (ps_if (pt_val (pe_callB call_isi (by rfl) T.isinstance (by decide +kernel) (pa_cons (pv 1) (pa_cons (pe_bltn (v := .ty "str") (by rfl) T.str (by decide +kernel) rfl) pa_nil))))
   (pss_one (ps_ret (pe_and (pe_callB call_isi (by rfl) T.isinstance (by decide +kernel) (pa_cons (pv 0) (pa_cons (pe_bltn (v := .ty "str") (by rfl) T.str (by decide +kernel) rfl) pa_nil))) (pe_one (pe_cmpR op_eq (pv 0) (pv 1) (nomark _))))))
   pss_nil)
  (pss_cons (ps_if (PW.pt (pw_or (pt_cmpR op_ne (pe_callB call_isi (by rfl) T.isinstance (by decide +kernel) (pa_cons (pv 0) (pa_cons (pe_bltn (v := .ty "list") (by rfl) T.list (by decide +kernel) rfl) pa_nil))) (pe_callB call_isi (by rfl) T.isinstance (by decide +kernel) (pa_cons (pv 1) (pa_cons (pe_bltn (v := .ty "list") (by rfl) T.list (by decide +kernel) rfl) pa_nil))) (nomark _)) (pw_or (pt_not (pt_val (pe_callB call_isiT (by rfl) T.isinstance (by decide +kernel) (pa_cons (pv 0) (pa_cons (pe_tup (pa_cons (pe_bltn (v := .ty "list") (by rfl) T.list (by decide +kernel) rfl) (pa_cons (pe_bltn (v := .ty "tuple") (by rfl) T.tuple (by decide +kernel) rfl) pa_nil))) pa_nil))))) (pw_or1 (pt_cmpR op_ne (pe_callB (show CallR _ (Value.builtin "len") (fun xs H Q => ∃ p ys, xs = [L2.V.ref p] ∧ (SqL K H p ys ∨ SqT K H p ys) ∧ Q (L2.V.int ys.length) H) from call_len_seq) (by rfl) T.len (by decide +kernel) (pa_cons (pv 0) pa_nil)) (pe_callB (show CallR _ (Value.builtin "len") (fun xs H Q => ∃ p ys, xs = [L2.V.ref p] ∧ (SqL K H p ys ∨ SqT K H p ys) ∧ Q (L2.V.int ys.length) H) from call_len_seq) (by rfl) T.len (by decide +kernel) (pa_cons (pv 1) pa_nil)) (nomark _))))))
   (pss_one (ps_ret pe_bl))
   pss_nil)
  (pss_one (ps_ret (pe_callB (cr_all rfl) (by rfl) T.all (by decide +kernel) (pa_cons (pe_lc (own := [("k", 2)]) rfl sc_law_same.nd (pi_range1 rfl T.range (pa_cons (pe_callB (show CallR _ (Value.builtin "len") (fun xs H Q => ∃ p ys, xs = [L2.V.ref p] ∧ (SqL K H p ys ∨ SqT K H p ys) ∧ Q (L2.V.int ys.length) H) from call_len_seq) (by rfl) T.len (by decide +kernel) (pa_cons (pv 1) pa_nil)) pa_nil)) (blkOk_by (N := ["one", "other", "k"]) (sc := defScope s_law_same) (by decide +kernel)) (fun _ _ _ _ _ => (pg_name (i := 2) sc_law_same.nd rfl (Or.inl rfl))) (fun _ _ _ _ _ => pts_nil) (fun _ _ _ _ _ => (pe_call IH (hr.mono (by decide)) (by rfl) T.law_same.mg T.law_same.fn.kp T.law_same.bd .nil pass0 (pa_cons (pe_ix (show IxR _ (rIxL K) from ix_list) (pv 0) (pv 2) (fun _ _ => rfl)) (pa_cons (pe_ix (show IxR _ (rIxL K) from ix_list) (pv 1) (pv 2) (fun _ _ => rfl)) pa_nil))))) pa_nil))))))))), fun ds G R hF => ?_⟩
  · obtain ⟨x, rfl, _⟩ := h
    rfl
  · obtain ⟨x, rfl, hx, q⟩ := hF
    walk_at "go"
    change WS K _ [some _, some _, none] _ _
    rcases hx with ⟨i, rfl⟩ | ⟨l, rfl, hl⟩
    · walk_at "ww"
      rw [decide_eq_true rfl]
      exact .inl q
    · walk_at "ww"
      rw [decide_eq_true rfl]
      exact .inl q
theorem ok_law_same (T : Top K mg) : FnOk P w K mg base CX0 2 T.a_law_same T.d_law_same ["one", "other"] (SpD K (F_same PlainT)) := by
  have IH := ok_same0 (P := P) (w := w) (base := base) T ⟨fun vs H Q E ⟨wd, G, ds, R, e, ok, hl, hF, q⟩ => hF.elim, fun A outer s H args us vs Q E hr e b v ⟨wd, G, ds, R, e', ok, hl, hF, q⟩ => hF.elim⟩
  refine fn_ok T.law_same.fn sc_law_same (fun ds G R h => ?_) fun cdv A outer s H E hr => ⟨_, (pss_cons (ps_if (pt_cmpR op_isN (pv 1) pe_non (nomark _))
   (pss_one (ps_ret (pe_cmpR op_isN (pv 0) pe_non (nomark _))))
   pss_nil)
  (pss_cons (ps_if (pt_val (pe_callB call_isi (by rfl) T.isinstance (by decide +kernel) (pa_cons (pv 1) (pa_cons (pe_bltn (v := .ty "bool") (by rfl) T.bool (by decide +kernel) rfl) pa_nil))))
   (pss_one (ps_ret (pe_and (pe_callB call_isi (by rfl) T.isinstance (by decide +kernel) (pa_cons (pv 0) (pa_cons (pe_bltn (v := .ty "bool") (by rfl) T.bool (by decide +kernel) rfl) pa_nil))) (pe_one (pe_cmpR (op_eqD hr.units) (pv 0) (pv 1) (nomark _))))))
   pss_nil)
  (pss_cons (ps_if (pt_val (pe_callB call_isi (by rfl) T.isinstance (by decide +kernel) (pa_cons (pv 1) (pa_cons (pe_bltn (v := .ty "int") (by rfl) T.int (by decide +kernel) rfl) pa_nil))))
   (pss_one (ps_ret (pe_and (pe_callB call_isi (by rfl) T.isinstance (by decide +kernel) (pa_cons (pv 0) (pa_cons (pe_bltn (v := .ty "int") (by rfl) T.int (by decide +kernel) rfl) pa_nil))) (pe_and (pe_not (pe_callB call_isi (by rfl) T.isinstance (by decide +kernel) (pa_cons (pv 0) (pa_cons (pe_bltn (v := .ty "bool") (by rfl) T.bool (by decide +kernel) rfl) pa_nil)))) (pe_one (pe_cmpR (op_eqD hr.units) (pv 0) (pv 1) (nomark _)))))))
   pss_nil)
  (pss_cons (ps_if (pt_val (pe_callB call_isi (by rfl) T.isinstance (by decide +kernel) (pa_cons (pv 1) (pa_cons (pe_bltn (v := .ty "str") (by rfl) T.str (by decide +kernel) rfl) pa_nil))))
   (pss_one (ps_ret (pe_and (pe_callB call_isi (by rfl) T.isinstance (by decide +kernel) (pa_cons (pv 0) (pa_cons (pe_bltn (v := .ty "str") (by rfl) T.str (by decide +kernel) rfl) pa_nil))) (pe_one (pe_cmpR (op_eqD hr.units) (pv 0) (pv 1) (nomark _))))))
   pss_nil)
  (pss_cons (ps_if (PW.pt (pw_or (pt_cmpR op_ne (pe_callB call_isi (by rfl) T.isinstance (by decide +kernel) (pa_cons (pv 0) (pa_cons (pe_bltn (v := .ty "list") (by rfl) T.list (by decide +kernel) rfl) pa_nil))) (pe_callB call_isi (by rfl) T.isinstance (by decide +kernel) (pa_cons (pv 1) (pa_cons (pe_bltn (v := .ty "list") (by rfl) T.list (by decide +kernel) rfl) pa_nil))) (nomark _)) (pw_or (pt_not (pt_val (pe_callB call_isiT (by rfl) T.isinstance (by decide +kernel) (pa_cons (pv 0) (pa_cons (pe_tup (pa_cons (pe_bltn (v := .ty "list") (by rfl) T.list (by decide +kernel) rfl) (pa_cons (pe_bltn (v := .ty "tuple") (by rfl) T.tuple (by decide +kernel) rfl) pa_nil))) pa_nil))))) (pw_or1 (pt_cmpR op_ne (pe_callB (show CallR _ (Value.builtin "len") (fun xs H Q => ∃ p ys, xs = [L2.V.ref p] ∧ (SqL K H p ys ∨ SqT K H p ys) ∧ Q (L2.V.int ys.length) H) from call_len_seq) (by rfl) T.len (by decide +kernel) (pa_cons (pv 0) pa_nil)) (pe_callB (show CallR _ (Value.builtin "len") (fun xs H Q => ∃ p ys, xs = [L2.V.ref p] ∧ (SqL K H p ys ∨ SqT K H p ys) ∧ Q (L2.V.int ys.length) H) from call_len_seq) (by rfl) T.len (by decide +kernel) (pa_cons (pv 1) pa_nil)) (nomark _))))))
   (pss_one (ps_ret pe_bl))
   pss_nil)
  (pss_one (ps_ret (pe_callB (cr_all rfl) (by rfl) T.all (by decide +kernel) (pa_cons (pe_lc (own := [("k", 2)]) rfl sc_law_same.nd (pi_range1 rfl T.range (pa_cons (pe_callB (show CallR _ (Value.builtin "len") (fun xs H Q => ∃ p ys, xs = [L2.V.ref p] ∧ (SqL K H p ys ∨ SqT K H p ys) ∧ Q (L2.V.int ys.length) H) from call_len_seq) (by rfl) T.len (by decide +kernel) (pa_cons (pv 1) pa_nil)) pa_nil)) (blkOk_by (N := ["one", "other", "k"]) (sc := defScope s_law_same) (by decide +kernel)) (fun _ _ _ _ _ => (pg_name (i := 2) sc_law_same.nd rfl (Or.inl rfl))) (fun _ _ _ _ _ => pts_nil) (fun _ _ _ _ _ => (pe_call IH (hr.mono (by decide)) (by rfl) T.law_same.mg T.law_same.fn.kp T.law_same.bd .nil pass0 (pa_cons (pe_ix (show IxR _ (rIxT K) from ix_tup) (pv 0) (pv 2) (fun _ _ => rfl)) (pa_cons (pe_ix (show IxR _ (rIxT K) from ix_tup) (pv 1) (pv 2) (fun _ _ => rfl)) pa_nil))))) pa_nil))))))))), fun ds G R hF => ?_⟩
  · obtain ⟨x, rfl, _⟩ := h
    rfl
  · obtain ⟨x, rfl, ⟨xs, rfl, hl, hx⟩, q⟩ := hF
    walk_at "go"
    change WS K _ [some _, some _, none] _ _
    walk_at "ww"
    refine ⟨rfl, by decide, (show isK G (D.tup xs) "tuple" from rfl), (show kitBs "tuple" ["list", "tuple"] = some true by decide), ?_⟩
    walk_at "ww"
    refine we_lcmap (own_name (by decide)) (wi_rng1 (by
      walk_at "ww"
      refine ⟨_, rfl, by omega, by omega, List.range xs.length, fun i : Nat => D.int ((0 : Int) + i), fun _ => D.bl true, ?_, trivial, by rw [List.length_range]; omega, fun i hi => ?_, ?_⟩
      · rw [Int.toNat_natCast]
        rfl
      · have hil : i < xs.length := List.mem_range.mp hi
        walk_at "ww"
        refine rd_ixT (atZ (by omega) (by rw [show ((0 : Int) + (i : Nat)).toNat = i by omega]; exact List.getElem?_eq_getElem hil)) ?_
        walk_at "ww"
        refine rd_ixT (atZ (by omega) (by rw [show ((0 : Int) + (i : Nat)).toNat = i by omega]; exact List.getElem?_eq_getElem hil)) ?_
        walk_at "ww"
        exact ⟨_, rfl, hx _ (List.getElem_mem hil), rfl, rfl⟩
      · walk_at "cold"
        refine rc_all (ns := (List.range xs.length).map fun _ => true) (by rw [List.map_map]; exact isR) ?_
        have e : (((List.range xs.length).map fun _ => true).all id) = true := by simp
        rw [e]
        exact .inl q))
theorem ok_law_sameL (T : Top K mg) : FnOk P w K mg base CX0 3 T.a_law_same T.d_law_same ["one", "other"] (SpD K (F_same fun d => ∃ ds, d = .lst ds ∧ ds.length ≤ 1000 ∧ ∀ x ∈ ds, PlainT x)) := by
  have IH := ok_law_same (P := P) (w := w) (base := base) T
  refine fn_ok T.law_same.fn sc_law_same (fun ds G R h => ?_) fun cdv A outer s H E hr => ⟨_, (pss_cons (ps_if (pt_cmpR op_isN (pv 1) pe_non (nomark _))
   (pss_one (ps_ret (pe_cmpR op_isN (pv 0) pe_non (nomark _))))
   pss_nil)
  (pss_cons (ps_if (pt_val (pe_callB call_isi (by rfl) T.isinstance (by decide +kernel) (pa_cons (pv 1) (pa_cons (pe_bltn (v := .ty "bool") (by rfl) T.bool (by decide +kernel) rfl) pa_nil))))
   (pss_one (ps_ret (pe_and (pe_callB call_isi (by rfl) T.isinstance (by decide +kernel) (pa_cons (pv 0) (pa_cons (pe_bltn (v := .ty "bool") (by rfl) T.bool (by decide +kernel) rfl) pa_nil))) (pe_one (pe_cmpR (op_eqD hr.units) (pv 0) (pv 1) (nomark _))))))
   pss_nil)
  (pss_cons (ps_if (pt_val (pe_callB call_isi (by rfl) T.isinstance (by decide +kernel) (pa_cons (pv 1) (pa_cons (pe_bltn (v := .ty "int") (by rfl) T.int (by decide +kernel) rfl) pa_nil))))
   (pss_one (ps_ret (pe_and (pe_callB call_isi (by rfl) T.isinstance (by decide +kernel) (pa_cons (pv 0) (pa_cons (pe_bltn (v := .ty "int") (by rfl) T.int (by decide +kernel) rfl) pa_nil))) (pe_and (pe_not (pe_callB call_isi (by rfl) T.isinstance (by decide +kernel) (pa_cons (pv 0) (pa_cons (pe_bltn (v := .ty "bool") (by rfl) T.bool (by decide +kernel) rfl) pa_nil)))) (pe_one (pe_cmpR (op_eqD hr.units) (pv 0) (pv 1) (nomark _)))))))
   pss_nil)
  (pss_cons (ps_if (pt_val (pe_callB call_isi (by rfl) T.isinstance (by decide +kernel) (pa_cons (pv 1) (pa_cons (pe_bltn (v := .ty "str") (by rfl) T.str (by decide +kernel) rfl) pa_nil))))
   (pss_one (ps_ret (pe_and (pe_callB call_isi (by rfl) T.isinstance (by decide +kernel) (pa_cons (pv 0) (pa_cons (pe_bltn (v := .ty "str") (by rfl) T.str (by decide +kernel) rfl) pa_nil))) (pe_one (pe_cmpR (op_eqD hr.units) (pv 0) (pv 1) (nomark _))))))
   pss_nil)
  (pss_cons (ps_if (PW.pt (pw_or (pt_cmpR op_ne (pe_callB call_isi (by rfl) T.isinstance (by decide +kernel) (pa_cons (pv 0) (pa_cons (pe_bltn (v := .ty "list") (by rfl) T.list (by decide +kernel) rfl) pa_nil))) (pe_callB call_isi (by rfl) T.isinstance (by decide +kernel) (pa_cons (pv 1) (pa_cons (pe_bltn (v := .ty "list") (by rfl) T.list (by decide +kernel) rfl) pa_nil))) (nomark _)) (pw_or (pt_not (pt_val (pe_callB call_isiT (by rfl) T.isinstance (by decide +kernel) (pa_cons (pv 0) (pa_cons (pe_tup (pa_cons (pe_bltn (v := .ty "list") (by rfl) T.list (by decide +kernel) rfl) (pa_cons (pe_bltn (v := .ty "tuple") (by rfl) T.tuple (by decide +kernel) rfl) pa_nil))) pa_nil))))) (pw_or1 (pt_cmpR op_ne (pe_callB (show CallR _ (Value.builtin "len") (fun xs H Q => ∃ p ys, xs = [L2.V.ref p] ∧ (SqL K H p ys ∨ SqT K H p ys) ∧ Q (L2.V.int ys.length) H) from call_len_seq) (by rfl) T.len (by decide +kernel) (pa_cons (pv 0) pa_nil)) (pe_callB (show CallR _ (Value.builtin "len") (fun xs H Q => ∃ p ys, xs = [L2.V.ref p] ∧ (SqL K H p ys ∨ SqT K H p ys) ∧ Q (L2.V.int ys.length) H) from call_len_seq) (by rfl) T.len (by decide +kernel) (pa_cons (pv 1) pa_nil)) (nomark _))))))
   (pss_one (ps_ret pe_bl))
   pss_nil)
  (pss_one (ps_ret (pe_callB (cr_all rfl) (by rfl) T.all (by decide +kernel) (pa_cons (pe_lc (own := [("k", 2)]) rfl sc_law_same.nd (pi_range1 rfl T.range (pa_cons (pe_callB (show CallR _ (Value.builtin "len") (fun xs H Q => ∃ p ys, xs = [L2.V.ref p] ∧ (SqL K H p ys ∨ SqT K H p ys) ∧ Q (L2.V.int ys.length) H) from call_len_seq) (by rfl) T.len (by decide +kernel) (pa_cons (pv 1) pa_nil)) pa_nil)) (blkOk_by (N := ["one", "other", "k"]) (sc := defScope s_law_same) (by decide +kernel)) (fun _ _ _ _ _ => (pg_name (i := 2) sc_law_same.nd rfl (Or.inl rfl))) (fun _ _ _ _ _ => pts_nil) (fun _ _ _ _ _ => (pe_call IH (hr.mono (by decide)) (by rfl) T.law_same.mg T.law_same.fn.kp T.law_same.bd .nil pass0 (pa_cons (pe_ix (show IxR _ (rIxL K) from ix_list) (pv 0) (pv 2) (fun _ _ => rfl)) (pa_cons (pe_ix (show IxR _ (rIxL K) from ix_list) (pv 1) (pv 2) (fun _ _ => rfl)) pa_nil))))) pa_nil))))))))), fun ds G R hF => ?_⟩
  · obtain ⟨x, rfl, _⟩ := h
    rfl
  · obtain ⟨x, rfl, ⟨xs, rfl, hl, hx⟩, q⟩ := hF
    walk_at "go"
    change WS K _ [some _, some _, none] _ _
    walk_at "ww"
    refine ⟨rfl, by decide, (show isK G (D.lst xs) "list" from rfl), (show kitBs "list" ["list", "tuple"] = some true by decide), ?_⟩
    walk_at "ww"
    refine we_lcmap (own_name (by decide)) (wi_rng1 (by
      walk_at "ww"
      refine ⟨_, rfl, by omega, by omega, List.range xs.length, fun i : Nat => D.int ((0 : Int) + i), fun _ => D.bl true, ?_, trivial, by rw [List.length_range]; omega, fun i hi => ?_, ?_⟩
      · rw [Int.toNat_natCast]
        rfl
      · have hil : i < xs.length := List.mem_range.mp hi
        walk_at "ww"
        refine rd_ixL isR (atZ (by omega) (by rw [show ((0 : Int) + (i : Nat)).toNat = i by omega]; exact List.getElem?_eq_getElem hil)) ?_
        walk_at "ww"
        refine rd_ixL isR (atZ (by omega) (by rw [show ((0 : Int) + (i : Nat)).toNat = i by omega]; exact List.getElem?_eq_getElem hil)) ?_
        walk_at "ww"
        exact ⟨_, rfl, hx _ (List.getElem_mem hil), rfl, rfl⟩
      · walk_at "cold"
        refine rc_all (ns := (List.range xs.length).map fun _ => true) (by rw [List.map_map]; exact isR) ?_
        have e : (((List.range xs.length).map fun _ => true).all id) = true := by simp
        rw [e]
        exact .inl q))
end

section
variable {P : Program} {w : World} {K : PySem.W.Frag} {mg : Str → Option Value} {base : Heap}
theorem placeOf_nl {t : List Nat} {i : Nat} (h : t[i]? = some 10) : Tx.placeOf t (i + 1) = ((Tx.placeOf t i).1 + 1, 1) := by
  unfold Tx.placeOf
  obtain ⟨a, p, e⟩ := Tx.lines_split (t.take i)
  rw [List.take_add_one, h, Option.toList_some, Tx.lines_app _ [10] e (show Tx.lines [10] = [] :: [[]] from rfl), e]
  simp
theorem placeOf_c {t : List Nat} {i c : Nat} (h : t[i]? = some c) (hc : c ≠ 10) : Tx.placeOf t (i + 1) = ((Tx.placeOf t i).1, (Tx.placeOf t i).2 + 1) := by
  unfold Tx.placeOf
  obtain ⟨a, p, e⟩ := Tx.lines_split (t.take i)
  rw [List.take_add_one, h, Option.toList_some, Tx.lines_app _ [c] e (Tx.lines_c hc (r := []) rfl), e]
  simp
def F_law_place : FD := fun ds G R => ∃ (t : List Nat) (a : Nat), ds = [.str (S t), .int (a : Nat)] ∧ t.length ≤ 90000 ∧ R (plD (Tx.placeOf t a)) G
theorem ok_law_place (T : Top K mg) : FnOk P w K mg base CX0 1 T.a_law_place T.d_law_place ["text", "at"] (SpD K F_law_place) := by
  refine fn_ok T.law_place.fn sc_law_place (fun ds G R h => ?_) fun cdv A outer s H E hr => ⟨_, (pss_cons (ps_asg (pe_tup (pa_cons pe_int (pa_cons pe_int pa_nil))) (show PG _ _ (gTup K 2 _) from pg_tup rfl (pgs_cons (pg_name (i := 2) sc_law_place.nd rfl (Or.inl rfl)) (pgs_cons (pg_name (i := 3) sc_law_place.nd rfl (Or.inl rfl)) pgs_nil))))
  (pss_cons (ps_for PassesOwn.never rfl (pi_str (pe_slice sl_str (pv 0) po_none (po_some (pv 1)))) (pg_name (i := 4) sc_law_place.nd rfl (Or.inl rfl))
   (pss_one (ps_if (pt_cmpR op_eq (pv 4) pe_str (nomark _))
   (pss_one (ps_par (i := 2) (j := 3) rfl sc_law_place.nd rfl rfl (by decide) rfl rfl (pa_cons (pe_op op_add (pv 2) pe_int) (pa_cons pe_int pa_nil)) (by rfl)))
   (pss_one (ps_set (i := 3) sc_law_place.nd rfl (Or.inl rfl) (pe_op op_add (pv 3) pe_int))))))
  (pss_one (ps_ret (pe_tup (pa_cons (pv 2) (pa_cons (pv 3) pa_nil))))))), fun ds G R hF => ?_⟩
  · obtain ⟨t, a, rfl, _⟩ := h
    rfl
  · obtain ⟨t, a, rfl, hl, q⟩ := hF
    walk_at "go"
    change WS K _ [some _, some _, none, none, none] _ _
    walk_at "ww"
    refine ws_for (wi_strT (by
      walk_at "ww"
      · rw [cutL_on]
        refine ⟨fun i ρ G' => ∃ (x4 : Option D), ρ = [some (.str (S t)), some (.int (a : Nat)), some (.int ((Tx.placeOf t i).1 : Nat)), some (.int ((Tx.placeOf t i).2 : Nat)), x4] ∧ G' = G, ⟨none, rfl, rfl⟩, fun _ _ _ _ => trivial, ?_, ?_⟩
        · rintro i d ρ G' hi ⟨x4, rfl, rfl⟩
          obtain ⟨c, hc, rfl⟩ := map_get hi
          have hi2 := (List.getElem?_eq_some_iff.mp hc).1
          have hc2 : t[i]? = some c := by
            rw [List.getElem?_take] at hc
            split at hc
            · exact hc
            · exact nomatch hc
          walk_at "ww"
          refine ite_P (fun h1 => ?_) (fun h1 => ?_)
          · obtain rfl : c = 10 := by simpa using h1
            walk_at "ww"
            exact ⟨_, by rw [placeOf_nl hc2]; rfl, rfl⟩
          · walk_at "ww"
            exact ⟨_, by rw [placeOf_c hc2 (fun z => h1 (by rw [z]))]; rfl, rfl⟩
        · rintro ρ G' ⟨x4, rfl, rfl⟩
          rw [List.length_map] 
          walk_at "ww"
          have e : Tx.placeOf t (t.take a).length = Tx.placeOf t a := by
            unfold Tx.placeOf
            rw [List.length_take]
            by_cases h : a ≤ t.length
            · rw [Nat.min_eq_left h]
            · rw [Nat.min_eq_right (by omega), List.take_of_length_le (Nat.le_refl _), List.take_of_length_le (by omega)]
          rw [e]
          exact .inl q
      · omega))
def F_law_row : FD := fun ds G R => ∃ (t : List Nat) (sp : List Tx.Span), ds = [.str (S t), .lst (sp.map spD)] ∧ t.length ≤ 90000 ∧ sp.length ≤ 40000 ∧ R (.lst (sp.map (chD t))) G
theorem ok_law_row (T : Top K mg) : FnOk P w K mg base CX0 2 T.a_law_row T.d_law_row ["text", "spans"] (SpD K F_law_row) := by
  refine fn_ok T.law_row.fn sc_law_row (fun ds G R h => ?_) fun cdv A outer s H E hr => ⟨_, (pss_one (ps_ret (pe_lc (own := [("first", 2), ("second", 3), ("put", 4)]) rfl sc_law_row.nd (pi_list (pv 1)) (blkOk_by (N := ["text", "spans", "first", "second", "put"]) (sc := defScope s_law_row) (by decide +kernel)) (fun _ _ _ _ _ => (show PG _ _ (gTup K 3 _) from pg_tup rfl (pgs_cons (pg_name (i := 2) sc_law_row.nd rfl (Or.inl rfl)) (pgs_cons (pg_name (i := 3) sc_law_row.nd rfl (Or.inl rfl)) (pgs_cons (pg_name (i := 4) sc_law_row.nd rfl (Or.inl rfl)) pgs_nil))))) (fun _ _ _ _ _ => pts_nil) (fun _ _ _ _ _ => (pe_op (show OpR _ _ (rCatT K) from op_catT) (pe_op (show OpR _ _ (rCatT K) from op_catT) (pe_call (ok_law_place T) (hr.mono (by decide)) (by rfl) T.law_place.mg T.law_place.fn.kp T.law_place.bd .nil pass0 (pa_cons (pv 0) (pa_cons (pv 2) pa_nil))) (pe_call (ok_law_place T) (hr.mono (by decide)) (by rfl) T.law_place.mg T.law_place.fn.kp T.law_place.bd .nil pass0 (pa_cons (pv 0) (pa_cons (pv 3) pa_nil)))) (pe_tup (pa_cons (pv 4) pa_nil))))))), fun ds G R hF => ?_⟩
  · obtain ⟨t, sp, rfl, _⟩ := h
    rfl
  · obtain ⟨t, sp, rfl, hl, hn, q⟩ := hF
    walk_at "go"
    change WS K _ [some _, some _, none, none, none] _ _
    walk_at "ww"
    refine we_lcmap (own_tup (owns_cons (by decide) (owns_cons (by decide) (owns_cons (by decide) owns_nil)))) (wi_list (we_var rfl ⟨_, isR, sp, spD, chD t, rfl, isR, by omega, fun x hx => ?_, ?_⟩))
    · obtain ⟨f, s', p⟩ := x
      walk_at "ww"
      refine ⟨t, f, rfl, hl, ?_⟩
      walk_at "ww"
      refine ⟨t, s', rfl, hl, ?_⟩
      walk_at "ww"
      exact ⟨rfl, rfl⟩
    · walk_at "cold"
      exact .inl q
/-- a cell of numbers that changes -/
abbrev nC (ns : List Int) : Cell := .lst (ns.map D.int)
theorem pk0 {B : Cells} {k : Nat} {x : Cell} (h : k < B.length) : (B.set k x)[k]? = some x := List.getElem?_set_self h
theorem pkm {B more : Cells} {k : Nat} {x : Cell} (h : k < B.length) : (B.set k x ++ more)[k]? = some x := by
  rw [List.getElem?_append_left (by rw [List.length_set]; exact h)]
  exact pk0 h
theorem psm {B more : Cells} {k : Nat} {x y : Cell} (h : k < B.length) : (B.set k x ++ more).set k y = B.set k y ++ more := by
  rw [List.set_append_left _ _ (by rw [List.length_set]; exact h), List.set_set]
theorem pget {B : Cells} {k : Nat} {x c : Cell} : (B.set k x ++ [c])[B.length]? = some c := by
  have := get_last (a := B.set k x) (c := c)
  rw [List.length_set] at this
  exact this
theorem pset {B : Cells} {k : Nat} {x c d : Cell} : (B.set k x ++ [c]).set B.length d = B.set k x ++ [d] := by
  have := set_last (a := B.set k x) (c := c) (d := d)
  rw [List.length_set] at this
  exact this
theorem Gc.pool {G more : Cells} {R : D → Cells → Prop} {d : D} {k : Nat} {ns : List Int} (h : Cl G.length d) (q : R d (G.set k (nC ns))) : Gc G R d (G.set k (nC ns) ++ more) := by
  have e : (G.set k (nC ns) ++ more).take G.length = G.set k (nC ns) := by
    have := List.take_left' (l₁ := G.set k (nC ns)) (l₂ := more) rfl
    rw [List.length_set] at this
    exact this
  refine .inr ⟨by rw [List.length_append, List.length_set]; exact Nat.le_add_right _ _, h, fun c hc => ?_, by rw [e]; exact q⟩
  rw [e] at hc
  rcases List.mem_or_eq_of_mem_set hc with z | z
  · exact .inl z
  · subst z
    exact .inr (Cls.map (fun i => .int i) _)
def Sg (c : Nat) : Prop := c = 10 ∨ Tx.isSign c = true
instance : DecidablePred Sg := fun c => inferInstanceAs (Decidable (c = 10 ∨ Tx.isSign c = true))
theorem wt_yes {ρ : DEnv} {G : Cells} {QT : Bool → Cells → Prop} (q : QT true G) : WT K tYes ρ G QT := fun w σ ok R p => p true w G q ok (Fut.refl w)
theorem flat1 : ∀ l : List Nat, (l.map fun c => [c]).flatten = l
  | [] => rfl
  | c :: r => by rw [List.map_cons, List.flatten_cons, flat1 r]; rfl
theorem sum1 : ∀ l : List Nat, ((l.map fun c => [c]).map (·.length)).sum = l.length
  | [] => rfl
  | c :: r => by rw [List.map_cons, List.map_cons, List.sum_cons, sum1 r, List.length_cons, Nat.add_comm]; rfl
def F_law_string : FD := fun ds G R => ∃ (k : Nat) (ns : List Int) (n : Nat), ds = [.ptr k, .int (n : Nat)] ∧ n ≤ 100 ∧ G[k]? = some (nC ns) ∧ Pool ns ∧
  ∀ (l : List Nat) (ns' : List Int), l.length ≤ n → (∀ c ∈ l, Sg c) → Pool ns' → R (.str (S l)) (G.set k (nC ns'))
theorem ok_law_string (T : Top K mg) : FnOk P w K mg base CX0 2 T.a_law_string T.d_law_string ["pool", "most"] (SpD K F_law_string) := by
  refine fn_ok T.law_string.fn sc_law_string (fun ds G R h => ?_) fun cdv A outer s H E hr => ⟨_, (pss_cons (ps_set (i := 2) sc_law_string.nd rfl (Or.inr rfl) pe_str)
  (pss_one (ps_ret (pe_join pe_str (pe_lc (own := [("k", 3)]) rfl sc_law_string.nd (pi_range1 rfl T.range (pa_cons (pe_call (ok_law_pick T) (hr.mono (by decide)) (by rfl) T.law_pick.mg T.law_pick.fn.kp T.law_pick.bd .nil pass0 (pa_cons (pv 0) (pa_cons (pe_op op_add (pv 1) pe_int) pa_nil))) pa_nil)) (blkOk_by (N := ["pool", "most", "signs", "k"]) (sc := defScope s_law_string) (by decide +kernel)) (fun _ _ _ _ _ => (pg_name (i := 3) sc_law_string.nd rfl (Or.inl rfl))) (fun _ _ _ _ _ => pts_nil) (fun _ _ _ _ _ => (pe_ix ix_str (pv 2) (pe_call (ok_law_pick T) (hr.mono (by decide)) (by rfl) T.law_pick.mg T.law_pick.fn.kp T.law_pick.bd .nil pass0 (pa_cons (pv 0) (pa_cons (pe_callB call_len_str (by rfl) T.len (by decide +kernel) (pa_cons (pv 2) pa_nil)) pa_nil))) (fun _ _ => rfl)))))))), fun ds G R hF => ?_⟩
  · obtain ⟨k, ns, n, rfl, _⟩ := h
    rfl
  · obtain ⟨k, ns, n, rfl, hn, hk, hP, q⟩ := hF
    have hkl := (List.getElem?_eq_some_iff.mp hk).1
    walk_at "go"
    change WS K _ [some _, some _, none, none] _ _
    walk_at "ww"
    refine we_lc (own_name (by decide)) (wi_rng1 (by
      walk_at "ww"
      refine ⟨k, ns, _, rfl, by omega, hk, hP, fun m ns1 m0 m1 hP1 => ?_⟩
      walk_at "ww"
      refine ⟨_, rfl, by omega, by omega, fun i acc G' => ∃ (l : List Nat) (ns' : List Int), acc = l.map (fun c => D.str (S [c])) ∧ l.length = i ∧ (∀ c ∈ l, Sg c) ∧ Pool ns' ∧ G' = G.set k (nC ns'), ⟨[], ns1, rfl, rfl, (fun c h => nomatch h), hP1, rfl⟩, fun _ _ _ _ => trivial, ?_, ?_⟩
      · rintro i d acc G' hi ⟨l, ns2, rfl, hl, hs, hP2, rfl⟩
        obtain ⟨hi, rfl⟩ := rgD_get' hi
        walk_at "ww"
        refine wt_yes ?_
        walk_at "ww"
        · refine ⟨k, ns2, _, rfl, by simp, pk0 hkl, hP2, fun z ns3 z0 z1 hP3 => ?_⟩
          rw [List.set_set]
          walk_at "ww"
          have z2 : z.toNat < 18 := by simp at z1; omega
          obtain ⟨c, hc⟩ : ∃ c, [97, 98, 32, 10, 126, 45, 90, 92, 34, 10, 48, 95, 61, 98, 10, 97, 32, 120][z.toNat]? = some c := ⟨_, List.getElem?_eq_getElem z2⟩
          have hcs : Sg c := (by decide : ∀ c ∈ [97, 98, 32, 10, 126, 45, 90, 92, 34, 10, 48, 95, 61, 98, 10, 97, 32, 120], Sg c) c (List.mem_of_getElem? hc)
          refine rd_ixT' (by decide) z0 hc ⟨by rw [List.length_map]; exact lt_size (by omega), l ++ [c], ns3, by rw [List.map_append]; rfl, by rw [List.length_append, hl]; rfl, fun d hd => ?_, hP3, rfl⟩
          rcases List.mem_append.mp hd with h | h
          · exact hs d h
          · rw [List.mem_singleton.mp h]
            exact hcs
        · decide
      · rintro acc G' ⟨l, ns2, rfl, hl, hs, hP2, rfl⟩
        rw [rgD_len] at hl
        walk_at "cold"
        refine rm_joinT (ps := l.map fun c => [c]) (by rw [List.map_map]; exact isR) ?_ ?_
        · rw [sum1]
          omega
        · have e : (l.map fun c => [c]).flatten = l := flat1 l
          rw [e]
          exact .inl (q l ns2 (by omega) hs hP2)))
def F_law_behind : FD := fun ds G R => ∃ (t : List Nat) (sp : List Tx.Span), ds = [.str (S t), .lst (sp.map spD)] ∧ t.length ≤ 90000 ∧ Tx.Val t.length 0 sp ∧ (Tx.replaced t 0 sp).length ≤ 90000 ∧ R (.str (S (Tx.replaced t 0 sp))) G
theorem ok_law_behind (T : Top K mg) : FnOk P w K mg base CX0 1 T.a_law_behind T.d_law_behind ["text", "spans"] (SpD K F_law_behind) := by
  refine fn_ok T.law_behind.fn sc_law_behind (fun ds G R h => ?_) fun cdv A outer s H E hr => ⟨_, (pss_cons (ps_asg (pe_tup (pa_cons pe_str (pa_cons pe_int pa_nil))) (show PG _ _ (gTup K 2 _) from pg_tup rfl (pgs_cons (pg_name (i := 2) sc_law_behind.nd rfl (Or.inl rfl)) (pgs_cons (pg_name (i := 3) sc_law_behind.nd rfl (Or.inl rfl)) pgs_nil))))
  (pss_cons (ps_for PassesOwn.never rfl (pi_list (pv 1)) (show PG _ _ (gTup K 3 _) from pg_tup rfl (pgs_cons (pg_name (i := 4) sc_law_behind.nd rfl (Or.inl rfl)) (pgs_cons (pg_name (i := 5) sc_law_behind.nd rfl (Or.inl rfl)) (pgs_cons (pg_name (i := 6) sc_law_behind.nd rfl (Or.inl rfl)) pgs_nil))))
   (pss_one (ps_par (i := 2) (j := 3) rfl sc_law_behind.nd rfl rfl (by decide) rfl rfl (pa_cons (pe_op op_add_str (pe_op op_add_str (pv 2) (pe_slice sl_str (pv 0) (po_some (pv 3)) (po_some (pv 4)))) (pv 6)) (pa_cons (pv 5) pa_nil)) (by rfl))))
  (pss_one (ps_ret (pe_op op_add_str (pv 2) (pe_slice sl_str (pv 0) (po_some (pv 3)) po_none)))))), fun ds G R hF => ?_⟩
  · obtain ⟨t, sp, rfl, _⟩ := h
    rfl
  · obtain ⟨t, sp, rfl, hl, hv, hl2, q⟩ := hF
    walk_at "go"
    change WS K _ [some _, some _, none, none, none, none, none] _ _
    walk_at "ww"
    refine ws_for (wi_list (we_var rfl ⟨_, isR, fun i ρ G' => ∃ (e : Nat) (told : List Nat) (x4 x5 x6 : Option D), ρ = [some (.str (S t)), some (.lst (sp.map spD)), some (.str (S told)), some (.int (e : Nat)), x4, x5, x6] ∧ G' = G ∧ e ≤ t.length ∧ Tx.Val t.length e (sp.drop i) ∧ told ++ Tx.replaced t e (sp.drop i) = Tx.replaced t 0 sp,
      ⟨0, [], none, none, none, rfl, rfl, Nat.zero_le _, hv, rfl⟩, fun i ρ G' _ => isR, ?_, ?_⟩))
    · rintro i d ρ G' hi ⟨e, told, x4, x5, x6, rfl, rfl, he, hvi, hq⟩
      obtain ⟨⟨f, s', p⟩, hx, rfl⟩ := map_get hi
      rw [drop_at hx] at hvi hq
      obtain ⟨v1, v2, v3, v4⟩ := hvi
      have hq : told ++ (Tx.cut t e f ++ p ++ Tx.replaced t s' (sp.drop (i + 1))) = Tx.replaced t 0 sp := hq
      have hlen := congrArg List.length hq
      simp only [List.length_append] at hlen
      walk_at "ww"
      rw [cutL_nn v1 (by omega)]
      walk_at "ww"
      · refine ⟨s', told ++ Tx.cut t e f ++ p, _, _, _, rfl, rfl, v3, v4.mono (Nat.le_succ _), ?_⟩
        rw [← hq]
        simp [List.append_assoc]
      all_goals ((try (rw [cutL_nn v1 (by omega)])); (try (simp only [List.length_append])); omega)
    · rintro ρ G' ⟨e, told, x4, x5, x6, rfl, rfl, he, hvi, hq⟩
      rw [List.length_map, List.drop_length] at hq
      have hq : told ++ t.drop e = Tx.replaced t 0 sp := hq
      have hlen := congrArg List.length hq
      simp only [List.length_append, List.length_drop] at hlen
      walk_at "ww"
      rw [cutL_no he]
      walk_at "ww"
      · rw [hq]
        exact .inl q
      all_goals ((try (rw [cutL_no he])); (try (simp only [List.length_append, List.length_drop])); omega)
def F_law_asked : FD := fun ds G R => ∃ (t : List Nat) (sp : List Tx.Span) (a b : Nat), ds = [.str (S t), .lst (sp.map (chD t)), .int (a : Nat)] ∧ t.length ≤ 90000 ∧ Tx.isText t = true ∧ Tx.Val t.length 0 sp ∧ Puts sp ∧ sp.length ≤ 40000 ∧ (Tx.replaced t 0 sp).length ≤ 90000 ∧ Tx.isText (Tx.replaced t 0 sp) = true ∧
  a ≤ t.length ∧ Tx.moved sp a 0 = (b : Nat) ∧ R (plD (Tx.placeOf (Tx.replaced t 0 sp) b)) G
theorem ok_law_asked (T : Top K mg) : FnOk P w K mg base CX0 7 T.a_law_asked T.d_law_asked ["text", "row", "at"] (SpD K F_law_asked) := by
  refine fn_ok T.law_asked.fn sc_law_asked (fun ds G R h => ?_) fun cdv A outer s H E hr => ⟨_, (pss_cons (ps_asg (pe_call (ok_law_place T) (hr.mono (by decide)) (by rfl) T.law_place.mg T.law_place.fn.kp T.law_place.bd .nil pass0 (pa_cons (pv 0) (pa_cons (pv 2) pa_nil))) (show PG _ _ (gTup K 2 _) from pg_tup rfl (pgs_cons (pg_name (i := 3) sc_law_asked.nd rfl (Or.inl rfl)) (pgs_cons (pg_name (i := 4) sc_law_asked.nd rfl (Or.inl rfl)) pgs_nil))))
  (pss_one (ps_ret (pe_call (ok_mapped T) (hr.mono (by decide)) (by rfl) T.mapped.mg T.mapped.fn.kp T.mapped.bd .nil pass0 (pa_cons (pv 0) (pa_cons (pv 1) (pa_cons (pv 3) (pa_cons (pv 4) pa_nil)))))))), fun ds G R hF => ?_⟩
  · obtain ⟨t, sp, a, b, rfl, _⟩ := h
    rfl
  · obtain ⟨t, sp, a, b, rfl, hl, ht, hv, hp, hn, hl2, ht2, ha, hb, q⟩ := hF
    walk_at "go"
    change WS K _ [some _, some _, some _, none, none] _ _
    walk_at "ww"
    refine ⟨t, a, rfl, hl, ?_⟩
    walk_at "ww"
    exact ⟨t, sp, a, b, rfl, hl, ht, hv, hp, hn, hl2, ht2, ha, hb, .inl q⟩
end

section
variable {P : Program} {w : World} {K : PySem.W.Frag} {mg : Str → Option Value} {base : Heap}
/-- a row that the law makes for a small text -/
structure SmallSp (t : List Nat) (n : Nat) (sp : List Tx.Span) : Prop where
  val : Tx.Val t.length 0 sp
  len : sp.length ≤ n + 1
  put : ∀ x ∈ sp, x.2.2.length ≤ 4 + (x.2.1 - x.1) ∧ ∀ c ∈ x.2.2, Sg c
theorem lit_get {α : Type} {enc : α → D} {l : List α} {z : Int} (h0 : 0 ≤ z) (h : z < (l.length : Nat)) : ∃ a ∈ l, atI (l.map enc) z = some (enc a) := by
  have h1 : z.toNat < l.length := by omega
  exact ⟨l[z.toNat], List.getElem_mem h1, atZ h0 (by rw [List.getElem?_map, List.getElem?_eq_getElem h1]; rfl)⟩
def F_law_spans : FD := fun ds G R => ∃ (t : List Nat) (k : Nat) (ns : List Int) (n : Nat), ds = [.ptr k, .str (S t), .int (n : Nat)] ∧ t.length ≤ 40 ∧ n ≤ 10 ∧ (∀ c ∈ t, Sg c) ∧ G[k]? = some (nC ns) ∧ Pool ns ∧
  ∀ (sp : List Tx.Span) (ns' : List Int), SmallSp t n sp → Pool ns' → R (.lst (sp.map spD)) (G.set k (nC ns'))
theorem ok_law_spans (T : Top K mg) : FnOk P w K mg base CX0 3 T.a_law_spans T.d_law_spans ["pool", "text", "most"] (SpD K F_law_spans) := by
  refine fn_ok T.law_spans.fn sc_law_spans (fun ds G R h => ?_) fun cdv A outer s H E hr => ⟨_, (pss_cons (ps_par3 (i := 3) (j := 4) (l := 5) rfl sc_law_spans.nd rfl rfl rfl (by decide) (by decide) (by decide) rfl rfl rfl (pa_cons (pe_lst pa_nil) (pa_cons pe_int (pa_cons (pe_callB call_len_str (by rfl) T.len (by decide +kernel) (pa_cons (pv 1) pa_nil)) pa_nil))) (by rfl))
  (pss_cons (ps_for PassesOwn.never rfl (pi_range1 rfl T.range (pa_cons (pe_call (ok_law_pick T) (hr.mono (by decide)) (by rfl) T.law_pick.mg T.law_pick.fn.kp T.law_pick.bd .nil pass0 (pa_cons (pv 0) (pa_cons (pe_op op_add (pv 2) pe_int) pa_nil))) pa_nil)) (pg_name (i := 6) sc_law_spans.nd rfl (Or.inl rfl))
   (pss_cons (ps_set (i := 7) sc_law_spans.nd rfl (Or.inl rfl) (pe_op op_add (pv 4) (pe_ix (show IxR _ (rIxL K) from ix_list) (pe_lst (pa_cons pe_int (pa_cons pe_int (pa_cons pe_int (pa_cons pe_int (pa_cons pe_int (pa_cons pe_int pa_nil))))))) (pe_call (ok_law_pick T) (hr.mono (by decide)) (by rfl) T.law_pick.mg T.law_pick.fn.kp T.law_pick.bd .nil pass0 (pa_cons (pv 0) (pa_cons pe_int pa_nil))) (fun _ _ => rfl))))
  (pss_cons (ps_set (i := 8) sc_law_spans.nd rfl (Or.inl rfl) (pe_op op_add (pv 7) (pe_ix (show IxR _ (rIxL K) from ix_list) (pe_lst (pa_cons pe_int (pa_cons pe_int (pa_cons pe_int (pa_cons pe_int (pa_cons pe_int (pa_cons pe_int pa_nil))))))) (pe_call (ok_law_pick T) (hr.mono (by decide)) (by rfl) T.law_pick.mg T.law_pick.fn.kp T.law_pick.bd .nil pass0 (pa_cons (pv 0) (pa_cons pe_int pa_nil))) (fun _ _ => rfl))))
  (pss_cons (ps_par (i := 9) (j := 10) rfl sc_law_spans.nd rfl rfl (by decide) rfl rfl (pa_cons (pe_call (ok_law_string T) (hr.mono (by decide)) (by rfl) T.law_string.mg T.law_string.fn.kp T.law_string.bd .nil pass0 (pa_cons (pv 0) (pa_cons pe_int pa_nil))) (pa_cons (pe_call (ok_law_pick T) (hr.mono (by decide)) (by rfl) T.law_pick.mg T.law_pick.fn.kp T.law_pick.bd .nil pass0 (pa_cons (pv 0) (pa_cons pe_int pa_nil))) pa_nil)) (by rfl))
  (pss_one (ps_if (pt_cmpR op_le (pv 7) (pv 5) (nomark _))
   (pss_cons (ps_set (i := 8) sc_law_spans.nd rfl (Or.inl rfl) (pe_callB (call_min2 rfl) (by rfl) T.min (by decide +kernel) (pa_cons (pv 8) (pa_cons (pv 5) pa_nil))))
  (pss_cons (ps_expr (pe_bm PySem.F.plainAttrs_list PySem.F.slot_list_append PySem.F.type_list_append mt_append (pv 3) (pa_cons (pe_tup (pa_cons (pv 7) (pa_cons (pv 8) (pa_cons (pe_ix (show IxR _ (rIxL K) from ix_list) (pe_lst (pa_cons (pv 9) (pa_cons (pv 9) (pa_cons (pv 9) (pa_cons (pv 9) (pa_cons pe_str (pa_cons (pe_slice sl_str (pv 1) (po_some (pv 7)) (po_some (pv 8))) pa_nil))))))) (pv 10) (fun _ _ => rfl)) pa_nil)))) pa_nil)))
  (pss_one (ps_set (i := 4) sc_law_spans.nd rfl (Or.inl rfl) (pe_op op_add (pv 8) pe_int)))))
   pss_nil))))))
  (pss_cons (ps_if (PW.pt (pw_and (pt_cmpR op_eq (pe_call (ok_law_pick T) (hr.mono (by decide)) (by rfl) T.law_pick.mg T.law_pick.fn.kp T.law_pick.bd .nil pass0 (pa_cons (pv 0) (pa_cons pe_int pa_nil))) pe_int (nomark _)) (pw_and1 (pt_cmpR op_le (pv 4) (pv 5) (nomark _)))))
   (pss_one (ps_expr (pe_bm PySem.F.plainAttrs_list PySem.F.slot_list_append PySem.F.type_list_append mt_append (pv 3) (pa_cons (pe_tup (pa_cons (pv 5) (pa_cons (pv 5) (pa_cons (pe_call (ok_law_string T) (hr.mono (by decide)) (by rfl) T.law_string.mg T.law_string.fn.kp T.law_string.bd .nil pass0 (pa_cons (pv 0) (pa_cons pe_int pa_nil))) pa_nil)))) pa_nil))))
   pss_nil)
  (pss_one (ps_ret (pv 3)))))), fun ds G R hF => ?_⟩
  · obtain ⟨t, k, ns, n, rfl, _⟩ := h
    rfl
  · obtain ⟨t, k, ns, n, rfl, hl, hn, ht, hk, hP, q⟩ := hF
    have hkl := (List.getElem?_eq_some_iff.mp hk).1
    walk_at "go"
    change WS K _ [some _, some _, some _, none, none, none, none, none, none, none, none] _ _
    walk_at "ww"
    walk_at "hot"
    · refine ws_for (wi_rng1 (by
        walk_at "ww"
        refine ⟨k, ns, _, rfl, by omega, by rw [get_prev hkl]; exact hk, hP, fun m ns1 m0 m1 hP1 => ?_⟩
        rw [List.set_append_left _ _ hkl]
        walk_at "ww"
        refine ⟨_, rfl, by omega, by omega, fun i ρ G' => ∃ (e : Nat) (acc : List Tx.Span) (ns' : List Int) (x6 x7 x8 x9 x10 : Option D),
          ρ = [some (.ptr k), some (.str (S t)), some (.int (n : Nat)), some (.ptr G.length), some (.int (e : Nat)), some (.int (t.length : Nat)), x6, x7, x8, x9, x10] ∧
          G' = G.set k (nC ns') ++ [.lst (acc.map spD)] ∧ Pool ns' ∧ acc.length ≤ i ∧ (∀ rest, Tx.Val t.length e rest → Tx.Val t.length 0 (acc ++ rest)) ∧ (∀ x ∈ acc, x.2.2.length ≤ 4 + (x.2.1 - x.1) ∧ ∀ c ∈ x.2.2, Sg c),
          ⟨0, [], ns1, none, none, none, none, none, rfl, rfl, hP1, Nat.le_refl _, fun rest h => h, fun x hx => nomatch hx⟩, fun _ _ _ _ => trivial, ?_, ?_⟩
        · rintro i d ρ G' hi ⟨e, acc, ns2, x6, x7, x8, x9, x10, rfl, rfl, hP2, hacc, hv, hp⟩
          obtain ⟨hi, rfl⟩ := rgD_get' hi
          walk_at "ww"
          walk_at "cold"
          refine ⟨k, ns2, _, rfl, by omega, pkm hkl, hP2, fun z ns3 z0 z1 hP3 => ?_⟩
          rw [psm hkl]
          walk_at "ww"
          obtain ⟨a1, ha1, e1⟩ := lit_get (enc := fun n : Nat => D.int n) (l := [0, 0, 1, 2, 3, 7]) z0 z1
          refine rd_ixL isR e1 ?_
          walk_at "ww"
          walk_at "cold"
          refine ⟨k, ns3, _, rfl, by omega, pkm hkl, hP3, fun z2 ns4 z20 z21 hP4 => ?_⟩
          rw [psm hkl]
          walk_at "ww"
          obtain ⟨a2, ha2, e2⟩ := lit_get (enc := fun n : Nat => D.int n) (l := [0, 0, 1, 2, 3, 6]) z20 z21
          refine rd_ixL isR e2 ?_
          walk_at "ww"
          refine ⟨k, ns4, 4, rfl, by decide, pkm hkl, hP4, fun put ns5 hp1 hp2 hP5 => ?_⟩
          rw [psm hkl]
          walk_at "ww"
          refine ⟨k, ns5, _, rfl, by omega, pkm hkl, hP5, fun kd ns6 k0 k1 hP6 => ?_⟩
          rw [psm hkl]
          walk_at "ww"
          refine ite_P (fun hf => ?_) (fun hf => ?_)
          · walk_at "ww"
            obtain ⟨s', hs, hs1, hs2⟩ : ∃ s' : Nat, (if (t.length : Int) < (e : Int) + a1 + a2 then (t.length : Int) else (e : Int) + a1 + a2) = (s' : Nat) ∧ e + a1 ≤ s' ∧ s' ≤ t.length := by
              split
              · exact ⟨t.length, rfl, by omega, Nat.le_refl _⟩
              · exact ⟨e + a1 + a2, by omega, by omega, by omega⟩
            rw [hs]
            refine ⟨⟨_, isLp pget⟩, ?_⟩
            rw [show (e : Int) + (a1 : Nat) = ((e + a1 : Nat) : Int) from rfl]
            walk_at "ww"
            · walk_at "cold"
              obtain ⟨a3, ha3, e3⟩ := lit_get (enc := fun p : List Nat => D.str (S p)) (l := [put, put, put, put, [], cutL t (some ((e + a1 : Nat) : Int)) (some (s' : Int))]) k0 k1
              refine rd_ixL isR e3 ?_
              rw [cutL_nn hs1 hs2] at ha3
              walk_at "ww"
              refine rm_append pget (by rw [List.length_map]; exact lt_size (by omega)) ?_
              rw [pset]
              have el : acc.map spD ++ [.tup [.int ((e + a1 : Nat) : Int), .int (s' : Nat), .str (S a3)]] = (acc ++ [(e + a1, s', a3)]).map spD := by rw [List.map_append]; rfl
              rw [el]
              walk_at "ww"
              refine ⟨s' + 1, acc ++ [(e + a1, s', a3)], ns6, _, _, _, _, _, rfl, rfl, hP6, by rw [List.length_append, List.length_singleton]; omega, fun rest hr => ?_, fun x hx => ?_⟩
              · rw [List.append_assoc]
                exact hv _ ⟨by omega, hs1, hs2, hr⟩
              · rcases List.mem_append.mp hx with h | h
                · exact hp x h
                · rw [List.mem_singleton.mp h]
                  have h3 : a3 = put ∨ a3 = [] ∨ a3 = Tx.cut t (e + a1) s' := by simpa using ha3
                  rcases h3 with rfl | rfl | rfl
                  · exact ⟨by show a3.length ≤ 4 + (s' - (e + a1)); omega, hp2⟩
                  · exact ⟨Nat.zero_le _, fun c hc => nomatch hc⟩
                  · refine ⟨?_, fun c hc => ht c (Tx.mem_cut hc)⟩
                    show (Tx.cut t (e + a1) s').length ≤ 4 + (s' - (e + a1))
                    rw [Tx.cut_len hs2]
                    omega
            · omega
          · walk_at "ww"
            exact ⟨e, acc, ns6, _, _, _, _, _, rfl, rfl, hP6, by omega, hv, hp⟩
        · rintro ρ G' ⟨e, acc, ns2, x6, x7, x8, x9, x10, rfl, rfl, hP2, hacc, hv, hp⟩
          rw [rgD_len] at hacc
          walk_at "ww"
          refine ⟨k, ns2, _, rfl, by omega, pkm hkl, hP2, fun z ns3 z0 z1 hP3 => ?_⟩
          rw [psm hkl]
          walk_at "ww"
          have ret : ∀ (sp : List Tx.Span) (ns' : List Int), SmallSp t n sp → Pool ns' → ∀ x6 x7 x8 x9 x10, WS K (tRet (tVar 3)) [some (.ptr k), some (.str (S t)), some (.int (n : Nat)), some (.ptr G.length), some (.int (e : Nat)), some (.int (t.length : Nat)), x6, x7, x8, x9, x10] (G.set k (nC ns') ++ [.lst (sp.map spD)]) ⟨fun _ G1 => Gc G R .non G1, Gc G R, fun _ _ => False, fun _ _ => False⟩ := by
            intro sp ns' h1 h2 x6 x7 x8 x9 x10
            refine ws_ret (we_fz (we_var rfl ⟨_, _, rfl, pget, ?_⟩))
            rw [pset]
            exact Gc.pool (.lst (Cls.map (fun x => .tup (.cons (.int _) (.cons (.int _) (.cons (.str _) .nil)))) _)) (q _ _ h1 h2)
          refine ite_P (fun hz => ?_) (fun hz => ?_)
          · walk_at "ww"
            refine ite_P (fun he => ?_) (fun he => ?_)
            · walk_at "ww"
              refine ⟨⟨_, isLp pget⟩, ?_⟩
              walk_at "ww"
              refine ⟨k, ns3, 3, rfl, by decide, pkm hkl, hP3, fun put ns4 hp1 hp2 hP4 => ?_⟩
              rw [psm hkl]
              walk_at "ww"
              refine rm_append pget (by rw [List.length_map]; exact lt_size (by omega)) ?_
              rw [pset]
              have el : acc.map spD ++ [.tup [.int (t.length : Nat), .int (t.length : Nat), .str (S put)]] = (acc ++ [(t.length, t.length, put)]).map spD := by rw [List.map_append]; rfl
              rw [el]
              refine ret (acc ++ [(t.length, t.length, put)]) ns4 ⟨hv _ ⟨by omega, Nat.le_refl _, Nat.le_refl _, trivial⟩, by rw [List.length_append, List.length_singleton]; omega, fun x hx => ?_⟩ hP4 _ _ _ _ _
              rcases List.mem_append.mp hx with h | h
              · exact hp x h
              · rw [List.mem_singleton.mp h]
                exact ⟨by simp; omega, hp2⟩
            · walk_at "w"
              exact ret acc ns3 ⟨by have := hv [] trivial; rw [List.append_nil] at this; exact this, by omega, hp⟩ hP3 _ _ _ _ _
          · walk_at "w"
            walk_at "w"
            exact ret acc ns3 ⟨by have := hv [] trivial; rw [List.append_nil] at this; exact this, by omega, hp⟩ hP3 _ _ _ _ _))
    · omega
end

section
variable {P : Program} {w : World} {K : PySem.W.Frag} {mg : Str → Option Value} {base : Heap}
abbrev wayD (x : Nat × Bool × Nat) : D := .tup [.int (x.1 : Nat), .bl x.2.1, .int (x.2.2 : Nat)]
theorem map_snoc2 {α : Type} {enc : α → D} {a b : List α} {y : α} : (a ++ b).map enc ++ [enc y] = (a ++ (b ++ [y])).map enc := by
  rw [← List.append_assoc, List.map_append (l₁ := a ++ b)]
  rfl
def F_law_ways : FD := fun ds G R => ∃ (n : Nat) (sp : List Tx.Span), ds = [.int (n : Nat), .lst (sp.map spD)] ∧ n ≤ 90000 ∧ sp.length ≤ 40000 ∧ Tx.Val n 0 sp ∧ (∀ x ∈ sp, x.2.2.length ≤ 90000) ∧ R (.lst (((0, true, 0) :: Tx.ways n 0 0 sp).map wayD)) G
theorem ok_law_ways (T : Top K mg) : FnOk P w K mg base CX0 1 T.a_law_ways T.d_law_ways ["size", "spans"] (SpD K F_law_ways) := by
  refine fn_ok T.law_ways.fn sc_law_ways (fun ds G R h => ?_) fun cdv A outer s H E hr => ⟨_, (pss_cons (ps_par (i := 2) (j := 3) rfl sc_law_ways.nd rfl rfl (by decide) rfl rfl (pa_cons (pe_lst (pa_cons (pe_tup (pa_cons pe_int (pa_cons pe_bl (pa_cons pe_int pa_nil)))) pa_nil)) (pa_cons pe_int pa_nil)) (by rfl))
  (pss_cons (ps_set (i := 4) sc_law_ways.nd rfl (Or.inl rfl) pe_int)
  (pss_cons (ps_for PassesOwn.never rfl (pi_list (pe_op op_cat (pv 1) (pe_lst (pa_cons (pe_tup (pa_cons (pv 0) (pa_cons (pv 0) (pa_cons pe_str pa_nil)))) pa_nil)))) (show PG _ _ (gTup K 3 _) from pg_tup rfl (pgs_cons (pg_name (i := 5) sc_law_ways.nd rfl (Or.inl rfl)) (pgs_cons (pg_name (i := 6) sc_law_ways.nd rfl (Or.inl rfl)) (pgs_cons (pg_name (i := 7) sc_law_ways.nd rfl (Or.inl rfl)) pgs_nil))))
   (pss_cons (ps_for PassesOwn.never rfl (pi_range2 rfl T.range (pa_cons (pv 4) (pa_cons (pv 5) pa_nil))) (pg_name (i := 8) sc_law_ways.nd rfl (Or.inl rfl))
   (pss_cons (ps_set (i := 3) sc_law_ways.nd rfl (Or.inl rfl) (pe_op op_add (pv 3) pe_int))
  (pss_one (ps_expr (pe_bm PySem.F.plainAttrs_list PySem.F.slot_list_append PySem.F.type_list_append mt_append (pv 2) (pa_cons (pe_tup (pa_cons (pv 3) (pa_cons pe_bl (pa_cons (pe_op op_add (pv 8) pe_int) pa_nil)))) pa_nil))))))
  (pss_cons (ps_set (i := 3) sc_law_ways.nd rfl (Or.inl rfl) (pe_op op_add (pv 3) (pe_callB call_len_str (by rfl) T.len (by decide +kernel) (pa_cons (pv 7) pa_nil))))
  (pss_cons (ps_set (i := 9) sc_law_ways.nd rfl (Or.inl rfl) (pe_ix (show IxR _ (rIxL K) from ix_list) (pe_lst (pa_cons (pv 5) (pa_cons (pv 6) pa_nil))) (pe_callTy call_int1 (by rfl) T.int (by decide +kernel) (pa_cons (pe_cmpR op_ne (pv 7) pe_str (nomark _)) pa_nil)) (fun _ _ => rfl)))
  (pss_cons (ps_for PassesOwn.never rfl (pi_range2 rfl T.range (pa_cons (pv 5) (pa_cons (pv 6) pa_nil))) (pg_name (i := 8) sc_law_ways.nd rfl (Or.inl rfl))
   (pss_one (ps_expr (pe_bm PySem.F.plainAttrs_list PySem.F.slot_list_append PySem.F.type_list_append mt_append (pv 2) (pa_cons (pe_tup (pa_cons (pv 3) (pa_cons pe_bl (pa_cons (pv 9) pa_nil)))) pa_nil)))))
  (pss_one (ps_set (i := 4) sc_law_ways.nd rfl (Or.inl rfl) (pv 6))))))))
  (pss_one (ps_ret (pv 2)))))), fun ds G R hF => ?_⟩
  · obtain ⟨n, sp, rfl, _⟩ := h
    rfl
  · obtain ⟨n, sp, rfl, hn, hsn, hv, hp, q⟩ := hF
    have hwl : (Tx.ways n 0 0 sp).length = n := by rw [Tx.ways_len hv]; rfl
    walk_at "go"
    change WS K _ [some _, some _, none, none, none, none, none, none, none, none] _ _
    walk_at "ww"
    walk_at "hot"
    refine ws_for (wi_list (by
      walk_at "ww"
      walk_at "cold"
      refine rd_cat isL isL (by rw [List.length_map]; exact le_size (by simp; omega)) (.inl ?_)
      have el : (List.map spD sp ++ [.tup [.int (n : Nat), .int (n : Nat), .str (S [])]]) = List.map spD (sp ++ [(n, n, [])]) := by rw [List.map_append]; rfl
      rw [el]
      have hm := hv.toMon (Nat.zero_le n)
      have hpL : ∀ x ∈ sp ++ [(n, n, [])], x.2.2.length ≤ 90000 := fun x hx => by
        rcases List.mem_append.mp hx with h | h
        · exact hp x h
        · rw [List.mem_singleton.mp h]
          exact Nat.zero_le _
      have hS : (0, true, 0) :: Tx.ways n 0 0 sp = (0, true, 0) :: Tx.waysS 0 0 (sp ++ [(n, n, [])]) := by rw [Tx.ways_S]
      generalize sp ++ [(n, n, [])] = L at hm hpL hS
      refine ⟨_, isR, fun i ρ G' => ∃ (e told : Nat) (acc : List (Nat × Bool × Nat)) (x5 x6 x7 x8 x9 : Option D), ρ = [some (.int (n : Nat)), some (.lst (sp.map spD)), some (.ptr G.length), some (.int (told : Nat)), some (.int (e : Nat)), x5, x6, x7, x8, x9] ∧ G' = G ++ [.lst (acc.map wayD)] ∧ e ≤ n ∧ Tx.Mon n e (L.drop i) ∧ acc ++ Tx.waysS e told (L.drop i) = (0, true, 0) :: Tx.ways n 0 0 sp,
        ⟨0, 0, [(0, true, 0)], none, none, none, none, none, rfl, rfl, Nat.zero_le _, hm, by rw [hS]; rfl⟩, fun i ρ G' _ => isR, ?_, ?_⟩
      · rintro i d ρ G' hi ⟨e, told, acc, x5, x6, x7, x8, x9, rfl, rfl, he, hmi, hq⟩
        obtain ⟨⟨f, s', p⟩, hx, rfl⟩ := map_get hi
        have hp1 : p.length ≤ 90000 := hpL _ (List.mem_of_getElem? hx)
        rw [drop_at hx] at hmi hq
        obtain ⟨v1, v2, v3, v4⟩ := hmi
        have hq : acc ++ (((List.range (f - e)).map fun i => (told + 1 + i, true, e + 1 + i)) ++ ((List.range (s' - f)).map fun _ => (told + (f - e) + p.length, false, if p = [] then f else s')) ++ Tx.waysS s' (told + (f - e) + p.length) (L.drop (i + 1))) = (0, true, 0) :: Tx.ways n 0 0 sp := hq
        have hlen := congrArg List.length hq
        simp only [List.length_append, List.length_map, List.length_range, List.length_cons, hwl] at hlen
        walk_at "ww"
        refine ws_for (wi_rng2 (by
          walk_at "ww"
          refine ⟨_, _, rfl, ⟨by omega, by omega, by omega, by omega⟩, fun j ρ G' => ∃ (x8 : Option D), ρ = [some (.int (n : Nat)), some (.lst (sp.map spD)), some (.ptr G.length), some (.int ((told + j : Nat) : Int)), some (.int (e : Nat)), some (.int (f : Nat)), some (.int (s' : Nat)), some (.str (S p)), x8, x9] ∧ G' = G ++ [.lst ((acc ++ (List.range j).map fun i => (told + 1 + i, true, e + 1 + i)).map wayD)],
            ⟨_, rfl, by simp⟩, fun _ _ _ _ => trivial, ?_, ?_⟩
          · rintro j d ρ G' hj ⟨y8, rfl, rfl⟩
            obtain ⟨hj, rfl⟩ := rgD_get' hj
            walk_at "ww"
            refine ⟨⟨_, isLp get_last⟩, ?_⟩
            walk_at "ww"
            refine rm_append get_last (by simp only [List.length_map, List.length_append, List.length_range]; exact lt_size (by omega)) ?_
            rw [set_last]
            have e1 : ((told + j : Nat) : Int) + 1 = ((told + (j + 1) : Nat) : Int) := by omega
            have e2 : (e : Int) + (j : Nat) + 1 = ((e + 1 + j : Nat) : Int) := by omega
            rw [e1, e2]
            refine ⟨_, rfl, ?_⟩
            rw [Tx.range_snoc, ← map_snoc2, show told + (j + 1) = told + 1 + j by omega]
          · rintro ρ G' ⟨y8, rfl, rfl⟩
            rw [rgD_len, show ((f : Int) - (e : Nat)).toNat = f - e by omega]
            walk_at "ww"
            · walk_at "cold"
              have hb : atI [D.int (f : Nat), .int (s' : Nat)] (if (!decide (p = [])) = true then 1 else 0) = some (.int ((if p = [] then f else s' : Nat) : Int)) := by
                by_cases h0 : p = []
                · rw [if_pos h0, decide_eq_true h0]
                  rfl
                · rw [if_neg h0, decide_eq_false h0]
                  rfl
              refine rd_ixL isR hb ?_
              walk_at "ww"
              have e3 : ((told + (f - e) : Nat) : Int) + (p.length : Nat) = ((told + (f - e) + p.length : Nat) : Int) := by omega
              rw [e3]
              refine ws_for (wi_rng2 (by
                walk_at "ww"
                refine ⟨_, _, rfl, ⟨by omega, by omega, by omega, by omega⟩, fun j ρ G' => ∃ (x8 : Option D), ρ = [some (.int (n : Nat)), some (.lst (sp.map spD)), some (.ptr G.length), some (.int ((told + (f - e) + p.length : Nat) : Int)), some (.int (e : Nat)), some (.int (f : Nat)), some (.int (s' : Nat)), some (.str (S p)), x8, some (.int ((if p = [] then f else s' : Nat) : Int))] ∧ G' = G ++ [.lst (((acc ++ (List.range (f - e)).map fun i => (told + 1 + i, true, e + 1 + i)) ++ (List.range j).map fun _ => (told + (f - e) + p.length, false, if p = [] then f else s')).map wayD)],
                  ⟨_, rfl, by simp⟩, fun _ _ _ _ => trivial, ?_, ?_⟩
                · rintro j d ρ G' hj ⟨z8, rfl, rfl⟩
                  obtain ⟨hj, rfl⟩ := rgD_get' hj
                  walk_at "ww"
                  refine ⟨⟨_, isLp get_last⟩, ?_⟩
                  walk_at "ww"
                  refine rm_append get_last (by simp only [List.length_map, List.length_append, List.length_range]; exact lt_size (by omega)) ?_
                  rw [set_last]
                  refine ⟨_, rfl, ?_⟩
                  rw [Tx.range_snoc, ← map_snoc2]
                · rintro ρ G' ⟨z8, rfl, rfl⟩
                  rw [rgD_len, show ((s' : Int) - (f : Nat)).toNat = s' - f by omega]
                  walk_at "ww"
                  refine ⟨s', told + (f - e) + p.length, _, _, _, _, _, _, rfl, rfl, v3, v4, ?_⟩
                  rw [← hq]
                  simp only [List.append_assoc]))
            · omega))
      · rintro ρ G' ⟨e, told, acc, x5, x6, x7, x8, x9, rfl, rfl, he, hmi, hq⟩
        rw [List.length_map, List.drop_length] at hq
        have hq : acc ++ [] = _ := hq
        rw [List.append_nil] at hq
        refine ws_ret (we_fz (we_var rfl ⟨_, _, rfl, get_last, ?_⟩))
        rw [set_last, hq]
        exact Gc.same (.lst (Cls.map (fun x => .tup (.cons (.int _) (.cons (.bl _) (.cons (.int _) .nil)))) _)) q))
end

section
variable {P : Program} {w : World} {K : PySem.W.Frag} {mg : Str → Option Value} {base : Heap}
/-- a case of the law: a small text, or the big one -/
def Small (t : List Nat) (sp : List Tx.Span) : Prop := t.length ≤ 40 ∧ (∀ c ∈ t, Sg c) ∧ SmallSp t 6 sp
structure Big (t : List Nat) (sp : List Tx.Span) : Prop where
  text : Tx.BigT t
  val : Tx.Val t.length 101 sp
  far : Tx.Far 101 sp
  put : ∀ x ∈ sp, x.2.2.length ≤ 20 ∧ ∀ c ∈ x.2.2, Tx.isSign c = true
  len : sp.length ≤ 4
def F_law_case : FD := fun ds G R => ∃ (k : Nat) (ns : List Int), ds = [.ptr k] ∧ G[k]? = some (nC ns) ∧ Pool ns ∧
  ∀ (t : List Nat) (sp : List Tx.Span) (ns' : List Int), (Small t sp ∨ Big t sp) → Pool ns' → R (.tup [.str (S t), .lst (sp.map spD)]) (G.set k (nC ns'))
abbrev rowLit : List Nat := [97, 98, 32, 99, 126, 45, 95, 90, 89, 46]
/-- a line of the big text -/
def row (st mo i : Nat) : List Nat := (List.replicate (i * (1 + st) % (mo + 1)) [rowLit.getD (i % 10) 97]).flatten
theorem cl_case (t : List Nat) (sp : List Tx.Span) (n : Nat) : Cl n (.tup [.str (S t), .lst (sp.map spD)]) :=
  .tup (.cons (.str _) (.cons (.lst (Cls.map (fun x => .tup (.cons (.int _) (.cons (.int _) (.cons (.str _) .nil)))) _)) .nil))
theorem ok_law_case (T : Top K mg) : FnOk P w K mg base CX0 4 T.a_law_case T.d_law_case ["pool"] (SpD K F_law_case) := by
  refine fn_ok T.law_case.fn sc_law_case (fun ds G R h => ?_) fun cdv A outer s H E hr => ⟨_, (pss_cons (ps_if (pt_cmpR op_gt (pe_call (ok_law_pick T) (hr.mono (by decide)) (by rfl) T.law_pick.mg T.law_pick.fn.kp T.law_pick.bd .nil pass0 (pa_cons (pv 0) (pa_cons pe_int pa_nil))) pe_int (nomark _))
   (pss_cons (ps_set (i := 1) sc_law_case.nd rfl (Or.inl rfl) (pe_call (ok_law_string T) (hr.mono (by decide)) (by rfl) T.law_string.mg T.law_string.fn.kp T.law_string.bd .nil pass0 (pa_cons (pv 0) (pa_cons pe_int pa_nil))))
  (pss_one (ps_ret (pe_tup (pa_cons (pv 1) (pa_cons (pe_call (ok_law_spans T) (hr.mono (by decide)) (by rfl) T.law_spans.mg T.law_spans.fn.kp T.law_spans.bd .nil pass0 (pa_cons (pv 0) (pa_cons (pv 1) (pa_cons pe_int pa_nil)))) pa_nil))))))
   pss_nil)
  (pss_cons (ps_asg (pe_tup (pa_cons (pe_op op_add pe_int (pe_call (ok_law_pick T) (hr.mono (by decide)) (by rfl) T.law_pick.mg T.law_pick.fn.kp T.law_pick.bd .nil pass0 (pa_cons (pv 0) (pa_cons pe_int pa_nil)))) (pa_cons (pe_call (ok_law_pick T) (hr.mono (by decide)) (by rfl) T.law_pick.mg T.law_pick.fn.kp T.law_pick.bd .nil pass0 (pa_cons (pv 0) (pa_cons pe_int pa_nil))) pa_nil))) (show PG _ _ (gTup K 2 _) from pg_tup rfl (pgs_cons (pg_name (i := 2) sc_law_case.nd rfl (Or.inr rfl)) (pgs_cons (pg_name (i := 3) sc_law_case.nd rfl (Or.inr rfl)) pgs_nil))))
  (pss_cons (ps_set (i := 1) sc_law_case.nd rfl (Or.inl rfl) (pe_op op_add_str (pe_op op_add_str (pe_op op_mulS pe_str pe_int) pe_str) (pe_join pe_str (pe_lc (own := [("k", 10)]) rfl sc_law_case.nd (pi_range1 rfl T.range (pa_cons pe_int pa_nil)) (blkOk_by (N := ["pool", "text", "step", "most", "spans", "at", "turn", "first", "second", "put", "k"]) (sc := defScope s_law_case) (by decide +kernel)) (fun _ _ _ _ _ => (pg_name (i := 10) sc_law_case.nd rfl (Or.inl rfl))) (fun _ _ _ _ _ => pts_nil) (fun _ _ _ _ _ => (pe_op op_mulS (pe_ix ix_str pe_str (pe_op op_mod (pv 10) pe_int) (fun _ _ => rfl)) (pe_op op_mod (pe_callTy call_int1 (by rfl) T.int (by decide +kernel) (pa_cons (pe_op op_mul (pv 10) (pv 2)) pa_nil)) (pe_op op_add (pv 3) pe_int))))))))
  (pss_cons (ps_par (i := 4) (j := 5) rfl sc_law_case.nd rfl rfl (by decide) rfl rfl (pa_cons (pe_lst pa_nil) (pa_cons pe_int pa_nil)) (by rfl))
  (pss_cons (ps_for PassesOwn.never rfl (pi_range1 rfl T.range (pa_cons (pe_call (ok_law_pick T) (hr.mono (by decide)) (by rfl) T.law_pick.mg T.law_pick.fn.kp T.law_pick.bd .nil pass0 (pa_cons (pv 0) (pa_cons pe_int pa_nil))) pa_nil)) (pg_name (i := 6) sc_law_case.nd rfl (Or.inl rfl))
   (pss_cons (ps_set (i := 7) sc_law_case.nd rfl (Or.inl rfl) (pe_op op_add (pe_op op_add (pv 5) pe_int) (pe_op op_mul (pe_call (ok_law_pick T) (hr.mono (by decide)) (by rfl) T.law_pick.mg T.law_pick.fn.kp T.law_pick.bd .nil pass0 (pa_cons (pv 0) (pa_cons pe_int pa_nil))) (pe_call (ok_law_pick T) (hr.mono (by decide)) (by rfl) T.law_pick.mg T.law_pick.fn.kp T.law_pick.bd .nil pass0 (pa_cons (pv 0) (pa_cons pe_int pa_nil))))))
  (pss_cons (ps_set (i := 8) sc_law_case.nd rfl (Or.inl rfl) (pe_op op_add (pv 7) (pe_ix (show IxR _ (rIxL K) from ix_list) (pe_lst (pa_cons pe_int (pa_cons pe_int (pa_cons pe_int (pa_cons pe_int pa_nil))))) (pe_call (ok_law_pick T) (hr.mono (by decide)) (by rfl) T.law_pick.mg T.law_pick.fn.kp T.law_pick.bd .nil pass0 (pa_cons (pv 0) (pa_cons pe_int pa_nil))) (fun _ _ => rfl))))
  (pss_cons (ps_set (i := 9) sc_law_case.nd rfl (Or.inl rfl) (pe_op op_mulS (pe_slice sl_str pe_str (po_some (pe_call (ok_law_pick T) (hr.mono (by decide)) (by rfl) T.law_pick.mg T.law_pick.fn.kp T.law_pick.bd .nil pass0 (pa_cons (pv 0) (pa_cons pe_int pa_nil)))) po_none) (pe_call (ok_law_pick T) (hr.mono (by decide)) (by rfl) T.law_pick.mg T.law_pick.fn.kp T.law_pick.bd .nil pass0 (pa_cons (pv 0) (pa_cons pe_int pa_nil)))))
  (pss_one (ps_if (pt_cmpR op_le (pv 8) (pe_callB call_len_str (by rfl) T.len (by decide +kernel) (pa_cons (pv 1) pa_nil)) (nomark _))
   (pss_cons (ps_expr (pe_bm PySem.F.plainAttrs_list PySem.F.slot_list_append PySem.F.type_list_append mt_append (pv 4) (pa_cons (pe_tup (pa_cons (pv 7) (pa_cons (pv 8) (pa_cons (pv 9) pa_nil)))) pa_nil)))
  (pss_one (ps_set (i := 5) sc_law_case.nd rfl (Or.inl rfl) (pe_op op_add (pv 8) pe_int))))
   pss_nil))))))
  (pss_one (ps_ret (pe_tup (pa_cons (pv 1) (pa_cons (pv 4) pa_nil)))))))))), fun ds G R hF => ?_⟩
  · obtain ⟨k, ns, rfl, _⟩ := h
    rfl
  · obtain ⟨k, ns, rfl, hk, hP, q⟩ := hF
    have hkl := (List.getElem?_eq_some_iff.mp hk).1
    walk_at "go"
    change WS K _ [some _, none, none, none, none, none, none, none, none, none, none] _ _
    walk_at "ww"
    refine ⟨k, ns, _, rfl, by omega, hk, hP, fun z1 ns1 z10 z11 hP1 => ?_⟩
    walk_at "ww"
    refine ite_P (fun h1 => ?_) (fun h1 => ?_)
    · walk_at "ww"
      refine ⟨k, ns1, 40, rfl, by decide, pk0 hkl, hP1, fun t ns2 t1 t2 hP2 => ?_⟩
      rw [List.set_set]
      walk_at "ww"
      refine ⟨t, k, ns2, 6, rfl, t1, by decide, t2, pk0 hkl, hP2, fun sp ns3 hsp hP3 => ?_⟩
      rw [List.set_set]
      walk_at "ww"
      exact .inl (q t sp ns3 (.inl ⟨t1, t2, hsp⟩) hP3)
    · walk_at "ww"
      refine ⟨k, ns1, _, rfl, by omega, pk0 hkl, hP1, fun z2 ns2 z20 z21 hP2 => ?_⟩
      rw [List.set_set]
      walk_at "ww"
      refine ⟨k, ns2, _, rfl, by omega, pk0 hkl, hP2, fun z3 ns3 z30 z31 hP3 => ?_⟩
      rw [List.set_set]
      obtain ⟨st, rfl⟩ : ∃ st : Nat, z2 = st := ⟨z2.toNat, by omega⟩
      obtain ⟨mo, rfl⟩ : ∃ mo : Nat, z3 = mo := ⟨z3.toNat, by omega⟩
      walk_at "ww"
      refine rd_mulT (l := [113]) (n := 100) (by decide) (by decide) ?_
      walk_at "ww"
      refine we_lcmap (own_name (by decide)) (wi_rng1 (by
        walk_at "ww"
        refine ⟨_, rfl, by omega, by omega, List.range 399, fun i : Nat => D.int ((0 : Int) + i), fun i => D.str (S (row st mo i)), rfl, trivial, by decide, fun i hi => ?_, ?_⟩
        · have hi := List.mem_range.mp hi
          walk_at "ww"
          · have e0 : (((0 : Int) + (i : Nat)) % 10).toNat = i % 10 := by omega
            have h10 : i % 10 < 10 := Nat.mod_lt _ (by decide)
            have e1 : rowLit[(((0 : Int) + (i : Nat)) % 10).toNat]? = some (rowLit.getD (i % 10) 97) := by
              rw [e0, List.getD_eq_getElem?_getD, List.getElem?_eq_getElem (by exact h10)]
              rfl
            refine rd_ixT' (by decide) (by omega) e1 ?_
            walk_at "ww"
            · have e2 : ((0 : Int) + (i : Nat)) * (1 + (st : Nat)) % ((mo : Nat) + 1) = ((i * (1 + st) % (mo + 1) : Nat) : Int) := by simp
              rw [e2]
              have h3 : i * (1 + st) % (mo + 1) < mo + 1 := Nat.mod_lt _ (by omega)
              refine rd_mulT (by simp; omega) (by omega) ⟨rfl, rfl⟩
            · exact .inl ⟨by omega, by omega⟩
            · omega
          · decide
        · walk_at "cold"
          have hrow : ∀ p ∈ (List.range 399).map (row st mo), p.length ≤ 40 ∧ ∀ c ∈ p, Tx.isSign c = true := by
            intro p hp
            obtain ⟨i, hi, rfl⟩ := List.mem_map.mp hp
            have h3 : i * (1 + st) % (mo + 1) < mo + 1 := Nat.mod_lt _ (by omega)
            refine ⟨by unfold row; rw [Tx.len_flat]; simp; omega, fun c hc => ?_⟩
            have := List.mem_singleton.mp (Tx.mem_flat hc)
            subst this
            have h10 : i % 10 < 10 := Nat.mod_lt _ (by decide)
            generalize i % 10 = j at h10
            exact (by decide : ∀ j, j < 10 → Tx.isSign (rowLit.getD j 97) = true) j h10
          have hlen : ((List.range 399).map (row st mo)).length = 399 := by rw [List.length_map, List.length_range]
          have hBig : Tx.BigT (List.replicate 100 113 ++ 10 :: Tx.joinL ((List.range 399).map (row st mo))) := ⟨⟨_, rfl, hlen, hrow⟩⟩
          refine rm_joinN (ps := (List.range 399).map (row st mo)) (by rw [List.map_map]; exact isR) ?_ ?_
          · have := Tx.sum_le fun p h => (hrow p h).1
            rw [hlen] at this
            rw [hlen]
            omega
          generalize (List.range 399).map (row st mo) = ps at hrow hlen hBig
          obtain ⟨t, ht⟩ : ∃ t, t = List.replicate 100 113 ++ 10 :: Tx.joinL ps := ⟨_, rfl⟩
          have et : (List.replicate 100 [113]).flatten ++ [10] ++ Tx.joinL ps = t := by
            rw [ht, List.append_assoc]
            rfl
          rw [← ht] at hBig
          have htl := hBig.len
          walk_at "ww"
          · rw [et]
            walk_at "hot"
            rw [List.length_set]
            refine ws_for (wi_rng1 (by
              walk_at "ww"
              refine ⟨k, ns3, _, rfl, by omega, pkm hkl, hP3, fun z4 ns4 z40 z41 hP4 => ?_⟩
              rw [psm hkl]
              walk_at "ww"
              refine ⟨_, rfl, by omega, by omega, fun i ρ G' => ∃ (e a : Nat) (acc : List Tx.Span) (ns' : List Int) (x6 x7 x8 x9 x10 : Option D),
                ρ = [some (.ptr k), some (.str (S t)), some (.int (1 + (st : Nat))), some (.int (mo : Nat)), some (.ptr G.length), some (.int (a : Nat)), x6, x7, x8, x9, x10] ∧
                G' = G.set k (nC ns') ++ [.lst (acc.map spD)] ∧ Pool ns' ∧ acc.length ≤ i ∧ e ≤ a ∧ (∀ rest, Tx.Val t.length a rest → Tx.Val t.length 101 (acc ++ rest)) ∧ (∀ rest, Tx.Far e rest → Tx.Far 101 (acc ++ rest)) ∧ (∀ x ∈ acc, x.2.2.length ≤ 20 ∧ ∀ c ∈ x.2.2, Tx.isSign c = true),
                ⟨101, 101, [], ns4, none, none, none, none, none, rfl, rfl, hP4, Nat.le_refl _, Nat.le_refl _, fun rest h => h, fun rest h => h, fun x hx => nomatch hx⟩, fun _ _ _ _ => trivial, ?_, ?_⟩
              · rintro i d ρ G' hi ⟨e, a, acc, ns5, x6, x7, x8, x9, x10, rfl, rfl, hP5, hacc, hea, hv, hf, hp⟩
                obtain ⟨hi, rfl⟩ := rgD_get' hi
                walk_at "ww"
                refine ⟨k, ns5, _, rfl, by omega, pkm hkl, hP5, fun z6 ns6 z60 z61 hP6 => ?_⟩
                rw [psm hkl]
                walk_at "ww"
                refine ⟨k, ns6, _, rfl, by omega, pkm hkl, hP6, fun z7 ns7 z70 z71 hP7 => ?_⟩
                rw [psm hkl]
                walk_at "ww"
                · obtain ⟨f, hf1, hf2⟩ : ∃ f : Nat, (a : Int) + 41 + z6 * z7 = (f : Nat) ∧ a + 41 ≤ f := by
                    have := Int.mul_nonneg z60 z70
                    exact ⟨((a : Int) + 41 + z6 * z7).toNat, by omega, by omega⟩
                  rw [hf1]
                  walk_at "cold"
                  refine ⟨k, ns7, _, rfl, by omega, pkm hkl, hP7, fun z8 ns8 z80 z81 hP8 => ?_⟩
                  rw [psm hkl]
                  walk_at "ww"
                  obtain ⟨v, hv1, hv2⟩ := lit_get (enc := fun n : Nat => D.int n) (l := [0, 1, 30, 3000]) z80 z81
                  refine rd_ixL isR hv2 ?_
                  walk_at "ww"
                  · refine ⟨k, ns8, _, rfl, by omega, pkm hkl, hP8, fun z9 ns9 z90 z91 hP9 => ?_⟩
                    rw [psm hkl]
                    obtain ⟨j9, rfl⟩ : ∃ j : Nat, z9 = j := ⟨z9.toNat, by omega⟩
                    walk_at "ww"
                    · rw [cutL_no (by simp; omega)]
                      refine ⟨k, ns9, _, rfl, by omega, pkm hkl, hP9, fun z10 ns10 z100 z101 hP10 => ?_⟩
                      rw [psm hkl]
                      obtain ⟨j10, rfl⟩ : ∃ j : Nat, z10 = j := ⟨z10.toNat, by omega⟩
                      refine rd_mulT (by rw [List.length_drop]; have : j10 ≤ 2 := by omega
                                         exact Nat.le_trans (Nat.mul_le_mul (Nat.sub_le _ _) this) (by decide)) (by omega) ?_
                      have hput : ((List.replicate j10 ([112, 117, 116, 32, 61, 32, 45, 49, 32, 92].drop j9)).flatten).length ≤ 20 ∧ ∀ c ∈ (List.replicate j10 ([112, 117, 116, 32, 61, 32, 45, 49, 32, 92].drop j9)).flatten, Tx.isSign c = true := by
                        constructor
                        · rw [Tx.len_flat, List.length_drop]
                          exact Nat.le_trans (Nat.mul_le_mul (show j10 ≤ 2 by omega) (Nat.sub_le _ _)) (by decide)
                        · intro c hc
                          exact (by decide : ∀ c ∈ ([112, 117, 116, 32, 61, 32, 45, 49, 32, 92] : List Nat), Tx.isSign c = true) c (List.mem_of_mem_drop (Tx.mem_flat hc))
                      generalize (List.replicate j10 ([112, 117, 116, 32, 61, 32, 45, 49, 32, 92].drop j9)).flatten = put at hput
                      walk_at "ww"
                      · refine ite_P (fun hs => ?_) (fun hs => ?_)
                        · walk_at "ww"
                          refine ⟨⟨_, isLp pget⟩, ?_⟩
                          walk_at "ww"
                          refine rm_append pget (by rw [List.length_map]; exact lt_size (by omega)) ?_
                          rw [pset]
                          have el : acc.map spD ++ [.tup [.int (f : Nat), .int ((f : Int) + (v : Nat)), .str (S put)]] = (acc ++ [(f, f + v, put)]).map spD := by rw [List.map_append]; rfl
                          rw [el]
                          walk_at "ww"
                          refine ⟨f + v, f + v + 1, acc ++ [(f, f + v, put)], ns10, _, _, _, _, _, rfl, rfl, hP10, by rw [List.length_append, List.length_singleton]; omega, Nat.le_succ _, fun rest hr => ?_, fun rest hr => ?_, fun x hx => ?_⟩
                          · rw [List.append_assoc]
                            exact hv _ ⟨by omega, by omega, by omega, hr⟩
                          · rw [List.append_assoc]
                            exact hf _ ⟨by omega, by omega, hr⟩
                          · rcases List.mem_append.mp hx with h | h
                            · exact hp x h
                            · rw [List.mem_singleton.mp h]
                              exact hput
                        · walk_at "ww"
                          exact ⟨e, a, acc, ns10, _, _, _, _, _, rfl, rfl, hP10, by omega, hea, hv, hf, hp⟩
                      · omega
                    · decide
                · exact .inl ⟨by omega, by omega⟩
              · rintro ρ G' ⟨e, a, acc, ns5, x6, x7, x8, x9, x10, rfl, rfl, hP5, hacc, hea, hv, hf, hp⟩
                rw [rgD_len] at hacc
                refine ws_ret (we_tup (wa_cons (we_var rfl (wa_cons (we_fz (we_var rfl ⟨_, _, rfl, pget, ?_⟩))))))
                rw [pset]
                walk_at "ww"
                exact Gc.pool (cl_case _ _ _) (q t acc ns5 (.inr ⟨hBig, by have := hv [] trivial; rw [List.append_nil] at this; exact this, by have := hf [] trivial; rw [List.append_nil] at this; exact this, hp, by omega⟩) hP5)))
          · rw [← List.length_append, et]
            omega))
      · rw [Tx.len_flat]
        decide
end

section
variable {P : Program} {w : World} {K : PySem.W.Frag} {mg : Str → Option Value} {base : Heap}
theorem ws_cut {INV nx : DEnv → Cells → Prop} {rt : D → Cells → Prop} {bk ct : DEnv → Cells → Prop} {ts : TS} {ρ : DEnv} {G : Cells} (h2 : ∀ ρ' G', INV ρ' G' → nx ρ' G') (h1 : WS K ts ρ G ⟨INV, rt, bk, ct⟩) : WS K ts ρ G ⟨nx, rt, bk, ct⟩ :=
  fun w σ ok X l => h1 w σ ok X ⟨fun w' G' σ' ρ' q o f => l.nx w' G' σ' ρ' (h2 _ _ q) o f, l.bk, l.ct, l.rt⟩
/-- all that a row on a text must keep -/
structure Fine (t : List Nat) (sp : List Tx.Span) : Prop where
  tl : t.length ≤ 30000
  tt : Tx.isText t = true
  val : Tx.Val t.length 0 sp
  put : Puts sp
  sl : sp.length ≤ 1000
  bl : (Tx.replaced t 0 sp).length ≤ 30000
  bt : Tx.isText (Tx.replaced t 0 sp) = true
theorem SmallSp.fine {t u : List Nat} {n : Nat} {sp : List Tx.Span} (h : SmallSp t n sp) (htl : t.length ≤ 40) (hn : n ≤ 10) (hu : t.length ≤ u.length) (hul : u.length + 4 * (n + 1) ≤ 100) (hs : ∀ c ∈ u, Sg c) : Fine u sp ∧ (Tx.replaced u 0 sp).length ≤ u.length + 4 * (n + 1) ∧ ∀ c ∈ Tx.replaced u 0 sp, Sg c := by
  have hv := h.val.wide hu
  have hlen := Tx.replaced_len hv fun x hx => (h.put x hx).1
  have h4 := Nat.mul_le_mul_left 4 h.len
  have hr : ∀ c ∈ Tx.replaced u 0 sp, Sg c := fun c hc => by
    rcases Tx.mem_replaced hc with z | ⟨x, hx, z⟩
    · exact hs c z
    · exact (h.put x hx).2 c z
  have hl := h.len
  refine ⟨⟨by omega, Tx.isText_small (by omega) hs, hv, fun x hx => ?_, by omega, by omega, Tx.isText_small (by omega) hr⟩, by omega, hr⟩
  have h1 := (h.put x hx).1
  have h2 := Tx.val_mem h.val x hx
  exact ⟨Tx.isText_small (by omega) (h.put x hx).2, by omega⟩
theorem Big.fine {t : List Nat} {sp : List Tx.Span} (h : Big t sp) : Fine t sp ∧ Fine (Tx.replaced t 0 sp) [] := by
  have hb := h.text.behind h.val h.far h.put
  have htl := h.text.len
  have hv : Tx.Val t.length 0 sp := h.val.mono (Nat.zero_le _)
  have hlen := Tx.replaced_len (m := 20) hv fun x hx => Nat.le_trans (h.put x hx).1 (Nat.le_add_right _ _)
  have hl := h.len
  refine ⟨⟨by omega, h.text.text, hv, fun x hx => ⟨Tx.isText_small (by have := (h.put x hx).1; omega) fun c hc => .inr ((h.put x hx).2 c hc), by have := (h.put x hx).1; omega⟩, by omega, by omega, hb⟩, ⟨by omega, hb, trivial, (fun x hx => nomatch hx), by decide, ?_, hb⟩⟩
  show (Tx.replaced t 0 sp).length ≤ 30000
  omega
theorem plT (p : Nat × Nat) : PlainT (plD p) := ⟨_, rfl, (show 2 ≤ 1000 by decide), fun x hx => by
  rcases List.mem_cons.mp hx with h | h
  · exact .inl ⟨_, h⟩
  · exact .inl ⟨_, List.mem_singleton.mp h⟩⟩
theorem chT (t : List Nat) (x : Tx.Span) (h : x.2.2.length ≤ 90000) : PlainT (chD t x) := ⟨_, rfl, (show 5 ≤ 1000 by decide), fun y hy => by
  simp only [List.mem_cons, List.not_mem_nil, or_false] at hy
  rcases hy with h1 | h1 | h1 | h1 | h1
  · exact .inl ⟨_, h1⟩
  · exact .inl ⟨_, h1⟩
  · exact .inl ⟨_, h1⟩
  · exact .inl ⟨_, h1⟩
  · exact .inr ⟨_, h1, h⟩⟩
theorem lt_first (t : List Nat) (a : Nat) : HT.lexLt [((Tx.placeOf t a).1 : Int), ((Tx.placeOf t a).2 : Int)] [(((0, 0) : Nat × Nat).1 : Int), (((0, 0) : Nat × Nat).2 : Int)] = false := by
  have h := Tx.placeOf_row t a
  rw [HT.lexLt_cons, if_neg (by rw [h]; show ((_ + 1 : Nat) : Int) ≠ ((0 : Nat) : Int); omega)]
  exact decide_eq_false (by show ¬ _ < ((0 : Nat) : Int); omega)
theorem lt_no {t : List Nat} {a b : Nat} (h : a ≤ b) (hb : b ≤ t.length) : HT.lexLt [((Tx.placeOf t b).1 : Int), ((Tx.placeOf t b).2 : Int)] [((Tx.placeOf t a).1 : Int), ((Tx.placeOf t a).2 : Int)] = false := by
  have h := Tx.place_mono h hb
  rw [HT.lexLt_cons, HT.lexLt_cons, HT.lexLt_nil_nil]
  split
  · split
    · rfl
    · exact decide_eq_false (by omega)
  · exact decide_eq_false (by omega)
def F_law : FD := fun ds G R => ∃ ns : List Int, ds = [.ro (ns.map D.int)] ∧ ns.length ≤ 63 ∧ R (.bl true) G
theorem ok_law (T : Top K mg) : FnOk P w K mg base CX0 8 T.a_law T.d_law ["script"] (SpD K F_law) := by
  refine fn_ok T.law.fn sc_law (fun ds G R h => ?_) fun cdv A outer s H E hr => ⟨_, (pss_cons (ps_set (i := 1) sc_law.nd rfl (Or.inr rfl) (pe_call (ok_law_stream T) (hr.mono (by decide)) (by rfl) T.law_stream.mg T.law_stream.fn.kp T.law_stream.bd .nil pass0 (pa_cons (pv 0) pa_nil)))
  (pss_cons (ps_asg (pe_call (ok_law_case T) (hr.mono (by decide)) (by rfl) T.law_case.mg T.law_case.fn.kp T.law_case.bd .nil pass0 (pa_cons (pv 1) pa_nil)) (show PG _ _ (gTup K 2 _) from pg_tup rfl (pgs_cons (pg_name (i := 2) sc_law.nd rfl (Or.inl rfl)) (pgs_cons (pg_name (i := 3) sc_law.nd rfl (Or.inl rfl)) pgs_nil))))
  (pss_cons (ps_par (i := 4) (j := 5) rfl sc_law.nd rfl rfl (by decide) rfl rfl (pa_cons (pe_call (ok_law_row T) (hr.mono (by decide)) (by rfl) T.law_row.mg T.law_row.fn.kp T.law_row.bd .nil pass0 (pa_cons (pv 2) (pa_cons (pv 3) pa_nil))) (pa_cons (pe_call (ok_law_behind T) (hr.mono (by decide)) (by rfl) T.law_behind.mg T.law_behind.fn.kp T.law_behind.bd .nil pass0 (pa_cons (pv 2) (pa_cons (pv 3) pa_nil))) pa_nil)) (by rfl))
  (pss_cons (ps_asg (pe_tup (pa_cons (pe_call (ok_back_of T) (hr.mono (by decide)) (by rfl) T.back_of.mg T.back_of.fn.kp T.back_of.bd .nil pass0 (pa_cons (pv 2) (pa_cons (pv 4) pa_nil))) (pa_cons (pe_call (ok_law_ways T) (hr.mono (by decide)) (by rfl) T.law_ways.mg T.law_ways.fn.kp T.law_ways.bd .nil pass0 (pa_cons (pe_callB call_len_str (by rfl) T.len (by decide +kernel) (pa_cons (pv 2) pa_nil)) (pa_cons (pv 3) pa_nil))) pa_nil))) (show PG _ _ (gTup K 2 _) from pg_tup rfl (pgs_cons (pg_name (i := 6) sc_law.nd rfl (Or.inl rfl)) (pgs_cons (pg_name (i := 7) sc_law.nd rfl (Or.inr rfl)) pgs_nil))))
  (pss_cons (ps_par (i := 8) (j := 9) rfl sc_law.nd rfl rfl (by decide) rfl rfl (pa_cons (pe_lc (own := [("k", 27)]) rfl sc_law.nd (pi_range1 rfl T.range (pa_cons (pe_callB (show CallR _ (Value.builtin "len") (fun xs H Q => ∃ p ys, xs = [L2.V.ref p] ∧ (SqL K H p ys ∨ SqT K H p ys) ∧ Q (L2.V.int ys.length) H) from call_len_seq) (by rfl) T.len (by decide +kernel) (pa_cons (pv 7) pa_nil)) pa_nil)) (blkOk_by (N := ["script", "pool", "text", "spans", "row", "behind", "back", "ways", "ats", "more", "first", "second", "put", "second_row", "second_ways", "both", "last", "places", "ahead", "at", "to", "stays", "again", "line", "column", "told", "due", "k", "one"]) (sc := defScope s_law) (by decide +kernel)) (fun _ _ _ _ _ => (pg_name (i := 27) sc_law.nd rfl (Or.inl rfl))) (fun _ _ _ _ _ => pts_nil) (fun _ _ _ _ _ => (pv 27))) (pa_cons (pe_call (ok_law_spans T) (hr.mono (by decide)) (by rfl) T.law_spans.mg T.law_spans.fn.kp T.law_spans.bd .nil pass0 (pa_cons (pv 1) (pa_cons (pe_slice sl_str (pv 5) po_none (po_some pe_int)) (pa_cons pe_int pa_nil)))) pa_nil)) (by rfl))
  (pss_cons (ps_if (pt_cmpR op_gt (pe_callB call_len_str (by rfl) T.len (by decide +kernel) (pa_cons (pv 2) pa_nil)) pe_int (nomark _))
   (pss_cons (ps_set (i := 8) sc_law.nd rfl (Or.inl rfl) (pe_callB cr_sortedI (by rfl) T.sorted (by decide +kernel) (pa_cons (pe_lc (own := [("k", 27)]) rfl sc_law.nd (pi_range1 rfl T.range (pa_cons pe_int pa_nil)) (blkOk_by (N := ["script", "pool", "text", "spans", "row", "behind", "back", "ways", "ats", "more", "first", "second", "put", "second_row", "second_ways", "both", "last", "places", "ahead", "at", "to", "stays", "again", "line", "column", "told", "due", "k", "one"]) (sc := defScope s_law) (by decide +kernel)) (fun _ _ _ _ _ => (pg_name (i := 27) sc_law.nd rfl (Or.inl rfl))) (fun _ _ _ _ _ => pts_nil) (fun _ _ _ _ _ => (pe_op op_mod (pe_callTy call_int1 (by rfl) T.int (by decide +kernel) (pa_cons (pe_op op_add (pe_op op_add (pe_op op_mul (pe_call (ok_law_pick T) (hr.mono (by decide)) (by rfl) T.law_pick.mg T.law_pick.fn.kp T.law_pick.bd .nil pass0 (pa_cons (pv 1) (pa_cons pe_int pa_nil))) pe_int) (pe_op op_mul (pe_call (ok_law_pick T) (hr.mono (by decide)) (by rfl) T.law_pick.mg T.law_pick.fn.kp T.law_pick.bd .nil pass0 (pa_cons (pv 1) (pa_cons pe_int pa_nil))) pe_int)) (pe_call (ok_law_pick T) (hr.mono (by decide)) (by rfl) T.law_pick.mg T.law_pick.fn.kp T.law_pick.bd .nil pass0 (pa_cons (pv 1) (pa_cons pe_int pa_nil)))) pa_nil)) (pe_callB (show CallR _ (Value.builtin "len") (fun xs H Q => ∃ p ys, xs = [L2.V.ref p] ∧ (SqL K H p ys ∨ SqT K H p ys) ∧ Q (L2.V.int ys.length) H) from call_len_seq) (by rfl) T.len (by decide +kernel) (pa_cons (pv 7) pa_nil))))) pa_nil)))
  (pss_cons (ps_set (i := 9) sc_law.nd rfl (Or.inl rfl) (pe_lst pa_nil))
  (pss_cons (ps_for PassesOwn.never rfl (pi_list (pv 3)) (show PG _ _ (gTup K 3 _) from pg_tup rfl (pgs_cons (pg_name (i := 10) sc_law.nd rfl (Or.inl rfl)) (pgs_cons (pg_name (i := 11) sc_law.nd rfl (Or.inl rfl)) (pgs_cons (pg_name (i := 12) sc_law.nd rfl (Or.inl rfl)) pgs_nil))))
   (pss_one (ps_set (i := 8) sc_law.nd rfl (Or.inl rfl) (pe_op op_cat (pv 8) (pe_lst (pa_cons (pv 10) (pa_cons (pv 11) pa_nil)))))))
  (pss_one (ps_set (i := 8) sc_law.nd rfl (Or.inl rfl) (pe_callB cr_sortedI (by rfl) T.sorted (by decide +kernel) (pa_cons (pv 8) pa_nil)))))))
   pss_nil)
  (pss_cons (ps_par (i := 13) (j := 14) rfl sc_law.nd rfl rfl (by decide) rfl rfl (pa_cons (pe_call (ok_law_row T) (hr.mono (by decide)) (by rfl) T.law_row.mg T.law_row.fn.kp T.law_row.bd .nil pass0 (pa_cons (pv 5) (pa_cons (pv 9) pa_nil))) (pa_cons (pe_call (ok_law_ways T) (hr.mono (by decide)) (by rfl) T.law_ways.mg T.law_ways.fn.kp T.law_ways.bd .nil pass0 (pa_cons (pe_callB call_len_str (by rfl) T.len (by decide +kernel) (pa_cons (pv 5) pa_nil)) (pa_cons (pv 9) pa_nil))) pa_nil)) (by rfl))
  (pss_cons (ps_par (i := 15) (j := 16) rfl sc_law.nd rfl rfl (by decide) rfl rfl (pa_cons (pe_call (ok_joined T) (hr.mono (by decide)) (by rfl) T.joined.mg T.joined.fn.kp T.joined.bd .nil pass0 (pa_cons (pv 2) (pa_cons (pv 4) (pa_cons (pv 13) pa_nil)))) (pa_cons (pe_call (ok_changed T) (hr.mono (by decide)) (by rfl) T.changed.mg T.changed.fn.kp T.changed.bd .nil pass0 (pa_cons (pv 5) (pa_cons (pv 13) pa_nil))) pa_nil)) (by rfl))
  (pss_cons (ps_par (i := 17) (j := 18) rfl sc_law.nd rfl rfl (by decide) rfl rfl (pa_cons (pe_lc (own := [("one", 28)]) rfl sc_law.nd (pi_list (pv 4)) (blkOk_by (N := ["script", "pool", "text", "spans", "row", "behind", "back", "ways", "ats", "more", "first", "second", "put", "second_row", "second_ways", "both", "last", "places", "ahead", "at", "to", "stays", "again", "line", "column", "told", "due", "k", "one"]) (sc := defScope s_law) (by decide +kernel)) (fun _ _ _ _ _ => (pg_name (i := 28) sc_law.nd rfl (Or.inl rfl))) (fun _ _ _ _ _ => pts_nil) (fun _ _ _ _ _ => (pv 28))) (pa_cons (pe_tup (pa_cons pe_int (pa_cons pe_int pa_nil))) pa_nil)) (by rfl))
  (pss_cons (ps_for PassesOwn.never rfl (pi_list (pv 8)) (pg_name (i := 19) sc_law.nd rfl (Or.inl rfl))
   (pss_cons (ps_asg (pe_ix (show IxR _ (rIxL K) from ix_list) (pv 7) (pv 19) (fun _ _ => rfl)) (show PG _ _ (gTup K 3 _) from pg_tup rfl (pgs_cons (pg_name (i := 20) sc_law.nd rfl (Or.inl rfl)) (pgs_cons (pg_name (i := 21) sc_law.nd rfl (Or.inl rfl)) (pgs_cons (pg_name (i := 22) sc_law.nd rfl (Or.inl rfl)) pgs_nil)))))
  (pss_cons (ps_asg (pe_call (ok_law_place T) (hr.mono (by decide)) (by rfl) T.law_place.mg T.law_place.fn.kp T.law_place.bd .nil pass0 (pa_cons (pv 2) (pa_cons (pv 19) pa_nil))) (show PG _ _ (gTup K 2 _) from pg_tup rfl (pgs_cons (pg_name (i := 23) sc_law.nd rfl (Or.inl rfl)) (pgs_cons (pg_name (i := 24) sc_law.nd rfl (Or.inl rfl)) pgs_nil))))
  (pss_cons (ps_set (i := 25) sc_law.nd rfl (Or.inl rfl) (pe_call (ok_mapped T) (hr.mono (by decide)) (by rfl) T.mapped.mg T.mapped.fn.kp T.mapped.bd .nil pass0 (pa_cons (pv 2) (pa_cons (pv 17) (pa_cons (pv 23) (pa_cons (pv 24) pa_nil))))))
  (pss_cons (ps_if (PW.pt (pw_or (pt_not (pt_val (pe_call (ok_law_same T) (hr.mono (by decide)) (by rfl) T.law_same.mg T.law_same.fn.kp T.law_same.bd .nil pass0 (pa_cons (pv 25) (pa_cons (pe_call (ok_law_place T) (hr.mono (by decide)) (by rfl) T.law_place.mg T.law_place.fn.kp T.law_place.bd .nil pass0 (pa_cons (pv 5) (pa_cons (pv 20) pa_nil))) pa_nil))))) (pw_or1 (pt_cmpR (op_ltT hr.units0) (pv 25) (pv 18) (nomark _)))))
   (pss_one (ps_ret pe_bl))
   pss_nil)
  (pss_cons (ps_set (i := 18) sc_law.nd rfl (Or.inl rfl) (pv 25))
  (pss_cons (ps_if (pt_not (pt_val (pe_call (ok_law_same T) (hr.mono (by decide)) (by rfl) T.law_same.mg T.law_same.fn.kp T.law_same.bd .nil pass0 (pa_cons (pe_call (ok_law_asked T) (hr.mono (by decide)) (by rfl) T.law_asked.mg T.law_asked.fn.kp T.law_asked.bd .nil pass0 (pa_cons (pv 5) (pa_cons (pv 6) (pa_cons (pv 20) pa_nil)))) (pa_cons (pe_call (ok_law_place T) (hr.mono (by decide)) (by rfl) T.law_place.mg T.law_place.fn.kp T.law_place.bd .nil pass0 (pa_cons (pv 2) (pa_cons (pv 22) pa_nil))) pa_nil)))))
   (pss_one (ps_ret pe_bl))
   pss_nil)
  (pss_one (ps_if (PW.pt (pw_and (pt_val (pv 21)) (pw_and1 (pt_val (pe_ix (show IxR _ (rIxT K) from ix_tup) (pe_ix (show IxR _ (rIxL K) from ix_list) (pv 14) (pv 20) (fun _ _ => rfl)) pe_int (fun _ _ => rfl))))))
   (pss_cons (ps_set (i := 26) sc_law.nd rfl (Or.inl rfl) (pe_call (ok_law_place T) (hr.mono (by decide)) (by rfl) T.law_place.mg T.law_place.fn.kp T.law_place.bd .nil pass0 (pa_cons (pv 16) (pa_cons (pe_ix (show IxR _ (rIxT K) from ix_tup) (pe_ix (show IxR _ (rIxL K) from ix_list) (pv 14) (pv 20) (fun _ _ => rfl)) pe_int (fun _ _ => rfl)) pa_nil))))
  (pss_one (ps_if (PW.pt (pw_or (pt_not (pt_val (pe_call (ok_law_same T) (hr.mono (by decide)) (by rfl) T.law_same.mg T.law_same.fn.kp T.law_same.bd .nil pass0 (pa_cons (pe_call (ok_law_asked T) (hr.mono (by decide)) (by rfl) T.law_asked.mg T.law_asked.fn.kp T.law_asked.bd .nil pass0 (pa_cons (pv 2) (pa_cons (pv 15) (pa_cons (pv 19) pa_nil)))) (pa_cons (pv 26) pa_nil))))) (pw_or1 (pt_not (pt_val (pe_call (ok_law_same T) (hr.mono (by decide)) (by rfl) T.law_same.mg T.law_same.fn.kp T.law_same.bd .nil pass0 (pa_cons (pe_call (ok_law_asked T) (hr.mono (by decide)) (by rfl) T.law_asked.mg T.law_asked.fn.kp T.law_asked.bd .nil pass0 (pa_cons (pv 5) (pa_cons (pv 13) (pa_cons (pv 20) pa_nil)))) (pa_cons (pv 26) pa_nil))))))))
   (pss_one (ps_ret pe_bl))
   pss_nil)))
   pss_nil)))))))))
  (pss_one (ps_ret (pe_call (ok_law_sameL T) (hr.mono (by decide)) (by rfl) T.law_same.mg T.law_same.fn.kp T.law_same.bd .nil pass0 (pa_cons (pv 17) (pa_cons (pv 4) pa_nil))))))))))))))), fun ds G R hF => ?_⟩
  · obtain ⟨ns, rfl, _⟩ := h
    rfl
  · obtain ⟨ns, rfl, hn, q⟩ := hF
    walk_at "go"
    change WS K _ [some _, none, none, none, none, none, none, none, none, none, none, none, none, none, none, none, none, none, none, none, none, none, none, none, none, none, none, none, none] _ _
    walk_at "ww"
    refine ⟨ns, rfl, hn, fun ps hP => ?_⟩
    walk_at "ww"
    refine ⟨G.length, ps, rfl, get_last, hP, fun t sp ps1 hc hP1 => ?_⟩
    rw [set_last]
    walk_at "ww"
    have hF : Fine t sp := by
      rcases hc with h | h
      · exact (h.2.2.fine h.1 (by decide) (Nat.le_refl _) (by have := h.1; omega) h.2.1).1
      · exact h.fine.1
    have htl := hF.tl
    have hsl := hF.sl
    have hbl := hF.bl
    have hput : ∀ x ∈ sp, x.2.2.length ≤ 90000 := fun x hx => (hF.put x hx).2
    have hbs : ∀ c ∈ Tx.replaced t 0 sp, Sg c := by
      rcases hc with h | h
      · exact (h.2.2.fine h.1 (by decide) (Nat.le_refl _) (by have := h.1; omega) h.2.1).2.2
      · intro c hc
        rcases Tx.mem_replaced hc with z | ⟨x, hx, z⟩
        · exact h.text.sign c z
        · exact .inr ((h.put x hx).2 c z)
    have hWl : (Tx.W t.length sp).length = t.length + 1 := Tx.W_len hF.val
    have hWm : (List.map wayD ((0, true, 0) :: Tx.ways t.length 0 0 sp)).length = t.length + 1 := by rw [List.length_map]; exact hWl
    refine ⟨t, sp, rfl, by omega, by omega, ?_⟩
    walk_at "ww"
    refine ⟨t, sp, rfl, by omega, hF.val, by omega, ?_⟩
    walk_at "ww"
    refine ⟨t, sp, rfl, by omega, hF.tt, hF.val, hF.put, by omega, by omega, hF.bt, ?_⟩
    walk_at "ww"
    · refine ⟨t.length, sp, rfl, by omega, by omega, hF.val, hput, ?_⟩
      walk_at "ww"
      refine we_lcmap (own_name (by decide)) (wi_rng1 (by
        walk_at "ww"
        rw [List.length_map, hWl]
        refine ⟨_, rfl, by omega, by omega, List.range (t.length + 1), fun i : Nat => D.int ((0 : Int) + i), fun i => D.int ((i : Nat) : Int), rfl, trivial, by rw [List.length_range]; omega, fun i hi => ?_, ?_⟩
        · walk_at "ww"
          exact ⟨by rw [Int.zero_add], rfl⟩
        · walk_at "cold"
          · rw [show cutL (Tx.replaced t 0 sp) none (some 40) = (Tx.replaced t 0 sp).take 40 from cutL_on (b := 40)]
            have h40 : ((Tx.replaced t 0 sp).take 40).length ≤ 40 := by rw [List.length_take]; omega
            refine ⟨(Tx.replaced t 0 sp).take 40, G.length, ps1, 4, rfl, h40, by decide, fun c hc => hbs c (List.mem_of_mem_take hc), get_last, hP1, fun mo ps2 hmo hP2 => ?_⟩
            rw [set_last]
            walk_at "w"
            walk_at "w"
            refine ws_seq (ws_cut (INV := fun ρ' G' => ∃ (ats : List Int) (mo : List Tx.Span) (ps3 : List Int) (x10 x11 x12 : Option D), ρ' = [some (D.ro (List.map D.int ns)), some (D.ptr (List.length G)), some (D.str (S t)), some (D.lst (List.map spD sp)), some (D.lst (List.map (chD t) sp)), some (D.str (S (Tx.replaced t 0 sp))), some (D.lst (List.map (chD (Tx.replaced t 0 sp)) (Tx.backs t 0 0 sp))), some (D.lst (List.map wayD (Tx.W t.length sp))), some (.lst (ats.map D.int)), some (.lst (mo.map spD)), x10, x11, x12, none, none, none, none, none, none, none, none, none, none, none, none, none, none, none, none] ∧ G' = G ++ [nC ps3] ∧ ats.Pairwise (· ≤ ·) ∧ (∀ z ∈ ats, 0 ≤ z ∧ z ≤ (t.length : Int)) ∧ ats.length ≤ 100000 ∧ Fine (Tx.replaced t 0 sp) mo) (fun ρ' G' h => ?_) ?_)
            · obtain ⟨ats, mo, ps3, x10, x11, x12, rfl, rfl, hA1, hA2, hA3, hM⟩ := h
              have B : Tx.Both t sp mo := ⟨hF.val, hM.val⟩
              have hMsl := hM.sl
              have hMbl := hM.bl
              have hMput : ∀ x ∈ mo, x.2.2.length ≤ 90000 := fun x hx => (hM.put x hx).2
              have hW2l : (Tx.W (Tx.replaced t 0 sp).length mo).length = (Tx.replaced t 0 sp).length + 1 := Tx.W_len hM.val
              have hkl : (Tx.kept t sp mo).length = (Tx.lastT t sp mo).length := B.len
              have hLl : (Tx.lastT t sp mo).length ≤ 30000 := hMbl
              have hbp : Puts (Tx.bothS t sp mo) := fun x hx => by
                obtain ⟨i, j, e⟩ := Tx.mem_rb x hx
                rw [e]
                exact ⟨Tx.isText_cut hM.bt, by unfold Tx.cut; rw [List.length_take, List.length_drop]; omega⟩
              have hbl2 : (Tx.bothS t sp mo).length ≤ 40000 := by
                have := Tx.rb_len (told := Tx.lastT t sp mo) (l := Tx.kept t sp mo ++ [(t.length : Int)]) (b := 0) (st := 0) (a := 0)
                rw [List.length_append, hkl] at this
                exact Nat.le_trans this (by simp; omega)
              have hkv : Tx.Val (Tx.replaced t 0 sp).length 0 (Tx.backs t 0 0 sp) := Tx.backs_val (pre := []) (told := 0) hF.val (fun _ _ _ _ _ => Nat.zero_le _) (Nat.zero_le _) rfl
              have hkr : Tx.replaced (Tx.replaced t 0 sp) 0 (Tx.backs t 0 0 sp) = t := Tx.backs_replaced (pre := []) (told := 0) hF.val (Nat.zero_le _) rfl
              have hkp : Puts (Tx.backs t 0 0 sp) := fun x hx => by
                obtain ⟨i, j, e⟩ := Tx.mem_backs x hx
                rw [e]
                exact ⟨Tx.isText_cut hF.tt, by unfold Tx.cut; rw [List.length_take, List.length_drop]; omega⟩
              have hksl : (Tx.backs t 0 0 sp).length ≤ 40000 := by rw [Tx.backs_len]; omega
              walk_at "ww"
              refine ⟨Tx.replaced t 0 sp, mo, rfl, by omega, by omega, ?_⟩
              walk_at "ww"
              · refine ⟨(Tx.replaced t 0 sp).length, mo, rfl, by omega, by omega, hM.val, hMput, ?_⟩
                walk_at "ww"
                refine ⟨t, sp, mo, rfl, by omega, hF.tt, B, hF.put, hM.put, by omega, by omega, by omega, hF.bt, by omega, hM.bt, ?_⟩
                walk_at "ww"
                refine ⟨Tx.replaced t 0 sp, mo, rfl, by omega, hF.bt, hM.val, hM.put, by omega, by omega, hM.bt, ?_⟩
                walk_at "ww"
                refine we_lcmap (own_name (by decide)) (wi_list (we_var rfl ⟨_, isR, sp, chD t, chD t, rfl, isR, by omega, fun x hx => ?_, ?_⟩))
                · walk_at "ww"
                  exact ⟨rfl, rfl⟩
                · walk_at "cold"
                  refine ws_for (wi_list (we_var rfl ⟨_, isR, fun i ρ G' => ∃ (pl : Nat × Nat) (x19 x20 x21 x22 x23 x24 x25 x26 : Option D), ρ = [some (D.ro (List.map D.int ns)), some (D.ptr (List.length G)), some (D.str (S t)), some (D.lst (List.map spD sp)), some (D.lst (List.map (chD t) sp)), some (D.str (S (Tx.replaced t 0 sp))), some (D.lst (List.map (chD (Tx.replaced t 0 sp)) (Tx.backs t 0 0 sp))), some (D.lst (List.map wayD (Tx.W t.length sp))), some (.lst (ats.map D.int)), some (.lst (mo.map spD)), x10, x11, x12, some (.lst (mo.map (chD (Tx.replaced t 0 sp)))), some (.lst (List.map wayD (Tx.W (Tx.replaced t 0 sp).length mo))), some (.lst (List.map (chD t) (Tx.bothS t sp mo))), some (.str (S (Tx.lastT t sp mo))), some (.lst (List.map (chD t) sp)), some (plD pl), x19, x20, x21, x22, x23, x24, x25, x26, none, none] ∧ G' = G ++ [nC ps3] ∧
                      (pl = (0, 0) ∨ ∃ (a : Nat) (v : Nat × Bool × Nat), pl = Tx.placeOf (Tx.replaced t 0 sp) v.1 ∧ (Tx.W t.length sp)[a]? = some v ∧ ∀ (j : Nat) z, i ≤ j → ats[j]? = some z → (a : Int) ≤ z),
                    ⟨(0, 0), none, none, none, none, none, none, none, none, rfl, rfl, .inl rfl⟩, fun i ρ G' _ => isR, ?_, ?_⟩))
                  · rintro i d ρ G' hi ⟨pl, x19, x20, x21, x22, x23, x24, x25, x26, rfl, rfl, hlo⟩
                    obtain ⟨z, hz, rfl⟩ := map_get hi
                    obtain ⟨hz0, hz1⟩ := hA2 z (List.mem_of_getElem? hz)
                    obtain ⟨a, rfl⟩ : ∃ a : Nat, z = a := ⟨z.toNat, by omega⟩
                    obtain ⟨⟨to, st, ag⟩, hv⟩ : ∃ v, (Tx.W t.length sp)[a]? = some v := ⟨_, List.getElem?_eq_getElem (by rw [hWl]; omega)⟩
                    have hto := Tx.W_le hF.val hv
                    have hmv := Tx.W_moved hF.val hv
                    have hbk := Tx.W_back hF.val hv
                    walk_at "ww"
                    refine rd_ixL isR (atZ (by omega) (by rw [Int.toNat_natCast, List.getElem?_map, hv]; rfl)) ?_
                    walk_at "ww"
                    refine ⟨t, a, rfl, by omega, ?_⟩
                    walk_at "ww"
                    refine ⟨t, sp, a, to, rfl, by omega, hF.tt, hF.val, hF.put, by omega, by omega, hF.bt, by omega, hmv, ?_⟩
                    walk_at "ww"
                    refine ⟨Tx.replaced t 0 sp, to, rfl, by omega, ?_⟩
                    walk_at "ww"
                    refine ⟨_, rfl, plT _, ?_⟩
                    walk_at "ww"
                    have hlt : HT.lexLt [((Tx.placeOf (Tx.replaced t 0 sp) to).1 : Int), ((Tx.placeOf (Tx.replaced t 0 sp) to).2 : Int)] [(pl.1 : Int), (pl.2 : Int)] = false := by
                      rcases hlo with e | ⟨a', v, e, hv', hle⟩
                      · rw [e]
                        exact lt_first _ _
                      · rw [e]
                        exact lt_no (Tx.W_mono hF.val (by have := hle i a (Nat.le_refl _) hz; omega) hv' hv) hto
                    refine rd_ltT (ns := [((Tx.placeOf (Tx.replaced t 0 sp) to).1 : Int), ((Tx.placeOf (Tx.replaced t 0 sp) to).2 : Int)]) (ms := [(pl.1 : Int), (pl.2 : Int)]) ?_
                    rw [hlt]
                    walk_at "ww"
                    refine ⟨Tx.replaced t 0 sp, Tx.backs t 0 0 sp, to, ag, rfl, by omega, hF.bt, hkv, hkp, hksl, by rw [hkr]; omega, by rw [hkr]; exact hF.tt, hto, hbk, ?_⟩
                    rw [hkr]
                    walk_at "ww"
                    refine ⟨t, ag, rfl, by omega, ?_⟩
                    walk_at "ww"
                    refine ⟨_, rfl, plT _, ?_⟩
                    walk_at "ww"
                    have hnext : ∀ (j : Nat) z, i + 1 ≤ j → ats[j]? = some z → (a : Int) ≤ z := fun j z hj hz2 => by
                      obtain ⟨li, ei⟩ := List.getElem?_eq_some_iff.mp hz
                      obtain ⟨lj, ej⟩ := List.getElem?_eq_some_iff.mp hz2
                      have := List.pairwise_iff_getElem.mp hA1 i j li lj (by omega)
                      rw [ei, ej] at this
                      exact this
                    cases st with
                    | false =>
                      walk_at "ww"
                      exact ⟨_, _, _, _, _, _, _, _, _, rfl, rfl, .inr ⟨a, _, rfl, hv, hnext⟩⟩
                    | true =>
                      walk_at "ww"
                      obtain ⟨⟨due, st2, ag2⟩, hv2⟩ : ∃ v, (Tx.W (Tx.replaced t 0 sp).length mo)[to]? = some v := ⟨_, List.getElem?_eq_getElem (by rw [hW2l]; omega)⟩
                      have hix : atI (List.map wayD (Tx.W (Tx.replaced t 0 sp).length mo)) (to : Int) = some (wayD (due, st2, ag2)) := atZ (by omega) (by rw [Int.toNat_natCast, List.getElem?_map, hv2]; rfl)
                      refine rd_ixL isR hix ?_
                      walk_at "ww"
                      cases st2 with
                      | false =>
                        walk_at "ww"
                        exact ⟨_, _, _, _, _, _, _, _, _, rfl, rfl, .inr ⟨a, _, rfl, hv, hnext⟩⟩
                      | true =>
                        walk_at "ww"
                        refine rd_ixL isR hix ?_
                        walk_at "ww"
                        refine ⟨Tx.lastT t sp mo, due, rfl, by omega, ?_⟩
                        walk_at "ww"
                        refine ⟨t, Tx.bothS t sp mo, a, due, rfl, by omega, hF.tt, B.val, hbp, hbl2, by rw [B.told]; omega, by rw [B.told]; exact hM.bt, by omega, Tx.W_both B hv hv2, ?_⟩
                        rw [B.told]
                        walk_at "ww"
                        refine ⟨_, rfl, plT _, ?_⟩
                        walk_at "ww"
                        refine ⟨Tx.replaced t 0 sp, mo, to, due, rfl, by omega, hF.bt, hM.val, hM.put, by omega, by omega, hM.bt, hto, Tx.W_moved hM.val hv2, ?_⟩
                        walk_at "ww"
                        refine ⟨_, rfl, plT _, ?_⟩
                        walk_at "ww"
                        exact ⟨_, _, _, _, _, _, _, _, _, rfl, rfl, .inr ⟨a, _, rfl, hv, hnext⟩⟩
                  · rintro ρ G' ⟨pl, x19, x20, x21, x22, x23, x24, x25, x26, rfl, rfl, hlo⟩
                    walk_at "ww"
                    refine ⟨_, rfl, ⟨_, rfl, by rw [List.length_map]; omega, fun x hx => ?_⟩, Gc.same (.bl _) q⟩
                    obtain ⟨y, hy, rfl⟩ := List.mem_map.mp hx
                    exact chT _ _ (hput y hy)
              · omega
            · walk_at "ww"
              · refine ite_P (fun h60 => ?_) (fun h60 => ?_)
                · rcases hc with h | hB
                  · exact absurd h60 (by have := h.1; omega)
                  walk_at "ww"
                  refine we_lc (own_name (by decide)) (wi_rng1 (by
                    walk_at "ww"
                    refine ⟨_, rfl, by omega, by omega, fun i acc G' => ∃ (l : List Int) (ps3 : List Int), acc = l.map D.int ∧ l.length = i ∧ (∀ z ∈ l, 0 ≤ z ∧ z ≤ (t.length : Int)) ∧ Pool ps3 ∧ G' = G ++ [nC ps3], ⟨[], ps2, rfl, rfl, fun z h => (nomatch h), hP2, rfl⟩, fun _ _ _ _ => trivial, ?_, ?_⟩
                    · rintro i d acc G' hi ⟨l, ps3, rfl, hl, hs, hP3, rfl⟩
                      obtain ⟨hi, rfl⟩ := rgD_get' hi
                      walk_at "ww"
                      refine wt_yes ?_
                      walk_at "ww"
                      refine ⟨G.length, ps3, _, rfl, by omega, get_last, hP3, fun z1 ps4 z10 z11 hP4 => ?_⟩
                      rw [set_last]
                      walk_at "ww"
                      · refine ⟨G.length, ps4, _, rfl, by omega, get_last, hP4, fun z2 ps5 z20 z21 hP5 => ?_⟩
                        rw [set_last]
                        walk_at "ww"
                        · refine ⟨G.length, ps5, _, rfl, by omega, get_last, hP5, fun z3 ps6 z30 z31 hP6 => ?_⟩
                          rw [set_last]
                          walk_at "ww"
                          · rw [hWm]
                            refine ⟨by rw [List.length_map]; exact lt_size (by omega), l ++ [(z1 * 3600 + z2 * 60 + z3) % ((t.length + 1 : Nat) : Int)], ps6, by rw [List.map_append]; rfl, by rw [List.length_append, hl]; rfl, fun z hz => ?_, hP6, rfl⟩
                            rcases List.mem_append.mp hz with h | h
                            · exact hs z h
                            · rw [List.mem_singleton.mp h]
                              exact ⟨Int.emod_nonneg _ (by omega), by have := Int.emod_lt_of_pos (z1 * 3600 + z2 * 60 + z3) (show (0 : Int) < ((t.length + 1 : Nat) : Int) by omega); omega⟩
                          · rw [hWm]
                            omega
                        · exact .inl ⟨by omega, by omega⟩
                      · exact .inl ⟨by omega, by omega⟩
                    · rintro acc G' ⟨l, ps3, rfl, hl, hs, hP3, rfl⟩
                      walk_at "cold"
                      refine rc_sortedI isR fun l1 hl1 hl1s => ?_
                      walk_at "cold"
                      walk_at "cold"
                      rw [rgD_len] at hl
                      have hl : l.length = 8 := hl
                      refine ws_for (wi_list (we_var rfl ⟨_, isR, fun i ρ G' => ∃ (l2 : List Int) (x10 x11 x12 : Option D), ρ = [some (D.ro (List.map D.int ns)), some (D.ptr (List.length G)), some (D.str (S t)), some (D.lst (List.map spD sp)), some (D.lst (List.map (chD t) sp)), some (D.str (S (Tx.replaced t 0 sp))), some (D.lst (List.map (chD (Tx.replaced t 0 sp)) (Tx.backs t 0 0 sp))), some (D.lst (List.map wayD (Tx.W t.length sp))), some (.lst (l2.map D.int)), some (.lst []), x10, x11, x12, none, none, none, none, none, none, none, none, none, none, none, none, none, none, none, none] ∧ G' = G ++ [nC ps3] ∧ l2.length ≤ 8 + 2 * i ∧ (∀ z ∈ l2, 0 ≤ z ∧ z ≤ (t.length : Int)),
                        ⟨l1, none, none, none, rfl, rfl, by have := hl1.length_eq; omega, fun z hz => hs z (hl1.mem_iff.mp hz)⟩, fun i ρ G' _ => isR, ?_, ?_⟩))
                      · rintro i d ρ G' hi ⟨l2, x10, x11, x12, rfl, rfl, hl2, hs2⟩
                        obtain ⟨⟨f, s', p⟩, hx, rfl⟩ := map_get hi
                        have hil := (List.getElem?_eq_some_iff.mp hx).1
                        have hfs := Tx.val_mem hF.val _ (List.mem_of_getElem? hx)
                        walk_at "ww"
                        walk_at "cold"
                        refine rd_cat isL isL (by rw [List.length_map]; exact le_size (by simp; omega)) (.inl ?_)
                        walk_at "ww"
                        have el : List.map D.int l2 ++ [.int (f : Nat), .int (s' : Nat)] = List.map D.int (l2 ++ [(f : Int), (s' : Int)]) := by rw [List.map_append]; rfl
                        rw [el]
                        refine ⟨l2 ++ [(f : Int), (s' : Int)], _, _, _, rfl, rfl, by rw [List.length_append]; show l2.length + 2 ≤ _; omega, fun z hz => ?_⟩
                        · rcases List.mem_append.mp hz with h | h
                          · exact hs2 z h
                          · have h1 : f ≤ s' := hfs.2.1
                            have h2 : s' ≤ t.length := hfs.2.2
                            rcases List.mem_cons.mp h with h | h
                            · rw [h]; omega
                            · rw [List.mem_singleton.mp h]; omega
                      · rintro ρ G' ⟨l2, x10, x11, x12, rfl, rfl, hl2, hs2⟩
                        rw [List.length_map] at hl2
                        walk_at "ww"
                        refine rc_sortedI isR fun l3 hl3 hl3s => ?_
                        walk_at "cold"
                        exact ⟨l3, [], ps3, _, _, _, rfl, rfl, hl3s, fun z hz => hs2 z (hl3.mem_iff.mp hz), by have := hl3.length_eq; omega, hB.fine.2⟩))
                · rcases hc with hS | h
                  · walk_at "ww"
                    have hS2 := hS.2.2.fine hS.1 (by decide) (Nat.le_refl _) (by have := hS.1; omega) hS.2.1
                    have hS1 := hS.1
                    have hS3 := hS2.2.1
                    refine ⟨(List.range (t.length + 1)).map fun i => ((i : Nat) : Int), mo, ps2, none, none, none, ?_, rfl, ?_, ?_, by rw [List.length_map, List.length_range]; omega, (hmo.fine h40 (by decide) (by rw [List.length_take]; omega) (by omega) hS2.2.2).1⟩
                    · rw [List.map_map]
                      rfl
                    · rw [List.pairwise_map]
                      exact List.pairwise_lt_range.imp fun h => by omega
                    · intro z hz
                      obtain ⟨i, hi, rfl⟩ := List.mem_map.mp hz
                      have := List.mem_range.mp hi
                      omega
                  · exact absurd h60 (by have := h.text.len; omega)
              · omega
          · omega))
    · omega
end

theorem reps_ns {K : PySem.W.Frag} {B : Hp} {ps : List Addr} : ∀ ns : List Int, Reps K B ps (ns.map V.int) (ns.map D.int)
  | [] => .nil
  | _ :: r => .cons (.int _) (reps_ns r)
/-- what the law is asked, as data -/
theorem law_sp {K : PySem.W.Frag} {F : FD} {H : Hp} {a : Addr} {ns : List Int} (hS : SqL K H a (ns.map V.int)) (hF : F [.ro (ns.map D.int)] [] fun d _ => d = .bl true) : SpD K F [.ref a] H (fun v _ => v = .bl true) fun _ _ _ => False := by
  refine ⟨⟨H, H, []⟩, [], [.ro (ns.map D.int)], fun d _ => d = .bl true, rfl, ?_, rfl, hF, fun v d w' G' r ok rep f => ?_⟩
  · refine ⟨fun _ _ h => h, (fun a h => nomatch h), List.nodup_nil, rfl, (fun k p c h => nomatch h), (fun k p c h => nomatch h), Nat.le_refl _, fun i d h => ?_⟩
    cases i with
    | zero =>
      cases h
      exact ⟨_, rfl, .ro hS (reps_ns ns)⟩
    | succ i => exact nomatch h
  · subst r
    cases rep
    rfl
theorem top_mk {l : PySem.W.OpenLaw} {w : World} {K : PySem.W.Frag} {h : Heap} {mg : Str → Option Value} {fa : Addr} (X : K.In h) (G : h.Ns mainGlobals mg) (hfa : mg "law" = some (.ref fa))
    {f0 : Addr} {od0 an0 : Option Addr} {sl0 : Array (Option Value)} {oc0 kV0 dc0 pm0 cd0 ct0 : Value} (a0 : PySem.W.nsIn K mainGlobals "is_number" = some (some (.ref f0))) (l0 : K.lookup f0 = some ⟨oc0, od0, .func (PySem.W.fnOf "is_number" "is_number" (defArgs s_is_number) (defBody s_is_number) (defScope s_is_number) .none kV0 dc0 pm0 an0 cd0 ct0), sl0⟩) (c0 : PySem.W.codeIn K cd0 "is_number" = true) (k0 : PySem.W.keepIn K (.ref f0) = true)
    {f1 : Addr} {od1 an1 : Option Addr} {sl1 : Array (Option Value)} {oc1 kV1 dc1 pm1 cd1 ct1 : Value} (a1 : PySem.W.nsIn K mainGlobals "is_line" = some (some (.ref f1))) (l1 : K.lookup f1 = some ⟨oc1, od1, .func (PySem.W.fnOf "is_line" "is_line" (defArgs s_is_line) (defBody s_is_line) (defScope s_is_line) .none kV1 dc1 pm1 an1 cd1 ct1), sl1⟩) (c1 : PySem.W.codeIn K cd1 "is_line" = true) (k1 : PySem.W.keepIn K (.ref f1) = true)
    {f2 : Addr} {od2 an2 : Option Addr} {sl2 : Array (Option Value)} {oc2 kV2 dc2 pm2 cd2 ct2 : Value} (a2 : PySem.W.nsIn K mainGlobals "is_text" = some (some (.ref f2))) (l2 : K.lookup f2 = some ⟨oc2, od2, .func (PySem.W.fnOf "is_text" "is_text" (defArgs s_is_text) (defBody s_is_text) (defScope s_is_text) .none kV2 dc2 pm2 an2 cd2 ct2), sl2⟩) (c2 : PySem.W.codeIn K cd2 "is_text" = true) (k2 : PySem.W.keepIn K (.ref f2) = true)
    {f3 : Addr} {od3 an3 : Option Addr} {sl3 : Array (Option Value)} {oc3 kV3 dc3 pm3 cd3 ct3 : Value} (a3 : PySem.W.nsIn K mainGlobals "check_text" = some (some (.ref f3))) (l3 : K.lookup f3 = some ⟨oc3, od3, .func (PySem.W.fnOf "check_text" "check_text" (defArgs s_check_text) (defBody s_check_text) (defScope s_check_text) .none kV3 dc3 pm3 an3 cd3 ct3), sl3⟩) (c3 : PySem.W.codeIn K cd3 "check_text" = true) (k3 : PySem.W.keepIn K (.ref f3) = true)
    {f4 : Addr} {od4 an4 : Option Addr} {sl4 : Array (Option Value)} {oc4 kV4 dc4 pm4 cd4 ct4 : Value} (a4 : PySem.W.nsIn K mainGlobals "place_at" = some (some (.ref f4))) (l4 : K.lookup f4 = some ⟨oc4, od4, .func (PySem.W.fnOf "place_at" "place_at" (defArgs s_place_at) (defBody s_place_at) (defScope s_place_at) .none kV4 dc4 pm4 an4 cd4 ct4), sl4⟩) (c4 : PySem.W.codeIn K cd4 "place_at" = true) (k4 : PySem.W.keepIn K (.ref f4) = true)
    {f5 : Addr} {od5 an5 : Option Addr} {sl5 : Array (Option Value)} {oc5 kV5 dc5 pm5 cd5 ct5 : Value} (a5 : PySem.W.nsIn K mainGlobals "place_of" = some (some (.ref f5))) (l5 : K.lookup f5 = some ⟨oc5, od5, .func (PySem.W.fnOf "place_of" "place_of" (defArgs s_place_of) (defBody s_place_of) (defScope s_place_of) .none kV5 dc5 pm5 an5 cd5 ct5), sl5⟩) (c5 : PySem.W.codeIn K cd5 "place_of" = true) (k5 : PySem.W.keepIn K (.ref f5) = true)
    {f6 : Addr} {od6 an6 : Option Addr} {sl6 : Array (Option Value)} {oc6 kV6 dc6 pm6 cd6 ct6 : Value} (a6 : PySem.W.nsIn K mainGlobals "span_of" = some (some (.ref f6))) (l6 : K.lookup f6 = some ⟨oc6, od6, .func (PySem.W.fnOf "span_of" "span_of" (defArgs s_span_of) (defBody s_span_of) (defScope s_span_of) .none kV6 dc6 pm6 an6 cd6 ct6), sl6⟩) (c6 : PySem.W.codeIn K cd6 "span_of" = true) (k6 : PySem.W.keepIn K (.ref f6) = true)
    {f7 : Addr} {od7 an7 : Option Addr} {sl7 : Array (Option Value)} {oc7 kV7 dc7 pm7 cd7 ct7 : Value} (a7 : PySem.W.nsIn K mainGlobals "spans_of" = some (some (.ref f7))) (l7 : K.lookup f7 = some ⟨oc7, od7, .func (PySem.W.fnOf "spans_of" "spans_of" (defArgs s_spans_of) (defBody s_spans_of) (defScope s_spans_of) .none kV7 dc7 pm7 an7 cd7 ct7), sl7⟩) (c7 : PySem.W.codeIn K cd7 "spans_of" = true) (k7 : PySem.W.keepIn K (.ref f7) = true)
    {f8 : Addr} {od8 an8 : Option Addr} {sl8 : Array (Option Value)} {oc8 kV8 dc8 pm8 cd8 ct8 : Value} (a8 : PySem.W.nsIn K mainGlobals "replaced" = some (some (.ref f8))) (l8 : K.lookup f8 = some ⟨oc8, od8, .func (PySem.W.fnOf "replaced" "replaced" (defArgs s_replaced) (defBody s_replaced) (defScope s_replaced) .none kV8 dc8 pm8 an8 cd8 ct8), sl8⟩) (c8 : PySem.W.codeIn K cd8 "replaced" = true) (k8 : PySem.W.keepIn K (.ref f8) = true)
    {f9 : Addr} {od9 an9 : Option Addr} {sl9 : Array (Option Value)} {oc9 kV9 dc9 pm9 cd9 ct9 : Value} (a9 : PySem.W.nsIn K mainGlobals "changed" = some (some (.ref f9))) (l9 : K.lookup f9 = some ⟨oc9, od9, .func (PySem.W.fnOf "changed" "changed" (defArgs s_changed) (defBody s_changed) (defScope s_changed) .none kV9 dc9 pm9 an9 cd9 ct9), sl9⟩) (c9 : PySem.W.codeIn K cd9 "changed" = true) (k9 : PySem.W.keepIn K (.ref f9) = true)
    {f10 : Addr} {od10 an10 : Option Addr} {sl10 : Array (Option Value)} {oc10 kV10 dc10 pm10 cd10 ct10 : Value} (a10 : PySem.W.nsIn K mainGlobals "moved" = some (some (.ref f10))) (l10 : K.lookup f10 = some ⟨oc10, od10, .func (PySem.W.fnOf "moved" "moved" (defArgs s_moved) (defBody s_moved) (defScope s_moved) .none kV10 dc10 pm10 an10 cd10 ct10), sl10⟩) (c10 : PySem.W.codeIn K cd10 "moved" = true) (k10 : PySem.W.keepIn K (.ref f10) = true)
    {f11 : Addr} {od11 an11 : Option Addr} {sl11 : Array (Option Value)} {oc11 kV11 dc11 pm11 cd11 ct11 : Value} (a11 : PySem.W.nsIn K mainGlobals "mapped" = some (some (.ref f11))) (l11 : K.lookup f11 = some ⟨oc11, od11, .func (PySem.W.fnOf "mapped" "mapped" (defArgs s_mapped) (defBody s_mapped) (defScope s_mapped) .none kV11 dc11 pm11 an11 cd11 ct11), sl11⟩) (c11 : PySem.W.codeIn K cd11 "mapped" = true) (k11 : PySem.W.keepIn K (.ref f11) = true)
    {f12 : Addr} {od12 an12 : Option Addr} {sl12 : Array (Option Value)} {oc12 kV12 dc12 pm12 cd12 ct12 : Value} (a12 : PySem.W.nsIn K mainGlobals "back_of" = some (some (.ref f12))) (l12 : K.lookup f12 = some ⟨oc12, od12, .func (PySem.W.fnOf "back_of" "back_of" (defArgs s_back_of) (defBody s_back_of) (defScope s_back_of) .none kV12 dc12 pm12 an12 cd12 ct12), sl12⟩) (c12 : PySem.W.codeIn K cd12 "back_of" = true) (k12 : PySem.W.keepIn K (.ref f12) = true)
    {f13 : Addr} {od13 an13 : Option Addr} {sl13 : Array (Option Value)} {oc13 kV13 dc13 pm13 cd13 ct13 : Value} (a13 : PySem.W.nsIn K mainGlobals "origins" = some (some (.ref f13))) (l13 : K.lookup f13 = some ⟨oc13, od13, .func (PySem.W.fnOf "origins" "origins" (defArgs s_origins) (defBody s_origins) (defScope s_origins) .none kV13 dc13 pm13 an13 cd13 ct13), sl13⟩) (c13 : PySem.W.codeIn K cd13 "origins" = true) (k13 : PySem.W.keepIn K (.ref f13) = true)
    {f14 : Addr} {od14 an14 : Option Addr} {sl14 : Array (Option Value)} {oc14 kV14 dc14 pm14 cd14 ct14 : Value} (a14 : PySem.W.nsIn K mainGlobals "row_between" = some (some (.ref f14))) (l14 : K.lookup f14 = some ⟨oc14, od14, .func (PySem.W.fnOf "row_between" "row_between" (defArgs s_row_between) (defBody s_row_between) (defScope s_row_between) .none kV14 dc14 pm14 an14 cd14 ct14), sl14⟩) (c14 : PySem.W.codeIn K cd14 "row_between" = true) (k14 : PySem.W.keepIn K (.ref f14) = true)
    {f15 : Addr} {od15 an15 : Option Addr} {sl15 : Array (Option Value)} {oc15 kV15 dc15 pm15 cd15 ct15 : Value} (a15 : PySem.W.nsIn K mainGlobals "joined" = some (some (.ref f15))) (l15 : K.lookup f15 = some ⟨oc15, od15, .func (PySem.W.fnOf "joined" "joined" (defArgs s_joined) (defBody s_joined) (defScope s_joined) .none kV15 dc15 pm15 an15 cd15 ct15), sl15⟩) (c15 : PySem.W.codeIn K cd15 "joined" = true) (k15 : PySem.W.keepIn K (.ref f15) = true)
    {f16 : Addr} {od16 an16 : Option Addr} {sl16 : Array (Option Value)} {oc16 kV16 dc16 pm16 cd16 ct16 : Value} (a16 : PySem.W.nsIn K mainGlobals "_law_pool" = some (some (.ref f16))) (l16 : K.lookup f16 = some ⟨oc16, od16, .func (PySem.W.fnOf "_law_pool" "_law_pool" (defArgs s_law_pool) (defBody s_law_pool) (defScope s_law_pool) .none kV16 dc16 pm16 an16 cd16 ct16), sl16⟩) (c16 : PySem.W.codeIn K cd16 "_law_pool" = true) (k16 : PySem.W.keepIn K (.ref f16) = true)
    {f17 : Addr} {od17 an17 : Option Addr} {sl17 : Array (Option Value)} {oc17 kV17 dc17 pm17 cd17 ct17 : Value} (a17 : PySem.W.nsIn K mainGlobals "_law_stream" = some (some (.ref f17))) (l17 : K.lookup f17 = some ⟨oc17, od17, .func (PySem.W.fnOf "_law_stream" "_law_stream" (defArgs s_law_stream) (defBody s_law_stream) (defScope s_law_stream) .none kV17 dc17 pm17 an17 cd17 ct17), sl17⟩) (c17 : PySem.W.codeIn K cd17 "_law_stream" = true) (k17 : PySem.W.keepIn K (.ref f17) = true)
    {f18 : Addr} {od18 an18 : Option Addr} {sl18 : Array (Option Value)} {oc18 kV18 dc18 pm18 cd18 ct18 : Value} (a18 : PySem.W.nsIn K mainGlobals "_law_pick" = some (some (.ref f18))) (l18 : K.lookup f18 = some ⟨oc18, od18, .func (PySem.W.fnOf "_law_pick" "_law_pick" (defArgs s_law_pick) (defBody s_law_pick) (defScope s_law_pick) .none kV18 dc18 pm18 an18 cd18 ct18), sl18⟩) (c18 : PySem.W.codeIn K cd18 "_law_pick" = true) (k18 : PySem.W.keepIn K (.ref f18) = true)
    {f19 : Addr} {od19 an19 : Option Addr} {sl19 : Array (Option Value)} {oc19 kV19 dc19 pm19 cd19 ct19 : Value} (a19 : PySem.W.nsIn K mainGlobals "_law_same" = some (some (.ref f19))) (l19 : K.lookup f19 = some ⟨oc19, od19, .func (PySem.W.fnOf "_law_same" "_law_same" (defArgs s_law_same) (defBody s_law_same) (defScope s_law_same) .none kV19 dc19 pm19 an19 cd19 ct19), sl19⟩) (c19 : PySem.W.codeIn K cd19 "_law_same" = true) (k19 : PySem.W.keepIn K (.ref f19) = true)
    {f20 : Addr} {od20 an20 : Option Addr} {sl20 : Array (Option Value)} {oc20 kV20 dc20 pm20 cd20 ct20 : Value} (a20 : PySem.W.nsIn K mainGlobals "_law_place" = some (some (.ref f20))) (l20 : K.lookup f20 = some ⟨oc20, od20, .func (PySem.W.fnOf "_law_place" "_law_place" (defArgs s_law_place) (defBody s_law_place) (defScope s_law_place) .none kV20 dc20 pm20 an20 cd20 ct20), sl20⟩) (c20 : PySem.W.codeIn K cd20 "_law_place" = true) (k20 : PySem.W.keepIn K (.ref f20) = true)
    {f21 : Addr} {od21 an21 : Option Addr} {sl21 : Array (Option Value)} {oc21 kV21 dc21 pm21 cd21 ct21 : Value} (a21 : PySem.W.nsIn K mainGlobals "_law_row" = some (some (.ref f21))) (l21 : K.lookup f21 = some ⟨oc21, od21, .func (PySem.W.fnOf "_law_row" "_law_row" (defArgs s_law_row) (defBody s_law_row) (defScope s_law_row) .none kV21 dc21 pm21 an21 cd21 ct21), sl21⟩) (c21 : PySem.W.codeIn K cd21 "_law_row" = true) (k21 : PySem.W.keepIn K (.ref f21) = true)
    {f22 : Addr} {od22 an22 : Option Addr} {sl22 : Array (Option Value)} {oc22 kV22 dc22 pm22 cd22 ct22 : Value} (a22 : PySem.W.nsIn K mainGlobals "_law_string" = some (some (.ref f22))) (l22 : K.lookup f22 = some ⟨oc22, od22, .func (PySem.W.fnOf "_law_string" "_law_string" (defArgs s_law_string) (defBody s_law_string) (defScope s_law_string) .none kV22 dc22 pm22 an22 cd22 ct22), sl22⟩) (c22 : PySem.W.codeIn K cd22 "_law_string" = true) (k22 : PySem.W.keepIn K (.ref f22) = true)
    {f23 : Addr} {od23 an23 : Option Addr} {sl23 : Array (Option Value)} {oc23 kV23 dc23 pm23 cd23 ct23 : Value} (a23 : PySem.W.nsIn K mainGlobals "_law_spans" = some (some (.ref f23))) (l23 : K.lookup f23 = some ⟨oc23, od23, .func (PySem.W.fnOf "_law_spans" "_law_spans" (defArgs s_law_spans) (defBody s_law_spans) (defScope s_law_spans) .none kV23 dc23 pm23 an23 cd23 ct23), sl23⟩) (c23 : PySem.W.codeIn K cd23 "_law_spans" = true) (k23 : PySem.W.keepIn K (.ref f23) = true)
    {f24 : Addr} {od24 an24 : Option Addr} {sl24 : Array (Option Value)} {oc24 kV24 dc24 pm24 cd24 ct24 : Value} (a24 : PySem.W.nsIn K mainGlobals "_law_behind" = some (some (.ref f24))) (l24 : K.lookup f24 = some ⟨oc24, od24, .func (PySem.W.fnOf "_law_behind" "_law_behind" (defArgs s_law_behind) (defBody s_law_behind) (defScope s_law_behind) .none kV24 dc24 pm24 an24 cd24 ct24), sl24⟩) (c24 : PySem.W.codeIn K cd24 "_law_behind" = true) (k24 : PySem.W.keepIn K (.ref f24) = true)
    {f25 : Addr} {od25 an25 : Option Addr} {sl25 : Array (Option Value)} {oc25 kV25 dc25 pm25 cd25 ct25 : Value} (a25 : PySem.W.nsIn K mainGlobals "_law_case" = some (some (.ref f25))) (l25 : K.lookup f25 = some ⟨oc25, od25, .func (PySem.W.fnOf "_law_case" "_law_case" (defArgs s_law_case) (defBody s_law_case) (defScope s_law_case) .none kV25 dc25 pm25 an25 cd25 ct25), sl25⟩) (c25 : PySem.W.codeIn K cd25 "_law_case" = true) (k25 : PySem.W.keepIn K (.ref f25) = true)
    {f26 : Addr} {od26 an26 : Option Addr} {sl26 : Array (Option Value)} {oc26 kV26 dc26 pm26 cd26 ct26 : Value} (a26 : PySem.W.nsIn K mainGlobals "_law_ways" = some (some (.ref f26))) (l26 : K.lookup f26 = some ⟨oc26, od26, .func (PySem.W.fnOf "_law_ways" "_law_ways" (defArgs s_law_ways) (defBody s_law_ways) (defScope s_law_ways) .none kV26 dc26 pm26 an26 cd26 ct26), sl26⟩) (c26 : PySem.W.codeIn K cd26 "_law_ways" = true) (k26 : PySem.W.keepIn K (.ref f26) = true)
    {f27 : Addr} {od27 an27 : Option Addr} {sl27 : Array (Option Value)} {oc27 kV27 dc27 pm27 cd27 ct27 : Value} (a27 : PySem.W.nsIn K mainGlobals "_law_asked" = some (some (.ref f27))) (l27 : K.lookup f27 = some ⟨oc27, od27, .func (PySem.W.fnOf "_law_asked" "_law_asked" (defArgs s_law_asked) (defBody s_law_asked) (defScope s_law_asked) .none kV27 dc27 pm27 an27 cd27 ct27), sl27⟩) (c27 : PySem.W.codeIn K cd27 "_law_asked" = true) (k27 : PySem.W.keepIn K (.ref f27) = true)
    {f28 : Addr} {od28 an28 : Option Addr} {sl28 : Array (Option Value)} {oc28 kV28 dc28 pm28 cd28 ct28 : Value} (a28 : PySem.W.nsIn K mainGlobals "law" = some (some (.ref f28))) (l28 : K.lookup f28 = some ⟨oc28, od28, .func (PySem.W.fnOf "law" "law" (defArgs s_law) (defBody s_law) (defScope s_law) .none kV28 dc28 pm28 an28 cd28 ct28), sl28⟩) (c28 : PySem.W.codeIn K cd28 "law" = true) (k28 : PySem.W.keepIn K (.ref f28) = true)
    {t_MOST_LINES : Tok} (g_MOST_LINES : PySem.W.nsIn K mainGlobals "MOST_LINES" = some (some (Value.int 400 t_MOST_LINES)))
    {t_MOST_SIGNS : Tok} (g_MOST_SIGNS : PySem.W.nsIn K mainGlobals "MOST_SIGNS" = some (some (Value.int 100 t_MOST_SIGNS)))
    (z_range : PySem.W.nsIn K mainGlobals "range" = some none)
    (z_int : PySem.W.nsIn K mainGlobals "int" = some none)
    (z_len : PySem.W.nsIn K mainGlobals "len" = some none)
    (z_bool : PySem.W.nsIn K mainGlobals "bool" = some none)
    (z_str : PySem.W.nsIn K mainGlobals "str" = some none)
    (z_list : PySem.W.nsIn K mainGlobals "list" = some none)
    (z_tuple : PySem.W.nsIn K mainGlobals "tuple" = some none)
    (z_isinstance : PySem.W.nsIn K mainGlobals "isinstance" = some none)
    (z_all : PySem.W.nsIn K mainGlobals "all" = some none)
    (z_sum : PySem.W.nsIn K mainGlobals "sum" = some none)
    (z_enumerate : PySem.W.nsIn K mainGlobals "enumerate" = some none)
    (z_min : PySem.W.nsIn K mainGlobals "min" = some none)
    (z_sorted : PySem.W.nsIn K mainGlobals "sorted" = some none)
    (hlaw : ∀ (base : Heap) (T : Top K mg), FnOk l.prog w K mg base CX0 8 T.a_law T.d_law ["script"] (SpD K F_law)) :
    ∃ fd : FuncData, (∀ (s : Shared) (v : Value), BindsTo s fd ⟨[v], []⟩ [("script", v)]) ∧ ∀ base : Heap, K.In base → base.Ns mainGlobals mg → FnOk l.prog w K mg base CX0 8 fa fd ["script"] (SpD K F_law) := by
  have e := hfa.symm.trans (PySem.W.mg_of X G a28)
  cases e
  have F0 := fun_mk (st := s_is_number) l0 c0 k0
  have b0 := F0.binds (ps := ["value"]) fun _ _ _ _ _ _ us hl => match us, hl with | [_], _ => rfl
  have F1 := fun_mk (st := s_is_line) l1 c1 k1
  have b1 := F1.binds (ps := ["value"]) fun _ _ _ _ _ _ us hl => match us, hl with | [_], _ => rfl
  have F2 := fun_mk (st := s_is_text) l2 c2 k2
  have b2 := F2.binds (ps := ["value"]) fun _ _ _ _ _ _ us hl => match us, hl with | [_], _ => rfl
  have F3 := fun_mk (st := s_check_text) l3 c3 k3
  have b3 := F3.binds (ps := ["value"]) fun _ _ _ _ _ _ us hl => match us, hl with | [_], _ => rfl
  have F4 := fun_mk (st := s_place_at) l4 c4 k4
  have b4 := F4.binds (ps := ["text", "line", "column"]) fun _ _ _ _ _ _ us hl => match us, hl with | [_, _, _], _ => rfl
  have F5 := fun_mk (st := s_place_of) l5 c5 k5
  have b5 := F5.binds (ps := ["text", "at"]) fun _ _ _ _ _ _ us hl => match us, hl with | [_, _], _ => rfl
  have F6 := fun_mk (st := s_span_of) l6 c6 k6
  have b6 := F6.binds (ps := ["text", "change"]) fun _ _ _ _ _ _ us hl => match us, hl with | [_, _], _ => rfl
  have F7 := fun_mk (st := s_spans_of) l7 c7 k7
  have b7 := F7.binds (ps := ["text", "changes"]) fun _ _ _ _ _ _ us hl => match us, hl with | [_, _], _ => rfl
  have F8 := fun_mk (st := s_replaced) l8 c8 k8
  have b8 := F8.binds (ps := ["text", "spans"]) fun _ _ _ _ _ _ us hl => match us, hl with | [_, _], _ => rfl
  have F9 := fun_mk (st := s_changed) l9 c9 k9
  have b9 := F9.binds (ps := ["text", "changes"]) fun _ _ _ _ _ _ us hl => match us, hl with | [_, _], _ => rfl
  have F10 := fun_mk (st := s_moved) l10 c10 k10
  have b10 := F10.binds (ps := ["spans", "at"]) fun _ _ _ _ _ _ us hl => match us, hl with | [_, _], _ => rfl
  have F11 := fun_mk (st := s_mapped) l11 c11 k11
  have b11 := F11.binds (ps := ["text", "changes", "line", "column"]) fun _ _ _ _ _ _ us hl => match us, hl with | [_, _, _, _], _ => rfl
  have F12 := fun_mk (st := s_back_of) l12 c12 k12
  have b12 := F12.binds (ps := ["text", "changes"]) fun _ _ _ _ _ _ us hl => match us, hl with | [_, _], _ => rfl
  have F13 := fun_mk (st := s_origins) l13 c13 k13
  have b13 := F13.binds (ps := ["size", "spans"]) fun _ _ _ _ _ _ us hl => match us, hl with | [_, _], _ => rfl
  have F14 := fun_mk (st := s_row_between) l14 c14 k14
  have b14 := F14.binds (ps := ["text", "told", "kept"]) fun _ _ _ _ _ _ us hl => match us, hl with | [_, _, _], _ => rfl
  have F15 := fun_mk (st := s_joined) l15 c15 k15
  have b15 := F15.binds (ps := ["text", "changes", "more"]) fun _ _ _ _ _ _ us hl => match us, hl with | [_, _, _], _ => rfl
  have F16 := fun_mk (st := s_law_pool) l16 c16 k16
  have b16 := F16.binds (ps := ["script"]) fun _ _ _ _ _ _ us hl => match us, hl with | [_], _ => rfl
  have F17 := fun_mk (st := s_law_stream) l17 c17 k17
  have b17 := F17.binds (ps := ["script"]) fun _ _ _ _ _ _ us hl => match us, hl with | [_], _ => rfl
  have F18 := fun_mk (st := s_law_pick) l18 c18 k18
  have b18 := F18.binds (ps := ["pool", "many"]) fun _ _ _ _ _ _ us hl => match us, hl with | [_, _], _ => rfl
  have F19 := fun_mk (st := s_law_same) l19 c19 k19
  have b19 := F19.binds (ps := ["one", "other"]) fun _ _ _ _ _ _ us hl => match us, hl with | [_, _], _ => rfl
  have F20 := fun_mk (st := s_law_place) l20 c20 k20
  have b20 := F20.binds (ps := ["text", "at"]) fun _ _ _ _ _ _ us hl => match us, hl with | [_, _], _ => rfl
  have F21 := fun_mk (st := s_law_row) l21 c21 k21
  have b21 := F21.binds (ps := ["text", "spans"]) fun _ _ _ _ _ _ us hl => match us, hl with | [_, _], _ => rfl
  have F22 := fun_mk (st := s_law_string) l22 c22 k22
  have b22 := F22.binds (ps := ["pool", "most"]) fun _ _ _ _ _ _ us hl => match us, hl with | [_, _], _ => rfl
  have F23 := fun_mk (st := s_law_spans) l23 c23 k23
  have b23 := F23.binds (ps := ["pool", "text", "most"]) fun _ _ _ _ _ _ us hl => match us, hl with | [_, _, _], _ => rfl
  have F24 := fun_mk (st := s_law_behind) l24 c24 k24
  have b24 := F24.binds (ps := ["text", "spans"]) fun _ _ _ _ _ _ us hl => match us, hl with | [_, _], _ => rfl
  have F25 := fun_mk (st := s_law_case) l25 c25 k25
  have b25 := F25.binds (ps := ["pool"]) fun _ _ _ _ _ _ us hl => match us, hl with | [_], _ => rfl
  have F26 := fun_mk (st := s_law_ways) l26 c26 k26
  have b26 := F26.binds (ps := ["size", "spans"]) fun _ _ _ _ _ _ us hl => match us, hl with | [_, _], _ => rfl
  have F27 := fun_mk (st := s_law_asked) l27 c27 k27
  have b27 := F27.binds (ps := ["text", "row", "at"]) fun _ _ _ _ _ _ us hl => match us, hl with | [_, _, _], _ => rfl
  have F28 := fun_mk (st := s_law) l28 c28 k28
  have b28 := F28.binds (ps := ["script"]) fun _ _ _ _ _ _ us hl => match us, hl with | [_], _ => rfl
  let T : Top K mg := ⟨f0, _, ⟨F0, b0, PySem.W.mg_of X G a0⟩, f1, _, ⟨F1, b1, PySem.W.mg_of X G a1⟩, f2, _, ⟨F2, b2, PySem.W.mg_of X G a2⟩, f3, _, ⟨F3, b3, PySem.W.mg_of X G a3⟩, f4, _, ⟨F4, b4, PySem.W.mg_of X G a4⟩, f5, _, ⟨F5, b5, PySem.W.mg_of X G a5⟩, f6, _, ⟨F6, b6, PySem.W.mg_of X G a6⟩, f7, _, ⟨F7, b7, PySem.W.mg_of X G a7⟩, f8, _, ⟨F8, b8, PySem.W.mg_of X G a8⟩, f9, _, ⟨F9, b9, PySem.W.mg_of X G a9⟩, f10, _, ⟨F10, b10, PySem.W.mg_of X G a10⟩, f11, _, ⟨F11, b11, PySem.W.mg_of X G a11⟩, f12, _, ⟨F12, b12, PySem.W.mg_of X G a12⟩, f13, _, ⟨F13, b13, PySem.W.mg_of X G a13⟩, f14, _, ⟨F14, b14, PySem.W.mg_of X G a14⟩, f15, _, ⟨F15, b15, PySem.W.mg_of X G a15⟩, f16, _, ⟨F16, b16, PySem.W.mg_of X G a16⟩, f17, _, ⟨F17, b17, PySem.W.mg_of X G a17⟩, f18, _, ⟨F18, b18, PySem.W.mg_of X G a18⟩, f19, _, ⟨F19, b19, PySem.W.mg_of X G a19⟩, f20, _, ⟨F20, b20, PySem.W.mg_of X G a20⟩, f21, _, ⟨F21, b21, PySem.W.mg_of X G a21⟩, f22, _, ⟨F22, b22, PySem.W.mg_of X G a22⟩, f23, _, ⟨F23, b23, PySem.W.mg_of X G a23⟩, f24, _, ⟨F24, b24, PySem.W.mg_of X G a24⟩, f25, _, ⟨F25, b25, PySem.W.mg_of X G a25⟩, f26, _, ⟨F26, b26, PySem.W.mg_of X G a26⟩, f27, _, ⟨F27, b27, PySem.W.mg_of X G a27⟩, fa, _, ⟨F28, b28, PySem.W.mg_of X G a28⟩, _, PySem.W.mg_of X G g_MOST_LINES, _, PySem.W.mg_of X G g_MOST_SIGNS, PySem.W.mg_none_of X G z_range, PySem.W.mg_none_of X G z_int, PySem.W.mg_none_of X G z_len, PySem.W.mg_none_of X G z_bool, PySem.W.mg_none_of X G z_str, PySem.W.mg_none_of X G z_list, PySem.W.mg_none_of X G z_tuple, PySem.W.mg_none_of X G z_isinstance, PySem.W.mg_none_of X G z_all, PySem.W.mg_none_of X G z_sum, PySem.W.mg_none_of X G z_enumerate, PySem.W.mg_none_of X G z_min, PySem.W.mg_none_of X G z_sorted⟩
  exact ⟨T.d_law, fun s v => .of_eq rfl, fun base _ _ => hlaw base T⟩
end My
open PySem PySem.W PyProof.Rows
set_option maxHeartbeats 0 in
theorem PySem.Challenge.cw_asifnew_k05_whole_places_behind_changes_holds : PySem.Challenge.rw_asifnew_k05_whole_places_behind_changes.Holds := by
  w_on; o_law; k_head; (case hw => w_witness2)
  k_fill
  refine L2.walk_of (l := PySem.Challenge.rw_asifnew_k05_whole_places_behind_changes) (n := 63) (k := 8) (x := "script") (CX := fun _ => L2.CX0) (sp := fun w => DL.SpD _ My.F_law) rfl (by decide) rfl ⟨rfl, by decide, by decide⟩ (fun w h Y => PySem.W.kIn_of Y) ?F (fun _ _ a ns hl _ hS => My.law_sp hS ⟨ns, rfl, hl, rfl⟩) (fun _ _ _ _ _ h => h)
  case F =>
    intro w mg fa h KX G hmg
    refine' My.top_mk KX G hmg ?a0 ?l0 ?c0 ?k0 ?a1 ?l1 ?c1 ?k1 ?a2 ?l2 ?c2 ?k2 ?a3 ?l3 ?c3 ?k3 ?a4 ?l4 ?c4 ?k4 ?a5 ?l5 ?c5 ?k5 ?a6 ?l6 ?c6 ?k6 ?a7 ?l7 ?c7 ?k7 ?a8 ?l8 ?c8 ?k8 ?a9 ?l9 ?c9 ?k9 ?a10 ?l10 ?c10 ?k10 ?a11 ?l11 ?c11 ?k11 ?a12 ?l12 ?c12 ?k12 ?a13 ?l13 ?c13 ?k13 ?a14 ?l14 ?c14 ?k14 ?a15 ?l15 ?c15 ?k15 ?a16 ?l16 ?c16 ?k16 ?a17 ?l17 ?c17 ?k17 ?a18 ?l18 ?c18 ?k18 ?a19 ?l19 ?c19 ?k19 ?a20 ?l20 ?c20 ?k20 ?a21 ?l21 ?c21 ?k21 ?a22 ?l22 ?c22 ?k22 ?a23 ?l23 ?c23 ?k23 ?a24 ?l24 ?c24 ?k24 ?a25 ?l25 ?c25 ?k25 ?a26 ?l26 ?c26 ?k26 ?a27 ?l27 ?c27 ?k27 ?a28 ?l28 ?c28 ?k28 ?g_MOST_LINES ?g_MOST_SIGNS ?z_range ?z_int ?z_len ?z_bool ?z_str ?z_list ?z_tuple ?z_isinstance ?z_all ?z_sum ?z_enumerate ?z_min ?z_sorted ?hlaw
    (case a0 => k_is)
    (case l0 => k_is)
    (case c0 => k_is)
    (case k0 => k_is)
    (case a1 => k_is)
    (case l1 => k_is)
    (case c1 => k_is)
    (case k1 => k_is)
    (case a2 => k_is)
    (case l2 => k_is)
    (case c2 => k_is)
    (case k2 => k_is)
    (case a3 => k_is)
    (case l3 => k_is)
    (case c3 => k_is)
    (case k3 => k_is)
    (case a4 => k_is)
    (case l4 => k_is)
    (case c4 => k_is)
    (case k4 => k_is)
    (case a5 => k_is)
    (case l5 => k_is)
    (case c5 => k_is)
    (case k5 => k_is)
    (case a6 => k_is)
    (case l6 => k_is)
    (case c6 => k_is)
    (case k6 => k_is)
    (case a7 => k_is)
    (case l7 => k_is)
    (case c7 => k_is)
    (case k7 => k_is)
    (case a8 => k_is)
    (case l8 => k_is)
    (case c8 => k_is)
    (case k8 => k_is)
    (case a9 => k_is)
    (case l9 => k_is)
    (case c9 => k_is)
    (case k9 => k_is)
    (case a10 => k_is)
    (case l10 => k_is)
    (case c10 => k_is)
    (case k10 => k_is)
    (case a11 => k_is)
    (case l11 => k_is)
    (case c11 => k_is)
    (case k11 => k_is)
    (case a12 => k_is)
    (case l12 => k_is)
    (case c12 => k_is)
    (case k12 => k_is)
    (case a13 => k_is)
    (case l13 => k_is)
    (case c13 => k_is)
    (case k13 => k_is)
    (case a14 => k_is)
    (case l14 => k_is)
    (case c14 => k_is)
    (case k14 => k_is)
    (case a15 => k_is)
    (case l15 => k_is)
    (case c15 => k_is)
    (case k15 => k_is)
    (case a16 => k_is)
    (case l16 => k_is)
    (case c16 => k_is)
    (case k16 => k_is)
    (case a17 => k_is)
    (case l17 => k_is)
    (case c17 => k_is)
    (case k17 => k_is)
    (case a18 => k_is)
    (case l18 => k_is)
    (case c18 => k_is)
    (case k18 => k_is)
    (case a19 => k_is)
    (case l19 => k_is)
    (case c19 => k_is)
    (case k19 => k_is)
    (case a20 => k_is)
    (case l20 => k_is)
    (case c20 => k_is)
    (case k20 => k_is)
    (case a21 => k_is)
    (case l21 => k_is)
    (case c21 => k_is)
    (case k21 => k_is)
    (case a22 => k_is)
    (case l22 => k_is)
    (case c22 => k_is)
    (case k22 => k_is)
    (case a23 => k_is)
    (case l23 => k_is)
    (case c23 => k_is)
    (case k23 => k_is)
    (case a24 => k_is)
    (case l24 => k_is)
    (case c24 => k_is)
    (case k24 => k_is)
    (case a25 => k_is)
    (case l25 => k_is)
    (case c25 => k_is)
    (case k25 => k_is)
    (case a26 => k_is)
    (case l26 => k_is)
    (case c26 => k_is)
    (case k26 => k_is)
    (case a27 => k_is)
    (case l27 => k_is)
    (case c27 => k_is)
    (case k27 => k_is)
    (case a28 => k_is)
    (case l28 => k_is)
    (case c28 => k_is)
    (case k28 => k_is)
    (case g_MOST_LINES => k_is)
    (case g_MOST_SIGNS => k_is)
    (case z_range => k_is)
    (case z_int => k_is)
    (case z_len => k_is)
    (case z_bool => k_is)
    (case z_str => k_is)
    (case z_list => k_is)
    (case z_tuple => k_is)
    (case z_isinstance => k_is)
    (case z_all => k_is)
    (case z_sum => k_is)
    (case z_enumerate => k_is)
    (case z_min => k_is)
    (case z_sorted => k_is)
    intro base T
    exact My.ok_law T
namespace My
end My
