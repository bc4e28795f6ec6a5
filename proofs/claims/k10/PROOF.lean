import PyProof.Rows.All
import Wide.All
import OpenK.AllK
import Wide.FinOn
import HandS.ForMost
import HandS.ForExc
import HandS.Conv
import HandS.IsInst
import HandS.SortInts
import HandS.TupAny
import HandS.TupLe
import HandS.Style
import HandS.Dict
import PyProof.DictMoreH
import HandS.Set
import HandS.SetTxt0
import PyProof.Rows.SortShellAny
import HandS.SetBool
import HandS.StrMore
import PyProof.Rows.StrFit
import KE.KStateDown
import HandS.Defaults
import HandS.Head0
import HandS.Head1
import HandS.Head2
import HandS.HeadEnd
import HandS.HeadHook1
import HandS.HeadHook2
import PySem.Challenge.RW_asifnew_k10_whole_signs_by_the_making
set_option Elab.async false
set_option linter.all false
set_option maxRecDepth 100000
set_option maxHeartbeats 4000000
/-! DA: data over the hand layer. Values as data D, mutable objects as numbered cells. -/
namespace DL
open PySem PySem.Spec PyProof.Rows L2

abbrev St := List (Option V)
inductive D where
  | non | bl (b : Bool) | int (i : Int) | str (x : Str)
  | lst (ds : List D) | tup (ds : List D) | ro (ds : List D)
  | ptr (k : Nat) | adr (a : Addr) | ty (n : String)

mutual
inductive Rep (K : PySem.W.Frag) (B : Hp) (ps : List Addr) : V → D → Prop
  | non : Rep K B ps .non .non
  | bl (b : Bool) : Rep K B ps (.bl b) (.bl b)
  | int (i : Int) : Rep K B ps (.int i) (.int i)
  | str (x : Str) : Rep K B ps (.str x) (.str x)
  | lst {a : Addr} {vs : List V} {ds : List D} : B a = some (.lst vs) → Reps K B ps vs ds → Rep K B ps (.ref a) (.lst ds)
  | tup {a : Addr} {vs : List V} {ds : List D} : SqT K B a vs → Reps K B ps vs ds → Rep K B ps (.ref a) (.tup ds)
  | ro {a : Addr} {vs : List V} {ds : List D} : SqL K B a vs → Reps K B ps vs ds → Rep K B ps (.ref a) (.ro ds)
  | ptr {k : Nat} {a : Addr} : ps[k]? = some a → Rep K B ps (.ref a) (.ptr k)
  | adr (a : Addr) : Rep K B ps (.ref a) (.adr a)
  | ty (n : String) : Rep K B ps (.ty n) (.ty n)
inductive Reps (K : PySem.W.Frag) (B : Hp) (ps : List Addr) : List V → List D → Prop
  | nil : Reps K B ps [] []
  | cons {v : V} {d : D} {vs : List V} {ds : List D} : Rep K B ps v d → Reps K B ps vs ds → Reps K B ps (v :: vs) (d :: ds)
end

def Ex (H H' : Hp) : Prop := ∀ a o, H a = some o → H' a = some o
theorem Ex.refl (H : Hp) : Ex H H := fun _ _ h => h
theorem Ex.trans {H H1 H2 : Hp} (a : Ex H H1) (b : Ex H1 H2) : Ex H H2 := fun x o h => b x o (a x o h)
theorem Ex.new {H : Hp} {p : Addr} {o : HO} (h : H p = none) : Ex H (upd H p o) := fun a u e => by
  rw [upd_ne (ne_of_none e h)]
  exact e
theorem Ex.rd {H H' : Hp} {a : Addr} {u : HO} (e : Ex H H') (h : Rd H a u) : Rd H' a u := by
  rcases h with h | ⟨o, h⟩
  · exact .inl (e a _ h)
  · exact .inr ⟨o, e a _ h⟩
theorem Ex.sl {K : PySem.W.Frag} {H H' : Hp} {a : Addr} {xs : List V} (e : Ex H H') (h : SqL K H a xs) : SqL K H' a xs := by
  rcases h with h | h
  · exact .inl (e.rd h)
  · exact .inr h
theorem Ex.st {K : PySem.W.Frag} {H H' : Hp} {a : Addr} {xs : List V} (e : Ex H H') (h : SqT K H a xs) : SqT K H' a xs := by
  rcases h with h | h
  · exact .inl (e.rd h)
  · exact .inr h
/-- ps' goes on from ps -/
def Pre (ps ps' : List Addr) : Prop := ∃ more, ps' = ps ++ more
theorem Pre.refl (ps : List Addr) : Pre ps ps := ⟨[], by simp⟩
theorem Pre.trans {a b c : List Addr} (h : Pre a b) (g : Pre b c) : Pre a c := by
  obtain ⟨m, rfl⟩ := h
  obtain ⟨n, rfl⟩ := g
  exact ⟨m ++ n, by rw [List.append_assoc]⟩
theorem Pre.get {a b : List Addr} (h : Pre a b) {k : Nat} {p : Addr} (e : a[k]? = some p) : b[k]? = some p := by
  obtain ⟨m, rfl⟩ := h
  rw [List.getElem?_append_left (List.getElem?_eq_some_iff.mp e).1]
  exact e
section
variable {K : PySem.W.Frag} {B B' : Hp} {ps ps' : List Addr}
mutual
theorem Rep.mono (e : Ex B B') (p : Pre ps ps') : ∀ {v : V} {d : D}, Rep K B ps v d → Rep K B' ps' v d
  | _, _, .non => .non
  | _, _, .bl b => .bl b
  | _, _, .int i => .int i
  | _, _, .str x => .str x
  | _, _, .lst h r => .lst (e _ _ h) (Reps.mono e p r)
  | _, _, .tup h r => .tup (e.st h) (Reps.mono e p r)
  | _, _, .ro h r => .ro (e.sl h) (Reps.mono e p r)
  | _, _, .ptr h => .ptr (p.get h)
  | _, _, .adr a => .adr a
  | _, _, .ty n => .ty n
theorem Reps.mono (e : Ex B B') (p : Pre ps ps') : ∀ {vs : List V} {ds : List D}, Reps K B ps vs ds → Reps K B' ps' vs ds
  | _, _, .nil => .nil
  | _, _, .cons h r => .cons (Rep.mono e p h) (Reps.mono e p r)
end
theorem Reps.length : ∀ {vs : List V} {ds : List D}, Reps K B ps vs ds → vs.length = ds.length
  | _, _, .nil => rfl
  | _, _, .cons _ r => by rw [List.length_cons, List.length_cons, Reps.length r]
theorem Reps.get : ∀ {vs : List V} {ds : List D} {i : Nat} {d : D}, Reps K B ps vs ds → ds[i]? = some d → ∃ v, vs[i]? = some v ∧ Rep K B ps v d
  | _, _, _, _, .nil, e => by simp at e
  | _, _, 0, _, .cons h _, e => by
    simp at e
    subst e
    exact ⟨_, rfl, h⟩
  | _, _, i + 1, d, .cons _ r, e => by
    obtain ⟨v, h1, h2⟩ := Reps.get (i := i) (d := d) r (by simpa using e)
    exact ⟨v, by simpa using h1, h2⟩
theorem Reps.getV : ∀ {vs : List V} {ds : List D} {i : Nat} {v : V}, Reps K B ps vs ds → vs[i]? = some v → ∃ d, ds[i]? = some d ∧ Rep K B ps v d
  | _, _, _, _, .nil, e => by simp at e
  | _, _, 0, _, .cons h _, e => by
    simp at e
    subst e
    exact ⟨_, rfl, h⟩
  | _, _, i + 1, v, .cons _ r, e => by
    obtain ⟨d, h1, h2⟩ := Reps.getV (i := i) (v := v) r (by simpa using e)
    exact ⟨d, by simpa using h1, h2⟩
theorem Reps.append : ∀ {vs us : List V} {ds es : List D}, Reps K B ps vs ds → Reps K B ps us es → Reps K B ps (vs ++ us) (ds ++ es)
  | _, _, _, _, .nil, r => r
  | _, _, _, _, .cons h t, r => .cons h (Reps.append t r)
theorem Reps.take : ∀ {vs : List V} {ds : List D} (n : Nat), Reps K B ps vs ds → Reps K B ps (vs.take n) (ds.take n)
  | _, _, 0, _ => .nil
  | _, _, _ + 1, .nil => .nil
  | _, _, n + 1, .cons h r => .cons h (Reps.take n r)
theorem Reps.drop : ∀ {vs : List V} {ds : List D} (n : Nat), Reps K B ps vs ds → Reps K B ps (vs.drop n) (ds.drop n)
  | _, _, 0, r => r
  | _, _, _ + 1, .nil => .nil
  | _, _, n + 1, .cons _ r => Reps.drop n r
theorem Reps.set {v : V} {d : D} (h : Rep K B ps v d) : ∀ {vs : List V} {ds : List D} (i : Nat), Reps K B ps vs ds → Reps K B ps (vs.set i v) (ds.set i d)
  | _, _, _, .nil => .nil
  | _, _, 0, .cons _ t => .cons h t
  | _, _, i + 1, .cons q t => .cons q (Reps.set h i t)
theorem Reps.flat : ∀ {n : Nat} {vs : List V} {ds : List D}, Reps K B ps vs ds → Reps K B ps (List.replicate n vs).flatten (List.replicate n ds).flatten
  | 0, _, _, _ => .nil
  | n + 1, _, _, r => by
    rw [List.replicate_succ, List.replicate_succ, List.flatten_cons, List.flatten_cons]
    exact Reps.append r (Reps.flat r)
theorem Reps.reverse : ∀ {vs : List V} {ds : List D}, Reps K B ps vs ds → Reps K B ps vs.reverse ds.reverse
  | _, _, .nil => .nil
  | _, _, .cons h r => by
    rw [List.reverse_cons, List.reverse_cons]
    exact Reps.append (Reps.reverse r) (.cons h .nil)
theorem Reps.map {α : Type} {f : α → V} {g : α → D} (h : ∀ a, Rep K B ps (f a) (g a)) : ∀ l : List α, Reps K B ps (l.map f) (l.map g)
  | [] => .nil
  | a :: l => .cons (h a) (Reps.map h l)
/-- plain items are known by their data -/
theorem Reps.ints : ∀ {vs : List V} {ns : List Int}, Reps K B ps vs (ns.map D.int) → vs = ns.map V.int
  | [], [], .nil => rfl
  | _ :: _, [], h => by cases h
  | [], _ :: _, h => by cases h
  | v :: vs, n :: ns, h => by
    cases h with
    | cons h r =>
      cases h
      rw [Reps.ints r]
      rfl
theorem Reps.strs : ∀ {vs : List V} {ns : List Str}, Reps K B ps vs (ns.map D.str) → vs = ns.map V.str
  | [], [], .nil => rfl
  | _ :: _, [], h => by cases h
  | [], _ :: _, h => by cases h
  | v :: vs, n :: ns, h => by
    cases h with
    | cons h r =>
      cases h
      rw [Reps.strs r]
      rfl
theorem Reps.bls : ∀ {vs : List V} {ns : List Bool}, Reps K B ps vs (ns.map D.bl) → vs = ns.map V.bl
  | [], [], .nil => rfl
  | _ :: _, [], h => by cases h
  | [], _ :: _, h => by cases h
  | v :: vs, n :: ns, h => by
    cases h with
    | cons h r =>
      cases h
      rw [Reps.bls r]
      rfl
end

/-! ### cells, worlds -/
inductive Cell where
  | dead
  | lst (ds : List D)
  | dct (kvs : List (Key × D))
  | ins (C : Addr) (fs : List (Str × D))
abbrev DEnv := List (Option D)
abbrev Cells := List Cell
/-- pairs of keys and values -/
def RepK (K : PySem.W.Frag) (B : Hp) (ps : List Addr) : List (Key × V) → List (Key × D) → Prop := Paired fun u v => u.1 = v.1 ∧ Rep K B ps u.2 v.2
def RepF (K : PySem.W.Frag) (B : Hp) (ps : List Addr) : List (Str × V) → List (Str × D) → Prop := Paired fun u v => u.1 = v.1 ∧ Rep K B ps u.2 v.2
def CellR (K : PySem.W.Frag) (B : Hp) (ps : List Addr) (H : Hp) (p : Addr) : Cell → Prop
  | .dead => True
  | .lst ds => ∃ vs, H p = some (.lst vs) ∧ Reps K B ps vs ds
  | .dct kvs => ∃ us, H p = some (.dK us) ∧ RepK K B ps us kvs
  | .ins C fs => ∃ dx us, H p = some (.ins C dx us) ∧ RepF K B ps us fs
theorem paired_mono {α β : Type} {F G : α → β → Prop} (h : ∀ a b, F a b → G a b) : ∀ {l : List α} {m : List β}, Paired F l m → Paired G l m
  | _, _, .nil => .nil
  | _, _, .cons r t => .cons (h _ _ r) (paired_mono h t)
theorem CellR.mono {K : PySem.W.Frag} {B B' : Hp} {ps ps' : List Addr} {H H' : Hp} {p : Addr} (e : Ex B B') (pp : Pre ps ps') (hp : H' p = H p) : ∀ {c : Cell}, CellR K B ps H p c → CellR K B' ps' H' p c
  | .dead, _ => trivial
  | .lst ds, ⟨vs, h, r⟩ => ⟨vs, hp.trans h, r.mono e pp⟩
  | .dct kvs, ⟨us, h, r⟩ => ⟨us, hp.trans h, paired_mono (fun _ _ z => ⟨z.1, z.2.mono e pp⟩) r⟩
  | .ins C fs, ⟨dx, us, h, r⟩ => ⟨dx, us, hp.trans h, paired_mono (fun _ _ z => ⟨z.1, z.2.mono e pp⟩) r⟩
/-- what is frozen, the heap, the cells' addresses -/
structure Wd where
  B : Hp
  H : Hp
  ps : List Addr
structure Ok (K : PySem.W.Frag) (w : Wd) (G : Cells) (σ : St) (ρ : DEnv) : Prop where
  ex : Ex w.B w.H
  al : ∀ a ∈ w.ps, w.H a ≠ none
  nd : w.ps.Nodup
  ln : w.ps.length = G.length
  nb : ∀ (k : Nat) p c, w.ps[k]? = some p → G[k]? = some c → c ≠ .dead → w.B p = none
  cs : ∀ (k : Nat) p c, w.ps[k]? = some p → G[k]? = some c → CellR K w.B w.ps w.H p c
  lr : ρ.length ≤ σ.length
  sl : ∀ (i : Nat) d, ρ[i]? = some (some d) → ∃ v, σ[i]? = some (some v) ∧ Rep K w.B w.ps v d
/-- a later world -/
structure Fut (w w' : Wd) : Prop where
  b : Ex w.B w'.B
  p : Pre w.ps w'.ps
  fr : ∀ a o, w.H a = some o → a ∉ w.ps → w'.H a = some o
  np : ∀ a ∈ w'.ps, a ∈ w.ps ∨ w.H a = none
  nb : ∀ a, w'.B a ≠ none → w.B a ≠ none ∨ w.H a = none ∨ a ∈ w.ps
theorem Fut.refl (w : Wd) : Fut w w := ⟨Ex.refl _, Pre.refl _, fun _ _ h _ => h, fun _ h => .inl h, fun _ h => .inl h⟩
theorem Fut.trans {a b c : Wd} (x : Fut a b) (y : Fut b c) : Fut a c := by
  have back : ∀ q, b.H q = none → a.H q = none ∨ q ∈ a.ps := fun q h => by
    cases e : a.H q with
    | none => exact .inl rfl
    | some o =>
      by_cases m : q ∈ a.ps
      · exact .inr m
      · rw [x.fr q o e m] at h
        cases h
  refine ⟨x.b.trans y.b, x.p.trans y.p, fun q o h m => ?_, fun q h => ?_, fun q h => ?_⟩
  · refine y.fr q o (x.fr q o h m) fun z => ?_
    rcases x.np q z with z | z
    · exact m z
    · rw [h] at z
      cases z
  · rcases y.np q h with h | h
    · exact x.np q h
    · exact (back q h).elim .inr .inl
  · rcases y.nb q h with h | h | h
    · exact x.nb q h
    · exact .inr (back q h)
    · exact .inr ((x.np q h).elim .inr .inl)
section
variable {K : PySem.W.Frag} {w w' : Wd} {G G' : Cells} {σ σ' : St} {ρ ρ' : DEnv}
theorem Ok.fresh (x : Ok K w G σ ρ) {p : Addr} (h : w.H p = none) : p ∉ w.ps := fun m => x.al p m h
theorem Ok.freshB (x : Ok K w G σ ρ) {p : Addr} (h : w.H p = none) : w.B p = none := by
  cases e : w.B p with
  | none => rfl
  | some o =>
    rw [x.ex p o e] at h
    cases h
theorem nd_at {l : List Addr} (h : l.Nodup) {i j : Nat} {p : Addr} (a : l[i]? = some p) (b : l[j]? = some p) : i = j := by
  obtain ⟨h1, e1⟩ := List.getElem?_eq_some_iff.mp a
  obtain ⟨h2, e2⟩ := List.getElem?_eq_some_iff.mp b
  exact (List.getElem_inj h).mp (e1.trans e2.symm)
/-- the slots do not matter for the cells -/
theorem Ok.slots (x : Ok K w G σ ρ) (lr : ρ'.length ≤ σ'.length) (sl : ∀ (i : Nat) d, ρ'[i]? = some (some d) → ∃ v, σ'[i]? = some (some v) ∧ Rep K w.B w.ps v d) : Ok K w G σ' ρ' :=
  ⟨x.ex, x.al, x.nd, x.ln, x.nb, x.cs, lr, sl⟩
theorem Ok.none (x : Ok K w G σ ρ) : Ok K w G [] [] := x.slots (Nat.le_refl _) fun i d h => by simp at h
/-- slots are carried to a later world -/
theorem Ok.back (x : Ok K w G σ ρ) (y : Ok K w' G' σ' ρ') (f : Fut w w') : Ok K w' G' σ ρ :=
  y.slots x.lr fun i d h => by
    obtain ⟨v, e, r⟩ := x.sl i d h
    exact ⟨v, e, r.mono f.b f.p⟩
theorem Ok.set (x : Ok K w G σ ρ) {i : Nat} {v : V} {d : D} (r : Rep K w.B w.ps v d) : Ok K w G (σ.set i (some v)) (ρ.set i (some d)) :=
  x.slots (by rw [List.length_set, List.length_set]; exact x.lr) fun j e h => by
    have hj : j < (ρ.set i (some d)).length := (List.getElem?_eq_some_iff.mp h).1
    rw [List.length_set] at hj
    have hs : j < σ.length := Nat.lt_of_lt_of_le hj x.lr
    by_cases hi : i = j
    · subst hi
      rw [List.getElem?_set_self hj] at h
      cases h
      exact ⟨v, by rw [List.getElem?_set_self hs], r⟩
    · rw [List.getElem?_set_ne hi] at h
      obtain ⟨u, e1, r1⟩ := x.sl j e h
      exact ⟨u, by rw [List.getElem?_set_ne hi]; exact e1, r1⟩
/-- a new frozen object -/
theorem Ok.cold (x : Ok K w G σ ρ) {p : Addr} {o : HO} (h : w.H p = Option.none) : Ok K ⟨upd w.B p o, upd w.H p o, w.ps⟩ G σ ρ ∧ Fut w ⟨upd w.B p o, upd w.H p o, w.ps⟩ := by
  have hB := x.freshB h
  have hp := x.fresh h
  have eB : Ex w.B (upd w.B p o) := Ex.new hB
  have ne : ∀ a ∈ w.ps, a ≠ p := fun a m z => hp (z ▸ m)
  refine ⟨⟨fun a u e => ?_, fun a m => ?_, x.nd, x.ln, fun k q c hk hc hd => ?_, fun k q c hk hc => ?_, x.lr, fun i d hi => ?_⟩, eB, Pre.refl _, fun a u e m => ?_, fun a m => .inl m, fun a m => ?_⟩
  · show upd w.H p o a = some u
    have e : upd w.B p o a = some u := e
    by_cases z : a = p
    · subst z
      rw [upd_same] at e ⊢
      exact e
    · rw [upd_ne z] at e ⊢
      exact x.ex a u e
  · show upd w.H p o a ≠ Option.none
    rw [upd_ne (ne a m)]
    exact x.al a m
  · show upd w.B p o q = Option.none
    rw [upd_ne (ne q (List.mem_of_getElem? hk))]
    exact x.nb k q c hk hc hd
  · exact (x.cs k q c hk hc).mono eB (Pre.refl _) (upd_ne (ne q (List.mem_of_getElem? hk)))
  · obtain ⟨v, e, r⟩ := x.sl i d hi
    exact ⟨v, e, r.mono eB (Pre.refl _)⟩
  · show upd w.H p o a = some u
    rw [upd_ne (ne_of_none e h)]
    exact e
  · by_cases z : a = p
    · subst z
      exact .inr (.inl h)
    · have m : upd w.B p o a ≠ Option.none := m
      rw [upd_ne z] at m
      exact .inl m
/-- a new cell -/
theorem Ok.hot (x : Ok K w G σ ρ) {p : Addr} {o : HO} {c : Cell} (h : w.H p = Option.none) (hc : CellR K w.B (w.ps ++ [p]) (upd w.H p o) p c) :
    Ok K ⟨w.B, upd w.H p o, w.ps ++ [p]⟩ (G ++ [c]) σ ρ ∧ Fut w ⟨w.B, upd w.H p o, w.ps ++ [p]⟩ := by
  have hB := x.freshB h
  have hp := x.fresh h
  have pp : Pre w.ps (w.ps ++ [p]) := ⟨[p], rfl⟩
  have ne : ∀ a ∈ w.ps, a ≠ p := fun a m z => hp (z ▸ m)
  have split : ∀ (k : Nat) q d, (w.ps ++ [p])[k]? = some q → (G ++ [c])[k]? = some d → (w.ps[k]? = some q ∧ G[k]? = some d) ∨ (q = p ∧ d = c) := fun k q d h1 h2 => by
    by_cases hk : k < w.ps.length
    · rw [List.getElem?_append_left hk] at h1
      rw [List.getElem?_append_left (by rw [← x.ln]; exact hk)] at h2
      exact .inl ⟨h1, h2⟩
    · have hl : k < (w.ps ++ [p]).length := (List.getElem?_eq_some_iff.mp h1).1
      rw [List.length_append, List.length_singleton] at hl
      have e : k = w.ps.length := by omega
      rw [List.getElem?_append_right (by omega), show k - w.ps.length = 0 by omega] at h1
      rw [List.getElem?_append_right (by rw [← x.ln]; omega), show k - G.length = 0 by rw [← x.ln]; omega] at h2
      cases h1
      cases h2
      exact .inr ⟨rfl, rfl⟩
  refine ⟨⟨fun a u e => ?_, fun a m => ?_, ?_, ?_, fun k q d h1 h2 hd => ?_, fun k q d h1 h2 => ?_, x.lr, fun i d hi => ?_⟩, Ex.refl _, pp, fun a u e m => ?_, fun a m => ?_, fun a m => .inl m⟩
  · show upd w.H p o a = some u
    rw [upd_ne (ne_of_none e hB)]
    exact x.ex a u e
  · show upd w.H p o a ≠ Option.none
    by_cases z : a = p
    · subst z
      rw [upd_same]
      exact fun q => nomatch q
    · rw [upd_ne z]
      rcases List.mem_append.mp m with m | m
      · exact x.al a m
      · exact absurd (by simpa using m) z
  · exact List.nodup_append.mpr ⟨x.nd, by simp, fun a ha b hb => by
      have : b = p := by simpa using hb
      subst this
      exact ne a ha⟩
  · show (w.ps ++ [p]).length = (G ++ [c]).length
    rw [List.length_append, List.length_append, x.ln]
    rfl
  · rcases split k q d h1 h2 with ⟨a1, a2⟩ | ⟨rfl, rfl⟩
    · exact x.nb k q d a1 a2 hd
    · exact hB
  · rcases split k q d h1 h2 with ⟨a1, a2⟩ | ⟨rfl, rfl⟩
    · exact (x.cs k q d a1 a2).mono (Ex.refl _) pp (upd_ne (ne q (List.mem_of_getElem? a1)))
    · exact hc
  · obtain ⟨v, e, r⟩ := x.sl i d hi
    exact ⟨v, e, r.mono (Ex.refl _) pp⟩
  · show upd w.H p o a = some u
    rw [upd_ne (ne_of_none e h)]
    exact e
  · rcases List.mem_append.mp m with m | m
    · exact .inl m
    · have z : a = p := by simpa using m
      rw [z]
      exact .inr h
/-- a cell is written -/
theorem Ok.write (x : Ok K w G σ ρ) {k : Nat} {p : Addr} {o : HO} {c c' : Cell} (hk : w.ps[k]? = some p) (hg : G[k]? = some c) (hd : c ≠ .dead) (hc : CellR K w.B w.ps (upd w.H p o) p c') :
    Ok K ⟨w.B, upd w.H p o, w.ps⟩ (G.set k c') σ ρ ∧ Fut w ⟨w.B, upd w.H p o, w.ps⟩ := by
  have hB := x.nb k p c hk hg hd
  have mp := List.mem_of_getElem? hk
  refine ⟨⟨fun a u e => ?_, fun a m => ?_, x.nd, ?_, fun j q d h1 h2 hd' => ?_, fun j q d h1 h2 => ?_, x.lr, x.sl⟩, Ex.refl _, Pre.refl _, fun a u e m => ?_, fun a m => .inl m, fun a m => .inl m⟩
  · show upd w.H p o a = some u
    rw [upd_ne (ne_of_none e hB)]
    exact x.ex a u e
  · show upd w.H p o a ≠ Option.none
    by_cases z : a = p
    · subst z
      rw [upd_same]
      exact fun q => nomatch q
    · rw [upd_ne z]
      exact x.al a m
  · rw [List.length_set]
    exact x.ln
  · by_cases e : k = j
    · subst e
      rw [hk] at h1
      cases h1
      exact hB
    · rw [List.getElem?_set_ne e] at h2
      exact x.nb j q d h1 h2 hd'
  · by_cases e : k = j
    · subst e
      rw [hk] at h1
      cases h1
      have hl : k < G.length := (List.getElem?_eq_some_iff.mp hg).1
      rw [List.getElem?_set_self hl] at h2
      cases h2
      exact hc
    · rw [List.getElem?_set_ne e] at h2
      have : q ≠ p := fun z => e (nd_at x.nd hk (z ▸ h1))
      exact (x.cs j q d h1 h2).mono (Ex.refl _) (Pre.refl _) (upd_ne this)
  · show upd w.H p o a = some u
    rw [upd_ne (fun z : a = p => m (by rw [z]; exact mp))]
    exact e
end
end DL
/-! DB: what expressions, tests, statements do to data. -/
namespace DL
open PySem PySem.Spec PyProof.Rows L2

def Post (K : PySem.W.Frag) (w : Wd) (σ : St) (ρ : DEnv) (Q : D → Cells → Prop) (R : VK) : Prop :=
  ∀ v d w' G', Q d G' → Ok K w' G' σ ρ → Rep K w'.B w'.ps v d → Fut w w' → R v w'.H
theorem Post.later {K : PySem.W.Frag} {w w' : Wd} {σ : St} {ρ : DEnv} {Q : D → Cells → Prop} {R : VK} (p : Post K w σ ρ Q R) (f : Fut w w') : Post K w' σ ρ Q R :=
  fun v d w2 G2 q x r g => p v d w2 G2 q x r (f.trans g)
def WE (K : PySem.W.Frag) (te : TE) (ρ : DEnv) (G : Cells) (Q : D → Cells → Prop) : Prop :=
  ∀ w σ, Ok K w G σ ρ → ∀ R : VK, Post K w σ ρ Q R → te σ w.H R
def WT (K : PySem.W.Frag) (tt : TT) (ρ : DEnv) (G : Cells) (Q : Bool → Cells → Prop) : Prop :=
  ∀ w σ, Ok K w G σ ρ → ∀ R : Bool → Hp → Prop, (∀ b w' G', Q b G' → Ok K w' G' σ ρ → Fut w w' → R b w'.H) → tt σ w.H R
def WA (K : PySem.W.Frag) (ta : TA) (ρ : DEnv) (G : Cells) (Q : List D → Cells → Prop) : Prop :=
  ∀ w σ, Ok K w G σ ρ → ∀ R : List V → Hp → Prop, (∀ vs ds w' G', Q ds G' → Ok K w' G' σ ρ → Reps K w'.B w'.ps vs ds → Fut w w' → R vs w'.H) → ta σ w.H R
def WO (K : PySem.W.Frag) (to : TO) (ρ : DEnv) (G : Cells) (Q : Option Int → Cells → Prop) : Prop :=
  ∀ w σ, Ok K w G σ ρ → ∀ R : Option Int → Hp → Prop, (∀ b w' G', Q b G' → Ok K w' G' σ ρ → Fut w w' → R b w'.H) → to σ w.H R
structure EndsD where
  nx : DEnv → Cells → Prop
  rt : D → Cells → Prop
  bk : DEnv → Cells → Prop := fun _ _ => False
  ct : DEnv → Cells → Prop := fun _ _ => False
structure Lk (K : PySem.W.Frag) (w : Wd) (E : EndsD) (X : Ends) : Prop where
  nx : ∀ w' G' σ' ρ', E.nx ρ' G' → Ok K w' G' σ' ρ' → Fut w w' → X.nx σ' w'.H
  bk : ∀ w' G' σ' ρ', E.bk ρ' G' → Ok K w' G' σ' ρ' → Fut w w' → X.bk σ' w'.H
  ct : ∀ w' G' σ' ρ', E.ct ρ' G' → Ok K w' G' σ' ρ' → Fut w w' → X.ct σ' w'.H
  rt : ∀ v d w' G', E.rt d G' → Ok K w' G' [] [] → Rep K w'.B w'.ps v d → Fut w w' → X.rt v w'.H
theorem Lk.later {K : PySem.W.Frag} {w w' : Wd} {E : EndsD} {X : Ends} (l : Lk K w E X) (f : Fut w w') : Lk K w' E X :=
  ⟨fun a b c d e g h => l.nx a b c d e g (f.trans h), fun a b c d e g h => l.bk a b c d e g (f.trans h), fun a b c d e g h => l.ct a b c d e g (f.trans h), fun a b c d e g h i => l.rt a b c d e g h (f.trans i)⟩
def WS (K : PySem.W.Frag) (ts : TS) (ρ : DEnv) (G : Cells) (E : EndsD) : Prop :=
  ∀ w σ, Ok K w G σ ρ → ∀ X : Ends, Lk K w E X → ts X σ w.H
def WG (K : PySem.W.Frag) (g : TG) (d : D) (ρ : DEnv) (G : Cells) (Q : DEnv → Cells → Prop) : Prop :=
  ∀ w σ v, Ok K w G σ ρ → Rep K w.B w.ps v d → ∀ R : St → Hp → Prop, (∀ w' G' σ' ρ', Q ρ' G' → Ok K w' G' σ' ρ' → Fut w w' → R σ' w'.H) → g v σ w.H R
def WGs (K : PySem.W.Frag) (g : TGs) (ds : List D) (ρ : DEnv) (G : Cells) (Q : DEnv → Cells → Prop) : Prop :=
  ∀ w σ vs, Ok K w G σ ρ → Reps K w.B w.ps vs ds → ∀ R : St → Hp → Prop, (∀ w' G' σ' ρ', Q ρ' G' → Ok K w' G' σ' ρ' → Fut w w' → R σ' w'.H) → g vs σ w.H R
/-- a two-place operation on data, a one-place one, a call, a method, a slice -/
def RD (K : PySem.W.Frag) (r : R2) (x y : D) (G : Cells) (Q : D → Cells → Prop) : Prop :=
  ∀ w σ ρ, Ok K w G σ ρ → ∀ vx vy, Rep K w.B w.ps vx x → Rep K w.B w.ps vy y → ∀ R : VK, Post K w σ ρ Q R → r vx vy w.H R
def RU (K : PySem.W.Frag) (r : V → Hp → VK → Prop) (x : D) (G : Cells) (Q : D → Cells → Prop) : Prop :=
  ∀ w σ ρ, Ok K w G σ ρ → ∀ vx, Rep K w.B w.ps vx x → ∀ R : VK, Post K w σ ρ Q R → r vx w.H R
def RC (K : PySem.W.Frag) (r : List V → Hp → VK → Prop) (xs : List D) (G : Cells) (Q : D → Cells → Prop) : Prop :=
  ∀ w σ ρ, Ok K w G σ ρ → ∀ vs, Reps K w.B w.ps vs xs → ∀ R : VK, Post K w σ ρ Q R → r vs w.H R
def RM (K : PySem.W.Frag) (r : V → List V → Hp → VK → Prop) (x : D) (xs : List D) (G : Cells) (Q : D → Cells → Prop) : Prop :=
  ∀ w σ ρ, Ok K w G σ ρ → ∀ v vs, Rep K w.B w.ps v x → Reps K w.B w.ps vs xs → ∀ R : VK, Post K w σ ρ Q R → r v vs w.H R
def RS (K : PySem.W.Frag) (r : V → Option Int → Option Int → Hp → VK → Prop) (x : D) (lo hi : Option Int) (G : Cells) (Q : D → Cells → Prop) : Prop :=
  ∀ w σ ρ, Ok K w G σ ρ → ∀ v, Rep K w.B w.ps v x → ∀ R : VK, Post K w σ ρ Q R → r v lo hi w.H R

section
variable {K : PySem.W.Frag} {ρ : DEnv} {G : Cells} {Q : D → Cells → Prop} {ta tb tc te : TE} {x y d : D}
theorem Post.here {w : Wd} {σ : St} {R : VK} {v : V} (p : Post K w σ ρ Q R) (x : Ok K w G σ ρ) (q : Q d G) (r : Rep K w.B w.ps v d) : R v w.H := p v d w G q x r (Fut.refl w)
theorem we_var {i : Nat} (h : ρ[i]? = some (some d)) (q : Q d G) : WE K (tVar i) ρ G Q := fun w σ ok R p => by
  obtain ⟨v, e, r⟩ := ok.sl i d h
  exact ⟨v, e, p.here ok q r⟩
theorem we_int {i : Int} (q : Q (.int i) G) : WE K (tC (.int i)) ρ G Q := fun w σ ok R p => p.here ok q (.int i)
theorem we_bl {i : Bool} (q : Q (.bl i) G) : WE K (tC (.bl i)) ρ G Q := fun w σ ok R p => p.here ok q (.bl i)
theorem we_str {i : Str} (q : Q (.str i) G) : WE K (tC (.str i)) ρ G Q := fun w σ ok R p => p.here ok q (.str i)
theorem we_non (q : Q .non G) : WE K (tC .non) ρ G Q := fun w σ ok R p => p.here ok q .non
theorem we_ty {n : String} (q : Q (.ty n) G) : WE K (tC (.ty n)) ρ G Q := fun w σ ok R p => p.here ok q (.ty n)
theorem we_adr {a : Addr} (q : Q (.adr a) G) : WE K (tC (.ref a)) ρ G Q := fun w σ ok R p => p.here ok q (.adr a)
theorem we_op {r : R2} (h : WE K ta ρ G fun x G1 => WE K tb ρ G1 fun y G2 => RD K r x y G2 Q) : WE K (tOp r ta tb) ρ G Q := fun w σ ok R p =>
  h w σ ok _ fun v d w1 G1 q1 ok1 r1 f1 => q1 w1 σ ok1 _ fun u e w2 G2 q2 ok2 r2 f2 => q2 w2 σ ρ ok2 v u (r1.mono f2.b f2.p) r2 R (p.later (f1.trans f2))
theorem we_un {r : V → Hp → VK → Prop} (h : WE K ta ρ G fun x G1 => RU K r x G1 Q) : WE K (tUn r ta) ρ G Q := fun w σ ok R p =>
  h w σ ok _ fun v d w1 G1 q1 ok1 r1 f1 => q1 w1 σ ρ ok1 v r1 R (p.later f1)
theorem wa_nil {Q : List D → Cells → Prop} (q : Q [] G) : WA K tNil ρ G Q := fun w σ ok R p => p [] [] w G q ok .nil (Fut.refl w)
theorem wa_cons {ta : TE} {tr : TA} {Q : List D → Cells → Prop} (h : WE K ta ρ G fun x G1 => WA K tr ρ G1 fun xs G2 => Q (x :: xs) G2) : WA K (tCons ta tr) ρ G Q := fun w σ ok R p =>
  h w σ ok _ fun v d w1 G1 q1 ok1 r1 f1 => q1 w1 σ ok1 _ fun vs ds w2 G2 q2 ok2 r2 f2 => p (v :: vs) (d :: ds) w2 G2 q2 ok2 (.cons (r1.mono f2.b f2.p) r2) (f1.trans f2)
theorem we_cb {r : List V → Hp → VK → Prop} {t : TA} (h : WA K t ρ G fun xs G1 => RC K r xs G1 Q) : WE K (tCB r t) ρ G Q := fun w σ ok R p =>
  h w σ ok _ fun vs ds w1 G1 q1 ok1 r1 f1 => q1 w1 σ ρ ok1 vs r1 R (p.later f1)

/-! ### new lists and tuples -/
/-- a new list: frozen, or a cell -/
def Nw (Q : D → Cells → Prop) (ds : List D) (G : Cells) : Prop := Q (.lst ds) G ∨ Q (.ptr G.length) (G ++ [.lst ds])
theorem Nw.run {w : Wd} {σ : St} {R : VK} {vs : List V} {ds : List D} (n : Nw Q ds G) (p : Post K w σ ρ Q R) (ok : Ok K w G σ ρ) (r : Reps K w.B w.ps vs ds) : ∀ a, w.H a = none → R (.ref a) (upd w.H a (.lst vs)) := fun a ha => by
  rcases n with q | q
  · obtain ⟨ok1, f1⟩ := ok.cold (o := .lst vs) ha
    exact p (.ref a) (.lst ds) _ G q ok1 (.lst upd_same (r.mono f1.b f1.p)) f1
  · obtain ⟨ok1, f1⟩ := ok.hot (o := .lst vs) (c := .lst ds) ha ⟨vs, upd_same, r.mono (Ex.refl _) ⟨[a], rfl⟩⟩
    refine p (.ref a) (.ptr G.length) _ _ q ok1 (.ptr ?_) f1
    rw [List.getElem?_append_right (by rw [ok.ln]; exact Nat.le_refl _), ok.ln, Nat.sub_self]
    rfl
def NwT (Q : D → Cells → Prop) (ds : List D) (G : Cells) : Prop := Q (.tup ds) G
theorem NwT.run {w : Wd} {σ : St} {R : VK} {vs : List V} {ds : List D} (q : NwT Q ds G) (p : Post K w σ ρ Q R) (ok : Ok K w G σ ρ) (r : Reps K w.B w.ps vs ds) : ∀ a, w.H a = none → R (.ref a) (upd w.H a (.tup vs)) := fun a ha => by
  obtain ⟨ok1, f1⟩ := ok.cold (o := .tup vs) ha
  exact p (.ref a) (.tup ds) _ G q ok1 (.tup (SqT.of upd_same) (r.mono f1.b f1.p)) f1
theorem we_lst {t : TA} (h : WA K t ρ G fun ds G1 => ds.length ≤ sizeLine ∧ Nw Q ds G1) : WE K (tLst t) ρ G Q := fun w σ ok R p =>
  h w σ ok _ fun vs ds w1 G1 q1 ok1 r1 f1 => ⟨by rw [r1.length]; exact q1.1, q1.2.run (p.later f1) ok1 r1⟩
theorem we_tup {t : TA} (h : WA K t ρ G fun ds G1 => ds.length ≤ sizeLine ∧ Q (.tup ds) G1) : WE K (tTup t) ρ G Q := fun w σ ok R p =>
  h w σ ok _ fun vs ds w1 G1 q1 ok1 r1 f1 => ⟨by rw [r1.length]; exact q1.1, NwT.run q1.2 (p.later f1) ok1 r1⟩

/-! ### lists as they stand -/
/-- a list: frozen, or a cell -/
def IsL (G : Cells) (d : D) (ds : List D) : Prop := d = .lst ds ∨ ∃ k, d = .ptr k ∧ G[k]? = some (.lst ds)
/-- a list that is read -/
def IsR (G : Cells) (d : D) (ds : List D) : Prop := d = .ro ds ∨ IsL G d ds
/-- a list or a tuple that is read -/
def IsQ (G : Cells) (d : D) (ds : List D) : Prop := d = .tup ds ∨ IsR G d ds
theorem isL {ds : List D} : IsL G (.lst ds) ds := .inl rfl
theorem isLp {ds : List D} {k : Nat} (h : G[k]? = some (.lst ds)) : IsL G (.ptr k) ds := .inr ⟨k, rfl, h⟩
theorem isR {ds : List D} : IsR G (.lst ds) ds := .inr isL
theorem isRp {ds : List D} {k : Nat} (h : G[k]? = some (.lst ds)) : IsR G (.ptr k) ds := .inr (isLp h)
theorem isRo {ds : List D} : IsR G (.ro ds) ds := .inl rfl
theorem isQ {ds : List D} : IsQ G (.lst ds) ds := .inr isR
theorem isQp {ds : List D} {k : Nat} (h : G[k]? = some (.lst ds)) : IsQ G (.ptr k) ds := .inr (isRp h)
theorem isQt {ds : List D} : IsQ G (.tup ds) ds := .inl rfl
theorem isQo {ds : List D} : IsQ G (.ro ds) ds := .inr isRo
theorem Ok.isL {w : Wd} {σ : St} {ds : List D} {v : V} (ok : Ok K w G σ ρ) (h : IsL G d ds) (r : Rep K w.B w.ps v d) : ∃ a vs, v = .ref a ∧ w.H a = some (.lst vs) ∧ Reps K w.B w.ps vs ds := by
  rcases h with rfl | ⟨k, rfl, hk⟩
  · cases r with
    | lst h r => exact ⟨_, _, rfl, ok.ex _ _ h, r⟩
  · cases r with
    | ptr h =>
      obtain ⟨vs, e, r⟩ := ok.cs k _ _ h hk
      exact ⟨_, vs, rfl, e, r⟩
theorem Ok.isR {w : Wd} {σ : St} {ds : List D} {v : V} (ok : Ok K w G σ ρ) (h : IsR G d ds) (r : Rep K w.B w.ps v d) : ∃ a vs, v = .ref a ∧ SqL K w.H a vs ∧ Reps K w.B w.ps vs ds := by
  rcases h with rfl | h
  · cases r with
    | ro h r => exact ⟨_, _, rfl, ok.ex.sl h, r⟩
  · obtain ⟨a, vs, e, h, r⟩ := ok.isL h r
    exact ⟨a, vs, e, .inl (.inl h), r⟩
theorem Ok.isT {w : Wd} {σ : St} {ds : List D} {v : V} (ok : Ok K w G σ ρ) (r : Rep K w.B w.ps v (.tup ds)) : ∃ a vs, v = .ref a ∧ SqT K w.H a vs ∧ Reps K w.B w.ps vs ds := by
  cases r with
  | tup h r => exact ⟨_, _, rfl, ok.ex.st h, r⟩
theorem Ok.isQ {w : Wd} {σ : St} {ds : List D} {v : V} (ok : Ok K w G σ ρ) (h : IsQ G d ds) (r : Rep K w.B w.ps v d) : ∃ a vs, v = .ref a ∧ (SqL K w.H a vs ∨ SqT K w.H a vs) ∧ Reps K w.B w.ps vs ds := by
  rcases h with rfl | h
  · obtain ⟨a, vs, e, h, r⟩ := ok.isT r
    exact ⟨a, vs, e, .inr h, r⟩
  · obtain ⟨a, vs, e, h, r⟩ := ok.isR h r
    exact ⟨a, vs, e, .inl h, r⟩

/-! ### operators -/
theorem rd_I0 {g : Int → Int → V} {i j : Int} {z : D} (hz : ∀ B ps, Rep K B ps (g i j) z) (q : Q z G) : RD K (rI0 g) (.int i) (.int j) G Q := fun w σ ρ ok vx vy rx ry R p => by
  cases rx
  cases ry
  exact ⟨i, j, rfl, rfl, p.here ok q (hz _ _)⟩
theorem rd_I {C : Int → Int → Prop} {g : Int → Int → V} {i j : Int} {z : D} (hz : ∀ B ps, Rep K B ps (g i j) z) (hc : C i j) (q : Q z G) : RD K (rI C g) (.int i) (.int j) G Q := fun w σ ρ ok vx vy rx ry R p => by
  cases rx
  cases ry
  exact ⟨i, j, rfl, rfl, hc, p.here ok q (hz _ _)⟩
theorem rd_add {i j : Int} (q : Q (.int (i + j)) G) : RD K (rI0 fun i j => .int (i + j)) (.int i) (.int j) G Q := rd_I0 (fun _ _ => .int _) q
theorem rd_sub {i j : Int} (q : Q (.int (i - j)) G) : RD K (rI0 fun i j => .int (i - j)) (.int i) (.int j) G Q := rd_I0 (fun _ _ => .int _) q
theorem rd_mul {i j : Int} (hc : CMul i j) (q : Q (.int (i * j)) G) : RD K (rI CMul fun i j => .int (i * j)) (.int i) (.int j) G Q := rd_I (fun _ _ => .int _) hc q
theorem rd_fdiv {i j : Int} (hc : CDiv i j) (q : Q (.int (i / j)) G) : RD K (rI CDiv fun i j => .int (i / j)) (.int i) (.int j) G Q := rd_I (fun _ _ => .int _) hc q
theorem rd_mod {i j : Int} (hc : 0 < j) (q : Q (.int (i % j)) G) : RD K (rI (fun _ j => 0 < j) fun i j => .int (i % j)) (.int i) (.int j) G Q := rd_I (fun _ _ => .int _) hc q
theorem rd_pow {i j : Int} (hc : CPow i j) (q : Q (.int (i ^ j.toNat)) G) : RD K (rI CPow fun i j => .int (i ^ j.toNat)) (.int i) (.int j) G Q := rd_I (fun _ _ => .int _) hc q
theorem rd_lt {i j : Int} (q : Q (.bl (decide (i < j))) G) : RD K (rI0 fun i j => .bl (decide (i < j))) (.int i) (.int j) G Q := rd_I0 (fun _ _ => .bl _) q
theorem rd_le {i j : Int} (q : Q (.bl (decide (i ≤ j))) G) : RD K (rI0 fun i j => .bl (decide (i ≤ j))) (.int i) (.int j) G Q := rd_I0 (fun _ _ => .bl _) q
theorem rd_gt {i j : Int} (q : Q (.bl (decide (j < i))) G) : RD K (rI0 fun i j => .bl (decide (j < i))) (.int i) (.int j) G Q := rd_I0 (fun _ _ => .bl _) q
theorem rd_ge {i j : Int} (q : Q (.bl (decide (j ≤ i))) G) : RD K (rI0 fun i j => .bl (decide (j ≤ i))) (.int i) (.int j) G Q := rd_I0 (fun _ _ => .bl _) q
theorem ru_neg {i : Int} (q : Q (.int (-i)) G) : RU K (rU fun i => .int (-i)) (.int i) G Q := fun w σ ρ ok vx rx R p => by
  cases rx
  exact ⟨i, rfl, p.here ok q (.int _)⟩
theorem dV_int {i j : Int} : decide (V.int i = V.int j) = decide (i = j) := by
  by_cases e : i = j
  · subst e; simp
  · have : ¬ V.int i = V.int j := fun z => e (V.int.inj z)
    rw [decide_eq_false e, decide_eq_false this]
theorem dV_str {i j : Str} : decide (V.str i = V.str j) = decide (i = j) := by
  by_cases e : i = j
  · subst e; simp
  · have : ¬ V.str i = V.str j := fun z => e (V.str.inj z)
    rw [decide_eq_false e, decide_eq_false this]
theorem dV_bl {i j : Bool} : decide (V.bl i = V.bl j) = decide (i = j) := by
  by_cases e : i = j
  · subst e; simp
  · have : ¬ V.bl i = V.bl j := fun z => e (V.bl.inj z)
    rw [decide_eq_false e, decide_eq_false this]
theorem rd_eqI {i j : Int} (q : Q (.bl (decide (i = j))) G) : RD K rEq (.int i) (.int j) G Q := fun w σ ρ ok vx vy rx ry R p => by
  cases rx
  cases ry
  exact ⟨rfl, by rw [dV_int]; exact p.here ok q (.bl _)⟩
theorem rd_neI {i j : Int} (q : Q (.bl (!decide (i = j))) G) : RD K rNe (.int i) (.int j) G Q := fun w σ ρ ok vx vy rx ry R p => by
  cases rx
  cases ry
  exact ⟨rfl, by rw [dV_int]; exact p.here ok q (.bl _)⟩
theorem rd_eqS {i j : Str} (q : Q (.bl (decide (i = j))) G) : RD K rEq (.str i) (.str j) G Q := fun w σ ρ ok vx vy rx ry R p => by
  cases rx
  cases ry
  exact ⟨rfl, by rw [dV_str]; exact p.here ok q (.bl _)⟩
theorem rd_neS {i j : Str} (q : Q (.bl (!decide (i = j))) G) : RD K rNe (.str i) (.str j) G Q := fun w σ ρ ok vx vy rx ry R p => by
  cases rx
  cases ry
  exact ⟨rfl, by rw [dV_str]; exact p.here ok q (.bl _)⟩
theorem rd_eqB {i j : Bool} (q : Q (.bl (decide (i = j))) G) : RD K rEq (.bl i) (.bl j) G Q := fun w σ ρ ok vx vy rx ry R p => by
  cases rx
  cases ry
  exact ⟨rfl, by rw [dV_bl]; exact p.here ok q (.bl _)⟩
theorem rd_neB {i j : Bool} (q : Q (.bl (!decide (i = j))) G) : RD K rNe (.bl i) (.bl j) G Q := fun w σ ρ ok vx vy rx ry R p => by
  cases rx
  cases ry
  exact ⟨rfl, by rw [dV_bl]; exact p.here ok q (.bl _)⟩
def isNonD : D → Bool
  | .non => true
  | _ => false
theorem dec_nonD {B : Hp} {ps : List Addr} {v : V} (r : Rep K B ps v d) : decide (v = .non) = isNonD d := by
  cases r <;> first | rfl | (apply decide_eq_false; intro z; cases z)
theorem rd_isN (q : Q (.bl (isNonD x)) G) : RD K (fun x y H Q => y = .non ∧ Q (.bl (decide (x = .non))) H) x .non G Q := fun w σ ρ ok vx vy rx ry R p => by
  cases ry
  exact ⟨rfl, by rw [dec_nonD rx]; exact p.here ok q (.bl _)⟩
theorem rd_notN (q : Q (.bl (!isNonD x)) G) : RD K (fun x y H Q => y = .non ∧ Q (.bl (!decide (x = .non))) H) x .non G Q := fun w σ ρ ok vx vy rx ry R p => by
  cases ry
  exact ⟨rfl, by rw [dec_nonD rx]; exact p.here ok q (.bl _)⟩
theorem rd_addS {i j : Str} (hl : i.length + j.length ≤ sizeLine) (q : Q (.str (i ++ j)) G) : RD K (fun x y H Q => ∃ i j, x = .str i ∧ y = .str j ∧ i.length + j.length ≤ sizeLine ∧ Q (.str (i ++ j)) H) (.str i) (.str j) G Q := fun w σ ρ ok vx vy rx ry R p => by
  cases rx
  cases ry
  exact ⟨i, j, rfl, rfl, hl, p.here ok q (.str _)⟩
theorem rd_leS {i j : Str} (q : Q (.bl (!decide (j.cps.toList < i.cps.toList))) G) : RD K (fun x y H Q => ∃ i j, x = .str i ∧ y = .str j ∧ Q (.bl (!decide (j.cps.toList < i.cps.toList))) H) (.str i) (.str j) G Q := fun w σ ρ ok vx vy rx ry R p => by
  cases rx
  cases ry
  exact ⟨i, j, rfl, rfl, p.here ok q (.bl _)⟩
theorem rd_cat {xs ys : List D} (hx : IsL G x xs) (hy : IsL G y ys) (hl : xs.length + ys.length ≤ sizeLine) (q : Nw Q (xs ++ ys) G) : RD K rCat x y G Q := fun w σ ρ ok vx vy rx ry R p => by
  obtain ⟨a, vs, rfl, ha, r1⟩ := ok.isL hx rx
  obtain ⟨b, us, rfl, hb, r2⟩ := ok.isL hy ry
  exact ⟨a, b, vs, us, rfl, rfl, ha, hb, by rw [r1.length, r2.length]; exact hl, q.run p ok (r1.append r2)⟩
theorem rd_rep {xs : List D} {k : Int} (hx : IsL G x xs) (h1 : -(2 ^ 63) ≤ k) (h2 : k < 2 ^ 63) (hl : xs.length * k.toNat ≤ sizeLine) (q : Nw Q (List.replicate k.toNat xs).flatten G) : RD K rRep x (.int k) G Q := fun w σ ρ ok vx vy rx ry R p => by
  obtain ⟨a, vs, rfl, ha, r1⟩ := ok.isL hx rx
  cases ry
  exact ⟨a, k, vs, rfl, rfl, ha, h1, h2, by rw [r1.length]; exact hl, q.run p ok r1.flat⟩
theorem rd_catT {xs ys : List D} (hx : xs ≠ []) (hy : ys ≠ []) (hl : xs.length + ys.length ≤ sizeLine) (q : Q (.tup (xs ++ ys)) G) : RD K (rCatT K) (.tup xs) (.tup ys) G Q := fun w σ ρ ok vx vy rx ry R p => by
  obtain ⟨a, vs, rfl, ha, r1⟩ := ok.isT rx
  obtain ⟨b, us, rfl, hb, r2⟩ := ok.isT ry
  refine ⟨a, b, vs, us, rfl, rfl, ha, hb, fun z => hx ?_, by rw [r1.length, r2.length]; exact hl, fun z => absurd ?_ hy, fun _ => NwT.run q p ok (r1.append r2)⟩
  · have := r1.length
    rw [z] at this
    exact List.eq_nil_of_length_eq_zero this.symm
  · have := r2.length
    rw [z] at this
    exact List.eq_nil_of_length_eq_zero this.symm
theorem rd_ltT {ns ms : List Int} (q : Q (.bl (HT.lexLt ns ms)) G) : RD K (rLtT K) (.tup (ns.map D.int)) (.tup (ms.map D.int)) G Q := fun w σ ρ ok vx vy rx ry R p => by
  obtain ⟨a, vs, rfl, ha, r1⟩ := ok.isT rx
  obtain ⟨b, us, rfl, hb, r2⟩ := ok.isT ry
  rw [r1.ints] at ha
  rw [r2.ints] at hb
  exact ⟨a, b, ns, ms, rfl, rfl, ha, hb, p.here ok q (.bl _)⟩
theorem ixN_len {α β : Type} {l : List α} {m : List β} (h : l.length = m.length) (i : Int) : ixN l.length i = ixN m.length i := by rw [h]
theorem Reps.atI {B : Hp} {ps : List Addr} {vs : List V} {ds : List D} {i : Int} (r : Reps K B ps vs ds) (h : L2.atI ds i = some d) : ∃ v, L2.atI vs i = some v ∧ Rep K B ps v d := by
  unfold L2.atI at h ⊢
  rw [r.length]
  cases e : ixN ds.length i with
  | none =>
    rw [e] at h
    cases h
  | some j =>
    rw [e] at h
    obtain ⟨v, h1, h2⟩ := r.get (i := j) h
    exact ⟨v, h1, h2⟩
theorem rd_ixL {ds : List D} {i : Int} (hx : IsR G x ds) (h : atI ds i = some d) (q : Q d G) : RD K (rIxL K) x (.int i) G Q := fun w σ ρ ok vx vy rx ry R p => by
  obtain ⟨a, vs, rfl, ha, r1⟩ := ok.isR hx rx
  cases ry
  obtain ⟨v, e, rv⟩ := r1.atI h
  exact ⟨a, vs, i, v, rfl, rfl, ha, e, p.here ok q rv⟩
theorem rd_ixT {ds : List D} {i : Int} (h : atI ds i = some d) (q : Q d G) : RD K (rIxT K) (.tup ds) (.int i) G Q := fun w σ ρ ok vx vy rx ry R p => by
  obtain ⟨a, vs, rfl, ha, r1⟩ := ok.isT rx
  cases ry
  obtain ⟨v, e, rv⟩ := r1.atI h
  exact ⟨a, vs, i, v, rfl, rfl, ha, e, p.here ok q rv⟩
theorem rd_ixS {z : Str} {i : Int} {c : Nat} (hl : z.length ≤ sizeLine) (h : atI z.cps.toList i = some c) (q : Q (.str ⟨#[c]⟩) G) : RD K rIxS (.str z) (.int i) G Q := fun w σ ρ ok vx vy rx ry R p => by
  cases rx
  cases ry
  exact ⟨z, i, c, rfl, rfl, hl, h, p.here ok q (.str _)⟩

/-! ### slices -/
theorem wo_none {Q : Option Int → Cells → Prop} (q : Q none G) : WO K tNoPart ρ G Q := fun w σ ok R p => p none w G q ok (Fut.refl w)
theorem wo_some {Q : Option Int → Cells → Prop} (h : WE K te ρ G fun d G1 => ∃ i, d = .int i ∧ Q (some i) G1) : WO K (tPart te) ρ G Q := fun w σ ok R p =>
  h w σ ok _ fun v d w1 G1 ⟨i, e, q⟩ ok1 r1 f1 => by
    subst e
    cases r1
    exact ⟨i, rfl, p (some i) w1 G1 q ok1 f1⟩
theorem we_sl {r : V → Option Int → Option Int → Hp → VK → Prop} {tl th : TO} (h : WE K te ρ G fun x G1 => WO K tl ρ G1 fun lo G2 => WO K th ρ G2 fun hi G3 => RS K r x lo hi G3 Q) : WE K (tSl r te tl th) ρ G Q := fun w σ ok R p =>
  h w σ ok _ fun v d w1 G1 q1 ok1 r1 f1 => q1 w1 σ ok1 _ fun lo w2 G2 q2 ok2 f2 => q2 w2 σ ok2 _ fun hi w3 G3 q3 ok3 f3 =>
    q3 w3 σ ρ ok3 v ((r1.mono f2.b f2.p).mono f3.b f3.p) R (p.later ((f1.trans f2).trans f3))
theorem Reps.cut {B : Hp} {ps : List Addr} {vs : List V} {ds : List D} {lo hi : Option Int} (r : Reps K B ps vs ds) : Reps K B ps (cutV vs lo hi) ((ds.drop (HT.sIx ds.length 0 lo)).take (HT.sIx ds.length ds.length hi - HT.sIx ds.length 0 lo)) := by
  unfold cutV
  rw [r.length]
  exact (r.drop _).take _
def cutD (ds : List D) (lo hi : Option Int) : List D := (ds.drop (HT.sIx ds.length 0 lo)).take (HT.sIx ds.length ds.length hi - HT.sIx ds.length 0 lo)
theorem rs_L {ds : List D} {lo hi : Option Int} (hx : IsR G x ds) (q : Nw Q (cutD ds lo hi) G) : RS K (rSlL K) x lo hi G Q := fun w σ ρ ok vx rx R p => by
  obtain ⟨a, vs, rfl, ha, r1⟩ := ok.isR hx rx
  exact ⟨a, vs, rfl, ha, q.run p ok r1.cut⟩
theorem rs_S {z : Str} {lo hi : Option Int} (hl : z.length ≤ sizeLine) (q : Q (.str (cutS z lo hi)) G) : RS K rSlS (.str z) lo hi G Q := fun w σ ρ ok vx rx R p => by
  cases rx
  exact ⟨z, rfl, hl, p.here ok q (.str _)⟩

/-! ### tests -/
variable {QT : Bool → Cells → Prop} {tA tB' : TT}
theorem wt_test (h : WE K te ρ G fun d G1 => ∃ b, d = .bl b ∧ QT b G1) : WT K (tTest te) ρ G QT := fun w σ ok R p =>
  h w σ ok _ fun v d w1 G1 ⟨b, e, q⟩ ok1 r1 f1 => by
    subst e
    cases r1
    exact ⟨b, rfl, p b w1 G1 q ok1 f1⟩
theorem wt_B (h : WE K te ρ G fun d G1 => ∃ b, d = .bl b ∧ QT b G1) : WT K (L2.tB te) ρ G QT := wt_test h
theorem wt_not (h : WT K tA ρ G fun b G1 => QT (!b) G1) : WT K (tNot tA) ρ G QT := fun w σ ok R p => h w σ ok _ fun b w1 G1 q ok1 f1 => p (!b) w1 G1 q ok1 f1
theorem wt_and (h : WT K tA ρ G fun b G1 => if b = true then WT K tB' ρ G1 QT else QT false G1) : WT K (tAnd tA tB') ρ G QT := fun w σ ok R p =>
  h w σ ok _ fun b w1 G1 q ok1 f1 => by
    cases b with
    | true => exact (show WT K tB' ρ G1 QT from q) w1 σ ok1 _ fun c w2 G2 q2 ok2 f2 => p c w2 G2 q2 ok2 (f1.trans f2)
    | false => exact p false w1 G1 q ok1 f1
theorem wt_or (h : WT K tA ρ G fun b G1 => if b = true then QT true G1 else WT K tB' ρ G1 QT) : WT K (tOr tA tB') ρ G QT := fun w σ ok R p =>
  h w σ ok _ fun b w1 G1 q ok1 f1 => by
    cases b with
    | true => exact p true w1 G1 q ok1 f1
    | false => exact (show WT K tB' ρ G1 QT from q) w1 σ ok1 _ fun c w2 G2 q2 ok2 f2 => p c w2 G2 q2 ok2 (f1.trans f2)
theorem we_if (h : WT K tA ρ G fun b G1 => if b = true then WE K ta ρ G1 Q else WE K tb ρ G1 Q) : WE K (tIf tA ta tb) ρ G Q := fun w σ ok R p =>
  h w σ ok _ fun b w1 G1 q ok1 f1 => by
    cases b with
    | true => exact (show WE K ta ρ G1 Q from q) w1 σ ok1 _ (p.later f1)
    | false => exact (show WE K tb ρ G1 Q from q) w1 σ ok1 _ (p.later f1)
theorem we_andV (h : WE K ta ρ G fun d G1 => ∃ b, d = .bl b ∧ if b = true then WE K tb ρ G1 Q else Q (.bl false) G1) : WE K (tAndV ta tb) ρ G Q := fun w σ ok R p =>
  h w σ ok _ fun v d w1 G1 ⟨b, e, q⟩ ok1 r1 f1 => by
    subst e
    cases r1
    refine ⟨b, rfl, ?_⟩
    cases b with
    | true => exact (show WE K tb ρ G1 Q from q) w1 σ ok1 _ (p.later f1)
    | false => exact (p.later f1).here ok1 (show Q (.bl false) G1 from q) (.bl false)
theorem we_orV (h : WE K ta ρ G fun d G1 => ∃ b, d = .bl b ∧ if b = true then Q (.bl true) G1 else WE K tb ρ G1 Q) : WE K (tOrV ta tb) ρ G Q := fun w σ ok R p =>
  h w σ ok _ fun v d w1 G1 ⟨b, e, q⟩ ok1 r1 f1 => by
    subst e
    cases r1
    refine ⟨b, rfl, ?_⟩
    cases b with
    | true => exact (p.later f1).here ok1 (show Q (.bl true) G1 from q) (.bl true)
    | false => exact (show WE K tb ρ G1 Q from q) w1 σ ok1 _ (p.later f1)
theorem we_notV (h : WE K ta ρ G fun d G1 => ∃ b, d = .bl b ∧ Q (.bl (!b)) G1) : WE K (tNotV ta) ρ G Q := fun w σ ok R p =>
  h w σ ok _ fun v d w1 G1 ⟨b, e, q⟩ ok1 r1 f1 => by
    subst e
    cases r1
    exact ⟨b, rfl, (p.later f1).here ok1 q (.bl _)⟩
theorem we_chain {r r' : R2} (h : WE K ta ρ G fun x G1 => WE K tb ρ G1 fun y G2 => RD K r x y G2 fun z G3 => ∃ k, z = .bl k ∧ if k = true then WE K tc ρ G3 fun u G4 => RD K r' y u G4 Q else Q (.bl false) G3) : WE K (tChain r r' ta tb tc) ρ G Q := fun w σ ok R p =>
  h w σ ok _ fun v d w1 G1 q1 ok1 r1 f1 => q1 w1 σ ok1 _ fun u e w2 G2 q2 ok2 r2 f2 => q2 w2 σ ρ ok2 v u (r1.mono f2.b f2.p) r2 _ fun z dz w3 G3 ⟨k, ez, q3⟩ ok3 r3 f3 => by
    subst ez
    cases r3
    refine ⟨k, rfl, ?_⟩
    cases k with
    | true => exact (show WE K tc ρ G3 _ from q3) w3 σ ok3 _ fun c dc w4 G4 q4 ok4 r4 f4 => q4 w4 σ ρ ok4 u c ((r2.mono f3.b f3.p).mono f4.b f4.p) r4 R (p.later (((f1.trans f2).trans f3).trans f4))
    | false => exact (p.later ((f1.trans f2).trans f3)).here ok3 (show Q (.bl false) G3 from q3) (.bl false)

/-! ### statements -/
variable {nx bk ct : DEnv → Cells → Prop} {rt : D → Cells → Prop} {E : EndsD} {ts tu : TS} {g : TG}
theorem ws_next (q : nx ρ G) : WS K tNext ρ G ⟨nx, rt, bk, ct⟩ := fun w σ ok X l => l.nx w G σ ρ q ok (Fut.refl w)
theorem ws_break (q : bk ρ G) : WS K tBreak ρ G ⟨nx, rt, bk, ct⟩ := fun w σ ok X l => l.bk w G σ ρ q ok (Fut.refl w)
theorem ws_cont (q : ct ρ G) : WS K tCont ρ G ⟨nx, rt, bk, ct⟩ := fun w σ ok X l => l.ct w G σ ρ q ok (Fut.refl w)
theorem ws_seq (h : WS K ts ρ G ⟨fun ρ' G' => WS K tu ρ' G' ⟨nx, rt, bk, ct⟩, rt, bk, ct⟩) : WS K (tSeq ts tu) ρ G ⟨nx, rt, bk, ct⟩ := fun w σ ok X l =>
  h w σ ok { X with nx := tu X } ⟨fun w1 G1 σ1 ρ1 q ok1 f1 => q w1 σ1 ok1 X (l.later f1), l.bk, l.ct, l.rt⟩
theorem ws_asg (h : WE K te ρ G fun d G1 => WG K g d ρ G1 nx) : WS K (tAsg te g) ρ G ⟨nx, rt, bk, ct⟩ := fun w σ ok X l =>
  h w σ ok _ fun v d w1 G1 q ok1 r1 f1 => q w1 σ v ok1 r1 _ fun w2 G2 σ2 ρ2 q2 ok2 f2 => l.nx w2 G2 σ2 ρ2 q2 ok2 (f1.trans f2)
theorem ws_drop (h : WE K te ρ G fun _ G1 => nx ρ G1) : WS K (tDrop te) ρ G ⟨nx, rt, bk, ct⟩ := fun w σ ok X l =>
  h w σ ok _ fun v d w1 G1 q ok1 r1 f1 => l.nx w1 G1 σ ρ q ok1 f1
theorem ws_ret (h : WE K te ρ G rt) : WS K (tRet te) ρ G ⟨nx, rt, bk, ct⟩ := fun w σ ok X l =>
  h w σ ok _ fun v d w1 G1 q ok1 r1 f1 => l.rt v d w1 G1 q ok1.none r1 f1
theorem ws_retN (q : rt .non G) : WS K tRetN ρ G ⟨nx, rt, bk, ct⟩ := fun w σ ok X l => l.rt .non .non w G q ok.none .non (Fut.refl w)
theorem ws_if {c : TT} (h : WT K c ρ G fun b G1 => if b = true then WS K ts ρ G1 E else WS K tu ρ G1 E) : WS K (tIfS c ts tu) ρ G E := fun w σ ok X l =>
  h w σ ok _ fun b w1 G1 q ok1 f1 => by
    cases b with
    | true => exact (show WS K ts ρ G1 E from q) w1 σ ok1 X (l.later f1)
    | false => exact (show WS K tu ρ G1 E from q) w1 σ ok1 X (l.later f1)
theorem wg_name {i : Nat} {Q : DEnv → Cells → Prop} (q : Q (ρ.set i (some d)) G) : WG K (gName i) d ρ G Q := fun w σ v ok r R p => p w G _ _ q (ok.set r) (Fut.refl w)
theorem wgs_nil {Q : DEnv → Cells → Prop} (q : Q ρ G) : WGs K gNil [] ρ G Q := fun w σ vs ok r R p => by
  cases r
  exact ⟨rfl, p w G σ ρ q ok (Fut.refl w)⟩
theorem wgs_cons {u : TGs} {ds : List D} {Q : DEnv → Cells → Prop} (h : WG K g d ρ G fun ρ1 G1 => WGs K u ds ρ1 G1 Q) : WGs K (gCons g u) (d :: ds) ρ G Q := fun w σ vs ok r R p => by
  cases r with
  | cons r1 rr => exact ⟨_, _, rfl, h w σ _ ok r1 _ fun w1 G1 σ1 ρ1 q ok1 f1 => q w1 σ1 _ ok1 (rr.mono f1.b f1.p) _ fun w2 G2 σ2 ρ2 q2 ok2 f2 => p w2 G2 σ2 ρ2 q2 ok2 (f1.trans f2)⟩
theorem wg_tup {n : Nat} {u : TGs} {ds : List D} {Q : DEnv → Cells → Prop} (hn : ds.length = n) (h : WGs K u ds ρ G Q) : WG K (gTup K n u) (.tup ds) ρ G Q := fun w σ v ok r R p => by
  obtain ⟨a, vs, rfl, ha, r1⟩ := ok.isT r
  exact ⟨a, vs, rfl, ha, by rw [r1.length]; exact hn, h w σ vs ok r1 R p⟩
theorem ws_par {i j : Nat} {t : TA} (h : WA K t ρ G fun ds G1 => ∃ a b, ds = [a, b] ∧ nx ((ρ.set i (some a)).set j (some b)) G1) : WS K (tPar i j t) ρ G ⟨nx, rt, bk, ct⟩ := fun w σ ok X l =>
  h w σ ok _ fun vs ds w1 G1 ⟨a, b, e, q⟩ ok1 r1 f1 => by
    subst e
    cases r1 with
    | cons h1 r =>
      cases r with
      | cons h2 r =>
        cases r
        exact ⟨_, _, rfl, l.nx w1 G1 _ _ q ((ok1.set h1).set h2) f1⟩
theorem ws_augI {i : Nat} {f : Int → Int → Int} {a : Int} (h : ρ[i]? = some (some (.int a))) (hh : WE K te ρ G fun d G1 => ∃ b, d = .int b ∧ nx (ρ.set i (some (.int (f a b)))) G1) : WS K (tAug i te (ipI f)) ρ G ⟨nx, rt, bk, ct⟩ := fun w σ ok X l => by
  obtain ⟨v, e, r⟩ := ok.sl i _ h
  cases r
  refine ⟨.int a, e, hh w σ ok _ fun v d w1 G1 ⟨b, e1, q⟩ ok1 r1 f1 => ?_⟩
  subst e1
  cases r1
  exact ⟨a, b, rfl, rfl, l.nx w1 G1 _ _ q (ok1.set (.int _)) f1⟩
end
end DL
/-! DC: what is walked; loops; comprehensions; calls; built-ins. -/
namespace DL
open PySem PySem.Spec PyProof.Rows L2

/-- the iterator J yields the items ds, as long as the cells are S -/
structure Seq (K : PySem.W.Frag) (w : Wd) (J : It) (ds : List D) (S : Cells → Prop) : Prop where
  go : ∀ w' G σ ρ i, Fut w w' → Ok K w' G σ ρ → S G → i < ds.length → J.go i w'.H
  stop : ∀ w' G σ ρ, Fut w w' → Ok K w' G σ ρ → S G → J.stop ds.length w'.H
  yld : ∀ w' G σ ρ i d x H', Fut w w' → Ok K w' G σ ρ → S G → ds[i]? = some d → J.yld i w'.H x H' → ∃ w2, w2.H = H' ∧ Ok K w2 G σ ρ ∧ Fut w' w2 ∧ Rep K w2.B w2.ps x d
def WI (K : PySem.W.Frag) (wi : TI) (ρ : DEnv) (G : Cells) (Q : List D → (Cells → Prop) → Cells → Prop) : Prop :=
  ∀ w σ, Ok K w G σ ρ → ∀ R : It → Hp → Prop, (∀ J ds S w' G', Q ds S G' → Seq K w' J ds S → Ok K w' G' σ ρ → Fut w w' → R J w'.H) → wi σ w.H R
section
variable {K : PySem.W.Frag} {ρ : DEnv} {G : Cells} {ta tb tc te : TE} {x y d : D} {Q : List D → (Cells → Prop) → Cells → Prop}
theorem wi_list {tl : TE} (h : WE K tl ρ G fun d G1 => ∃ ds, IsR G1 d ds ∧ Q ds (fun G => IsR G d ds) G1) : WI K (iList K tl) ρ G Q := fun w σ ok R p =>
  h w σ ok _ fun v d w1 G1 ⟨ds, hd, q⟩ ok1 r1 f1 => by
    obtain ⟨a, vs, rfl, ha, rs⟩ := ok1.isR hd r1
    refine ⟨a, rfl, ⟨vs, ha⟩, p _ ds _ w1 G1 q ⟨fun w' G' σ' ρ' i f ok s hi => ?_, fun w' G' σ' ρ' f ok s => ?_, fun w' G' σ' ρ' i e x H' f ok s hi y => ?_⟩ ok1 f1⟩
    · obtain ⟨a', us, e1, h1, r1'⟩ := ok.isR s (r1.mono f.b f.p)
      cases e1
      have hl : i < us.length := by rw [r1'.length]; exact hi
      exact ⟨us, us[i], h1, by simp [hl]⟩
    · obtain ⟨a', us, e1, h1, r1'⟩ := ok.isR s (r1.mono f.b f.p)
      cases e1
      exact ⟨us, h1, by rw [r1'.length]; exact Nat.le_refl _⟩
    · obtain ⟨a', us, e1, h1, r1'⟩ := ok.isR s (r1.mono f.b f.p)
      cases e1
      obtain ⟨v, hv, rv⟩ := r1'.get hi
      obtain ⟨rfl, y⟩ := y
      have := y us h1
      rw [hv] at this
      cases this
      exact ⟨w', rfl, ok, Fut.refl _, rv⟩
theorem wi_tup {tl : TE} (h : WE K tl ρ G fun d G1 => ∃ ds, d = .tup ds ∧ Q ds (fun _ => True) G1) : WI K (iTup K tl) ρ G Q := fun w σ ok R p =>
  h w σ ok _ fun v d w1 G1 ⟨ds, hd, q⟩ ok1 r1 f1 => by
    subst hd
    obtain ⟨a, vs, rfl, ha, rs⟩ := ok1.isT r1
    refine ⟨a, rfl, ⟨vs, ha⟩, p _ ds _ w1 G1 q ⟨fun w' G' σ' ρ' i f ok s hi => ?_, fun w' G' σ' ρ' f ok s => ?_, fun w' G' σ' ρ' i e x H' f ok s hi y => ?_⟩ ok1 f1⟩
    · obtain ⟨a', us, e1, h1, r1'⟩ := ok.isT (r1.mono f.b f.p)
      cases e1
      have hl : i < us.length := by rw [r1'.length]; exact hi
      exact ⟨us, us[i], h1, by simp [hl]⟩
    · obtain ⟨a', us, e1, h1, r1'⟩ := ok.isT (r1.mono f.b f.p)
      cases e1
      exact ⟨us, h1, by rw [r1'.length]; exact Nat.le_refl _⟩
    · obtain ⟨a', us, e1, h1, r1'⟩ := ok.isT (r1.mono f.b f.p)
      cases e1
      obtain ⟨v, hv, rv⟩ := r1'.get hi
      obtain ⟨rfl, y⟩ := y
      have := y us h1
      rw [hv] at this
      cases this
      exact ⟨w', rfl, ok, Fut.refl _, rv⟩
/-- lo, lo + 1, .. -/
def rgD (lo : Int) (n : Nat) : List D := (List.range n).map fun i => D.int (lo + (i : Nat))
theorem rgD_len (lo : Int) (n : Nat) : (rgD lo n).length = n := by unfold rgD; rw [List.length_map, List.length_range]
theorem rgD_get {lo : Int} {n i : Nat} (h : i < n) : (rgD lo n)[i]? = some (.int (lo + (i : Nat))) := by
  unfold rgD
  rw [List.getElem?_map, List.getElem?_range h]
  rfl
theorem rgD_get' {lo : Int} {n i : Nat} {d : D} (h : (rgD lo n)[i]? = some d) : i < n ∧ d = .int (lo + (i : Nat)) := by
  have hi : i < (rgD lo n).length := (List.getElem?_eq_some_iff.mp h).1
  rw [rgD_len] at hi
  rw [rgD_get hi] at h
  exact ⟨hi, (Option.some.inj h).symm⟩
theorem seq_rng {w : Wd} {lo : Int} {n : Nat} : Seq K w (Itr lo n) (rgD lo n) fun _ => True :=
  ⟨fun w' G' σ' ρ' i f ok s hi => by rw [rgD_len] at hi; exact hi, fun w' G' σ' ρ' f ok s => by show n ≤ (rgD lo n).length; rw [rgD_len]; exact Nat.le_refl _, fun w' G' σ' ρ' i e x H' f ok s hi y => by
    obtain ⟨rfl, rfl⟩ := y
    obtain ⟨hi, rfl⟩ := rgD_get' hi
    exact ⟨w', rfl, ok, Fut.refl _, .int _⟩⟩
theorem wi_rng1 {t : TA} (h : WA K t ρ G fun ds G1 => ∃ j : Int, ds = [.int j] ∧ -(2 ^ 62) ≤ j ∧ j < 2 ^ 62 ∧ Q (rgD 0 j.toNat) (fun _ => True) G1) : WI K (iRng1 t) ρ G Q := fun w σ ok R p =>
  h w σ ok _ fun vs ds w1 G1 ⟨j, e, h1, h2, q⟩ ok1 r1 f1 => by
    subst e
    cases r1 with
    | cons a r =>
      cases r
      cases a
      exact ⟨j, rfl, h1, h2, p _ _ _ w1 G1 q seq_rng ok1 f1⟩
theorem wi_rng2 {t : TA} (h : WA K t ρ G fun ds G1 => ∃ i j : Int, ds = [.int i, .int j] ∧ (-(2 ^ 62) ≤ i ∧ i < 2 ^ 62 ∧ -(2 ^ 62) ≤ j ∧ j < 2 ^ 62) ∧ Q (rgD i (j - i).toNat) (fun _ => True) G1) : WI K (iRng2 t) ρ G Q := fun w σ ok R p =>
  h w σ ok _ fun vs ds w1 G1 ⟨i, j, e, h1, q⟩ ok1 r1 f1 => by
    subst e
    cases r1 with
    | cons a r =>
      cases r with
      | cons b r =>
        cases r
        cases a
        cases b
        exact ⟨i, j, rfl, h1, p _ _ _ w1 G1 q seq_rng ok1 f1⟩
/-- a text's signs -/
def sgD (z : Str) : List D := z.cps.toList.map fun c => D.str ⟨#[c]⟩
theorem wi_str (h : WE K te ρ G fun d G1 => ∃ z, d = .str z ∧ Q (sgD z) (fun _ => True) G1) : WI K (iStr te) ρ G Q := fun w σ ok R p =>
  h w σ ok _ fun v d w1 G1 ⟨z, e, q⟩ ok1 r1 f1 => by
    subst e
    cases r1
    have hl : (sgD z).length = z.cps.size := by unfold sgD; rw [List.length_map, Array.length_toList]
    refine ⟨z, rfl, p _ _ _ w1 G1 q ⟨fun w' G' σ' ρ' i f ok s hi => ?_, fun w' G' σ' ρ' f ok s => ?_, fun w' G' σ' ρ' i e x H' f ok s hi y => ?_⟩ ok1 f1⟩
    · rw [hl] at hi
      exact hi
    · show z.cps.size ≤ (sgD z).length
      rw [hl]
      exact Nat.le_refl _
    · obtain ⟨rfl, c, hc, rfl⟩ := y
      unfold sgD at hi
      rw [List.getElem?_map, Array.getElem?_toList, hc] at hi
      cases hi
      exact ⟨w', rfl, ok, Fut.refl _, .str _⟩
/-- enumerate -/
def enD (ds : List D) : List D := ds.mapIdx fun i d => D.tup [.int (i : Nat), d]
theorem wi_enum {t : TA} (h : WA K t ρ G fun ls G1 => ∃ d ds, ls = [d] ∧ IsR G1 d ds ∧ Q (enD ds) (fun G => IsR G d ds) G1) : WI K (iEnum K t) ρ G Q := fun w σ ok R p =>
  h w σ ok _ fun vs ls w1 G1 ⟨d, ds, e, hd, q⟩ ok1 r1 f1 => by
    subst e
    cases r1 with
    | cons r1 r =>
      cases r
      obtain ⟨a, vs, rfl, ha, rs⟩ := ok1.isR hd r1
      refine ⟨a, vs, rfl, ha, p _ (enD ds) _ w1 G1 q ⟨fun w' G' σ' ρ' i f ok s hi => ?_, fun w' G' σ' ρ' f ok s => ?_, fun w' G' σ' ρ' i e x H' f ok s hi y => ?_⟩ ok1 f1⟩
      · obtain ⟨a', us, e1, h1, r1'⟩ := ok.isR s (r1.mono f.b f.p)
        cases e1
        have hl : i < us.length := by
          rw [r1'.length]
          unfold enD at hi
          rw [List.length_mapIdx] at hi
          exact hi
        exact ⟨us, us[i], h1, by simp [hl]⟩
      · obtain ⟨a', us, e1, h1, r1'⟩ := ok.isR s (r1.mono f.b f.p)
        cases e1
        refine ⟨us, h1, ?_⟩
        unfold enD
        rw [r1'.length, List.length_mapIdx]
        exact Nat.le_refl _
      · obtain ⟨a', us, e1, h1, r1'⟩ := ok.isR s (r1.mono f.b f.p)
        cases e1
        unfold enD at hi
        rw [List.getElem?_mapIdx] at hi
        cases hd : ds[i]? with
        | none =>
          rw [hd] at hi
          cases hi
        | some dd =>
          rw [hd] at hi
          cases hi
          obtain ⟨v, hv, rv⟩ := r1'.get hd
          obtain ⟨T, x, rfl, hT, rfl, y⟩ := y
          have := y us h1
          rw [hv] at this
          cases this
          obtain ⟨ok2, f2⟩ := ok.cold (o := .tup [.int (i : Nat), v]) hT
          exact ⟨_, rfl, ok2, f2, .tup (SqT.of upd_same) (.cons (.int _) (.cons (rv.mono f2.b f2.p) .nil))⟩

/-! ### for, while -/
variable {nx bk ct : DEnv → Cells → Prop} {rt : D → Cells → Prop} {ts tu : TS} {g : TG} {wi : TI}
theorem ws_for (h : WI K wi ρ G fun ds S G1 => ∃ Pv : Nat → DEnv → Cells → Prop, Pv 0 ρ G1 ∧ (∀ i ρ G, Pv i ρ G → S G) ∧
    (∀ i d ρ G, ds[i]? = some d → Pv i ρ G → WG K g d ρ G fun ρ2 G2 => WS K ts ρ2 G2 ⟨Pv (i + 1), rt, nx, Pv (i + 1)⟩) ∧ ∀ ρ G, Pv ds.length ρ G → nx ρ G) : WS K (tFor wi g ts) ρ G ⟨nx, rt, bk, ct⟩ := fun w σ ok X l =>
  h w σ ok _ fun J ds S w1 G1 ⟨Pv, h0, hS, hs, hd⟩ sq ok1 f1 => by
    refine ⟨fun i m σ H => m = ds.length - i ∧ i ≤ ds.length ∧ ∃ w' G' ρ', w'.H = H ∧ Fut w1 w' ∧ Ok K w' G' σ ρ' ∧ Pv i ρ' G', ⟨ds.length, by simp, Nat.zero_le _, w1, G1, ρ, rfl, Fut.refl _, ok1, h0⟩, ?_⟩
    rintro i m σ' H ⟨rfl, hi, w', G', ρ', rfl, f', ok', pv⟩
    by_cases hlt : i < ds.length
    · refine .inr ⟨sq.go w' G' σ' ρ' i f' ok' (hS _ _ _ pv) hlt, fun σ H => ∃ w' G' ρ', w'.H = H ∧ Fut w1 w' ∧ Ok K w' G' σ ρ' ∧ Pv (i + 1) ρ' G', fun σ2 H2 z => ⟨ds.length - (i + 1), by omega, rfl, hlt, z⟩, fun x H' y => ?_⟩
      have hd' : ds[i]? = some ds[i] := List.getElem?_eq_getElem hlt
      obtain ⟨w2, rfl, ok2, f2, rx⟩ := sq.yld w' G' σ' ρ' i _ x H' f' ok' (hS _ _ _ pv) hd' y
      have f12 := f'.trans f2
      refine hs i _ ρ' G' hd' pv w2 σ' x ok2 rx _ fun w3 G3 σ3 ρ3 q3 ok3 f3 => ?_
      have f13 := f12.trans f3
      refine q3 w3 σ3 ok3 _ ⟨fun w4 G4 σ4 ρ4 q4 ok4 f4 => ⟨w4, G4, ρ4, rfl, f13.trans f4, ok4, q4⟩, fun w4 G4 σ4 ρ4 q4 ok4 f4 => l.nx w4 G4 σ4 ρ4 q4 ok4 (f1.trans (f13.trans f4)), fun w4 G4 σ4 ρ4 q4 ok4 f4 => ⟨w4, G4, ρ4, rfl, f13.trans f4, ok4, q4⟩, fun v d w4 G4 q4 ok4 r4 f4 => l.rt v d w4 G4 q4 ok4 r4 (f1.trans (f13.trans f4))⟩
    · have e : i = ds.length := by omega
      subst e
      exact .inl ⟨sq.stop w' G' σ' ρ' f' ok' (hS _ _ _ pv), l.nx w' G' σ' ρ' (hd _ _ pv) ok' (f1.trans f')⟩
theorem ws_while {c : TT} (Pv : DEnv → Cells → Prop) (μ : DEnv → Cells → Nat) (h0 : Pv ρ G) (h : ∀ ρ G, Pv ρ G → WT K c ρ G fun b G1 => if b = true then WS K ts ρ G1 ⟨fun ρ' G' => Pv ρ' G' ∧ μ ρ' G' < μ ρ G, rt, nx, fun ρ' G' => Pv ρ' G' ∧ μ ρ' G' < μ ρ G⟩ else nx ρ G1) :
    WS K (tWhile c ts) ρ G ⟨nx, rt, bk, ct⟩ := fun w σ ok X l => by
  refine ⟨fun m σ H => ∃ w' G' ρ', w'.H = H ∧ Fut w w' ∧ Ok K w' G' σ ρ' ∧ Pv ρ' G' ∧ m = μ ρ' G', ⟨_, w, G, ρ, rfl, Fut.refl _, ok, h0, rfl⟩, ?_⟩
  rintro m σ' H ⟨w', G', ρ', rfl, f', ok', pv, rfl⟩
  refine h ρ' G' pv w' σ' ok' _ fun b w1 G1 q1 ok1 f1 => ?_
  cases b with
  | true =>
    refine ⟨fun σ H => ∃ w2 G2 ρ2, w2.H = H ∧ Fut w w2 ∧ Ok K w2 G2 σ ρ2 ∧ Pv ρ2 G2 ∧ μ ρ2 G2 < μ ρ' G', fun σ2 H2 ⟨w2, G2, ρ2, e, f2, ok2, p2, l2⟩ => ⟨_, l2, w2, G2, ρ2, e, f2, ok2, p2, rfl⟩, ?_⟩
    have f01 := f'.trans f1
    exact (show WS K ts ρ' G1 _ from q1) w1 σ' ok1 _ ⟨fun w4 G4 σ4 ρ4 q4 ok4 f4 => ⟨w4, G4, ρ4, rfl, f01.trans f4, ok4, q4.1, q4.2⟩, fun w4 G4 σ4 ρ4 q4 ok4 f4 => l.nx w4 G4 σ4 ρ4 q4 ok4 (f01.trans f4), fun w4 G4 σ4 ρ4 q4 ok4 f4 => ⟨w4, G4, ρ4, rfl, f01.trans f4, ok4, q4.1, q4.2⟩, fun v d w4 G4 q4 ok4 r4 f4 => l.rt v d w4 G4 q4 ok4 r4 (f01.trans f4)⟩
  | false => exact l.nx w1 G1 σ' ρ' q1 ok1 (f'.trans f1)

/-! ### comprehensions -/
def wipeR (ρ : DEnv) : List Nat → DEnv
  | [] => ρ
  | v :: vs => (wipeR ρ vs).set v none
theorem wipeR_len (ρ : DEnv) : ∀ vs : List Nat, (wipeR ρ vs).length = ρ.length
  | [] => rfl
  | v :: vs => by unfold wipeR; rw [List.length_set, wipeR_len ρ vs]
theorem Ok.wipe {w : Wd} {σ : St} (x : Ok K w G σ ρ) : ∀ vs : List Nat, Ok K w G (L2.wipe σ vs) (wipeR ρ vs)
  | [] => x
  | v :: vs => by
    have y := Ok.wipe x vs
    refine y.slots (by unfold wipeR L2.wipe; rw [List.length_set, List.length_set]; exact y.lr) fun i d h => ?_
    unfold wipeR at h
    unfold L2.wipe
    by_cases e : v = i
    · subst e
      rw [List.getElem?_set] at h
      split at h
      · split at h <;> cases h
      · rename_i z
        exact absurd rfl z
    · rw [List.getElem?_set_ne e] at h ⊢
      exact y.sl i d h
/-- the target stores in the block's own slots alone -/
def Own (g : TG) (vs : List Nat) : Prop := ∀ v σ H R, g v (L2.wipe σ vs) H R → g v (L2.wipe σ vs) H fun σ' H' => L2.wipe σ' vs = L2.wipe σ vs ∧ R σ' H'
theorem wipe_set {σ : St} {i : Nat} {o : Option V} : ∀ {vs : List Nat}, i ∈ vs → L2.wipe (σ.set i o) vs = L2.wipe σ vs
  | v :: vs, h => by
    unfold L2.wipe
    by_cases e : i ∈ vs
    · rw [wipe_set e]
    · have : i = v := by
        rcases List.mem_cons.mp h with z | z
        · exact z
        · exact absurd z e
      subst this
      have comm : ∀ (vs : List Nat), i ∉ vs → L2.wipe (σ.set i o) vs = (L2.wipe σ vs).set i o := fun vs => by
        induction vs with
        | nil => intro _; rfl
        | cons u us ih =>
          intro hn
          unfold L2.wipe
          rw [ih fun z => hn (List.mem_cons_of_mem _ z), List.set_comm _ _ fun z => hn (by rw [z]; exact List.mem_cons_self)]
      rw [comm vs e, List.set_set]
theorem wipe_wipe {σ : St} : ∀ {vs us : List Nat}, (∀ i ∈ us, i ∈ vs) → L2.wipe (L2.wipe σ us) vs = L2.wipe σ vs
  | vs, [], _ => rfl
  | vs, u :: us, h => by
    show L2.wipe ((L2.wipe σ us).set u none) vs = _
    rw [wipe_set (h u List.mem_cons_self)]
    exact wipe_wipe fun i hi => h i (List.mem_cons_of_mem _ hi)
theorem own_name {i : Nat} {vs : List Nat} (h : i ∈ vs) : Own (gName i) vs := fun v σ H R r => ⟨by rw [wipe_set h]; exact wipe_wipe fun _ z => z, r⟩
theorem own_tup {n : Nat} {u : TGs} {vs : List Nat} (h : ∀ us σ H R, L2.wipe σ vs = L2.wipe σ vs → u us σ H R → u us σ H fun σ' H' => L2.wipe σ' vs = L2.wipe σ vs ∧ R σ' H') : Own (gTup K n u) vs := fun v σ H R ⟨a, xs, e, ha, hl, r⟩ => by
  refine ⟨a, xs, e, ha, hl, ?_⟩
  have := h xs (L2.wipe σ vs) H R rfl r
  have ew : L2.wipe (L2.wipe σ vs) vs = L2.wipe σ vs := wipe_wipe fun _ z => z
  rw [ew] at this
  exact this
theorem owns_nil {vs : List Nat} : ∀ us σ H (R : St → Hp → Prop), L2.wipe σ vs = L2.wipe σ vs → gNil us σ H R → gNil us σ H fun σ' H' => L2.wipe σ' vs = L2.wipe σ vs ∧ R σ' H' := fun us σ H R _ ⟨e, r⟩ => ⟨e, rfl, r⟩
theorem owns_cons {i : Nat} {u : TGs} {vs : List Nat} (hi : i ∈ vs) (h : ∀ us σ H (R : St → Hp → Prop), L2.wipe σ vs = L2.wipe σ vs → u us σ H R → u us σ H fun σ' H' => L2.wipe σ' vs = L2.wipe σ vs ∧ R σ' H') :
    ∀ us σ H (R : St → Hp → Prop), L2.wipe σ vs = L2.wipe σ vs → gCons (gName i) u us σ H R → gCons (gName i) u us σ H fun σ' H' => L2.wipe σ' vs = L2.wipe σ vs ∧ R σ' H' := fun us σ H R _ ⟨v, r, e, q⟩ => by
  refine ⟨v, r, e, ?_⟩
  have := h r (σ.set i (some v)) H R rfl q
  rw [wipe_set hi] at this
  exact this
theorem we_lc {tt : TT} {vs : List Nat} {Q : D → Cells → Prop} (ho : Own g vs) (h : WI K wi ρ G fun ds S G1 => ∃ Pv : Nat → List D → Cells → Prop, Pv 0 [] G1 ∧ (∀ i acc G, Pv i acc G → S G) ∧
    (∀ i d acc G, ds[i]? = some d → Pv i acc G → WG K g d (wipeR ρ vs) G fun ρ2 G2 => WT K tt ρ2 G2 fun b G3 => if b = true then WE K te ρ2 G3 fun y G4 => acc.length < sizeLine ∧ Pv (i + 1) (acc ++ [y]) G4 else Pv (i + 1) acc G3) ∧
    ∀ acc G, Pv ds.length acc G → Nw Q acc G) : WE K (tLc wi g tt te vs) ρ G Q := fun w σ ok R p =>
  h w σ ok _ fun J ds S w1 G1 ⟨Pv, h0, hS, hs, hd⟩ sq ok1 f1 DA nDA => by
    -- a state of the block: a world w' in which DA is an untracked list
    have hB := ok1.freshB nDA
    have hP := ok1.fresh nDA
    -- the state: a world whose heap, with the list laid at DA, is the heap at hand
    refine ⟨fun i m H => m = ds.length - i ∧ i ≤ ds.length ∧ ∃ w' G' acc us, w'.H = H ∧ w'.H DA = some (.lst us) ∧ DA ∉ w'.ps ∧ w'.B DA = none ∧ Fut w1 w' ∧ Ok K w' G' σ ρ ∧ Reps K w'.B w'.ps us acc ∧ Pv i acc G', ?_, ?_⟩
    · -- the list is laid
      refine ⟨ds.length, by simp, Nat.zero_le _, ⟨w1.B, upd w1.H DA (.lst []), w1.ps⟩, G1, [], [], rfl, upd_same, hP, hB, ?_, ?_, .nil, h0⟩
      · exact ⟨Ex.refl _, Pre.refl _, fun a o e m => by show upd w1.H DA (.lst []) a = some o; rw [upd_ne (ne_of_none e nDA)]; exact e, fun a m => .inl m, fun a m => .inl m⟩
      · have ne : ∀ a ∈ w1.ps, a ≠ DA := fun a m z => hP (z ▸ m)
        refine ⟨fun a o e => ?_, fun a m => ?_, ok1.nd, ok1.ln, ok1.nb, fun k q c hk hc => ?_, ok1.lr, ok1.sl⟩
        · show upd w1.H DA (.lst []) a = some o
          rw [upd_ne (ne_of_none e hB)]
          exact ok1.ex a o e
        · show upd w1.H DA (.lst []) a ≠ none
          rw [upd_ne (ne a m)]
          exact ok1.al a m
        · exact (ok1.cs k q c hk hc).mono (Ex.refl _) (Pre.refl _) (upd_ne (ne q (List.mem_of_getElem? hk)))
    · rintro i m H ⟨rfl, hi, w', G', acc, us, rfl, eD, nP, nB, f', ok', rs, pv⟩
      by_cases hlt : i < ds.length
      · refine .inr ⟨sq.go w' G' σ ρ i f' ok' (hS _ _ _ pv) hlt, fun H => ∃ w' G' acc us, w'.H = H ∧ w'.H DA = some (.lst us) ∧ DA ∉ w'.ps ∧ w'.B DA = none ∧ Fut w1 w' ∧ Ok K w' G' σ ρ ∧ Reps K w'.B w'.ps us acc ∧ Pv (i + 1) acc G', fun H2 z => ⟨ds.length - (i + 1), by omega, rfl, hlt, z⟩, fun x H' y => ?_⟩
        have hd' : ds[i]? = some ds[i] := List.getElem?_eq_getElem hlt
        have okw := ok'.wipe vs
        obtain ⟨w2, rfl, ok2, f2, rx⟩ := sq.yld w' G' _ _ i _ x H' f' okw (hS _ _ _ pv) hd' y
        -- DA through a step
        have keep : ∀ {a b : Wd}, a.H DA = some (.lst us) → DA ∉ a.ps → a.B DA = none → Fut a b → b.H DA = some (.lst us) ∧ DA ∉ b.ps ∧ b.B DA = none := fun {a b} h1 h2 h3 f => by
          refine ⟨f.fr DA _ h1 h2, fun m => ?_, ?_⟩
          · rcases f.np DA m with z | z
            · exact h2 z
            · rw [h1] at z
              cases z
          · cases e : b.B DA with
            | none => rfl
            | some o =>
              rcases f.nb DA (by rw [e]; exact fun z => nomatch z) with z | z | z
              · exact absurd h3 z
              · rw [h1] at z
                cases z
              · exact absurd z h2
        obtain ⟨e2, p2, b2⟩ := keep eD nP nB f2
        refine ho x σ w2.H _ (hs i _ acc G' hd' pv w2 _ x ok2 rx _ fun w3 G3 σ3 ρ3 q3 ok3 f3 => ?_)
        obtain ⟨e3, p3, b3⟩ := keep e2 p2 b2 f3
        refine q3 w3 σ3 ok3 _ fun b w4 G4 q4 ok4 f4 => ?_
        obtain ⟨e4, p4, b4⟩ := keep e3 p3 b3 f4
        have f14 := ((f'.trans f2).trans f3).trans f4
        cases b with
        | false => exact ⟨w4, G4, acc, us, rfl, e4, p4, b4, f14, ok'.back ok4 ((f2.trans f3).trans f4), rs.mono ((f2.trans f3).trans f4).b ((f2.trans f3).trans f4).p, q4⟩
        | true =>
          refine (show WE K te ρ3 G4 _ from q4) w4 σ3 ok4 _ fun v dv w5 G5 ⟨hl, q5⟩ ok5 r5 f5 => ?_
          obtain ⟨e5, p5, b5⟩ := keep e4 p4 b4 f5
          have f25 := ((f2.trans f3).trans f4).trans f5
          have ok6 := ok'.back ok5 f25
          have rs5 := rs.mono f25.b f25.p
          refine ⟨us, e5, by rw [rs.length]; exact hl, ⟨w5.B, upd w5.H DA (.lst (us ++ [v])), w5.ps⟩, G5, acc ++ [dv], us ++ [v], rfl, upd_same, p5, b5, ?_, ?_, rs5.append (.cons r5 .nil), q5⟩
          · have ff := f14.trans f5
            refine ⟨ff.b, ff.p, fun a o e m => ?_, ff.np, ff.nb⟩
            show upd w5.H DA _ a = some o
            rw [upd_ne (ne_of_none e nDA)]
            exact ff.fr a o e m
          · have ne : ∀ a ∈ w5.ps, a ≠ DA := fun a m z => p5 (z ▸ m)
            refine ⟨fun a o e => ?_, fun a m => ?_, ok6.nd, ok6.ln, ok6.nb, fun k q c hk hc => ?_, ok6.lr, ok6.sl⟩
            · show upd w5.H DA _ a = some o
              rw [upd_ne (ne_of_none e b5)]
              exact ok6.ex a o e
            · show upd w5.H DA _ a ≠ none
              rw [upd_ne (ne a m)]
              exact ok6.al a m
            · exact (ok6.cs k q c hk hc).mono (Ex.refl _) (Pre.refl _) (upd_ne (ne q (List.mem_of_getElem? hk)))
      · have e : i = ds.length := by omega
        subst e
        refine .inl ⟨sq.stop w' G' σ ρ f' ok' (hS _ _ _ pv), ?_⟩
        have nn : ∀ a ∈ w'.ps, a ≠ DA := fun a m z => nP (z ▸ m)
        have hDA : w1.H DA = none := nDA
        rcases hd acc G' pv with q | q
        · -- frozen
          have eB : Ex w'.B (upd w'.B DA (.lst us)) := Ex.new nB
          refine p (.ref DA) (.lst acc) ⟨upd w'.B DA (.lst us), w'.H, w'.ps⟩ G' q ⟨fun a o e => ?_, ok'.al, ok'.nd, ok'.ln, fun k r c hk hc hd => ?_, fun k r c hk hc => (ok'.cs k r c hk hc).mono eB (Pre.refl _) rfl, ok'.lr, fun j d hj => ?_⟩ (.lst upd_same (rs.mono eB (Pre.refl _))) ?_
          · have e : upd w'.B DA (.lst us) a = some o := e
            by_cases z : a = DA
            · subst z
              rw [upd_same] at e
              show w'.H a = some o
              rw [eD]
              exact e
            · rw [upd_ne z] at e
              exact ok'.ex a o e
          · show upd w'.B DA (.lst us) r = none
            rw [upd_ne (nn r (List.mem_of_getElem? hk))]
            exact ok'.nb k r c hk hc hd
          · obtain ⟨v, e1, r1⟩ := ok'.sl j d hj
            exact ⟨v, e1, r1.mono eB (Pre.refl _)⟩
          · have ff := f1.trans f'
            refine ⟨ff.b.trans eB, ff.p, ff.fr, ff.np, fun a m => ?_⟩
            by_cases z : a = DA
            · subst z
              cases e0 : w.H a with
              | none => exact .inr (.inl rfl)
              | some o =>
                by_cases mm : a ∈ w.ps
                · exact .inr (.inr mm)
                · have := f1.fr a o e0 mm
                  rw [hDA] at this
                  cases this
            · have m : upd w'.B DA (.lst us) a ≠ none := m
              rw [upd_ne z] at m
              exact ff.nb a m
        · -- a cell
          have pp : Pre w'.ps (w'.ps ++ [DA]) := ⟨[DA], rfl⟩
          have split : ∀ (k : Nat) q' d', (w'.ps ++ [DA])[k]? = some q' → (G' ++ [Cell.lst acc])[k]? = some d' → (w'.ps[k]? = some q' ∧ G'[k]? = some d') ∨ (q' = DA ∧ d' = .lst acc) := fun k q' d' h1 h2 => by
            by_cases hk : k < w'.ps.length
            · rw [List.getElem?_append_left hk] at h1
              rw [List.getElem?_append_left (by rw [← ok'.ln]; exact hk)] at h2
              exact .inl ⟨h1, h2⟩
            · have hl : k < (w'.ps ++ [DA]).length := (List.getElem?_eq_some_iff.mp h1).1
              rw [List.length_append, List.length_singleton] at hl
              rw [List.getElem?_append_right (by omega), show k - w'.ps.length = 0 by omega] at h1
              rw [List.getElem?_append_right (by rw [← ok'.ln]; omega), show k - G'.length = 0 by rw [← ok'.ln]; omega] at h2
              cases h1
              cases h2
              exact .inr ⟨rfl, rfl⟩
          refine p (.ref DA) (.ptr G'.length) ⟨w'.B, w'.H, w'.ps ++ [DA]⟩ _ q ⟨ok'.ex, fun a m => ?_, ?_, ?_, fun k q' d' h1 h2 hd => ?_, fun k q' d' h1 h2 => ?_, ok'.lr, fun j d hj => ?_⟩ (.ptr ?_) ?_
          · rcases List.mem_append.mp m with m | m
            · exact ok'.al a m
            · have z : a = DA := by simpa using m
              show w'.H a ≠ none
              rw [z, eD]
              exact fun z => nomatch z
          · exact List.nodup_append.mpr ⟨ok'.nd, by simp, fun a ha b hb => by
              have : b = DA := by simpa using hb
              subst this
              exact nn a ha⟩
          · show (w'.ps ++ [DA]).length = (G' ++ [Cell.lst acc]).length
            rw [List.length_append, List.length_append, ok'.ln]
            rfl
          · rcases split k q' d' h1 h2 with ⟨a1, a2⟩ | ⟨rfl, rfl⟩
            · exact ok'.nb k q' d' a1 a2 hd
            · exact nB
          · rcases split k q' d' h1 h2 with ⟨a1, a2⟩ | ⟨rfl, rfl⟩
            · exact (ok'.cs k q' d' a1 a2).mono (Ex.refl _) pp rfl
            · exact ⟨us, eD, rs.mono (Ex.refl _) pp⟩
          · obtain ⟨v, e1, r1⟩ := ok'.sl j d hj
            exact ⟨v, e1, r1.mono (Ex.refl _) pp⟩
          · show (w'.ps ++ [DA])[G'.length]? = some DA
            rw [List.getElem?_append_right (by rw [ok'.ln]; exact Nat.le_refl _), ok'.ln, Nat.sub_self]
            rfl
          · have ff := f1.trans f'
            refine ⟨ff.b, ff.p.trans pp, ff.fr, fun a m => ?_, ff.nb⟩
            rcases List.mem_append.mp m with m | m
            · exact ff.np a m
            · have z : a = DA := by simpa using m
              subst z
              cases e0 : w.H a with
              | none => exact .inr rfl
              | some o =>
                by_cases mm : a ∈ w.ps
                · exact .inl mm
                · have := f1.fr a o e0 mm
                  rw [hDA] at this
                  cases this
end
end DL
/-! DD: defs and their calls; built-ins and methods. -/
namespace DL
open PySem PySem.Spec PyProof.Rows L2

/-! ### closed data -/
mutual
inductive Cl (n : Nat) : D → Prop
  | non : Cl n .non
  | bl (b : Bool) : Cl n (.bl b)
  | int (i : Int) : Cl n (.int i)
  | str (x : Str) : Cl n (.str x)
  | lst {ds : List D} : Cls n ds → Cl n (.lst ds)
  | tup {ds : List D} : Cls n ds → Cl n (.tup ds)
  | ro {ds : List D} : Cls n ds → Cl n (.ro ds)
  | ptr {k : Nat} : k < n → Cl n (.ptr k)
  | adr (a : Addr) : Cl n (.adr a)
  | ty (s : String) : Cl n (.ty s)
inductive Cls (n : Nat) : List D → Prop
  | nil : Cls n []
  | cons {d : D} {ds : List D} : Cl n d → Cls n ds → Cls n (d :: ds)
end
theorem Cls.map {α : Type} {n : Nat} {f : α → D} (h : ∀ a, Cl n (f a)) : ∀ l : List α, Cls n (l.map f)
  | [] => .nil
  | a :: l => .cons (h a) (Cls.map h l)
theorem Cls.append {n : Nat} : ∀ {a b : List D}, Cls n a → Cls n b → Cls n (a ++ b)
  | _, _, .nil, h => h
  | _, _, .cons a r, h => .cons a (Cls.append r h)
def Cell.Cl (n : Nat) : Cell → Prop
  | .dead => True
  | .lst ds => Cls n ds
  | .dct kvs => ∀ p ∈ kvs, DL.Cl n p.2
  | .ins _ fs => ∀ p ∈ fs, DL.Cl n p.2
section
variable {K : PySem.W.Frag} {B : Hp} {ps : List Addr} {n : Nat}
theorem get_take {l : List Addr} {k n : Nat} {a : Addr} (h : l[k]? = some a) (hk : k < n) : (l.take n)[k]? = some a := by
  rw [List.getElem?_take_of_lt hk]
  exact h
mutual
theorem Rep.cut : ∀ {v : V} {d : D}, Rep K B ps v d → Cl n d → Rep K B (ps.take n) v d
  | _, _, .non, _ => .non
  | _, _, .bl b, _ => .bl b
  | _, _, .int i, _ => .int i
  | _, _, .str x, _ => .str x
  | _, _, .lst h r, .lst c => .lst h (Reps.cutN r c)
  | _, _, .tup h r, .tup c => .tup h (Reps.cutN r c)
  | _, _, .ro h r, .ro c => .ro h (Reps.cutN r c)
  | _, _, .ptr h, .ptr c => .ptr (get_take h c)
  | _, _, .adr a, _ => .adr a
  | _, _, .ty s, _ => .ty s
theorem Reps.cutN : ∀ {vs : List V} {ds : List D}, Reps K B ps vs ds → Cls n ds → Reps K B (ps.take n) vs ds
  | _, _, .nil, .nil => .nil
  | _, _, .cons h r, .cons c t => .cons (Rep.cut h c) (Reps.cutN r t)
end
end

section
variable {K : PySem.W.Frag} {B : Hp} {ps : List Addr}
mutual
theorem Rep.closed : ∀ {v : V} {d : D}, Rep K B ps v d → Cl ps.length d
  | _, _, .non => .non
  | _, _, .bl b => .bl b
  | _, _, .int i => .int i
  | _, _, .str x => .str x
  | _, _, .lst h r => .lst (Reps.closed r)
  | _, _, .tup h r => .tup (Reps.closed r)
  | _, _, .ro h r => .ro (Reps.closed r)
  | _, _, .ptr h => .ptr (List.getElem?_eq_some_iff.mp h).1
  | _, _, .adr a => .adr a
  | _, _, .ty s => .ty s
theorem Reps.closed : ∀ {vs : List V} {ds : List D}, Reps K B ps vs ds → Cls ps.length ds
  | _, _, .nil => .nil
  | _, _, .cons h r => .cons (Rep.closed h) (Reps.closed r)
end
theorem CellR.closed {H : Hp} {p : Addr} : ∀ {c : Cell}, CellR K B ps H p c → c.Cl ps.length
  | .dead, _ => trivial
  | .lst ds, ⟨vs, h, r⟩ => r.closed
  | .dct kvs, ⟨us, h, r⟩ => by
    have go : ∀ {us : List (Key × V)} {kvs : List (Key × D)}, RepK K B ps us kvs → ∀ p ∈ kvs, DL.Cl ps.length p.2 := fun {us kvs} r => by
      induction r with
      | nil => intro p hp; cases hp
      | cons a t ih => intro p hp; rcases List.mem_cons.mp hp with rfl | hp; exact a.2.closed; exact ih p hp
    exact go r
  | .ins C fs, ⟨dx, us, h, r⟩ => by
    have go : ∀ {us : List (Str × V)} {kvs : List (Str × D)}, RepF K B ps us kvs → ∀ p ∈ kvs, DL.Cl ps.length p.2 := fun {us kvs} r => by
      induction r with
      | nil => intro p hp; cases hp
      | cons a t ih => intro p hp; rcases List.mem_cons.mp hp with rfl | hp; exact a.2.closed; exact ih p hp
    exact go r
end
/-! ### a def by its body -/
/-- what a def does to data -/
abbrev FD := List D → Cells → (D → Cells → Prop) → Prop
def SpD (K : PySem.W.Frag) (F : FD) : Sp := fun vs H Q _ => ∃ (w : Wd) (G : Cells) (ds : List D) (R : D → Cells → Prop), w.H = H ∧ Ok K w G (vs.map some) (ds.map some) ∧ vs.length = ds.length ∧ F ds G R ∧
  ∀ v d w' G', R d G' → Ok K w' G' [] [] → Rep K w'.B w'.ps v d → Fut w w' → Q v w'.H
/-- the cells that were not there at the entry (G0) are let go -/
def Gc (G0 : Cells) (R : D → Cells → Prop) : D → Cells → Prop := fun d G => R d G ∨ (G0.length ≤ G.length ∧ Cl G0.length d ∧ (∀ c ∈ G.take G0.length, c ∈ G0 ∨ c.Cl G0.length) ∧ R d (G.take G0.length))
theorem Gc.same {G0 more : Cells} {R : D → Cells → Prop} {d : D} (h : Cl G0.length d) (q : R d G0) : Gc G0 R d (G0 ++ more) :=
  .inr ⟨by rw [List.length_append]; exact Nat.le_add_right _ _, h, fun c hc => .inl (by rw [List.take_left'] at hc; exact hc; rfl), by rw [List.take_left']; exact q; rfl⟩
def bodyEnv (N : List Str) (ds : List D) : DEnv := ds.map some ++ List.replicate (N.length - ds.length) none
abbrev endsOf (G0 : Cells) (R : D → Cells → Prop) : EndsD := ⟨fun _ G => Gc G0 R .non G, Gc G0 R, fun _ _ => False, fun _ _ => False⟩
section
variable {P : Program} {w : World} {K : PySem.W.Frag} {mg : Str → Option Value} {base : Heap}
theorem Ok.gc {wd w' : Wd} {G G' : Cells} {n : Nat} {d : D} {v : V} (ok : Ok K w' G' [] []) (r : Rep K w'.B w'.ps v d) (f : Fut wd w') (hn : wd.ps.length = n) (hl : n ≤ G'.length) (hd : Cl n d) (hc : ∀ c ∈ G'.take n, c.Cl n) :
    Ok K ⟨w'.B, w'.H, w'.ps.take n⟩ (G'.take n) [] [] ∧ Rep K w'.B (w'.ps.take n) v d ∧ Fut wd ⟨w'.B, w'.H, w'.ps.take n⟩ := by
  have hx : ∀ (k : Nat) p, (w'.ps.take n)[k]? = some p → w'.ps[k]? = some p ∧ k < n := fun k p h => by
    by_cases hk : k < n
    · rw [List.getElem?_take_of_lt hk] at h
      exact ⟨h, hk⟩
    · rw [List.getElem?_take] at h
      simp [hk] at h
  have hg : ∀ (k : Nat) c, (G'.take n)[k]? = some c → G'[k]? = some c := fun k c h => by
    by_cases hk : k < n
    · rw [List.getElem?_take_of_lt hk] at h
      exact h
    · rw [List.getElem?_take] at h
      simp [hk] at h
  refine ⟨⟨ok.ex, fun a m => ok.al a (List.mem_of_mem_take m), ok.nd.sublist (List.take_sublist _ _), ?_, fun k p c h1 h2 h3 => ok.nb k p c (hx k p h1).1 (hg k c h2) h3, fun k p c h1 h2 => ?_, Nat.le_refl _, fun i d h => by simp at h⟩, r.cut hd, ?_⟩
  · show (w'.ps.take n).length = (G'.take n).length
    rw [List.length_take, List.length_take, ok.ln]
  · have z := ok.cs k p c (hx k p h1).1 (hg k c h2)
    have hcl := hc c (List.mem_of_getElem? h2)
    cases c with
    | dead => trivial
    | lst ds =>
      obtain ⟨vs, e, r⟩ := z
      exact ⟨vs, e, r.cutN hcl⟩
    | dct kvs =>
      obtain ⟨us, e, r⟩ := z
      refine ⟨us, e, ?_⟩
      have go : ∀ {us : List (Key × V)} {kvs : List (Key × D)}, RepK K w'.B w'.ps us kvs → (∀ p ∈ kvs, DL.Cl n p.2) → RepK K w'.B (w'.ps.take n) us kvs := fun {us kvs} r => by
        induction r with
        | nil => intro _; exact .nil
        | cons a t ih => intro h; exact .cons ⟨a.1, a.2.cut (h _ List.mem_cons_self)⟩ (ih fun p hp => h p (List.mem_cons_of_mem _ hp))
      exact go r hcl
    | ins C fs =>
      obtain ⟨dx, us, e, r⟩ := z
      refine ⟨dx, us, e, ?_⟩
      have go : ∀ {us : List (Str × V)} {kvs : List (Str × D)}, RepF K w'.B w'.ps us kvs → (∀ p ∈ kvs, DL.Cl n p.2) → RepF K w'.B (w'.ps.take n) us kvs := fun {us kvs} r => by
        induction r with
        | nil => intro _; exact .nil
        | cons a t ih => intro h; exact .cons ⟨a.1, a.2.cut (h _ List.mem_cons_self)⟩ (ih fun p hp => h p (List.mem_cons_of_mem _ hp))
      exact go r hcl
  · obtain ⟨more, e⟩ := f.p
    refine ⟨f.b, ⟨[], ?_⟩, f.fr, fun a m => f.np a (List.mem_of_mem_take m), f.nb⟩
    show w'.ps.take n = wd.ps ++ []
    rw [e, List.append_nil, ← hn, List.take_left']
    rfl
/-- THE RULE for a def -/
theorem fn_ok {x qual : Str} {st : Stmt} {f : Addr} {fd : FuncData} {N ps : List Str} {k : Nat} {F : FD} (Fn : Fun K x qual st f fd) (S : FnScope N ps (defScope st)) (len : ∀ ds G R, F ds G R → ds.length = ps.length)
    (hbody : ∀ (cdv : Value) (A : Around) (outer : List PySem.Env) (s : Shared) (H : Hp) (E : XK), Room k (A.deeper (envOfC qual (defScope st) s.heap.objs.size f cdv)) →
      ∃ t, PSs (cxOf CX0 P w K mg base N qual (defScope st) f cdv A outer s H E).nox (defBody st) t ∧ ∀ ds G R, F ds G R → WS K t (bodyEnv N ds) G (endsOf G R)) : FnOk P w K mg base CX0 (k + 1) f fd ps (SpD K F) := by
  refine Fn.ok S (fun vs H Q E ⟨wd, G, ds, R, e, ok, hl, hF, q⟩ => hl.trans (len ds G R hF)) fun cdv A outer s H vs Q E hr ⟨wd, G, ds, R, e, ok, hl, hF, q⟩ => ?_
  subst e
  obtain ⟨t, ht, hw⟩ := hbody cdv A outer s wd.H E hr
  refine ⟨t, ht, ?_⟩
  have ok1 : Ok K wd G (L2.start N vs) (bodyEnv N ds) := ok.slots (by unfold L2.start bodyEnv; simp [hl]) fun i d h => by
    unfold bodyEnv at h
    by_cases hi : i < (ds.map some).length
    · rw [List.getElem?_append_left hi] at h
      obtain ⟨v, e, r⟩ := ok.sl i d h
      refine ⟨v, ?_, r⟩
      unfold L2.start
      rw [List.getElem?_append_left (by rw [List.length_map, hl]; rw [List.length_map] at hi; exact hi)]
      exact e
    · rw [List.getElem?_append_right (by omega), List.getElem?_replicate] at h
      split at h <;> cases h
  have cl : ∀ c ∈ G, c.Cl G.length := fun c hc => by
    obtain ⟨k, hk⟩ := List.mem_iff_getElem?.mp hc
    have hl : k < wd.ps.length := by rw [ok.ln]; exact (List.getElem?_eq_some_iff.mp hk).1
    rw [← ok.ln]
    exact (ok.cs k _ c (List.getElem?_eq_getElem hl) hk).closed
  have fin : ∀ v d w' G', Gc G R d G' → Ok K w' G' [] [] → Rep K w'.B w'.ps v d → Fut wd w' → Q v w'.H := fun v d w' G' g ok' r f' => by
    rcases g with g | ⟨g1, g2, g3, g4⟩
    · exact q v d w' G' g ok' r f'
    · obtain ⟨a, b, c⟩ := ok'.gc (G := G) r f' ok.ln g1 g2 fun c hc => (g3 c hc).elim (cl c) id
      exact q v d ⟨w'.B, w'.H, w'.ps.take G.length⟩ _ g4 a b c
  exact hw ds G R hF wd (L2.start N vs) ok1 _ ⟨fun w' G' σ' ρ' g ok' f' => fin .non .non w' G' g ok'.none .non f', fun _ _ _ _ g _ _ => g.elim, fun _ _ _ _ g _ _ => g.elim, fin⟩
end
section
variable {K : PySem.W.Frag} {ρ : DEnv} {G : Cells} {Q : D → Cells → Prop} {ta tb tc te : TE} {x y d : D}
theorem we_call {F : FD} {t : TA} {E : XK} (h : WA K t ρ G fun ds G1 => F ds G1 Q) : WE K (tCall (SpD K F) [] E t) ρ G Q := fun w σ ok R p =>
  h w σ ok _ fun vs ds w1 G1 q ok1 r1 f1 => by
    refine ⟨w1, G1, ds, Q, rfl, ok1.slots (by rw [List.append_nil, List.length_map, List.length_map, r1.length]; exact Nat.le_refl _) fun i d h => ?_, by rw [List.append_nil]; exact r1.length, q, fun v d w' G' q' ok' r' f' => p v d w' G' q' (ok1.back ok' f') r' (f1.trans f')⟩
    rw [List.append_nil]
    rw [List.getElem?_map] at h
    cases e : ds[i]? with
    | none =>
      rw [e] at h
      cases h
    | some d' =>
      rw [e] at h
      cases h
      obtain ⟨v, hv, rv⟩ := r1.get e
      exact ⟨v, by rw [List.getElem?_map, hv]; rfl, rv⟩

/-! ### built-ins -/
theorem rc_int {i : Int} (q : Q (.int i) G) : RC K (fun xs H Q => (∃ i, xs = [.int i] ∧ Q (.int i) H) ∨ ∃ k, xs = [.bl k] ∧ Q (.int (if k then 1 else 0)) H) [.int i] G Q := fun w σ ρ ok vs r R p => by
  cases r with
  | cons a r =>
    cases r
    cases a
    exact .inl ⟨i, rfl, p.here ok q (.int _)⟩
theorem rc_intB {b : Bool} (q : Q (.int (if b then 1 else 0)) G) : RC K (fun xs H Q => (∃ i, xs = [.int i] ∧ Q (.int i) H) ∨ ∃ k, xs = [.bl k] ∧ Q (.int (if k then 1 else 0)) H) [.bl b] G Q := fun w σ ρ ok vs r R p => by
  cases r with
  | cons a r =>
    cases r
    cases a
    exact .inr ⟨b, rfl, p.here ok q (.int _)⟩
theorem rc_len {ds : List D} (h : IsQ G x ds) (q : Q (.int ds.length) G) : RC K (fun xs H Q => ∃ p ys, xs = [.ref p] ∧ (SqL K H p ys ∨ SqT K H p ys) ∧ Q (.int ys.length) H) [x] G Q := fun w σ ρ ok vs r R p => by
  cases r with
  | cons a r =>
    cases r
    obtain ⟨a', us, rfl, ha, rs⟩ := ok.isQ h a
    exact ⟨a', us, rfl, ha, by rw [rs.length]; exact p.here ok q (.int _)⟩
theorem rc_lenS {z : Str} (hl : z.length ≤ sizeLine) (q : Q (.int z.length) G) : RC K (fun xs H Q => ∃ z, xs = [.str z] ∧ z.length ≤ sizeLine ∧ Q (.int z.length) H) [.str z] G Q := fun w σ ρ ok vs r R p => by
  cases r with
  | cons a r =>
    cases r
    cases a
    exact ⟨z, rfl, hl, p.here ok q (.int _)⟩
theorem rc_list {ds : List D} (h : IsQ G x ds) (q : Nw Q ds G) : RC K (fun xs H Q => ∃ p ys, xs = [.ref p] ∧ (SqL K H p ys ∨ SqT K H p ys) ∧ ∀ l, H l = none → Q (.ref l) (upd H l (.lst ys))) [x] G Q := fun w σ ρ ok vs r R p => by
  cases r with
  | cons a r =>
    cases r
    obtain ⟨a', us, rfl, ha, rs⟩ := ok.isQ h a
    exact ⟨a', us, rfl, ha, q.run p ok rs⟩
theorem rc_tuple {ds : List D} (h : IsQ G x ds) (q : Q (.tup ds) G) : RC K (fun xs H Q => ∃ p ys, xs = [.ref p] ∧ ((SqL K H p ys ∧ ∀ l, H l = none → Q (.ref l) (upd H l (.tup ys))) ∨ (SqT K H p ys ∧ Q (.ref p) H))) [x] G Q := fun w σ ρ ok vs r R p => by
  cases r with
  | cons a r =>
    cases r
    rcases h with rfl | h
    · obtain ⟨a', us, rfl, ha, rs⟩ := ok.isT a
      exact ⟨a', us, rfl, .inr ⟨ha, p.here ok q a⟩⟩
    · obtain ⟨a', us, rfl, ha, rs⟩ := ok.isR h a
      exact ⟨a', us, rfl, .inl ⟨ha, NwT.run q p ok rs⟩⟩
theorem rc_sum {ns : List Int} (h : IsR G x (ns.map D.int)) (q : Q (.int ns.sum) G) : RC K (rSum K) [x] G Q := fun w σ ρ ok vs r R p => by
  cases r with
  | cons a r =>
    cases r
    obtain ⟨a', us, rfl, ha, rs⟩ := ok.isR h a
    rw [rs.ints] at ha
    exact ⟨a', ns, rfl, ha, p.here ok q (.int _)⟩
theorem rc_all {ns : List Bool} (h : IsR G x (ns.map D.bl)) (q : Q (.bl (ns.all id)) G) : RC K (rAll K) [x] G Q := fun w σ ρ ok vs r R p => by
  cases r with
  | cons a r =>
    cases r
    obtain ⟨a', us, rfl, ha, rs⟩ := ok.isR h a
    rw [rs.bls] at ha
    exact ⟨a', ns, rfl, ha, p.here ok q (.bl _)⟩
theorem rc_any {ns : List Bool} (h : IsR G x (ns.map D.bl)) (q : Q (.bl (ns.any id)) G) : RC K (rAny K) [x] G Q := fun w σ ρ ok vs r R p => by
  cases r with
  | cons a r =>
    cases r
    obtain ⟨a', us, rfl, ha, rs⟩ := ok.isR h a
    rw [rs.bls] at ha
    exact ⟨a', ns, rfl, ha, p.here ok q (.bl _)⟩
theorem rc_min2 {i j : Int} (q : Q (.int (if j < i then j else i)) G) : RC K (fun xs H Q => ∃ i j, xs = [.int i, .int j] ∧ Q (.int (if j < i then j else i)) H) [.int i, .int j] G Q := fun w σ ρ ok vs r R p => by
  cases r with
  | cons a r =>
    cases r with
    | cons b r =>
      cases r
      cases a
      cases b
      exact ⟨i, j, rfl, p.here ok q (.int _)⟩
theorem rc_max2 {i j : Int} (q : Q (.int (if j > i then j else i)) G) : RC K (fun xs H Q => ∃ i j, xs = [.int i, .int j] ∧ Q (.int (if j > i then j else i)) H) [.int i, .int j] G Q := fun w σ ρ ok vs r R p => by
  cases r with
  | cons a r =>
    cases r with
    | cons b r =>
      cases r
      cases a
      cases b
      exact ⟨i, j, rfl, p.here ok q (.int _)⟩
theorem rc_abs {i : Int} (q : Q (.int (if i < 0 then -i else i)) G) : RC K (fun xs H Q => ∃ i, xs = [.int i] ∧ Q (.int (if i < 0 then -i else i)) H) [.int i] G Q := fun w σ ρ ok vs r R p => by
  cases r with
  | cons a r =>
    cases r
    cases a
    exact ⟨i, rfl, p.here ok q (.int _)⟩
theorem rc_strI {i : Int} (hl : i.natAbs.log2 < 1920) (q : Q (.str (toString i)) G) : RC K (fun xs H Q => ∃ i, xs = [.int i] ∧ i.natAbs.log2 < 1920 ∧ Q (.str (toString i)) H) [.int i] G Q := fun w σ ρ ok vs r R p => by
  cases r with
  | cons a r =>
    cases r
    cases a
    exact ⟨i, rfl, hl, p.here ok q (.str _)⟩
theorem rc_sortedI {ns : List Int} (h : IsR G x (ns.map D.int)) (q : ∀ ns' : List Int, ns'.Perm ns → ns'.Pairwise (· ≤ ·) → Nw Q (ns'.map D.int) G) : RC K (rSortedI K) [x] G Q := fun w σ ρ ok vs r R p => by
  cases r with
  | cons a r =>
    cases r
    obtain ⟨a', us, rfl, ha, rs⟩ := ok.isR h a
    rw [rs.ints] at ha
    exact ⟨a', ns, rfl, ha, fun ns' a h1 h2 h3 => (q ns' h1 h2).run p ok (Reps.map (fun i => .int i) ns') a h3⟩
/-- list(range(a, b)) -/
def WRg (K : PySem.W.Frag) (te : St → Hp → (Int → Int → Hp → Prop) → Prop) (ρ : DEnv) (G : Cells) (Q : Int → Int → Cells → Prop) : Prop :=
  ∀ w σ, Ok K w G σ ρ → ∀ R : Int → Int → Hp → Prop, (∀ a b w' G', Q a b G' → Ok K w' G' σ ρ → Fut w w' → R a b w'.H) → te σ w.H R
theorem wrg_2 {Q : Int → Int → Cells → Prop} (h : WE K ta ρ G fun x G1 => WE K tb ρ G1 fun y G2 => ∃ i j, x = .int i ∧ y = .int j ∧ Q i j G2) : WRg K (tRg2 ta tb) ρ G Q := fun w σ ok R p =>
  h w σ ok _ fun v d w1 G1 q1 ok1 r1 f1 => q1 w1 σ ok1 _ fun u e w2 G2 ⟨i, j, e1, e2, q⟩ ok2 r2 f2 => by
    subst e1
    subst e2
    cases r1
    cases r2
    exact ⟨i, j, rfl, rfl, p i j w2 G2 q ok2 (f1.trans f2)⟩
theorem wrg_1 {Q : Int → Int → Cells → Prop} (h : WE K ta ρ G fun x G1 => ∃ n, x = .int n ∧ Q 0 n G1) : WRg K (tRg1 ta) ρ G Q := fun w σ ok R p =>
  h w σ ok _ fun v d w1 G1 ⟨n, e, q⟩ ok1 r1 f1 => by
    subst e
    cases r1
    exact ⟨n, rfl, p 0 n w1 G1 q ok1 f1⟩
theorem reps_rg {B : Hp} {ps : List Addr} (a b : Int) : Reps K B ps (rgV a b) (rgD a (b - a).toNat) := by
  unfold rgV rgD
  exact Reps.map (fun i => .int _) _
theorem we_listRg {tr : St → Hp → (Int → Int → Hp → Prop) → Prop} (h : WRg K tr ρ G fun a b G1 => RgOk a b ∧ Nw Q (rgD a (b - a).toNat) G1) : WE K (tLstRg tr) ρ G Q := fun w σ ok R p =>
  h w σ ok _ fun a b w1 G1 ⟨hr, q⟩ ok1 f1 => ⟨hr, q.run (p.later f1) ok1 (reps_rg a b)⟩

/-! ### isinstance -/
/-- the built-in type of a datum -/
def isK (G : Cells) : D → String → Prop
  | .non, s => s = "NoneType"
  | .bl _, s => s = "bool"
  | .int _, s => s = "int"
  | .str _, s => s = "str"
  | .lst _, s => s = "list"
  | .tup _, s => s = "tuple"
  | .ptr k, s => (s = "list" ∧ ∃ ds, G[k]? = some (.lst ds)) ∨ (s = "dict" ∧ ∃ ds, G[k]? = some (.dct ds))
  | _, _ => False
theorem Ok.tyX {w : Wd} {σ : St} {v : V} {s : String} (ok : Ok K w G σ ρ) (r : Rep K w.B w.ps v d) (h : isK G d s) : TyX K w.H v (.type s) := by
  cases r with
  | non => cases h; exact .base .non
  | bl b => cases h; exact .base (.bl b)
  | int i => cases h; exact .base (.int i)
  | str x => cases h; exact .base (.str x)
  | lst e r => cases h; exact .base (.lst (ok.ex _ _ e))
  | tup e r =>
    cases h
    rcases e with (e | ⟨o, e⟩) | ⟨o, its, n, e, c, _⟩
    · exact .base (.tup (ok.ex _ _ e))
    · exact .fTuple (ok.ex _ _ e)
    · exact .kTuple e c
  | ro e r => exact h.elim
  | adr a => exact h.elim
  | ty n => exact h.elim
  | ptr e =>
    rcases h with ⟨rfl, ds, h⟩ | ⟨rfl, ds, h⟩
    · obtain ⟨vs, e1, _⟩ := ok.cs _ _ _ e h
      exact .base (.lst e1)
    · obtain ⟨vs, e1, _⟩ := ok.cs _ _ _ e h
      exact .base (.dK e1)
theorem rc_isi {s t : String} {b : Bool} (h : isK G x s) (hb : kitB s t = some b) (q : Q (.bl b) G) : RC K (rIsi K) [x, .ty t] G Q := fun w σ ρ ok vs r R p => by
  cases r with
  | cons a r =>
    cases r with
    | cons c r =>
      cases r
      cases c
      exact ⟨_, _, _, _, b, rfl, .ty t, ok.tyX a h, kit_ty hb, p.here ok q (.bl b)⟩
def kitBs (s : String) : List String → Option Bool
  | [] => some false
  | t :: ts => match kitB s t with
    | some true => some true
    | some false => kitBs s ts
    | none => none
theorem kitBs_ok {s : String} : ∀ {ts : List String} {b : Bool}, kitBs s ts = some b → PySem.W.kitAny K (.type s) (ts.map Value.type) = some b
  | [], b, h => h
  | t :: ts, b, h => by
    unfold kitBs at h
    cases e : kitB s t with
    | none =>
      rw [e] at h
      cases h
    | some c =>
      rw [e] at h
      cases c with
      | true =>
        cases h
        exact kitAny_cons (kit_ty e) (fun z => nomatch z) fun _ => rfl
      | false => exact kitAny_cons (kit_ty e) (fun _ => kitBs_ok h) fun z => nomatch z
theorem reps_ty {B : Hp} {ps : List Addr} : ∀ {vs : List V} {ts : List String}, Reps K B ps vs (ts.map D.ty) → vs = ts.map V.ty ∧ Paired ClsV vs (ts.map Value.type)
  | [], [], .nil => ⟨rfl, .nil⟩
  | _ :: _, [], h => by cases h
  | [], _ :: _, h => by cases h
  | v :: vs, t :: ts, h => by
    cases h with
    | cons h r =>
      cases h
      obtain ⟨e, c⟩ := reps_ty r
      exact ⟨by rw [e]; rfl, .cons (.ty t) c⟩
/-- isinstance(x, (A, B)): the tuple is new -/
theorem we_isiT {s : String} {b : Bool} {ts : List String} {tx : TE} {tp : TA} (hx : WE K tx ρ G fun x G1 => WA K tp ρ G1 fun ds G2 => ds = ts.map D.ty ∧ ds.length ≤ sizeLine ∧ isK G2 x s ∧ kitBs s ts = some b ∧ Q (.bl b) G2) :
    WE K (tCB (rIsiT K) (tCons tx (tCons (tTup tp) tNil))) ρ G Q := fun w σ ok R p =>
  hx w σ ok _ fun v d w1 G1 q1 ok1 r1 f1 => q1 w1 σ ok1 _ fun vs ds w2 G2 ⟨e, hl, hk, hb, q⟩ ok2 r2 f2 => by
    subst e
    refine ⟨by rw [r2.length]; exact hl, fun a ha => ?_⟩
    obtain ⟨ok3, f3⟩ := ok2.cold (o := .tup vs) ha
    obtain ⟨e, c⟩ := reps_ty r2
    exact ⟨v, a, vs, .type s, ts.map Value.type, b, rfl, upd_same, c, ok3.tyX ((r1.mono f2.b f2.p).mono f3.b f3.p) hk, kitBs_ok hb, p (.bl b) (.bl b) _ G2 q ok3 (.bl b) ((f1.trans f2).trans f3)⟩

/-! ### methods -/
theorem we_bm {T : String} {r : V → List V → Hp → VK → Prop} {to : TE} {t : TA} (hT : ∀ w σ v G1 ρ d, Ok K w G1 σ ρ → Rep K w.B w.ps v d → (∃ ds, IsL G1 d ds) → tyV K T v w.H) (h : WE K to ρ G fun x G1 => (∃ ds, IsL G1 x ds) ∧ WA K t ρ G1 fun xs G2 => RM K r x xs G2 Q) : WE K (tBM K T r to t) ρ G Q := fun w σ ok R p =>
  h w σ ok _ fun v d w1 G1 ⟨hl, q1⟩ ok1 r1 f1 => ⟨hT w1 σ v G1 ρ d ok1 r1 hl, q1 w1 σ ok1 _ fun vs ds w2 G2 q2 ok2 r2 f2 => q2 w2 σ ρ ok2 v vs (r1.mono f2.b f2.p) r2 R (p.later (f1.trans f2))⟩
theorem ty_list {w : Wd} {σ : St} {v : V} {G1 : Cells} {ρ : DEnv} {d : D} (ok : Ok K w G1 σ ρ) (r : Rep K w.B w.ps v d) (h : ∃ ds, IsL G1 d ds) : tyV K "list" v w.H := by
  obtain ⟨ds, h⟩ := h
  obtain ⟨a, vs, rfl, ha, _⟩ := ok.isL h r
  exact .inl ⟨rfl, vs, .inl (.inl ha)⟩
theorem we_bmL {r : V → List V → Hp → VK → Prop} {to : TE} {t : TA} (h : WE K to ρ G fun x G1 => (∃ ds, IsL G1 x ds) ∧ WA K t ρ G1 fun xs G2 => RM K r x xs G2 Q) : WE K (tBM K "list" r to t) ρ G Q := we_bm (fun _ _ _ _ _ _ ok r h => ty_list ok r h) h
theorem we_bmL0 {r : V → List V → Hp → VK → Prop} {to : TE} (h : WE K to ρ G fun x G1 => (∃ ds, IsL G1 x ds) ∧ RM K r x [] G1 Q) : WE K (tBM0 K "list" r to) ρ G Q := fun w σ ok R p =>
  h w σ ok _ fun v d w1 G1 ⟨hl, q1⟩ ok1 r1 f1 => ⟨ty_list ok1 r1 hl, q1 w1 σ ρ ok1 v [] r1 .nil R (p.later f1)⟩
/-- a cell's list is changed -/
theorem cell_put {w : Wd} {σ : St} {R : VK} {k : Nat} {a : Addr} {c c' : Cell} {o : HO} {v : V} (ok : Ok K w G σ ρ) (p : Post K w σ ρ Q R) (ha : w.ps[k]? = some a) (hk : G[k]? = some c) (hd : c ≠ .dead) (hc : CellR K w.B w.ps (upd w.H a o) a c') (q : Q d (G.set k c')) (r : Rep K w.B w.ps v d) : R v (upd w.H a o) := by
  obtain ⟨ok1, f1⟩ := ok.write (o := o) (c' := c') ha hk hd hc
  exact p v d _ _ q ok1 r f1
theorem rm_append {k : Nat} {ds : List D} {z : D} (hk : G[k]? = some (.lst ds)) (hl : ds.length < sizeLine) (q : Q .non (G.set k (.lst (ds ++ [z])))) : RM K rAppend (.ptr k) [z] G Q := fun w σ ρ ok v vs rx r R p => by
  cases rx with
  | ptr ha =>
    cases r with
    | cons rz r =>
      cases r
      obtain ⟨us, e, rs⟩ := ok.cs k _ _ ha hk
      exact ⟨_, us, _, rfl, rfl, e, by rw [rs.length]; exact hl, cell_put (c' := .lst (ds ++ [_])) ok p ha hk (fun z => nomatch z) ⟨_, upd_same, rs.append (.cons rz .nil)⟩ q .non⟩
theorem rm_extend {k : Nat} {ds es : List D} (hk : G[k]? = some (.lst ds)) (hy : IsL G y es) (hl : ds.length + es.length ≤ sizeLine) (q : Q .non (G.set k (.lst (ds ++ es)))) : RM K rExtend (.ptr k) [y] G Q := fun w σ ρ ok v vs rx r R p => by
  cases rx with
  | ptr ha =>
    cases r with
    | cons ry r =>
      cases r
      obtain ⟨us, e, rs⟩ := ok.cs k _ _ ha hk
      obtain ⟨b, zs, rfl, hb, rz⟩ := ok.isL hy ry
      exact ⟨_, b, us, zs, rfl, rfl, e, hb, by rw [rs.length, rz.length]; exact hl, cell_put (c' := .lst (ds ++ es)) ok p ha hk (fun z => nomatch z) ⟨_, upd_same, rs.append rz⟩ q .non⟩
theorem rm_pop {k : Nat} {ds : List D} {z : D} (hk : G[k]? = some (.lst ds)) (hz : ds[ds.length - 1]? = some z) (q : Q z (G.set k (.lst ds.dropLast))) : RM K rPop (.ptr k) [] G Q := fun w σ ρ ok v vs rx r R p => by
  cases rx with
  | ptr ha =>
    cases r
    obtain ⟨us, e, rs⟩ := ok.cs k _ _ ha hk
    obtain ⟨u, eu, ru⟩ := rs.get hz
    refine ⟨_, us, u, rfl, rfl, e, by rw [rs.length]; exact eu, cell_put (c' := .lst ds.dropLast) ok p ha hk (fun z => nomatch z) ⟨_, upd_same, ?_⟩ q ru⟩
    rw [List.dropLast_eq_take, List.dropLast_eq_take, rs.length]
    exact rs.take _
/-- xs[i] = v -/
theorem wg_setL {to ti : TE} {Q : DEnv → Cells → Prop} (h : WE K to ρ G fun x G1 => WE K ti ρ G1 fun y G2 => ∃ k ds i j, x = .ptr k ∧ y = .int i ∧ G2[k]? = some (.lst ds) ∧ ixN ds.length i = some j ∧ Q ρ (G2.set k (.lst (ds.set j d)))) : WG K (gSub to ti rSetL) d ρ G Q := fun w σ v ok rv R p =>
  h w σ ok _ fun vo x w1 G1 q1 ok1 r1 f1 => q1 w1 σ ok1 _ fun vi y w2 G2 ⟨k, ds, i, j, e1, e2, hk, hj, q⟩ ok2 r2 f2 => by
    subst e1
    subst e2
    cases r2
    have r1' := r1.mono f2.b f2.p
    cases r1' with
    | ptr ha =>
      obtain ⟨us, e, rs⟩ := ok2.cs k _ _ ha hk
      have rv2 := (rv.mono f1.b f1.p).mono f2.b f2.p
      refine ⟨_, us, i, j, rfl, rfl, e, by rw [rs.length]; exact hj, ?_⟩
      obtain ⟨ok3, f3⟩ := ok2.write (o := .lst (us.set j v)) (c' := .lst (ds.set j d)) ha hk (fun z => nomatch z) ⟨_, upd_same, rs.set rv2 j⟩
      exact p _ _ σ ρ q ok3 ((f1.trans f2).trans f3)
theorem we_m1 {r : V → List V → Hp → VK → Prop} {to : TE} (h : WE K to ρ G fun x G1 => (∃ z, x = .str z) ∧ WE K te ρ G1 fun y G2 => RM K r x [y] G2 Q) : WE K (tM1 r to te) ρ G Q := fun w σ ok R p =>
  h w σ ok _ fun v d w1 G1 ⟨⟨z, e⟩, q1⟩ ok1 r1 f1 => by
    subst e
    cases r1
    exact ⟨⟨z, rfl⟩, q1 w1 σ ok1 _ fun u e w2 G2 q2 ok2 r2 f2 => q2 w2 σ ρ ok2 _ [u] (.str z) (.cons r2 .nil) R (p.later (f1.trans f2))⟩
theorem we_m0 {r : V → List V → Hp → VK → Prop} {to : TE} (h : WE K to ρ G fun x G1 => (∃ z, x = .str z) ∧ RM K r x [] G1 Q) : WE K (tM0 r to) ρ G Q := fun w σ ok R p =>
  h w σ ok _ fun v d w1 G1 ⟨⟨z, e⟩, q1⟩ ok1 r1 f1 => by
    subst e
    cases r1
    exact ⟨⟨z, rfl⟩, q1 w1 σ ρ ok1 _ [] (.str z) .nil R (p.later f1)⟩
theorem rm_split {a b : Str} (hb : (b.length == 0) = false) (hl : a.length + 2 ≤ sizeLine) (q : Nw Q ((Txt.split a b).map D.str) G) :
    RM K (fun x xs H Q => ∃ a b, x = .str a ∧ xs = [.str b] ∧ (b.length == 0) = false ∧ a.length + 2 ≤ sizeLine ∧ rNewStrs (Txt.split a b) H Q) (.str a) [.str b] G Q := fun w σ ρ ok v vs rx r R p => by
  cases rx
  cases r with
  | cons r1 r =>
    cases r
    cases r1
    exact ⟨a, b, rfl, rfl, hb, hl, q.run p ok (Reps.map (fun z => .str z) _)⟩
theorem rm_join {a : Str} {ys : List Str} (hy : IsR G y (ys.map D.str)) (hl : (ys.map (·.length)).sum + ys.length * a.length ≤ 16777216) (q : Q (.str (Txt.join a ys)) G) :
    RM K (fun x xs H Q => ∃ a p, ∃ ys : List Str, x = .str a ∧ xs = [.ref p] ∧ (SqL K H p (ys.map V.str) ∨ SqT K H p (ys.map V.str)) ∧ (ys.map (·.length)).sum + ys.length * a.length ≤ 16777216 ∧ Q (.str (Txt.join a ys)) H) (.str a) [y] G Q := fun w σ ρ ok v vs rx r R p => by
  cases rx
  cases r with
  | cons ry r =>
    cases r
    obtain ⟨b, zs, rfl, hb, rz⟩ := ok.isR hy ry
    rw [rz.strs] at hb
    exact ⟨a, b, ys, rfl, rfl, .inl hb, hl, p.here ok q (.str _)⟩
/-- text * number -/
def rMulS : R2 := fun x y H Q => ∃ (z : Str) (n : Int), x = .str z ∧ y = .int n ∧ -(2 ^ 62) < n ∧ n < 2 ^ 62 ∧ z.length * n.toNat ≤ sizeLine ∧ Q (.str ⟨(List.replicate n.toNat z.cps.toList).flatten.toArray⟩) H
theorem foldl_cat : ∀ (n : Nat) (a : Array Nat) (b : Array Nat), (List.replicate n a).foldl (· ++ ·) b = b ++ (List.replicate n a.toList).flatten.toArray
  | 0, a, b => by simp
  | n + 1, a, b => by
    rw [List.replicate_succ, List.replicate_succ, List.foldl_cons, foldl_cat n a (b ++ a), List.flatten_cons]
    apply Array.toList_inj.mp
    simp
theorem op_mulS {X : Cx} : OpR X (binaryOp .Mult) rMulS := by
  intro pins s σ H x y v u Q I rx ry h
  obtain ⟨z, n, rfl, rfl, h1, h2, hl, q⟩ := h
  obtain ⟨t, rfl⟩ := rx
  obtain ⟨t', rfl⟩ := ry
  have hbig : ¬ n < 1 → ((x : Nat) → x = z.length → (x : Int) * n ≤ 2 ^ 62) := fun hn x hx => by
    subst hx
    have e : ((z.length * n.toNat : Nat) : Int) = (z.length : Int) * n := by
      rw [Int.natCast_mul]
      congr 1
      omega
    have : ((z.length * n.toNat : Nat) : Int) ≤ (sizeLine : Nat) := by exact_mod_cast hl
    rw [e] at this
    rw [sizeLine_eq] at this
    omega
  refine PySem.P.mul_str ?_ (fun hn h0 hc => ?_) (fun hn h0 => ?_) ?_
  · rw [decide_eq_false (by omega), decide_eq_false (by omega)]
    rfl
  · have hb := hbig hn z.length rfl
    have hn0 : 0 < n := by omega
    have hle : (2 ^ 63 - 1) / n < (z.length : Int) := hc
    have h3 := (Int.ediv_lt_iff_lt_mul hn0).mp hle
    omega
  · show Builtin.Str.tooLong _ = false
    unfold Builtin.Str.tooLong
    rw [decide_eq_false_iff_not]
    omega
  · by_cases hn : n < 1
    · rw [if_pos hn]
      have e : n.toNat = 0 := by omega
      rw [e] at q
      exact ⟨by decide, ⟨.str _, H, I.tok _, ⟨_, rfl⟩, q⟩⟩
    · rw [if_neg hn]
      by_cases h0 : (n == 1 || z.length == 0) = true
      · rw [if_pos h0]
        refine ⟨.str z, H, I, ⟨_, rfl⟩, ?_⟩
        have : (⟨(List.replicate n.toNat z.cps.toList).flatten.toArray⟩ : Str) = z := by
          rw [Bool.or_eq_true] at h0
          rcases h0 with h0 | h0
          · have : n = 1 := by simpa using h0
            subst this
            show (⟨(List.replicate 1 z.cps.toList).flatten.toArray⟩ : Str) = z
            simp
          · have hz : z.cps.toList = [] := by
              have : z.cps.size = 0 := by simpa [Str.length] using h0
              exact List.eq_nil_of_length_eq_zero (by simpa using this)
            have e2 : z = ⟨#[]⟩ := by
              cases z with
              | mk c => simp at hz; rw [hz]
            rw [hz]
            rw [e2]
            simp
        rw [this] at q
        exact q
      · rw [if_neg h0, foldl_cat]
        have ee : (#[] : Array Nat) ++ (List.replicate n.toNat z.cps.toList).flatten.toArray = (List.replicate n.toNat z.cps.toList).flatten.toArray := by simp
        rw [ee]
        refine ⟨?_, ⟨.str _, H, I.tok _, ⟨_, rfl⟩, q⟩⟩
        show (List.replicate n.toNat z.cps.toList).flatten.toArray.size ≤ sizeLine
        simp [Str.length] at hl ⊢
        rw [Nat.mul_comm]
        exact hl
theorem rd_mulS {z : Str} {n : Int} (h1 : -(2 ^ 62) < n) (h2 : n < 2 ^ 62) (hl : z.length * n.toNat ≤ sizeLine) (q : Q (.str ⟨(List.replicate n.toNat z.cps.toList).flatten.toArray⟩) G) : RD K rMulS (.str z) (.int n) G Q := fun w σ ρ ok vx vy rx ry R p => by
  cases rx
  cases ry
  exact ⟨z, n, rfl, rfl, h1, h2, hl, p.here ok q (.str _)⟩

/-! ### a slot's cell is frozen -/
theorem Ok.freeze {w : Wd} {σ : St} {k : Nat} {ds : List D} {a : Addr} (ok : Ok K w G σ ρ) (ha : w.ps[k]? = some a) (hk : G[k]? = some (.lst ds)) : ∃ w', w'.H = w.H ∧ Ok K w' (G.set k .dead) σ ρ ∧ Fut w w' ∧ w'.ps = w.ps ∧ Rep K w'.B w'.ps (.ref a) (.lst ds) := by
  obtain ⟨vs, e, r⟩ := ok.cs k a _ ha hk
  have nB := ok.nb k a _ ha hk (fun z => nomatch z)
  have eB : Ex w.B (upd w.B a (.lst vs)) := Ex.new nB
  refine ⟨⟨upd w.B a (.lst vs), w.H, w.ps⟩, rfl, ⟨fun b o z => ?_, ok.al, ok.nd, by rw [List.length_set]; exact ok.ln, fun j p c h1 h2 h3 => ?_, fun j p c h1 h2 => ?_, ok.lr, fun i d h => ?_⟩, ⟨eB, Pre.refl _, fun _ _ h _ => h, fun _ h => .inl h, fun b m => ?_⟩, rfl, .lst upd_same (r.mono eB (Pre.refl _))⟩
  · have z : upd w.B a (.lst vs) b = some o := z
    by_cases eb : b = a
    · subst eb
      rw [upd_same] at z
      rw [← z]
      exact e
    · rw [upd_ne eb] at z
      exact ok.ex b o z
  · by_cases ej : k = j
    · subst ej
      have hl : k < G.length := (List.getElem?_eq_some_iff.mp hk).1
      rw [List.getElem?_set_self hl] at h2
      cases h2
      exact absurd rfl h3
    · rw [List.getElem?_set_ne ej] at h2
      show upd w.B a (.lst vs) p = Option.none
      rw [upd_ne (fun z : p = a => ej (nd_at ok.nd ha (by rw [← z]; exact h1)))]
      exact ok.nb j p c h1 h2 h3
  · by_cases ej : k = j
    · subst ej
      have hl : k < G.length := (List.getElem?_eq_some_iff.mp hk).1
      rw [List.getElem?_set_self hl] at h2
      cases h2
      trivial
    · rw [List.getElem?_set_ne ej] at h2
      exact (ok.cs j p c h1 h2).mono eB (Pre.refl _) rfl
  · obtain ⟨v, e1, r1⟩ := ok.sl i d h
    exact ⟨v, e1, r1.mono eB (Pre.refl _)⟩
  · have m : upd w.B a (.lst vs) b ≠ Option.none := m
    by_cases eb : b = a
    · subst eb
      exact .inr (.inr (List.mem_of_getElem? ha))
    · rw [upd_ne eb] at m
      exact .inl m
/-- at a slot: its cell is a list no more, but a datum -/
theorem ws_fz {E : EndsD} {ts : TS} {ds : List D} (i k : Nat) (hi : ρ[i]? = some (some (.ptr k))) (hk : G[k]? = some (.lst ds)) (h : WS K ts (ρ.set i (some (.lst ds))) (G.set k .dead) E) : WS K ts ρ G E := fun w σ ok X l => by
  obtain ⟨v, ev, rv⟩ := ok.sl i _ hi
  cases rv with
  | ptr ha =>
    obtain ⟨w', e, ok', f, ep, r⟩ := ok.freeze ha hk
    rw [← e]
    refine h w' σ (ok'.slots (by rw [List.length_set]; exact ok'.lr) fun j d hj => ?_) X (l.later f)
    by_cases ej : i = j
    · subst ej
      rw [List.getElem?_set_self (List.getElem?_eq_some_iff.mp hi).1] at hj
      cases hj
      exact ⟨_, ev, r⟩
    · rw [List.getElem?_set_ne ej] at hj
      exact ok'.sl j d hj
/-- what an expression gives, a cell's list, is frozen -/
theorem we_fz (h : WE K te ρ G fun d G1 => ∃ k ds, d = .ptr k ∧ G1[k]? = some (.lst ds) ∧ Q (.lst ds) (G1.set k .dead)) : WE K te ρ G Q := fun w σ ok R p =>
  h w σ ok _ fun v d w1 G1 ⟨k, ds, e, hk, q⟩ ok1 r1 f1 => by
    subst e
    cases r1 with
    | ptr ha =>
      obtain ⟨w', e, ok', f, ep, r⟩ := ok1.freeze ha hk
      rw [← e]
      exact p _ _ w' _ q ok' r (f1.trans f)
end
end DL
/-! DE: small helps for the readings. -/
namespace DL
open PySem PySem.Spec PyProof.Rows L2
theorem ite_P {c A B : Prop} [Decidable c] (h1 : c → A) (h2 : ¬ c → B) : if decide c = true then A else B := by
  by_cases h : c
  · rw [if_pos (decide_eq_true h)]
    exact h1 h
  · rw [if_neg (by rw [decide_eq_false h]; exact Bool.false_ne_true)]
    exact h2 h
theorem ite_N {c A B : Prop} [Decidable c] (h1 : ¬ c → A) (h2 : c → B) : if (!decide c) = true then A else B := by
  by_cases h : c
  · rw [decide_eq_true h]
    exact h2 h
  · rw [decide_eq_false h]
    exact h1 h
theorem ite_b {b : Bool} {A B : Prop} (h1 : b = true → A) (h2 : b = false → B) : if b = true then A else B := by
  cases b with
  | true => exact h1 rfl
  | false => exact h2 rfl
theorem ite_nb {b : Bool} {A B : Prop} (h1 : b = false → A) (h2 : b = true → B) : if (!b) = true then A else B := by
  cases b with
  | true => exact h2 rfl
  | false => exact h1 rfl
theorem ite_T {A B : Prop} (h : A) : if true = true then A else B := h
theorem ite_F {A B : Prop} (h : B) : if false = true then A else B := h
theorem ite_nT {A B : Prop} (h : B) : if (!true) = true then A else B := h
theorem ite_nF {A B : Prop} (h : A) : if (!false) = true then A else B := h
theorem ite_yes {c A B : Prop} [Decidable c] (hc : c) (h : A) : if decide c = true then A else B := by
  rw [if_pos (decide_eq_true hc)]
  exact h
theorem ite_no {c A B : Prop} [Decidable c] (hc : ¬ c) (h : B) : if decide c = true then A else B := by
  rw [if_neg (by rw [decide_eq_false hc]; exact Bool.false_ne_true)]
  exact h
theorem ite_nyes {c A B : Prop} [Decidable c] (hc : c) (h : B) : if (!decide c) = true then A else B := by
  rw [decide_eq_true hc]
  exact h
theorem ite_nno {c A B : Prop} [Decidable c] (hc : ¬ c) (h : A) : if (!decide c) = true then A else B := by
  rw [decide_eq_false hc]
  exact h
section
variable {K : PySem.W.Frag} {ρ ρ' : DEnv} {G G' : Cells} {Q : D → Cells → Prop} {x y d : D}
theorem nn_n : isNonD .non = true := rfl
theorem nn_b {b : Bool} : isNonD (.bl b) = false := rfl
theorem nn_i {b : Int} : isNonD (.int b) = false := rfl
theorem nn_s {b : Str} : isNonD (.str b) = false := rfl
theorem nn_l {b : List D} : isNonD (.lst b) = false := rfl
theorem nn_t {b : List D} : isNonD (.tup b) = false := rfl
theorem nn_p {b : Nat} : isNonD (.ptr b) = false := rfl
theorem nm_n : (!isNonD .non) = false := rfl
theorem nm_b {b : Bool} : (!isNonD (.bl b)) = true := rfl
theorem nm_i {b : Int} : (!isNonD (.int b)) = true := rfl
theorem nm_s {b : Str} : (!isNonD (.str b)) = true := rfl
theorem nm_l {b : List D} : (!isNonD (.lst b)) = true := rfl
theorem nm_t {b : List D} : (!isNonD (.tup b)) = true := rfl
theorem nm_p {b : Nat} : (!isNonD (.ptr b)) = true := rfl
theorem rd_isN' {b : Bool} (e : isNonD x = b) (q : Q (.bl b) G) : RD K (fun x y H Q => y = .non ∧ Q (.bl (decide (x = .non))) H) x .non G Q := rd_isN (by rw [e]; exact q)
theorem rd_notN' {b : Bool} (e : (!isNonD x) = b) (q : Q (.bl b) G) : RD K (fun x y H Q => y = .non ∧ Q (.bl (!decide (x = .non))) H) x .non G Q := rd_notN (by rw [e]; exact q)
theorem wg_name' {i : Nat} {Q : DEnv → Cells → Prop} (e : ρ.set i (some d) = ρ') (q : Q ρ' G) : WG K (gName i) d ρ G Q := wg_name (e ▸ q)
theorem ws_par' {i j : Nat} {nx bk ct : DEnv → Cells → Prop} {rt : D → Cells → Prop} {t : TA} (h : WA K t ρ G fun ds G1 => ∃ a b, ds = [a, b] ∧ ∃ ρ', (ρ.set i (some a)).set j (some b) = ρ' ∧ nx ρ' G1) : WS K (tPar i j t) ρ G ⟨nx, rt, bk, ct⟩ := by
  refine ws_par fun w σ ok R p => h w σ ok R fun vs ds w' G' ⟨a, b, e, ρ', e2, q⟩ => p vs ds w' G' ⟨a, b, e, ?_⟩
  rw [e2]
  exact q
end
theorem cpow18 : CPow 10 18 := ⟨by decide, by decide, by decide⟩
theorem ex_bl {b : Bool} {Q : Bool → Prop} (h : Q b) : ∃ c, D.bl b = D.bl c ∧ Q c := ⟨b, rfl, h⟩
theorem ex_int {b : Int} {Q : Int → Prop} (h : Q b) : ∃ c, D.int b = D.int c ∧ Q c := ⟨b, rfl, h⟩
theorem ex_str {b : Str} {Q : Str → Prop} (h : Q b) : ∃ c, D.str b = D.str c ∧ Q c := ⟨b, rfl, h⟩
theorem ex_tup {b : List D} {Q : List D → Prop} (h : Q b) : ∃ c, D.tup b = D.tup c ∧ Q c := ⟨b, rfl, h⟩
theorem and_str {b : Str} {Q : Prop} (h : Q) : (∃ c, D.str b = D.str c) ∧ Q := ⟨⟨b, rfl⟩, h⟩
theorem ex_int2 {a b : Int} {Q : Int → Int → Prop} (h : Q a b) : ∃ c d, D.int a = D.int c ∧ D.int b = D.int d ∧ Q c d := ⟨a, b, rfl, rfl, h⟩
theorem ex_par {x y : D} {ρ ρ' : DEnv} {Q : DEnv → Prop} {i j : Nat} (e : (ρ.set i (some x)).set j (some y) = ρ') (h : Q ρ') : ∃ a b, [x, y] = [a, b] ∧ ∃ ρ', (ρ.set i (some a)).set j (some b) = ρ' ∧ Q ρ' := ⟨x, y, rfl, ρ', e, h⟩
theorem ex_rg1 {a : Int} {Q : Int → Prop} (h : -(2 ^ 62) ≤ a ∧ a < 2 ^ 62) (q : Q a) : ∃ j : Int, [D.int a] = [D.int j] ∧ -(2 ^ 62) ≤ j ∧ j < 2 ^ 62 ∧ Q j := ⟨a, rfl, h.1, h.2, q⟩
theorem ex_rg2 {a b : Int} {Q : Int → Int → Prop} (h : -(2 ^ 62) ≤ a ∧ a < 2 ^ 62 ∧ -(2 ^ 62) ≤ b ∧ b < 2 ^ 62) (q : Q a b) : ∃ i j : Int, [D.int a, D.int b] = [D.int i, D.int j] ∧ (-(2 ^ 62) ≤ i ∧ i < 2 ^ 62 ∧ -(2 ^ 62) ≤ j ∧ j < 2 ^ 62) ∧ Q i j := ⟨a, b, rfl, h, q⟩
theorem map_get {α β : Type} {f : α → β} {l : List α} {i : Nat} {d : β} (h : (l.map f)[i]? = some d) : ∃ a, l[i]? = some a ∧ d = f a := by
  rw [List.getElem?_map] at h
  cases e : l[i]? with
  | none =>
    rw [e] at h
    cases h
  | some a =>
    rw [e] at h
    exact ⟨a, rfl, (Option.some.inj h).symm⟩
theorem get_app {α : Type} {a b : List α} {k : Nat} : (a ++ b)[a.length + k]? = b[k]? := by
  rw [List.getElem?_append_right (Nat.le_add_right _ _), Nat.add_sub_cancel_left]
theorem set_app {α : Type} {a b : List α} {k : Nat} {c : α} : (a ++ b).set (a.length + k) c = a ++ b.set k c := by
  rw [List.set_append_right _ _ (Nat.le_add_right _ _), Nat.add_sub_cancel_left]
theorem set_same {α : Type} {l : List α} {k : Nat} {c d : α} (h : l[k]? = some d) : (l.set k c)[k]? = some c := List.getElem?_set_self (List.getElem?_eq_some_iff.mp h).1
theorem get_last {α : Type} {a : List α} {c : α} : (a ++ [c])[a.length]? = some c := get_app (k := 0)
theorem set_last {α : Type} {a : List α} {c d : α} : (a ++ [c]).set a.length d = a ++ [d] := set_app (k := 0)
theorem get_prev {α : Type} {a : List α} {c : α} {k : Nat} (h : k < a.length) : (a ++ [c])[k]? = a[k]? := List.getElem?_append_left h
theorem le_size {n : Nat} (h : n ≤ 100000) : n ≤ sizeLine := Nat.le_trans h (by decide)
theorem lt_size {n : Nat} (h : n < 100000) : n < sizeLine := Nat.lt_of_lt_of_le h (by decide)
theorem at0 {α : Type} {d : α} {ds : List α} : atI (d :: ds) 0 = some d := by
  unfold atI ixN
  simp
theorem atZ {α : Type} {d : α} {ds : List α} {i : Int} (h0 : 0 ≤ i) (h : ds[i.toNat]? = some d) : atI ds i = some d := by
  have hl := (List.getElem?_eq_some_iff.mp h).1
  unfold atI ixN
  rw [if_pos h0, if_pos (by omega)]
  exact h
theorem ix0 {n : Nat} (h : 0 < n) : ixN n 0 = some 0 := by
  unfold ixN
  rw [if_pos (Int.le_refl 0), if_pos (by omega)]
  rfl
theorem ixZ {n : Nat} {i : Int} (h0 : 0 ≤ i) (h : i < n) : ixN n i = some i.toNat := by
  unfold ixN
  rw [if_pos h0, if_pos h]
theorem ws_par3' {K : PySem.W.Frag} {ρ : DEnv} {G : Cells} {i j l : Nat} {nx bk ct : DEnv → Cells → Prop} {rt : D → Cells → Prop} {t : TA} (h : WA K t ρ G fun ds G1 => ∃ a b c, ds = [a, b, c] ∧ ∃ ρ', ((ρ.set i (some a)).set j (some b)).set l (some c) = ρ' ∧ nx ρ' G1) : WS K (tPar3 i j l t) ρ G ⟨nx, rt, bk, ct⟩ := fun w σ ok X lk =>
  h w σ ok _ fun vs ds w1 G1 ⟨a, b, c, e, ρ', e2, q⟩ ok1 r1 f1 => by
    subst e
    cases r1 with
    | cons h1 r =>
      cases r with
      | cons h2 r =>
        cases r with
        | cons h3 r =>
          cases r
          refine ⟨_, _, _, rfl, lk.nx w1 G1 _ _ q ?_ f1⟩
          rw [← e2]
          exact ((ok1.set h1).set h2).set h3
theorem ex_par3 {x y z : D} {ρ ρ' : DEnv} {Q : DEnv → Prop} {i j l : Nat} (e : ((ρ.set i (some x)).set j (some y)).set l (some z) = ρ') (h : Q ρ') : ∃ a b c, [x, y, z] = [a, b, c] ∧ ∃ ρ', ((ρ.set i (some a)).set j (some b)).set l (some c) = ρ' ∧ Q ρ' := ⟨x, y, z, rfl, ρ', e, h⟩
theorem kb_ii : kitB "int" "int" = some true := by decide +kernel
theorem kb_ib : kitB "int" "bool" = some false := by decide +kernel
theorem kb_is : kitB "int" "str" = some false := by decide +kernel
theorem kb_il : kitB "int" "list" = some false := by decide +kernel
theorem kb_it : kitB "int" "tuple" = some false := by decide +kernel
theorem kb_id : kitB "int" "dict" = some false := by decide +kernel
theorem kb_bi : kitB "bool" "int" = some true := by decide +kernel
theorem kb_bb : kitB "bool" "bool" = some true := by decide +kernel
theorem kb_bs : kitB "bool" "str" = some false := by decide +kernel
theorem kb_bl : kitB "bool" "list" = some false := by decide +kernel
theorem kb_bt : kitB "bool" "tuple" = some false := by decide +kernel
theorem kb_bd : kitB "bool" "dict" = some false := by decide +kernel
theorem kb_si : kitB "str" "int" = some false := by decide +kernel
theorem kb_sb : kitB "str" "bool" = some false := by decide +kernel
theorem kb_ss : kitB "str" "str" = some true := by decide +kernel
theorem kb_sl : kitB "str" "list" = some false := by decide +kernel
theorem kb_st : kitB "str" "tuple" = some false := by decide +kernel
theorem kb_sd : kitB "str" "dict" = some false := by decide +kernel
theorem kb_li : kitB "list" "int" = some false := by decide +kernel
theorem kb_lb : kitB "list" "bool" = some false := by decide +kernel
theorem kb_ls : kitB "list" "str" = some false := by decide +kernel
theorem kb_ll : kitB "list" "list" = some true := by decide +kernel
theorem kb_lt : kitB "list" "tuple" = some false := by decide +kernel
theorem kb_ld : kitB "list" "dict" = some false := by decide +kernel
theorem kb_ti : kitB "tuple" "int" = some false := by decide +kernel
theorem kb_tb : kitB "tuple" "bool" = some false := by decide +kernel
theorem kb_ts : kitB "tuple" "str" = some false := by decide +kernel
theorem kb_tl : kitB "tuple" "list" = some false := by decide +kernel
theorem kb_tt : kitB "tuple" "tuple" = some true := by decide +kernel
theorem kb_td : kitB "tuple" "dict" = some false := by decide +kernel
theorem kb_ni : kitB "NoneType" "int" = some false := by decide +kernel
theorem kb_nb : kitB "NoneType" "bool" = some false := by decide +kernel
theorem kb_ns : kitB "NoneType" "str" = some false := by decide +kernel
theorem kb_nl : kitB "NoneType" "list" = some false := by decide +kernel
theorem kb_nt : kitB "NoneType" "tuple" = some false := by decide +kernel
theorem kb_nd : kitB "NoneType" "dict" = some false := by decide +kernel
end DL
/-! TX: texts as lists of codes: lines, places, spans. Plain Lean. -/
namespace Tx

/-- the lines of a text (10 is the line feed) -/
def lines : List Nat → List (List Nat)
  | [] => [[]]
  | c :: r => if c = 10 then [] :: lines r else (c :: (lines r).headD []) :: (lines r).tail
theorem lines_ne : ∀ l, lines l ≠ []
  | [] => by simp [lines]
  | c :: r => by
    unfold lines
    split <;> simp
theorem lines_cons (l : List Nat) : ∃ h t, lines l = h :: t := by
  cases e : lines l with
  | nil => exact absurd e (lines_ne l)
  | cons h t => exact ⟨h, t, rfl⟩
theorem lines_nl (r : List Nat) : lines (10 :: r) = [] :: lines r := by
  show (if (10 : Nat) = 10 then _ else _) = _
  rw [if_pos rfl]
theorem lines_c {c : Nat} (h : c ≠ 10) {r : List Nat} {l : List Nat} {t : List (List Nat)} (e : lines r = l :: t) : lines (c :: r) = (c :: l) :: t := by
  show (if c = 10 then _ else _) = _
  rw [if_neg h, e]
  rfl
/-- lines of two texts, one behind the other -/
theorem lines_app : ∀ (a b : List Nat) {p q : List Nat} {i t : List (List Nat)}, lines a = i ++ [p] → lines b = q :: t → lines (a ++ b) = i ++ (p ++ q) :: t
  | [], b, p, q, i, t, ha, hb => by
    have : i = [] ∧ p = [] := by
      unfold lines at ha
      cases i with
      | nil => simp at ha; exact ⟨rfl, ha⟩
      | cons x y =>
        simp at ha
    obtain ⟨rfl, rfl⟩ := this
    simpa using hb
  | c :: a, b, p, q, i, t, ha, hb => by
    by_cases hc : c = 10
    · subst hc
      rw [lines_nl] at ha
      rw [List.cons_append, lines_nl]
      cases i with
      | nil =>
        simp at ha
        exact absurd ha.2 (lines_ne a)
      | cons x y =>
        simp at ha
        obtain ⟨rfl, ha⟩ := ha
        rw [lines_app a b ha hb]
        rfl
    · obtain ⟨h, t', e⟩ := lines_cons a
      rw [lines_c hc e] at ha
      rw [List.cons_append]
      cases i with
      | nil =>
        simp at ha
        obtain ⟨rfl, rfl⟩ := ha
        have := lines_app a b (i := []) (p := h) (by simpa using e) hb
        rw [lines_c hc this]
        rfl
      | cons x y =>
        simp at ha
        obtain ⟨rfl, ha⟩ := ha
        have := lines_app a b (i := h :: y) (p := p) (by rw [e, ha]; rfl) hb
        rw [lines_c hc (show lines (a ++ b) = h :: (y ++ (p ++ q) :: t) from this)]
        rfl
theorem lines_split (l : List Nat) : ∃ i p, lines l = i ++ [p] := by
  have := lines_ne l
  exact ⟨(lines l).dropLast, (lines l).getLast this, (List.dropLast_concat_getLast this).symm⟩
theorem lines_free : ∀ l, ∀ p ∈ lines l, 10 ∉ p
  | [], p, h => by
    simp [lines] at h
    simp [h]
  | c :: r, p, h => by
    by_cases hc : c = 10
    · subst hc
      rw [lines_nl] at h
      rcases List.mem_cons.mp h with rfl | h
      · simp
      · exact lines_free r p h
    · obtain ⟨q, t, e⟩ := lines_cons r
      rw [lines_c hc e] at h
      have ih := lines_free r
      rw [e] at ih
      rcases List.mem_cons.mp h with rfl | h
      · intro z
        rcases List.mem_cons.mp z with z | z
        · exact hc z.symm
        · exact ih q List.mem_cons_self z
      · exact ih p (List.mem_cons_of_mem _ h)
/-- texts joined by line feeds -/
def joinL : List (List Nat) → List Nat
  | [] => []
  | [x] => x
  | x :: r => x ++ 10 :: joinL r
theorem joinL_cons (x y : List Nat) (r : List (List Nat)) : joinL (x :: y :: r) = x ++ 10 :: joinL (y :: r) := rfl
theorem lines_of_free : ∀ {x : List Nat}, 10 ∉ x → lines x = [x]
  | [], _ => rfl
  | c :: x, h => by
    have hc : c ≠ 10 := fun z => h (by rw [z]; exact List.mem_cons_self)
    rw [lines_c hc (lines_of_free (x := x) fun z => h (List.mem_cons_of_mem _ z))]
theorem lines_join : ∀ (ps : List (List Nat)), ps ≠ [] → (∀ p ∈ ps, 10 ∉ p) → lines (joinL ps) = ps
  | [], h, _ => absurd rfl h
  | [x], _, h => lines_of_free (h x (by simp))
  | x :: y :: r, _, h => by
    rw [joinL_cons]
    have ih := lines_join (y :: r) (by simp) fun p hp => h p (List.mem_cons_of_mem _ hp)
    have e1 : lines x = [] ++ [x] := by rw [lines_of_free (h x (by simp))]; rfl
    have e2 : lines (10 :: joinL (y :: r)) = [] :: y :: r := by rw [lines_nl, ih]
    rw [lines_app x _ e1 e2, List.append_nil]
    rfl
theorem join_lines : ∀ l, joinL (lines l) = l
  | [] => rfl
  | c :: r => by
    obtain ⟨q, t, e⟩ := lines_cons r
    have ih := join_lines r
    by_cases hc : c = 10
    · subst hc
      rw [lines_nl, e, joinL_cons, ← e, ih]
      rfl
    · rw [lines_c hc e]
      rw [e] at ih
      cases t with
      | nil => exact congrArg (c :: ·) ih
      | cons y t' => exact congrArg (c :: ·) ih
theorem lines_len : ∀ l, (lines l).length = l.count 10 + 1
  | [] => rfl
  | c :: r => by
    have ih := lines_len r
    by_cases hc : c = 10
    · subst hc
      rw [lines_nl, List.length_cons, ih, List.count_cons_self]
    · obtain ⟨q, t, e⟩ := lines_cons r
      rw [lines_c hc e, List.length_cons]
      rw [e, List.length_cons] at ih
      rw [List.count_cons_of_ne hc, ← ih]

/-! ### what is a text -/
def isSign (c : Nat) : Bool := decide (32 ≤ c) && decide (c ≤ 126)
def isLine (l : List Nat) : Bool := decide (l.length ≤ 100) && l.all isSign
def isText (l : List Nat) : Bool := decide ((lines l).length ≤ 400) && (lines l).all isLine

/-! ### places -/
/-- the place that has a signs ahead of it -/
def placeOf (t : List Nat) (a : Nat) : Nat × Nat := ((lines (t.take a)).length, ((lines (t.take a)).getLastD []).length + 1)
/-- the signs and line feeds ahead of a line -/
def offs (ls : List (List Nat)) : Nat := (ls.map fun l => l.length + 1).sum
def placeAt (t : List Nat) (line column : Int) : Option Int :=
  if 1 ≤ line ∧ line ≤ (lines t).length then
    if 1 ≤ column ∧ column ≤ (((lines t).getD (line - 1).toNat []).length : Int) + 1 then some ((offs ((lines t).take (line - 1).toNat) : Int) + column - 1) else none
  else none
/-- a ≤ |t| signs ahead: a line and a column of the whole -/
theorem lines_take : ∀ (t : List Nat) (a : Nat), a ≤ t.length → ∃ (i : List (List Nat)) (l : List Nat) (j : Nat) (r : List (List Nat)), lines t = i ++ l :: r ∧ j ≤ l.length ∧ lines (t.take a) = i ++ [l.take j] ∧ offs i + j = a
  | t, 0, _ => by
    obtain ⟨q, r, e⟩ := lines_cons t
    exact ⟨[], q, 0, r, e, Nat.zero_le _, by simp [lines], by simp [offs]⟩
  | [], a + 1, h => by simp at h
  | c :: t, a + 1, h => by
    obtain ⟨i, l, j, r, e1, h1, e2, h2⟩ := lines_take t a (by simpa using h)
    by_cases hc : c = 10
    · subst hc
      refine ⟨[] :: i, l, j, r, by rw [lines_nl, e1]; rfl, h1, by rw [List.take_succ_cons, lines_nl, e2]; rfl, ?_⟩
      have : offs ([] :: i) = offs i + 1 := by unfold offs; simp; omega
      omega
    · cases i with
      | nil =>
        refine ⟨[], c :: l, j + 1, r, lines_c hc e1, by simpa using h1, ?_, ?_⟩
        · rw [List.take_succ_cons, lines_c hc (show lines (t.take a) = l.take j :: [] from e2)]
          rfl
        · simp [offs] at h2 ⊢
          omega
      | cons x y =>
        refine ⟨(c :: x) :: y, l, j, r, lines_c hc e1, h1, ?_, ?_⟩
        · rw [List.take_succ_cons, lines_c hc (show lines (t.take a) = x :: (y ++ [l.take j]) from e2)]
          rfl
        · have : offs ((c :: x) :: y) = offs (x :: y) + 1 := by unfold offs; simp; omega
          omega
theorem placeOf_row (t : List Nat) (a : Nat) : (placeOf t a).1 = (t.take a).count 10 + 1 := lines_len _
theorem place_back {t : List Nat} {a : Nat} (h : a ≤ t.length) : placeAt t (placeOf t a).1 (placeOf t a).2 = some (a : Int) := by
  obtain ⟨i, l, j, r, e1, h1, e2, h2⟩ := lines_take t a h
  have p1 : (placeOf t a).1 = i.length + 1 := by unfold placeOf; rw [e2]; simp
  have p2 : (placeOf t a).2 = j + 1 := by
    unfold placeOf
    rw [e2]
    simp [List.getLastD_concat]
    omega
  rw [p1, p2]
  unfold placeAt
  rw [e1]
  have q1 : ((i.length + 1 : Nat) : Int) - 1 = (i.length : Nat) := by omega
  rw [q1]
  have q2 : (i ++ l :: r).getD (i.length : Int).toNat [] = l := by simp
  have q3 : (i ++ l :: r).take (i.length : Int).toNat = i := by simp
  rw [q2, q3, if_pos ⟨by omega, by simp; omega⟩, if_pos ⟨by omega, by omega⟩]
  congr 1
  omega
/-- places are in order -/
theorem place_mono {t : List Nat} {a b : Nat} (h : a ≤ b) (hb : b ≤ t.length) : (placeOf t a).1 < (placeOf t b).1 ∨ ((placeOf t a).1 = (placeOf t b).1 ∧ (placeOf t a).2 ≤ (placeOf t b).2) := by
  -- t.take b = t.take a ++ m
  have e : t.take b = t.take a ++ (t.take b).drop a := by
    have := (List.take_append_drop a (t.take b)).symm
    rwa [List.take_take, Nat.min_eq_left h] at this
  generalize (t.take b).drop a = m at e
  obtain ⟨i, p, ea⟩ := lines_split (t.take a)
  obtain ⟨q, r, em⟩ := lines_cons m
  have eb := lines_app (t.take a) m ea em
  unfold placeOf
  rw [e, eb, ea]
  cases r with
  | nil =>
    right
    simp [List.getLastD_concat]
  | cons y r' =>
    left
    simp

/-! ### spans -/
abbrev Span := Nat × Nat × List Nat
def Val (n : Nat) : Nat → List Span → Prop
  | _, [] => True
  | e, (f, s, _) :: r => e ≤ f ∧ f ≤ s ∧ s ≤ n ∧ Val n (s + 1) r
theorem Val.mono {n : Nat} : ∀ {e e' : Nat} {sp : List Span}, Val n e sp → e' ≤ e → Val n e' sp
  | _, _, [], _, _ => trivial
  | _, _, (_, _, _) :: _, ⟨a, b, c, d⟩, h => ⟨Nat.le_trans h a, b, c, d⟩
def cut (t : List Nat) (a b : Nat) : List Nat := (t.drop a).take (b - a)
theorem cut_len {t : List Nat} {a b : Nat} (hb : b ≤ t.length) : (cut t a b).length = b - a := by
  unfold cut
  rw [List.length_take, List.length_drop]
  omega
theorem cut_get {t : List Nat} {a b j : Nat} (h : j < b - a) : (cut t a b)[j]? = t[a + j]? := by
  unfold cut
  rw [List.getElem?_take_of_lt h, List.getElem?_drop]
def replaced (t : List Nat) : Nat → List Span → List Nat
  | e, [] => t.drop e
  | e, (f, s, p) :: r => cut t e f ++ p ++ replaced t s r
def moved : List Span → Int → Int → Int
  | [], a, sh => a + sh
  | (f, s, p) :: r, a, sh => if a ≤ f then a + sh else if a ≤ s then f + sh + p.length else moved r a (sh + p.length - (s - f))
/-- the law's table: where each place goes, whether its sign stays, where it comes back to -/
def ways (n : Nat) : Nat → Nat → List Span → List (Nat × Bool × Nat)
  | e, told, [] => (List.range (n - e)).map fun i => (told + 1 + i, true, e + 1 + i)
  | e, told, (f, s, p) :: r => ((List.range (f - e)).map fun i => (told + 1 + i, true, e + 1 + i)) ++ ((List.range (s - f)).map fun _ => (told + (f - e) + p.length, false, if p = [] then f else s)) ++ ways n s (told + (f - e) + p.length) r
theorem ways_len {n : Nat} : ∀ {e told : Nat} {sp : List Span}, Val n e sp → (ways n e told sp).length = n - e
  | e, told, [], _ => by simp [ways]
  | e, told, (f, s, p) :: r, ⟨h1, h2, h3, h4⟩ => by
    have ih := ways_len (n := n) (e := s) (told := told + (f - e) + p.length) (h4.mono (Nat.le_succ s))
    unfold ways
    rw [List.length_append, List.length_append, ih]
    simp
    omega
/-- the three parts of a table -/
theorem get3 {α : Type} {a b c : List α} {i : Nat} {x : α} (h : (a ++ b ++ c)[i]? = some x) : (i < a.length ∧ a[i]? = some x) ∨ (a.length ≤ i ∧ i < a.length + b.length ∧ b[i - a.length]? = some x) ∨ (a.length + b.length ≤ i ∧ c[i - (a.length + b.length)]? = some x) := by
  by_cases h1 : i < a.length
  · rw [List.append_assoc, List.getElem?_append_left h1] at h
    exact .inl ⟨h1, h⟩
  · by_cases h2 : i < a.length + b.length
    · rw [List.append_assoc, List.getElem?_append_right (by omega), List.getElem?_append_left (by omega)] at h
      exact .inr (.inl ⟨by omega, h2, h⟩)
    · rw [List.getElem?_append_right (by rw [List.length_append]; omega), List.length_append] at h
      exact .inr (.inr ⟨by omega, h⟩)
theorem rng_get {β : Type} {f : Nat → β} {m i : Nat} {x : β} (h : ((List.range m).map f)[i]? = some x) : i < m ∧ x = f i := by
  rw [List.getElem?_map] at h
  by_cases hi : i < m
  · rw [List.getElem?_range hi] at h
    exact ⟨hi, (Option.some.inj h).symm⟩
  · rw [List.getElem?_eq_none (by simp; omega)] at h
    cases h
theorem ways_moved {n : Nat} : ∀ {sp : List Span} {e told i to ag : Nat} {st : Bool} {sh : Int}, Val n e sp → (told : Int) = e + sh → (ways n e told sp)[i]? = some (to, st, ag) → moved sp ((e + i + 1 : Nat) : Int) sh = to
  | [], e, told, i, to, ag, st, sh, _, ht, h => by
    obtain ⟨hi, e1⟩ := rng_get h
    cases e1
    show ((e + i + 1 : Nat) : Int) + sh = _
    omega
  | (f, s, p) :: r, e, told, i, to, ag, st, sh, ⟨h1, h2, h3, h4⟩, ht, h => by
    unfold ways at h
    unfold moved
    rcases get3 h with ⟨a1, a2⟩ | ⟨a0, a1, a2⟩ | ⟨a1, a2⟩
    · obtain ⟨hi, e1⟩ := rng_get a2
      cases e1
      rw [if_pos (by omega)]
      omega
    · rw [List.length_map, List.length_range] at a0 a1 a2
      rw [List.length_map, List.length_range] at a1
      obtain ⟨hi, e1⟩ := rng_get a2
      cases e1
      rw [if_neg (by omega), if_pos (by omega)]
      omega
    · rw [List.length_map, List.length_range, List.length_map, List.length_range] at a1 a2
      rw [if_neg (by omega), if_neg (by omega)]
      have ih := ways_moved (n := n) (sp := r) (e := s) (sh := sh + p.length - (s - f)) (h4.mono (Nat.le_succ s)) (by omega) a2
      have e2 : s + (i - (f - e + (s - f))) + 1 = e + i + 1 := by omega
      rw [e2] at ih
      exact ih
/-- further places go beyond -/
theorem ways_gt {n : Nat} : ∀ {sp : List Span} {e told : Nat}, Val n (e + 1) sp → ∀ x ∈ ways n e told sp, told < x.1
  | [], e, told, _, x, h => by
    obtain ⟨i, _, rfl⟩ := List.mem_map.mp h
    show told < told + 1 + i
    omega
  | (f, s, p) :: r, e, told, ⟨h1, h2, h3, h4⟩, x, h => by
    unfold ways at h
    rcases List.mem_append.mp h with h | h
    · rcases List.mem_append.mp h with h | h
      · obtain ⟨i, _, rfl⟩ := List.mem_map.mp h
        show told < told + 1 + i
        omega
      · obtain ⟨i, _, rfl⟩ := List.mem_map.mp h
        show told < told + (f - e) + p.length
        omega
    · have := ways_gt h4 x h
      omega
/-- the row that leads back -/
def backs (t : List Nat) : Nat → Nat → List Span → List Span
  | _, _, [] => []
  | e, told, (f, s, p) :: r => (told + (f - e), told + (f - e) + p.length, cut t f s) :: backs t s (told + (f - e) + p.length) r
theorem ways_back {t : List Nat} : ∀ {sp : List Span} {e told i to ag : Nat} {st : Bool}, Val t.length e sp → (ways t.length e told sp)[i]? = some (to, st, ag) → moved (backs t e told sp) (to : Int) ((e : Int) - told) = ag
  | [], e, told, i, to, ag, st, _, h => by
    obtain ⟨hi, e1⟩ := rng_get h
    cases e1
    show ((told + 1 + i : Nat) : Int) + ((e : Int) - told) = _
    omega
  | (f, s, p) :: r, e, told, i, to, ag, st, ⟨h1, h2, h3, h4⟩, h => by
    unfold ways at h
    unfold backs moved
    rcases get3 h with ⟨a1, a2⟩ | ⟨a0, a1, a2⟩ | ⟨a1, a2⟩
    · obtain ⟨hi, e1⟩ := rng_get a2
      cases e1
      rw [if_pos (by omega)]
      omega
    · rw [List.length_map, List.length_range] at a0 a1 a2
      rw [List.length_map, List.length_range] at a1
      obtain ⟨hi, e1⟩ := rng_get a2
      cases e1
      by_cases hp : p = []
      · subst hp
        rw [if_pos (by simp), if_pos rfl]
        simp
        omega
      · have : 0 < p.length := List.length_pos_iff.mpr hp
        rw [if_neg (by omega), if_pos (by omega), if_neg hp, cut_len h3]
        omega
    · have hm := List.mem_of_getElem? a2
      have hg := ways_gt h4 _ hm
      have hg : told + (f - e) + p.length < to := hg
      rw [if_neg (by omega), if_neg (by omega)]
      have ih := ways_back (t := t) (sp := r) (h4.mono (Nat.le_succ s)) a2
      rw [cut_len h3]
      have e2 : (e : Int) - told + ((s - f : Nat) : Int) - (((told + (f - e) + p.length : Nat) : Int) - ((told + (f - e) : Nat) : Int)) = (s : Int) - ((told + (f - e) + p.length : Nat) : Int) := by omega
      rw [e2]
      exact ih
theorem moved_0 {n : Nat} : ∀ {sp : List Span}, moved sp 0 0 = 0
  | [] => rfl
  | (f, s, p) :: r => by
    unfold moved
    rw [if_pos (by omega)]
    rfl
theorem cut_app {t : List Nat} {a b c : Nat} (h1 : a ≤ b) (h2 : b ≤ c) : cut t a b ++ cut t b c = cut t a c := by
  unfold cut
  have e1 : t.drop b = (t.drop a).drop (b - a) := by rw [List.drop_drop]; congr 1; omega
  have e2 : c - a = (b - a) + (c - b) := by omega
  rw [e1, e2, List.take_add]
theorem cut_drop {t : List Nat} {a b : Nat} (h1 : a ≤ b) : cut t a b ++ t.drop b = t.drop a := by
  unfold cut
  have e1 : t.drop b = (t.drop a).drop (b - a) := by rw [List.drop_drop]; congr 1; omega
  rw [e1]
  exact List.take_append_drop _ _
theorem cut_pre {pre x y : List Nat} {a b : Nat} (ha : pre.length = a) (hb : a + x.length = b) : cut (pre ++ (x ++ y)) a b = x := by
  subst ha
  subst hb
  unfold cut
  rw [List.drop_left]
  rw [show pre.length + x.length - pre.length = x.length by omega, List.take_left]
/-- the row back is a row, and leads back -/
theorem backs_val {t : List Nat} : ∀ {sp : List Span} {e told b : Nat} {pre : List Nat}, Val t.length e sp → (∀ f s p r, sp = (f, s, p) :: r → b ≤ told + (f - e)) → e ≤ t.length → pre.length = told → Val (pre ++ replaced t e sp).length b (backs t e told sp)
  | [], _, _, _, _, _, _, _, _ => trivial
  | (f, s, p) :: r, e, told, b, pre, ⟨h1, h2, h3, h4⟩, hb, he, hp => by
    unfold backs replaced
    have hb := hb f s p r rfl
    have hc : (cut t e f).length = f - e := cut_len (by omega)
    refine ⟨by omega, by omega, ?_, ?_⟩
    · simp only [List.length_append, hc]
      omega
    · have ih := backs_val (t := t) (sp := r) (e := s) (told := told + (f - e) + p.length) (b := told + (f - e) + p.length + 1) (pre := pre ++ cut t e f ++ p) (h4.mono (Nat.le_succ s)) (fun f' s' p' r' e' => ?_) h3 (by simp only [List.length_append, hc]; omega)
      · simpa [List.append_assoc] using ih
      · subst e'
        have := h4.1
        omega
theorem backs_replaced {t : List Nat} : ∀ {sp : List Span} {e told : Nat} {pre : List Nat}, Val t.length e sp → e ≤ t.length → pre.length = told → replaced (pre ++ replaced t e sp) told (backs t e told sp) = t.drop e
  | [], e, told, pre, _, _, hp => by
    subst hp
    show (pre ++ t.drop e).drop pre.length = _
    rw [List.drop_left]
  | (f, s, p) :: r, e, told, pre, ⟨h1, h2, h3, h4⟩, he, hp => by
    unfold backs
    show cut _ told (told + (f - e)) ++ cut t f s ++ replaced _ (told + (f - e) + p.length) _ = _
    have hc : (cut t e f).length = f - e := cut_len (by omega)
    have ih := backs_replaced (t := t) (sp := r) (e := s) (told := told + (f - e) + p.length) (pre := pre ++ cut t e f ++ p) (h4.mono (Nat.le_succ s)) h3 (by simp only [List.length_append, hc]; omega)
    have e1 : pre ++ replaced t e ((f, s, p) :: r) = pre ++ cut t e f ++ p ++ replaced t s r := by
      show pre ++ (cut t e f ++ p ++ replaced t s r) = _
      simp [List.append_assoc]
    rw [e1, ih]
    have e2 : cut (pre ++ cut t e f ++ p ++ replaced t s r) told (told + (f - e)) = cut t e f := by
      have := cut_pre (pre := pre) (x := cut t e f) (y := p ++ replaced t s r) (a := told) (b := told + (f - e)) hp (by rw [hc])
      have e3 : pre ++ cut t e f ++ p ++ replaced t s r = pre ++ (cut t e f ++ (p ++ replaced t s r)) := by simp [List.append_assoc]
      rw [e3]
      exact this
    rw [e2, List.append_assoc, cut_drop h2, cut_drop h1]

/-! ### two rows as one -/
def rng (a b : Nat) : List Int := (List.range (b - a)).map fun i => ((a + i : Nat) : Int)
/-- for each sign behind a row its number ahead of it, or -1 -/
def orig (n : Nat) : Nat → List Span → List Int
  | e, [] => rng e n
  | e, (f, s, p) :: r => rng e f ++ List.replicate p.length (-1) ++ orig n s r
theorem rng_len {a b : Nat} : (rng a b).length = b - a := by simp [rng]
theorem orig_len {t : List Nat} : ∀ {sp : List Span} {e : Nat}, Val t.length e sp → (orig t.length e sp).length = (replaced t e sp).length
  | [], e, _ => by simp [orig, replaced, rng_len]
  | (f, s, p) :: r, e, ⟨h1, h2, h3, h4⟩ => by
    have ih := orig_len (t := t) (sp := r) (e := s) (h4.mono (Nat.le_succ s))
    unfold orig replaced
    rw [List.length_append, List.length_append, ih, List.length_append, List.length_append, rng_len, List.length_replicate, cut_len (by omega)]
theorem ways_orig {n : Nat} : ∀ {sp : List Span} {e told i to ag : Nat}, Val n e sp → (ways n e told sp)[i]? = some (to, true, ag) → told < to ∧ (orig n e sp)[to - 1 - told]? = some ((e + i : Nat) : Int)
  | [], e, told, i, to, ag, _, h => by
    obtain ⟨hi, e1⟩ := rng_get h
    cases e1
    refine ⟨by omega, ?_⟩
    show (rng e n)[told + 1 + i - 1 - told]? = _
    have : told + 1 + i - 1 - told = i := by omega
    rw [this]
    unfold rng
    rw [List.getElem?_map, List.getElem?_range hi]
    rfl
  | (f, s, p) :: r, e, told, i, to, ag, ⟨h1, h2, h3, h4⟩, h => by
    unfold ways at h
    unfold orig
    rcases get3 h with ⟨a1, a2⟩ | ⟨a0, a1, a2⟩ | ⟨a1, a2⟩
    · obtain ⟨hi, e1⟩ := rng_get a2
      cases e1
      refine ⟨by omega, ?_⟩
      have : told + 1 + i - 1 - told = i := by omega
      rw [this, List.append_assoc, List.getElem?_append_left (by rw [rng_len]; exact hi)]
      unfold rng
      rw [List.getElem?_map, List.getElem?_range hi]
      rfl
    · rw [List.length_map, List.length_range] at a0 a1 a2
      obtain ⟨hi, e1⟩ := rng_get a2
      cases e1
    · rw [List.length_map, List.length_range, List.length_map, List.length_range] at a1 a2
      obtain ⟨h5, ih⟩ := ways_orig (n := n) (sp := r) (e := s) (h4.mono (Nat.le_succ s)) a2
      refine ⟨by omega, ?_⟩
      rw [List.getElem?_append_right (by rw [List.length_append, rng_len, List.length_replicate]; omega), List.length_append, rng_len, List.length_replicate]
      have e2 : to - 1 - told - (f - e + p.length) = to - 1 - (told + (f - e) + p.length) := by omega
      rw [e2, ih]
      congr 1
      omega
/-- the numbers that are none of -1 rise -/
def Inc : Int → List Int → Prop
  | _, [] => True
  | lo, x :: r => if x < 0 then Inc lo r else lo ≤ x ∧ Inc (x + 1) r
theorem Inc.mono : ∀ {l : List Int} {lo lo' : Int}, Inc lo l → lo' ≤ lo → Inc lo' l
  | [], _, _, _, _ => trivial
  | x :: r, lo, lo', h, hl => by
    unfold Inc at h ⊢
    split
    · rename_i hx
      rw [if_pos hx] at h
      exact h.mono hl
    · rename_i hx
      rw [if_neg hx] at h
      exact ⟨by omega, h.2⟩
theorem Inc.neg {l : List Int} {lo : Int} (h : Inc lo l) : ∀ (m : Nat), Inc lo (List.replicate m (-1) ++ l)
  | 0 => h
  | m + 1 => by
    rw [List.replicate_succ, List.cons_append]
    unfold Inc
    rw [if_pos (by decide)]
    exact h.neg m
theorem Inc.rng : ∀ {m a : Nat} {l : List Int}, Inc ((a + m : Nat) : Int) l → Inc a (((List.range m).map fun i => ((a + i : Nat) : Int)) ++ l)
  | 0, a, l, h => by simpa using h
  | m + 1, a, l, h => by
    rw [List.range_succ_eq_map, List.map_cons, List.cons_append]
    unfold Inc
    rw [if_neg (by omega)]
    refine ⟨by omega, ?_⟩
    have ih := Inc.rng (m := m) (a := a + 1) (l := l) (by rw [show a + 1 + m = a + (m + 1) by omega]; exact h)
    have e3 : (List.map (fun i => ((a + i : Nat) : Int)) (List.map Nat.succ (List.range m))) = (List.range m).map fun i => ((a + 1 + i : Nat) : Int) := by
      rw [List.map_map]
      apply List.map_congr_left
      intro i _
      show ((a + (i + 1) : Nat) : Int) = _
      omega
    rw [e3]
    have e4 : ((a + 0 : Nat) : Int) + 1 = ((a + 1 : Nat) : Int) := by omega
    rw [e4]
    exact ih
theorem orig_inc {n : Nat} : ∀ {sp : List Span} {e : Nat}, Val n e sp → e ≤ n → Inc e (orig n e sp)
  | [], e, _, he => by
    have := Inc.rng (m := n - e) (a := e) (l := []) trivial
    rw [List.append_nil] at this
    exact this
  | (f, s, p) :: r, e, ⟨h1, h2, h3, h4⟩, he => by
    unfold orig
    rw [List.append_assoc]
    have ih := orig_inc (n := n) (sp := r) (e := s) (h4.mono (Nat.le_succ s)) h3
    refine Inc.rng (m := f - e) ?_
    exact (ih.mono (by omega)).neg _
theorem orig_lt {n : Nat} : ∀ {sp : List Span} {e : Nat}, Val n e sp → ∀ x ∈ orig n e sp, x < (n : Int)
  | [], e, _, x, h => by
    obtain ⟨i, hi, rfl⟩ := List.mem_map.mp h
    have := List.mem_range.mp hi
    omega
  | (f, s, p) :: r, e, ⟨h1, h2, h3, h4⟩, x, h => by
    unfold orig at h
    rcases List.mem_append.mp h with h | h
    · rcases List.mem_append.mp h with h | h
      · obtain ⟨i, hi, rfl⟩ := List.mem_map.mp h
        have := List.mem_range.mp hi
        omega
      · have := (List.mem_replicate.mp h).2
        omega
    · exact orig_lt (h4.mono (Nat.le_succ s)) x h
/-- a sign that stays is the same sign -/
theorem orig_get {t : List Nat} : ∀ {sp : List Span} {e j : Nat} {o : Int}, Val t.length e sp → (orig t.length e sp)[j]? = some o → 0 ≤ o → (replaced t e sp)[j]? = t[o.toNat]?
  | [], e, j, o, _, h, ho => by
    obtain ⟨hi, e1⟩ := rng_get h
    subst e1
    show (t.drop e)[j]? = _
    rw [List.getElem?_drop]
    congr 1
  | (f, s, p) :: r, e, j, o, ⟨h1, h2, h3, h4⟩, h, ho => by
    unfold orig at h
    unfold replaced
    have hc : (cut t e f).length = f - e := cut_len (by omega)
    rcases get3 h with ⟨a1, a2⟩ | ⟨a0, a1, a2⟩ | ⟨a1, a2⟩
    · obtain ⟨hi, e1⟩ := rng_get a2
      subst e1
      rw [List.append_assoc, List.getElem?_append_left (by rw [hc]; exact hi), cut_get hi]
      congr 1
    · rw [rng_len] at a0 a1 a2
      rw [List.length_replicate] at a1
      rw [List.getElem?_replicate] at a2
      split at a2
      · cases a2
        omega
      · cases a2
    · rw [rng_len, List.length_replicate] at a1 a2
      rw [List.getElem?_append_right (by rw [List.length_append, hc]; exact a1), List.length_append, hc]
      exact orig_get (h4.mono (Nat.le_succ s)) a2 ho
/-- the one row from what stays -/
def rb (told : List Nat) : Nat → Nat → Nat → List Int → List Span
  | _, _, _, [] => []
  | b, st, a, x :: r => if x < 0 then rb told b st (a + 1) r else (if (b : Int) < x ∨ st < a then [(b, x.toNat, cut told st a)] else []) ++ rb told (x.toNat + 1) (a + 1) (a + 1) r
theorem rb_val {n : Nat} {told : List Nat} : ∀ {l : List Int} {b st a : Nat}, Inc b l → (∀ x ∈ l, x ≤ (n : Int)) → Val n b (rb told b st a l)
  | [], _, _, _, _, _ => trivial
  | x :: r, b, st, a, h, hn => by
    unfold Inc at h
    unfold rb
    split
    · rename_i hx
      rw [if_pos hx] at h
      exact rb_val h fun y hy => hn y (List.mem_cons_of_mem _ hy)
    · rename_i hx
      rw [if_neg hx] at h
      have hxn := hn x List.mem_cons_self
      have ih := rb_val (n := n) (told := told) (l := r) (b := x.toNat + 1) (st := a + 1) (a := a + 1) (h.2.mono (by omega)) fun y hy => hn y (List.mem_cons_of_mem _ hy)
      split
      · exact ⟨by omega, by omega, by omega, ih⟩
      · exact ih.mono (by omega)
theorem rb_moved {told : List Nat} : ∀ {l : List Int} {b st a i : Nat} {o : Nat}, Inc b l → st ≤ a → a + l.length ≤ told.length + 1 → l[i]? = some (o : Int) → moved (rb told b st a l) ((o : Int) + 1) ((st : Int) - b) = ((a + i + 1 : Nat) : Int) ∨ (a + i = told.length)
  | [], _, _, _, i, o, _, _, _, h => by simp at h
  | x :: r, b, st, a, i, o, hI, hst, hlen, h => by
    unfold Inc at hI
    unfold rb
    have hlen' : a + 1 + r.length ≤ told.length + 1 := by simp at hlen; omega
    split
    · rename_i hx
      rw [if_pos hx] at hI
      cases i with
      | zero =>
        simp at h
        omega
      | succ i =>
        have ih := rb_moved (told := told) (l := r) (b := b) (st := st) (a := a + 1) (i := i) (o := o) hI (by omega) hlen' (by simpa using h)
        have e : a + 1 + i = a + (i + 1) := by omega
        rw [e] at ih
        exact ih
    · rename_i hx
      rw [if_neg hx] at hI
      have hcl : a ≤ told.length → ((cut told st a).length : Int) = a - st := fun h => by rw [cut_len h]; omega
      -- the rest's shift
      have step : ∀ y : Int, x.toNat < y → a ≤ told.length → moved ((if (b : Int) < x ∨ st < a then [(b, x.toNat, cut told st a)] else []) ++ rb told (x.toNat + 1) (a + 1) (a + 1) r) y ((st : Int) - b) = moved (rb told (x.toNat + 1) (a + 1) (a + 1) r) y (((a + 1 : Nat) : Int) - ((x.toNat + 1 : Nat) : Int)) := fun y hy ha => by
        split
        · rename_i hc
          rw [List.singleton_append]
          show (if y ≤ (b : Int) then _ else if y ≤ (x.toNat : Int) then _ else _) = _
          rw [if_neg (by omega), if_neg (by omega), hcl ha]
          congr 1
          omega
        · rename_i hc
          rw [List.nil_append]
          congr 1
          omega
      cases i with
      | zero =>
        have e : x = o := by simpa using h
        subst e
        by_cases ha : a = told.length
        · exact .inr (by omega)
        · left
          rw [step _ (by omega) (by simp at hlen; omega)]
          have first : ∀ {l : List Int} {b st a : Nat} {sh : Int}, Inc b l → moved (rb told b st a l) (b : Int) sh = b + sh := fun {l} => by
            induction l with
            | nil => intro b st a sh _; rfl
            | cons z r ih =>
              intro b st a sh hz
              unfold Inc at hz
              unfold rb
              split
              · rename_i h1
                rw [if_pos h1] at hz
                exact ih hz
              · rename_i h1
                rw [if_neg h1] at hz
                split
                · rw [List.singleton_append]
                  show (if (b : Int) ≤ (b : Int) then _ else _) = _
                  rw [if_pos (Int.le_refl _)]
                · rename_i h2
                  rw [List.nil_append]
                  have hb : z = b := by omega
                  have gen : ∀ {l : List Int} {c st a : Nat} {y sh : Int}, Inc c l → y ≤ c → moved (rb told c st a l) y sh = y + sh := fun {l} => by
                    induction l with
                    | nil => intro c st a y sh _ _; rfl
                    | cons w r ih =>
                      intro c st a y sh hw hy
                      unfold Inc at hw
                      unfold rb
                      split
                      · rename_i h1
                        rw [if_pos h1] at hw
                        exact ih hw hy
                      · rename_i h1
                        rw [if_neg h1] at hw
                        split
                        · rw [List.singleton_append]
                          show (if y ≤ (c : Int) then _ else _) = _
                          rw [if_pos hy]
                        · rw [List.nil_append]
                          exact ih (hw.2.mono (by omega)) (by omega)
                  exact gen (hz.2.mono (by omega)) (by omega)
          have e1 : ((o : Int)) + 1 = (((o : Int).toNat + 1 : Nat) : Int) := by omega
          rw [e1, first (hI.2.mono (by omega))]
          omega
      | succ i =>
        have hr : r[i]? = some (o : Int) := by simpa using h
        have hil : i < r.length := (List.getElem?_eq_some_iff.mp hr).1
        have ih := rb_moved (told := told) (l := r) (b := x.toNat + 1) (st := a + 1) (a := a + 1) (i := i) (o := o) (hI.2.mono (by omega)) (Nat.le_refl _) hlen' hr
        -- x < o
        have lt : ∀ {l : List Int} {lo : Int} {i : Nat} {o : Int}, Inc lo l → l[i]? = some o → 0 ≤ o → lo ≤ o := fun {l} => by
          induction l with
          | nil => intro lo i o _ h _; simp at h
          | cons z r ih =>
            intro lo i o hz h ho
            unfold Inc at hz
            cases i with
            | zero =>
              have : z = o := by simpa using h
              subst this
              rw [if_neg (by omega)] at hz
              exact hz.1
            | succ i =>
              split at hz
              · exact ih hz (by simpa using h) ho
              · have := ih hz.2 (by simpa using h) ho
                omega
        have hxo := lt hI.2 hr (by omega)
        rw [step _ (by omega) (by omega)]
        have e : a + 1 + i = a + (i + 1) := by omega
        rw [e] at ih
        exact ih
end Tx
/-! TY: more of texts: the row of two rows; what is a text. -/
namespace Tx

theorem drop_cons {t : List Nat} {e : Nat} (h : e < t.length) : t.drop e = t[e] :: t.drop (e + 1) := List.drop_eq_getElem_cons h
theorem cut_cons {t : List Nat} {e f : Nat} (h : e < t.length) (hf : e + 1 ≤ f) : cut t e f = t[e] :: cut t (e + 1) f := by
  unfold cut
  rw [drop_cons h, show f - e = (f - (e + 1)) + 1 by omega, List.take_succ_cons]
theorem cut_self {t : List Nat} {e : Nat} : cut t e e = [] := by simp [cut]
theorem replaced_step {t : List Nat} {n : Nat} : ∀ {sp : List Span} {e : Nat}, Val n (e + 1) sp → (h : e < t.length) → replaced t e sp = t[e] :: replaced t (e + 1) sp
  | [], e, _, h => drop_cons h
  | (f, s, p) :: r, e, ⟨h1, _⟩, h => by
    show cut t e f ++ p ++ replaced t s r = t[e] :: (cut t (e + 1) f ++ p ++ replaced t s r)
    rw [cut_cons h h1]
    rfl
theorem rb_replaced {t told : List Nat} : ∀ {ks : List Int} {b st a : Nat}, a + ks.length = told.length → Inc b (ks ++ [(t.length : Int)]) → st ≤ a →
    (∀ (j : Nat) o, ks[j]? = some o → 0 ≤ o → o < (t.length : Int) ∧ told[a + j]? = t[o.toNat]?) → replaced t b (rb told b st a (ks ++ [(t.length : Int)])) = told.drop st
  | [], b, st, a, hl, hI, hst, _ => by
    have hl : a = told.length := by simpa using hl
    have hI : Inc b [(t.length : Int)] := hI
    unfold Inc at hI
    rw [if_neg (by omega)] at hI
    have hb := hI.1
    show replaced t b (rb told b st a [(t.length : Int)]) = _
    unfold rb
    rw [if_neg (by omega)]
    show replaced t b (_ ++ []) = _
    rw [List.append_nil]
    split
    · show cut t b b ++ cut told st a ++ t.drop (t.length : Int).toNat = _
      rw [cut_self, List.nil_append, Int.toNat_natCast, List.drop_length, List.append_nil]
      unfold cut
      subst hl
      rw [List.take_of_length_le]
      rw [List.length_drop]
      omega
    · show t.drop b = _
      have e1 : b = t.length := by omega
      have e2 : st = told.length := by omega
      rw [e1, e2, List.drop_length, List.drop_length]
  | x :: ks, b, st, a, hl, hI, hst, hk => by
    have hl' : a + 1 + ks.length = told.length := by simp at hl; omega
    have hI : Inc b (x :: (ks ++ [(t.length : Int)])) := hI
    unfold Inc at hI
    have hk' : ∀ (j : Nat) o, ks[j]? = some o → 0 ≤ o → o < (t.length : Int) ∧ told[a + 1 + j]? = t[o.toNat]? := fun j o h h0 => by
      have := hk (j + 1) o (by simpa using h) h0
      rw [show a + 1 + j = a + (j + 1) by omega]
      exact this
    show replaced t b (rb told b st a (x :: (ks ++ [(t.length : Int)]))) = _
    unfold rb
    split
    · rename_i hx
      rw [if_pos hx] at hI
      exact rb_replaced hl' hI (by omega) hk'
    · rename_i hx
      rw [if_neg hx] at hI
      obtain ⟨h1, h2⟩ := hk 0 x rfl (by omega)
      have hxl : x.toNat < t.length := by omega
      have hal : a < told.length := by omega
      have e1 : t[x.toNat] = told[a] := by
        rw [Nat.add_zero, List.getElem?_eq_getElem hal, List.getElem?_eq_getElem hxl] at h2
        exact (Option.some.inj h2).symm
      have ih := rb_replaced (t := t) (told := told) (ks := ks) (b := x.toNat + 1) (st := a + 1) (a := a + 1) hl' (hI.2.mono (by omega)) (Nat.le_refl _) hk'
      have hv : Val t.length (x.toNat + 1) (rb told (x.toNat + 1) (a + 1) (a + 1) (ks ++ [(t.length : Int)])) := rb_val (hI.2.mono (by omega)) fun y hy => by
        rcases List.mem_append.mp hy with hy | hy
        · obtain ⟨j, hj⟩ := List.mem_iff_getElem?.mp hy
          by_cases y0 : 0 ≤ y
          · have := (hk' j y hj y0).1
            omega
          · omega
        · have : y = t.length := by simpa using hy
          omega
      have go : replaced t x.toNat (rb told (x.toNat + 1) (a + 1) (a + 1) (ks ++ [(t.length : Int)])) = told.drop a := by
        rw [replaced_step hv hxl, ih, e1]
        exact (drop_cons hal).symm
      split
      · rw [List.singleton_append]
        show cut t b b ++ cut told st a ++ replaced t x.toNat _ = _
        rw [cut_self, List.nil_append, go, cut_drop hst]
      · rename_i hc
        rw [List.nil_append]
        have e2 : b = x.toNat := by omega
        have e3 : st = a := by omega
        rw [e2, e3]
        exact go
/-- the second row's numbers through the first -/
def comp (first second : List Int) : List Int := second.map fun a => if a ≥ 0 then first.getD a.toNat (-1) else -1
theorem inc_lt : ∀ {l : List Int} {lo : Int} {i j : Nat} {x y : Int}, Inc lo l → i < j → l[i]? = some x → l[j]? = some y → 0 ≤ x → 0 ≤ y → x < y
  | [], _, i, j, x, y, _, _, h, _, _, _ => by simp at h
  | z :: r, lo, 0, j + 1, x, y, hI, _, hx, hy, x0, y0 => by
    have e : z = x := by simpa using hx
    subst e
    unfold Inc at hI
    rw [if_neg (by omega)] at hI
    have low : ∀ {l : List Int} {lo : Int} {i : Nat} {o : Int}, Inc lo l → l[i]? = some o → 0 ≤ o → lo ≤ o := fun {l} => by
      induction l with
      | nil => intro lo i o _ h _; simp at h
      | cons z r ih =>
        intro lo i o hz h ho
        unfold Inc at hz
        cases i with
        | zero =>
          have : z = o := by simpa using h
          subst this
          rw [if_neg (by omega)] at hz
          exact hz.1
        | succ i =>
          split at hz
          · exact ih hz (by simpa using h) ho
          · have := ih hz.2 (by simpa using h) ho
            omega
    have := low hI.2 (by simpa using hy) y0
    omega
  | z :: r, lo, i + 1, j + 1, x, y, hI, hij, hx, hy, x0, y0 => by
    unfold Inc at hI
    split at hI
    · exact inc_lt (i := i) (j := j) hI (by omega) (by simpa using hx) (by simpa using hy) x0 y0
    · exact inc_lt (i := i) (j := j) hI.2 (by omega) (by simpa using hx) (by simpa using hy) x0 y0
theorem comp_inc {first : List Int} {l0 : Int} (hf : Inc l0 first) : ∀ {second : List Int} {lo : Nat} {v : Int}, Inc lo second → (∀ (i : Nat) x, lo ≤ i → first[i]? = some x → 0 ≤ x → v ≤ x) → Inc v (comp first second)
  | [], _, _, _, _ => trivial
  | a :: r, lo, v, hI, hv => by
    unfold Inc at hI
    show Inc v ((if a ≥ 0 then first.getD a.toNat (-1) else -1) :: comp first r)
    unfold Inc
    by_cases ha : a < 0
    · rw [if_pos ha] at hI
      rw [if_neg (by omega : ¬ a ≥ 0), if_pos (by decide)]
      exact comp_inc hf hI hv
    · rw [if_neg ha] at hI
      rw [if_pos (by omega : a ≥ 0)]
      have hI2 : Inc ((a.toNat + 1 : Nat) : Int) r := by
        have e : ((a.toNat + 1 : Nat) : Int) = a + 1 := by omega
        rw [e]
        exact hI.2
      cases e : first[a.toNat]? with
      | none =>
        have : first.getD a.toNat (-1) = -1 := by rw [List.getD_eq_getElem?_getD, e]; rfl
        rw [this, if_pos (by decide)]
        exact comp_inc hf hI2 fun i x hi => hv i x (by omega)
      | some y =>
        have : first.getD a.toNat (-1) = y := by rw [List.getD_eq_getElem?_getD, e]; rfl
        rw [this]
        split
        · exact comp_inc hf hI2 fun i x hi => hv i x (by omega)
        · rename_i hy
          refine ⟨hv a.toNat y (by omega) e (by omega), comp_inc hf hI2 fun i x hi hx x0 => ?_⟩
          have := inc_lt hf (show a.toNat < i by omega) e hx (by omega) x0
          omega
theorem inc_snoc : ∀ {l : List Int} {lo n : Int}, Inc lo l → (∀ x ∈ l, x < n) → lo ≤ n → 0 ≤ n → Inc lo (l ++ [n])
  | [], lo, n, _, _, h, h0 => by
    show Inc lo [n]
    unfold Inc
    rw [if_neg (by omega)]
    exact ⟨h, trivial⟩
  | x :: r, lo, n, hI, hn, h, h0 => by
    show Inc lo (x :: (r ++ [n]))
    unfold Inc at hI ⊢
    have hx := hn x List.mem_cons_self
    split
    · rename_i z
      rw [if_pos z] at hI
      exact inc_snoc hI (fun y hy => hn y (List.mem_cons_of_mem _ hy)) h h0
    · rename_i z
      rw [if_neg z] at hI
      exact ⟨hI.1, inc_snoc hI.2 (fun y hy => hn y (List.mem_cons_of_mem _ hy)) (by omega) h0⟩

/-- both rows as one -/
structure Both (t : List Nat) (sp more : List Span) : Prop where
  v1 : Val t.length 0 sp
  v2 : Val (replaced t 0 sp).length 0 more
def kept (t : List Nat) (sp more : List Span) : List Int := comp (orig t.length 0 sp) (orig (replaced t 0 sp).length 0 more)
def lastT (t : List Nat) (sp more : List Span) : List Nat := replaced (replaced t 0 sp) 0 more
def bothS (t : List Nat) (sp more : List Span) : List Span := rb (lastT t sp more) 0 0 0 (kept t sp more ++ [(t.length : Int)])
section
variable {t : List Nat} {sp more : List Span}
theorem Both.len (B : Both t sp more) : (kept t sp more).length = (lastT t sp more).length := by
  unfold kept comp lastT
  rw [List.length_map]
  exact orig_len B.v2
theorem Both.get (B : Both t sp more) {j : Nat} {o : Int} (h : (kept t sp more)[j]? = some o) (h0 : 0 ≤ o) : o < (t.length : Int) ∧ (lastT t sp more)[j]? = t[o.toNat]? := by
  unfold kept comp at h
  rw [List.getElem?_map] at h
  cases e : (orig (replaced t 0 sp).length 0 more)[j]? with
  | none =>
    rw [e] at h
    cases h
  | some a =>
    rw [e] at h
    have h : (if a ≥ 0 then (orig t.length 0 sp).getD a.toNat (-1) else -1) = o := Option.some.inj h
    by_cases ha : a ≥ 0
    · rw [if_pos ha, List.getD_eq_getElem?_getD] at h
      cases e2 : (orig t.length 0 sp)[a.toNat]? with
      | none =>
        rw [e2] at h
        have : (-1 : Int) = o := h
        omega
      | some o' =>
        rw [e2] at h
        have h : o' = o := h
        subst h
        refine ⟨orig_lt B.v1 _ (List.mem_of_getElem? e2), ?_⟩
        unfold lastT
        rw [orig_get B.v2 e ha, orig_get B.v1 e2 h0]
    · rw [if_neg ha] at h
      omega
theorem Both.lt (B : Both t sp more) : ∀ x ∈ kept t sp more, x < (t.length : Int) := fun x hx => by
  obtain ⟨j, hj⟩ := List.mem_iff_getElem?.mp hx
  by_cases h0 : 0 ≤ x
  · exact (B.get hj h0).1
  · omega
theorem Both.inc (B : Both t sp more) : Inc 0 (kept t sp more ++ [(t.length : Int)]) :=
  inc_snoc (comp_inc (orig_inc B.v1 (Nat.zero_le _)) (orig_inc B.v2 (Nat.zero_le _)) fun i x _ _ h => h) B.lt (by omega) (by omega)
theorem Both.val (B : Both t sp more) : Val t.length 0 (bothS t sp more) := rb_val B.inc fun x hx => by
  rcases List.mem_append.mp hx with hx | hx
  · exact Int.le_of_lt (B.lt x hx)
  · have : x = t.length := by simpa using hx
    omega
theorem Both.told (B : Both t sp more) : replaced t 0 (bothS t sp more) = lastT t sp more := by
  have := rb_replaced (t := t) (told := lastT t sp more) (ks := kept t sp more) (b := 0) (st := 0) (a := 0) (by rw [B.len, Nat.zero_add]) B.inc (Nat.le_refl _) fun j o h h0 => by
    rw [Nat.zero_add]
    exact B.get h h0
  exact this
/-- a place whose sign stays by both goes alike -/
theorem Both.moved (B : Both t sp more) {i to ag due ag2 : Nat} (h1 : (ways t.length 0 0 sp)[i]? = some (to, true, ag)) (h2 : (ways (replaced t 0 sp).length 0 0 more)[to - 1]? = some (due, true, ag2)) : Tx.moved (bothS t sp more) ((i : Int) + 1) 0 = due := by
  obtain ⟨g1, o1⟩ := ways_orig B.v1 h1
  obtain ⟨g2, o2⟩ := ways_orig B.v2 h2
  rw [Nat.zero_add, Nat.sub_zero] at o1 o2
  have hk : (kept t sp more)[due - 1]? = some ((i : Nat) : Int) := by
    unfold kept comp
    rw [List.getElem?_map, o2]
    show some (if ((to - 1 : Nat) : Int) ≥ 0 then (orig t.length 0 sp).getD ((to - 1 : Nat) : Int).toNat (-1) else -1) = _
    rw [if_pos (by omega), List.getD_eq_getElem?_getD, Int.toNat_natCast, o1]
    rfl
  have hl : due - 1 < (kept t sp more).length := (List.getElem?_eq_some_iff.mp hk).1
  have := rb_moved (told := lastT t sp more) (l := kept t sp more ++ [(t.length : Int)]) (b := 0) (st := 0) (a := 0) (i := due - 1) (o := i) B.inc (Nat.le_refl _) (by rw [List.length_append, B.len]; simp) (by rw [List.getElem?_append_left hl]; exact hk)
  rcases this with h | h
  · have e : ((0 : Nat) : Int) - ((0 : Nat) : Int) = 0 := rfl
    rw [e] at h
    unfold bothS
    rw [h]
    omega
  · rw [B.len] at hl
    omega
end

/-! ### what is a text -/
theorem isLine_app {a b : List Nat} (h : isLine (a ++ b) = true) : isLine a = true ∧ isLine b = true := by
  unfold isLine at h ⊢
  simp only [Bool.and_eq_true, decide_eq_true_eq, List.length_append, List.all_append] at h ⊢
  exact ⟨⟨by omega, h.2.1⟩, ⟨by omega, h.2.2⟩⟩
theorem isText_app {a b : List Nat} (h : isText (a ++ b) = true) : isText a = true ∧ isText b = true := by
  obtain ⟨i, p, ea⟩ := lines_split a
  obtain ⟨q, r, eb⟩ := lines_cons b
  have e := lines_app a b ea eb
  unfold isText at h ⊢
  rw [e] at h
  rw [ea, eb]
  simp only [Bool.and_eq_true, decide_eq_true_eq, List.length_append, List.all_append, List.length_cons, List.all_cons, List.length_nil, List.all_nil] at h ⊢
  have := isLine_app h.2.2.1
  exact ⟨⟨by omega, h.2.1, this.1, trivial⟩, ⟨by omega, this.2, h.2.2.2⟩⟩
theorem isText_cut {t : List Nat} {a b : Nat} (h : isText t = true) : isText (cut t a b) = true := by
  unfold cut
  have h1 := (isText_app (a := t.take a) (b := t.drop a) (by rw [List.take_append_drop]; exact h)).2
  exact (isText_app (a := (t.drop a).take (b - a)) (b := (t.drop a).drop (b - a)) (by rw [List.take_append_drop]; exact h1)).1
theorem lines_le : ∀ (l : List Nat), ∀ p ∈ lines l, p.length ≤ l.length ∧ ∀ c ∈ p, c ∈ l := fun l p hp => by
  induction l generalizing p with
  | nil =>
    have : p = [] := by simpa [lines] using hp
    subst this
    simp
  | cons c r ih =>
    obtain ⟨q, t, e⟩ := lines_cons r
    by_cases hc : c = 10
    · subst hc
      rw [lines_nl] at hp
      rcases List.mem_cons.mp hp with rfl | hp
      · simp
      · obtain ⟨a, b⟩ := ih p hp
        exact ⟨by rw [List.length_cons]; omega, fun x hx => List.mem_cons_of_mem _ (b x hx)⟩
    · rw [lines_c hc e] at hp
      rw [e] at ih
      rcases List.mem_cons.mp hp with rfl | hp
      · obtain ⟨a, b⟩ := ih q List.mem_cons_self
        refine ⟨by rw [List.length_cons, List.length_cons]; omega, fun x hx => ?_⟩
        rcases List.mem_cons.mp hx with rfl | hx
        · exact List.mem_cons_self
        · exact List.mem_cons_of_mem _ (b x hx)
      · obtain ⟨a, b⟩ := ih p (List.mem_cons_of_mem _ hp)
        exact ⟨by rw [List.length_cons]; omega, fun x hx => List.mem_cons_of_mem _ (b x hx)⟩
theorem isText_small {l : List Nat} (h : l.length ≤ 100) (hc : ∀ c ∈ l, c = 10 ∨ isSign c = true) : isText l = true := by
  unfold isText
  rw [Bool.and_eq_true, decide_eq_true_eq, lines_len]
  refine ⟨by have := List.count_le_length (a := 10) (l := l); omega, List.all_eq_true.mpr fun p hp => ?_⟩
  obtain ⟨a, b⟩ := lines_le l p hp
  unfold isLine
  rw [Bool.and_eq_true, decide_eq_true_eq]
  refine ⟨by omega, List.all_eq_true.mpr fun c hcp => ?_⟩
  rcases hc c (b c hcp) with rfl | h
  · exact absurd hcp (lines_free l p hp)
  · exact h
end Tx
/-! TZ: texts again: bounds on what a row of spans makes of a text. Plain Lean. -/
namespace Tx
/-- lines of at most m signs, the first of at most c -/
def Lim : Nat → Nat → List Nat → Prop
  | _, _, [] => True
  | c, m, x :: r => if x = 10 then Lim m m r else 0 < c ∧ Lim (c - 1) m r
theorem Lim.mono {m m' : Nat} (hm : m ≤ m') : ∀ {l : List Nat} {c c' : Nat}, c ≤ c' → Lim c m l → Lim c' m' l
  | [], _, _, _, _ => trivial
  | x :: r, c, c', hc, h => by
    show if x = 10 then _ else _
    have h : if x = 10 then Lim m m r else 0 < c ∧ Lim (c - 1) m r := h
    split
    · rename_i e
      rw [if_pos e] at h
      exact Lim.mono hm hm h
    · rename_i e
      rw [if_neg e] at h
      exact ⟨by omega, Lim.mono hm (by omega) h.2⟩
theorem Lim.drop {m : Nat} : ∀ {l : List Nat} {c : Nat} (e : Nat), c ≤ m → Lim c m l → Lim m m (l.drop e)
  | l, c, 0, hc, h => Lim.mono (Nat.le_refl _) hc h
  | [], c, e + 1, hc, h => trivial
  | x :: r, c, e + 1, hc, h => by
    have h : if x = 10 then Lim m m r else 0 < c ∧ Lim (c - 1) m r := h
    split at h
    · exact Lim.drop e (Nat.le_refl _) h
    · exact Lim.drop e (by omega) h.2
/-- behind the first line feed there is room again -/
theorem Lim.l1 {m k : Nat} {b x : List Nat} : ∀ {a : List Nat} {c : Nat}, c ≤ m → Lim c m (a ++ b) → Lim k (m + k) x → Lim (c + k) (m + k) (a ++ x)
  | [], c, hc, h, hx => Lim.mono (Nat.le_refl _) (by omega) hx
  | y :: a, c, hc, h, hx => by
    have h : if y = 10 then Lim m m (a ++ b) else 0 < c ∧ Lim (c - 1) m (a ++ b) := h
    show if y = 10 then _ else _
    split
    · rename_i e
      rw [if_pos e] at h
      exact Lim.l1 (Nat.le_refl _) h hx
    · rename_i e
      rw [if_neg e] at h
      refine ⟨by omega, ?_⟩
      have := Lim.l1 (c := c - 1) (by omega) h.2 hx
      rw [show c - 1 + k = c + k - 1 by omega] at this
      exact this
theorem Lim.l2 {m k : Nat} {b x : List Nat} : ∀ {a : List Nat} {c : Nat}, c ≤ m → c < a.length → Lim c m (a ++ b) → Lim k (m + k) x → Lim c (m + k) (a ++ x)
  | [], c, hc, hl, h, hx => absurd hl (Nat.not_lt_zero _)
  | y :: a, c, hc, hl, h, hx => by
    have h : if y = 10 then Lim m m (a ++ b) else 0 < c ∧ Lim (c - 1) m (a ++ b) := h
    show if y = 10 then _ else _
    split
    · rename_i e
      rw [if_pos e] at h
      exact Lim.l1 (Nat.le_refl _) h hx
    · rename_i e
      rw [if_neg e] at h
      exact ⟨h.1, Lim.l2 (by omega) (by simp at hl; omega) h.2 hx⟩
theorem Lim.pre {m : Nat} {x : List Nat} : ∀ {p : List Nat} {c : Nat}, 10 ∉ p → Lim c m x → Lim (p.length + c) m (p ++ x)
  | [], c, _, h => by simpa using h
  | y :: p, c, hp, h => by
    show if y = 10 then _ else _
    rw [if_neg (fun z => hp (by rw [z]; exact List.mem_cons_self))]
    refine ⟨by rw [List.length_cons]; omega, ?_⟩
    have := Lim.pre (c := c) (p := p) (fun z => hp (List.mem_cons_of_mem _ z)) h
    rw [show (y :: p).length + c - 1 = p.length + c by rw [List.length_cons]; omega]
    exact this
theorem Lim.lines {m : Nat} : ∀ {l : List Nat} {c : Nat}, c ≤ m → Lim c m l → ∃ h t, Tx.lines l = h :: t ∧ h.length ≤ c ∧ ∀ p ∈ t, p.length ≤ m
  | [], c, hc, _ => ⟨[], [], rfl, Nat.zero_le _, fun _ h => nomatch h⟩
  | x :: r, c, hc, h => by
    have h : if x = 10 then Lim m m r else 0 < c ∧ Lim (c - 1) m r := h
    split at h
    · rename_i e
      obtain ⟨a, t, e1, h1, h2⟩ := Lim.lines (Nat.le_refl _) h
      subst e
      refine ⟨[], a :: t, by rw [lines_nl, e1], Nat.zero_le _, fun p hp => ?_⟩
      rcases List.mem_cons.mp hp with z | z
      · rw [z]; exact h1
      · exact h2 p z
    · rename_i e
      obtain ⟨a, t, e1, h1, h2⟩ := Lim.lines (by omega) h.2
      exact ⟨x :: a, t, lines_c e e1, by rw [List.length_cons]; omega, h2⟩
theorem isText_lim {l : List Nat} (h : Lim 100 100 l) (hc : ∀ c ∈ l, c = 10 ∨ isSign c = true) (hn : l.count 10 ≤ 399) : isText l = true := by
  unfold isText
  rw [decide_eq_true (by rw [lines_len]; omega), Bool.true_and, List.all_eq_true]
  intro p hp
  obtain ⟨a, t, e, h1, h2⟩ := Lim.lines (Nat.le_refl _) h
  have hlp : p.length ≤ 100 := by
    rw [e] at hp
    rcases List.mem_cons.mp hp with z | z
    · rw [z]; exact h1
    · exact h2 p z
  unfold isLine
  rw [decide_eq_true hlp, Bool.true_and, List.all_eq_true]
  intro c hcp
  rcases hc c ((lines_le l p hp).2 c hcp) with z | z
  · exact absurd (z ▸ hcp) (lines_free l p hp)
  · exact z
theorem mem_cut {t : List Nat} {a b c : Nat} (h : c ∈ cut t a b) : c ∈ t := List.mem_of_mem_drop (List.mem_of_mem_take h)
theorem mem_replaced {t : List Nat} {c : Nat} : ∀ {sp : List Span} {e : Nat}, c ∈ replaced t e sp → c ∈ t ∨ ∃ x ∈ sp, c ∈ x.2.2
  | [], e, h => .inl (List.mem_of_mem_drop h)
  | (f, s, p) :: r, e, h => by
    have h : c ∈ cut t e f ++ p ++ replaced t s r := h
    rcases List.mem_append.mp h with h | h
    · rcases List.mem_append.mp h with h | h
      · exact .inl (mem_cut h)
      · exact .inr ⟨_, List.mem_cons_self, h⟩
    · rcases mem_replaced h with z | ⟨x, hx, z⟩
      · exact .inl z
      · exact .inr ⟨x, List.mem_cons_of_mem _ hx, z⟩
theorem replaced_len {t : List Nat} {m : Nat} : ∀ {sp : List Span} {e : Nat}, Val t.length e sp → (∀ x ∈ sp, x.2.2.length ≤ m + (x.2.1 - x.1)) → (replaced t e sp).length ≤ (t.length - e) + m * sp.length
  | [], e, _, _ => by simp [replaced]
  | (f, s, p) :: r, e, hv, hp => by
    obtain ⟨v1, v2, v3, v4⟩ := hv
    have h1 := replaced_len (e := s) (v4.mono (Nat.le_succ _)) fun x hx => hp x (List.mem_cons_of_mem _ hx)
    have h2 : p.length ≤ m + (s - f) := hp _ List.mem_cons_self
    show (cut t e f ++ p ++ replaced t s r).length ≤ _
    rw [List.length_append, List.length_append, cut_len (by omega), List.length_cons, Nat.mul_succ]
    omega
theorem replaced_count {t : List Nat} : ∀ {sp : List Span} {e : Nat}, Val t.length e sp → (∀ x ∈ sp, 10 ∉ x.2.2) → (replaced t e sp).count 10 ≤ (t.drop e).count 10
  | [], e, _, _ => Nat.le_refl _
  | (f, s, p) :: r, e, hv, hp => by
    obtain ⟨v1, v2, v3, v4⟩ := hv
    have h1 := replaced_count (e := s) (v4.mono (Nat.le_succ _)) fun x hx => hp x (List.mem_cons_of_mem _ hx)
    have h2 : p.count 10 = 0 := List.count_eq_zero.mpr (hp _ List.mem_cons_self)
    show (cut t e f ++ p ++ replaced t s r).count 10 ≤ _
    rw [List.count_append, List.count_append, h2, ← cut_drop (t := t) v1, ← cut_drop (t := t) v2, List.count_append, List.count_append]
    omega
/-- spans far from one another -/
def Far : Nat → List Span → Prop
  | _, [] => True
  | e, (f, s, _) :: r => e + 41 ≤ f ∧ f ≤ s ∧ Far s r
theorem replaced_lim {t : List Nat} : ∀ {sp : List Span} {e : Nat}, Val t.length e sp → Far e sp → (∀ x ∈ sp, 10 ∉ x.2.2 ∧ x.2.2.length ≤ 20) → Lim 40 40 (t.drop e) → Lim 40 100 (replaced t e sp)
  | [], e, _, _, _, h => Lim.mono (by decide) (Nat.le_refl _) h
  | (f, s, p) :: r, e, hv, hf, hp, h => by
    obtain ⟨v1, v2, v3, v4⟩ := hv
    obtain ⟨f1, f2, f3⟩ := hf
    have hd : Lim 40 40 (t.drop s) := by
      have := h.drop (s - e) (Nat.le_refl _)
      rw [List.drop_drop, show e + (s - e) = s by omega] at this
      exact this
    have ih := replaced_lim (e := s) (v4.mono (Nat.le_succ _)) f3 (fun x hx => hp x (List.mem_cons_of_mem _ hx)) hd
    have h2 := hp _ List.mem_cons_self
    have h3 : Lim 60 100 (p ++ replaced t s r) := (Lim.pre h2.1 ih).mono (Nat.le_refl _) (by have := h2.2; simp at this; omega)
    show Lim 40 100 (cut t e f ++ p ++ replaced t s r)
    rw [List.append_assoc]
    refine Lim.l2 (m := 40) (k := 60) (b := t.drop f) (Nat.le_refl _) (by rw [cut_len (by omega)]; omega) ?_ h3
    rw [cut_drop v1]
    exact h
end Tx
namespace Tx
/-- the law's table, by spans that end with one at the text's end -/
def waysS : Nat → Nat → List Span → List (Nat × Bool × Nat)
  | _, _, [] => []
  | e, told, (f, s, p) :: r => ((List.range (f - e)).map fun i => (told + 1 + i, true, e + 1 + i)) ++ ((List.range (s - f)).map fun _ => (told + (f - e) + p.length, false, if p = [] then f else s)) ++ waysS s (told + (f - e) + p.length) r
theorem ways_S {n : Nat} : ∀ {sp : List Span} {e told : Nat}, ways n e told sp = waysS e told (sp ++ [(n, n, [])])
  | [], e, told => by
    show (List.range (n - e)).map _ = _ ++ _ ++ []
    rw [Nat.sub_self]
    simp
  | (f, s, p) :: r, e, told => by
    show _ ++ _ ++ ways n s _ r = _ ++ _ ++ waysS s _ (r ++ [(n, n, [])])
    rw [ways_S]
def Mon (n : Nat) : Nat → List Span → Prop
  | _, [] => True
  | e, (f, s, _) :: r => e ≤ f ∧ f ≤ s ∧ s ≤ n ∧ Mon n s r
theorem Val.toMon {n : Nat} : ∀ {sp : List Span} {e : Nat}, e ≤ n → Val n e sp → Mon n e (sp ++ [(n, n, [])])
  | [], e, he, _ => ⟨he, Nat.le_refl _, Nat.le_refl _, trivial⟩
  | (f, s, p) :: r, e, he, ⟨v1, v2, v3, v4⟩ => ⟨v1, v2, v3, Val.toMon v3 (v4.mono (Nat.le_succ _))⟩
theorem range_snoc {α : Type} {g : Nat → α} {j : Nat} : (List.range (j + 1)).map g = (List.range j).map g ++ [g j] := by
  rw [List.range_succ, List.map_append]
  rfl
end Tx
namespace Tx
theorem Lim.join {m : Nat} : ∀ {ps : List (List Nat)}, (∀ p ∈ ps, p.length ≤ m ∧ 10 ∉ p) → Lim m m (joinL ps)
  | [], _ => trivial
  | [x], h => by
    have hx := h x List.mem_cons_self
    have := Lim.pre (m := m) (c := 0) (x := []) hx.2 trivial
    rw [List.append_nil] at this
    exact this.mono (Nat.le_refl _) hx.1
  | x :: y :: r, h => by
    have hx := h x List.mem_cons_self
    rw [joinL_cons]
    have h2 : Lim 0 m (10 :: joinL (y :: r)) := by
      show if (10 : Nat) = 10 then _ else _
      rw [if_pos rfl]
      exact Lim.join fun p hp => h p (List.mem_cons_of_mem _ hp)
    exact (Lim.pre hx.2 h2).mono (Nat.le_refl _) hx.1
theorem mem_join {c : Nat} : ∀ {ps : List (List Nat)}, c ∈ joinL ps → c = 10 ∨ ∃ p ∈ ps, c ∈ p
  | [], h => nomatch h
  | [x], h => .inr ⟨x, List.mem_cons_self, h⟩
  | x :: y :: r, h => by
    rw [joinL_cons] at h
    rcases List.mem_append.mp h with h | h
    · exact .inr ⟨x, List.mem_cons_self, h⟩
    · rcases List.mem_cons.mp h with h | h
      · exact .inl h
      · rcases mem_join h with z | ⟨p, hp, z⟩
        · exact .inl z
        · exact .inr ⟨p, List.mem_cons_of_mem _ hp, z⟩
theorem sum_le {m : Nat} : ∀ {ps : List (List Nat)}, (∀ p ∈ ps, p.length ≤ m) → (ps.map (·.length)).sum ≤ m * ps.length
  | [], _ => Nat.zero_le _
  | x :: r, h => by
    rw [List.map_cons, List.sum_cons, List.length_cons, Nat.mul_succ]
    have h1 := sum_le fun p hp => h p (List.mem_cons_of_mem _ hp)
    have h2 := h x List.mem_cons_self
    omega
theorem join_len {m : Nat} : ∀ {ps : List (List Nat)}, (∀ p ∈ ps, p.length ≤ m) → (joinL ps).length ≤ (m + 1) * ps.length
  | [], _ => Nat.zero_le _
  | [x], h => by
    have h2 := h x List.mem_cons_self
    show x.length ≤ _
    simp
    omega
  | x :: y :: r, h => by
    rw [joinL_cons, List.length_append, List.length_cons, List.length_cons, Nat.mul_succ]
    have h1 := join_len fun p hp => h p (List.mem_cons_of_mem _ hp)
    have h2 := h x List.mem_cons_self
    omega
theorem replaced_from {t : List Nat} : ∀ {sp : List Span} {e : Nat}, e ≤ t.length → Val t.length e sp → replaced t 0 sp = cut t 0 e ++ replaced t e sp
  | [], e, he, _ => by
    show t.drop 0 = cut t 0 e ++ t.drop e
    rw [cut_drop (Nat.zero_le _)]
  | (f, s, p) :: r, e, he, ⟨v1, v2, v3, v4⟩ => by
    show cut t 0 f ++ p ++ replaced t s r = cut t 0 e ++ (cut t e f ++ p ++ replaced t s r)
    rw [← cut_app (Nat.zero_le e) v1]
    simp [List.append_assoc]
theorem mem_flat {n c : Nat} {l : List Nat} (h : c ∈ (List.replicate n l).flatten) : c ∈ l := by
  obtain ⟨p, hp, hc⟩ := List.mem_flatten.mp h
  rw [List.eq_of_mem_replicate hp] at hc
  exact hc
theorem len_flat {l : List Nat} : ∀ {n : Nat}, (List.replicate n l).flatten.length = n * l.length
  | 0 => by simp
  | n + 1 => by rw [List.replicate_succ, List.flatten_cons, List.length_append, len_flat, Nat.succ_mul, Nat.add_comm]
/-- the law's big text: 100 q's, and 399 lines of at most 40 signs -/
structure BigT (t : List Nat) : Prop where
  ex : ∃ ps : List (List Nat), t = List.replicate 100 113 ++ 10 :: joinL ps ∧ ps.length = 399 ∧ ∀ p ∈ ps, p.length ≤ 40 ∧ ∀ c ∈ p, isSign c = true
theorem no10 {p : List Nat} (h : ∀ c ∈ p, isSign c = true) : 10 ∉ p := fun z => nomatch h 10 z
theorem BigT.sign {t : List Nat} (B : BigT t) : ∀ c ∈ t, c = 10 ∨ isSign c = true := by
  obtain ⟨ps, rfl, hn, hp⟩ := B.ex
  intro c hc
  rcases List.mem_append.mp hc with h | h
  · rw [List.eq_of_mem_replicate h]
    exact .inr rfl
  · rcases List.mem_cons.mp h with h | h
    · exact .inl h
    · rcases mem_join h with z | ⟨p, hp', z⟩
      · exact .inl z
      · exact .inr ((hp p hp').2 c z)
theorem BigT.count {t : List Nat} (B : BigT t) : t.count 10 ≤ 399 := by
  obtain ⟨ps, rfl, hn, hp⟩ := B.ex
  have h1 := lines_len (joinL ps)
  rw [lines_join ps (by intro z; rw [z] at hn; exact nomatch hn) (fun p h => no10 (hp p h).2), hn] at h1
  rw [List.count_append, List.count_cons, List.count_replicate]
  simp
  omega
theorem BigT.len {t : List Nat} (B : BigT t) : 101 ≤ t.length ∧ t.length ≤ 20000 := by
  obtain ⟨ps, rfl, hn, hp⟩ := B.ex
  have := join_len fun p h => (hp p h).1
  rw [hn] at this
  simp
  omega
theorem BigT.lim {t : List Nat} (B : BigT t) : Lim 40 40 (t.drop 101) := by
  obtain ⟨ps, rfl, hn, hp⟩ := B.ex
  have e : (List.replicate 100 113 ++ 10 :: joinL ps).drop 101 = joinL ps := by
    rw [List.drop_append]
    simp
  rw [e]
  exact Lim.join fun p h => ⟨(hp p h).1, no10 (hp p h).2⟩
theorem BigT.cut {t : List Nat} (B : BigT t) : Tx.cut t 0 101 = List.replicate 100 113 ++ [10] := by
  obtain ⟨ps, rfl, hn, hp⟩ := B.ex
  unfold Tx.cut
  rw [List.drop_zero, List.take_append]
  simp
theorem BigT.behind {t : List Nat} (B : BigT t) {sp : List Span} (hv : Val t.length 101 sp) (hf : Far 101 sp) (hp : ∀ x ∈ sp, x.2.2.length ≤ 20 ∧ ∀ c ∈ x.2.2, isSign c = true) : isText (replaced t 0 sp) = true := by
  refine isText_lim ?_ ?_ ?_
  · rw [replaced_from B.len.1 hv, B.cut, List.append_assoc]
    have h113 : 10 ∉ List.replicate 100 113 := fun z => absurd (List.eq_of_mem_replicate z) (by decide)
    have hl : (List.replicate 100 113).length + 0 = 100 := by rw [List.length_replicate]
    have := Lim.pre (m := 100) (c := 0) (p := List.replicate 100 113) (x := [10] ++ replaced t 101 sp) h113 ?_
    rw [hl] at this
    exact this
    show if (10 : Nat) = 10 then _ else _
    rw [if_pos rfl]
    exact (replaced_lim hv hf (fun x hx => ⟨no10 (hp x hx).2, (hp x hx).1⟩) B.lim).mono (Nat.le_refl _) (by decide)
  · intro c hc
    rcases mem_replaced hc with z | ⟨x, hx, z⟩
    · exact B.sign c z
    · exact .inr ((hp x hx).2 c z)
  · have := replaced_count (e := 0) (hv.mono (Nat.zero_le _)) fun x hx => no10 (hp x hx).2
    rw [List.drop_zero] at this
    exact Nat.le_trans this B.count
theorem BigT.text {t : List Nat} (B : BigT t) : isText t = true := by
  have := B.behind (sp := []) trivial trivial (fun x hx => nomatch hx)
  exact this
end Tx
namespace Tx
theorem val_mem {n : Nat} : ∀ {sp : List Span} {e : Nat}, Val n e sp → ∀ x ∈ sp, e ≤ x.1 ∧ x.1 ≤ x.2.1 ∧ x.2.1 ≤ n
  | (f, s, p) :: r, e, ⟨v1, v2, v3, v4⟩, x, hx => by
    rcases List.mem_cons.mp hx with h | h
    · subst h
      exact ⟨v1, v2, v3⟩
    · have := val_mem v4 x h
      exact ⟨by omega, this.2⟩
theorem Val.wide {n m : Nat} (h : n ≤ m) : ∀ {sp : List Span} {e : Nat}, Val n e sp → Val m e sp
  | [], _, _ => trivial
  | (f, s, p) :: r, e, ⟨v1, v2, v3, v4⟩ => ⟨v1, v2, Nat.le_trans v3 h, v4.wide h⟩
theorem backs_len {t : List Nat} : ∀ {sp : List Span} {e told : Nat}, (backs t e told sp).length = sp.length
  | [], _, _ => rfl
  | (f, s, p) :: r, e, told => by
    show (_ :: backs t s _ r).length = _
    rw [List.length_cons, backs_len, List.length_cons]
theorem mem_backs {t : List Nat} : ∀ {sp : List Span} {e told : Nat}, ∀ x ∈ backs t e told sp, ∃ a b, x.2.2 = cut t a b
  | (f, s, p) :: r, e, told, x, hx => by
    have hx : x ∈ (_, _, cut t f s) :: backs t s _ r := hx
    rcases List.mem_cons.mp hx with h | h
    · exact ⟨f, s, by rw [h]⟩
    · exact mem_backs x h
theorem rb_len {told : List Nat} : ∀ {l : List Int} {b st a : Nat}, (rb told b st a l).length ≤ l.length
  | [], _, _, _ => Nat.le_refl _
  | x :: r, b, st, a => by
    show (if x < 0 then rb told b st (a + 1) r else (if (b : Int) < x ∨ st < a then [(b, x.toNat, cut told st a)] else []) ++ rb told (x.toNat + 1) (a + 1) (a + 1) r).length ≤ _
    rw [List.length_cons]
    split
    · have := rb_len (told := told) (l := r) (b := b) (st := st) (a := a + 1)
      omega
    · have := rb_len (told := told) (l := r) (b := x.toNat + 1) (st := a + 1) (a := a + 1)
      rw [List.length_append]
      split <;> simp <;> omega
theorem mem_rb {told : List Nat} : ∀ {l : List Int} {b st a : Nat}, ∀ x ∈ rb told b st a l, ∃ i j, x.2.2 = cut told i j
  | y :: r, b, st, a, x, hx => by
    have hx : x ∈ (if y < 0 then rb told b st (a + 1) r else (if (b : Int) < y ∨ st < a then [(b, y.toNat, cut told st a)] else []) ++ rb told (y.toNat + 1) (a + 1) (a + 1) r) := hx
    split at hx
    · exact mem_rb x hx
    · rcases List.mem_append.mp hx with h | h
      · split at h
        · rw [List.mem_singleton.mp h]
          exact ⟨st, a, rfl⟩
        · exact nomatch h
      · exact mem_rb x h
theorem ways_le {t : List Nat} : ∀ {sp : List Span} {e told : Nat}, Val t.length e sp → e ≤ t.length → ∀ x ∈ ways t.length e told sp, x.1 ≤ told + (replaced t e sp).length
  | [], e, told, _, he, x, hx => by
    obtain ⟨i, hi, rfl⟩ := List.mem_map.mp hx
    have hi := List.mem_range.mp hi
    show told + 1 + i ≤ told + (t.drop e).length
    rw [List.length_drop]
    omega
  | (f, s, p) :: r, e, told, ⟨v1, v2, v3, v4⟩, he, x, hx => by
    have hx : x ∈ ((List.range (f - e)).map fun i => (told + 1 + i, true, e + 1 + i)) ++ ((List.range (s - f)).map fun _ => (told + (f - e) + p.length, false, if p = [] then f else s)) ++ ways t.length s (told + (f - e) + p.length) r := hx
    show x.1 ≤ told + (cut t e f ++ p ++ replaced t s r).length
    rw [List.length_append, List.length_append, cut_len (by omega)]
    rcases List.mem_append.mp hx with h | h
    · rcases List.mem_append.mp h with h | h
      · obtain ⟨i, hi, rfl⟩ := List.mem_map.mp h
        have hi := List.mem_range.mp hi
        show told + 1 + i ≤ _
        omega
      · obtain ⟨i, hi, rfl⟩ := List.mem_map.mp h
        show told + (f - e) + p.length ≤ _
        omega
    · have := ways_le (v4.mono (Nat.le_succ _)) v3 x h
      omega
theorem ways_mono {n : Nat} : ∀ {sp : List Span} {e told : Nat}, Val n e sp → (ways n e told sp).Pairwise fun x y => x.1 ≤ y.1
  | [], e, told, _ => by
    show ((List.range (n - e)).map _).Pairwise _
    rw [List.pairwise_map]
    exact List.pairwise_lt_range.imp fun h => by show told + 1 + _ ≤ told + 1 + _; omega
  | (f, s, p) :: r, e, told, ⟨v1, v2, v3, v4⟩ => by
    show (((List.range (f - e)).map fun i => (told + 1 + i, true, e + 1 + i)) ++ ((List.range (s - f)).map fun _ => (told + (f - e) + p.length, false, if p = [] then f else s)) ++ ways n s (told + (f - e) + p.length) r).Pairwise _
    have hr : ∀ x ∈ ways n s (told + (f - e) + p.length) r, told + (f - e) + p.length < x.1 := ways_gt v4
    rw [List.pairwise_append, List.pairwise_append]
    refine ⟨⟨?_, ?_, ?_⟩, ways_mono (v4.mono (Nat.le_succ _)), ?_⟩
    · rw [List.pairwise_map]
      exact List.pairwise_lt_range.imp fun h => by show told + 1 + _ ≤ told + 1 + _; omega
    · rw [List.pairwise_map]
      exact List.pairwise_lt_range.imp fun h => Nat.le_refl _
    · intro x hx y hy
      obtain ⟨i, hi, rfl⟩ := List.mem_map.mp hx
      obtain ⟨j, hj, rfl⟩ := List.mem_map.mp hy
      have hi := List.mem_range.mp hi
      show told + 1 + i ≤ told + (f - e) + p.length
      omega
    · intro x hx y hy
      have h2 := hr y hy
      rcases List.mem_append.mp hx with h | h
      · obtain ⟨i, hi, rfl⟩ := List.mem_map.mp h
        have hi := List.mem_range.mp hi
        show told + 1 + i ≤ _
        omega
      · obtain ⟨i, hi, rfl⟩ := List.mem_map.mp h
        show told + (f - e) + p.length ≤ _
        omega
/-- the law's table with the text's begin -/
abbrev W (n : Nat) (sp : List Span) : List (Nat × Bool × Nat) := (0, true, 0) :: ways n 0 0 sp
theorem W_len {n : Nat} {sp : List Span} (hv : Val n 0 sp) : (W n sp).length = n + 1 := by
  rw [List.length_cons, ways_len hv]
  rfl
theorem W_moved {n a to ag : Nat} {st : Bool} {sp : List Span} (hv : Val n 0 sp) (h : (W n sp)[a]? = some (to, st, ag)) : moved sp (a : Int) 0 = to := by
  cases a with
  | zero =>
    rw [List.getElem?_cons_zero] at h
    obtain ⟨rfl, _⟩ := Prod.mk.inj (Option.some.inj h)
    exact moved_0 (n := n)
  | succ i =>
    rw [List.getElem?_cons_succ] at h
    have := ways_moved (sh := 0) hv (by rfl) h
    rw [Nat.zero_add] at this
    exact this
theorem W_back {t : List Nat} {a to ag : Nat} {st : Bool} {sp : List Span} (hv : Val t.length 0 sp) (h : (W t.length sp)[a]? = some (to, st, ag)) : moved (backs t 0 0 sp) (to : Int) 0 = ag := by
  cases a with
  | zero =>
    rw [List.getElem?_cons_zero] at h
    obtain ⟨rfl, h3⟩ := Prod.mk.inj (Option.some.inj h)
    obtain ⟨_, rfl⟩ := Prod.mk.inj h3
    exact moved_0 (n := t.length)
  | succ i =>
    rw [List.getElem?_cons_succ] at h
    exact ways_back hv h
theorem W_le {t : List Nat} {a to ag : Nat} {st : Bool} {sp : List Span} (hv : Val t.length 0 sp) (h : (W t.length sp)[a]? = some (to, st, ag)) : to ≤ (replaced t 0 sp).length := by
  cases a with
  | zero =>
    rw [List.getElem?_cons_zero] at h
    obtain ⟨rfl, _⟩ := Prod.mk.inj (Option.some.inj h)
    exact Nat.zero_le _
  | succ i =>
    rw [List.getElem?_cons_succ] at h
    have := ways_le hv (Nat.zero_le _) _ (List.mem_of_getElem? h)
    rw [Nat.zero_add] at this
    exact this
theorem W_mono {n a b : Nat} {x y : Nat × Bool × Nat} {sp : List Span} (hv : Val n 0 sp) (hab : a ≤ b) (ha : (W n sp)[a]? = some x) (hb : (W n sp)[b]? = some y) : x.1 ≤ y.1 := by
  have hp : (W n sp).Pairwise fun x y => x.1 ≤ y.1 := List.pairwise_cons.mpr ⟨fun y _ => Nat.zero_le _, ways_mono hv⟩
  rcases Nat.lt_or_eq_of_le hab with h | h
  · obtain ⟨la, ea⟩ := List.getElem?_eq_some_iff.mp ha
    obtain ⟨lb, eb⟩ := List.getElem?_eq_some_iff.mp hb
    have := List.pairwise_iff_getElem.mp hp a b la lb h
    rw [ea, eb] at this
    exact this
  · subst h
    rw [ha] at hb
    rw [Option.some.inj hb]
    exact Nat.le_refl _
theorem W_both {t : List Nat} {sp more : List Span} (B : Both t sp more) {a to ag due ag2 : Nat} (h1 : (W t.length sp)[a]? = some (to, true, ag)) (h2 : (W (replaced t 0 sp).length more)[to]? = some (due, true, ag2)) : moved (bothS t sp more) (a : Int) 0 = due := by
  cases a with
  | zero =>
    rw [List.getElem?_cons_zero] at h1
    obtain ⟨rfl, _⟩ := Prod.mk.inj (Option.some.inj h1)
    rw [List.getElem?_cons_zero] at h2
    obtain ⟨rfl, _⟩ := Prod.mk.inj (Option.some.inj h2)
    exact moved_0 (n := t.length)
  | succ i =>
    rw [List.getElem?_cons_succ] at h1
    have hto : 0 < to := (ways_orig B.v1 h1).1
    obtain ⟨j, rfl⟩ : ∃ j, to = j + 1 := ⟨to - 1, by omega⟩
    rw [List.getElem?_cons_succ] at h2
    exact B.moved h1 h2
end Tx
/-! DF: texts as data. -/
namespace DL
open PySem PySem.Spec PyProof.Rows L2
def S (l : List Nat) : Str := ⟨l.toArray⟩
theorem S_len (l : List Nat) : (S l).length = l.length := by simp [S, Str.length]
theorem S_app (a b : List Nat) : S a ++ S b = S (a ++ b) := by
  apply PySem.Str.ext'
  show a.toArray ++ b.toArray = (a ++ b).toArray
  simp
theorem S_cps (l : List Nat) : (S l).cps.toList = l := by simp [S]
theorem S_inj {a b : List Nat} (h : S a = S b) : a = b := by
  have := congrArg (fun z : Str => z.cps.toList) h
  simpa [S] using this
theorem S_eta (z : Str) : S z.cps.toList = z := by
  apply PySem.Str.ext'
  simp [S]
theorem S_eq {z : Str} {l : List Nat} (h : z.cps.toList = l) : z = S l := by rw [← h, S_eta]
def cutL (l : List Nat) (lo hi : Option Int) : List Nat := (l.drop (HT.sIx l.length 0 lo)).take (HT.sIx l.length l.length hi - HT.sIx l.length 0 lo)
theorem S_cut (l : List Nat) (lo hi : Option Int) : cutS (S l) lo hi = S (cutL l lo hi) := by
  unfold cutS cutL
  rw [S_len, S_cps]
  rfl
theorem cutL_nn {l : List Nat} {a b : Nat} (h : a ≤ b) (hb : b ≤ l.length) : cutL l (some (a : Int)) (some (b : Int)) = Tx.cut l a b := by
  unfold cutL Tx.cut
  rw [HT.sIx_nat, HT.sIx_nat, Nat.min_eq_left hb, Nat.min_eq_left (Nat.le_trans h hb)]
theorem cutL_no {l : List Nat} {a : Nat} (h : a ≤ l.length) : cutL l (some (a : Int)) none = l.drop a := by
  unfold cutL
  rw [HT.sIx_nat, HT.sIx_none, Nat.min_eq_left h, List.take_of_length_le]
  rw [List.length_drop]
  omega
theorem cutL_on {l : List Nat} {b : Nat} : cutL l none (some (b : Int)) = l.take b := by
  unfold cutL
  rw [HT.sIx_nat, HT.sIx_none, List.drop_zero, Nat.sub_zero]
  by_cases h : b ≤ l.length
  · rw [Nat.min_eq_left h]
  · rw [Nat.min_eq_right (by omega), List.take_of_length_le (Nat.le_refl _), List.take_of_length_le (by omega)]
/-- texts joined -/
theorem join_nl : ∀ ps : List (List Nat), Str.join (S [10]) (ps.map S) = S (Tx.joinL ps)
  | [] => rfl
  | [x] => rfl
  | x :: y :: r => by
    show S x ++ S [10] ++ Str.join (S [10]) (S y :: r.map S) = S (x ++ 10 :: Tx.joinL (y :: r))
    rw [show (S y :: r.map S) = (y :: r).map S from rfl, join_nl (y :: r), S_app, S_app]
    congr 1
    simp
theorem join_no : ∀ ps : List (List Nat), Str.join (S []) (ps.map S) = S ps.flatten
  | [] => rfl
  | [x] => by simp [Str.join]
  | x :: y :: r => by
    show S x ++ S [] ++ Str.join (S []) (S y :: r.map S) = _
    rw [show (S y :: r.map S) = (y :: r).map S from rfl, join_no (y :: r), S_app, S_app]
    simp
theorem tjoin_nl (ps : List (List Nat)) : Txt.join (S [10]) (ps.map S) = S (Tx.joinL ps) := (PySem.StrLaws.glued_eq_join _ _).trans (join_nl ps)
theorem tjoin_no (ps : List (List Nat)) : Txt.join (S []) (ps.map S) = S ps.flatten := (PySem.StrLaws.glued_eq_join _ _).trans (join_no ps)
theorem split_ne (x y : Str) : Txt.split x y ≠ [] := by
  unfold Txt.split
  split
  · simp
  · split
    · simp
    · rw [PySem.StrLaws.partsBetween_eq]
      obtain ⟨p, r, e⟩ := PySem.StrLaws.partsFrom_ne x y.length 0 (Builtin.Str.occurrences x y 0 x.length (x.length + 1))
      rw [e]
      simp
theorem split_nl (l : List Nat) : Txt.split (S l) (S [10]) = (Tx.lines l).map S := by
  have h1 := PySem.StrLaws.join_split (S l) (S [10])
  have h2 : ∀ p ∈ Txt.split (S l) (S [10]), 10 ∉ p.cps.toList := PySem.StrLaws.split_free (S l) 10
  have h0 := split_ne (S l) (S [10])
  generalize Txt.split (S l) (S [10]) = ps at h1 h2 h0
  have e1 : ps = (ps.map fun z => z.cps.toList).map S := by
    rw [List.map_map]
    conv => lhs; rw [← List.map_id ps]
    apply List.map_congr_left
    intro z _
    exact (S_eta z).symm
  rw [e1, join_nl] at h1
  have h3 := S_inj h1
  rw [← h3, Tx.lines_join _ (by simpa using h0) fun p hp => by
    obtain ⟨z, hz, rfl⟩ := List.mem_map.mp hp
    exact h2 z hz]
  exact e1
/-- one sign before another -/
theorem sign_le (a b : Nat) : (!decide ((S [b]).cps.toList < (S [a]).cps.toList)) = decide (a ≤ b) := by
  rw [S_cps, S_cps]
  by_cases h : a ≤ b
  · have : ¬ [b] < [a] := by
      rw [List.cons_lt_cons_iff]
      simp
      omega
    rw [decide_eq_true h, decide_eq_false this]
    rfl
  · have : [b] < [a] := by
      rw [List.cons_lt_cons_iff]
      left
      omega
    rw [decide_eq_false h, decide_eq_true this]
    rfl
theorem S1 (c : Nat) : (⟨#[c]⟩ : Str) = S [c] := rfl
theorem sgD_S (l : List Nat) : sgD (S l) = l.map fun c => D.str (S [c]) := by
  unfold sgD
  rw [S_cps]
  rfl
section
variable {K : PySem.W.Frag} {ρ : DEnv} {G : Cells} {Q : D → Cells → Prop} {te : TE} {g : TG} {wi : TI} {x y : D} {QI : List D → (Cells → Prop) → Cells → Prop}
theorem rd_addT {a b : List Nat} (hl : a.length + b.length ≤ 100000) (q : Q (.str (S (a ++ b))) G) : RD K (fun x y H Q => ∃ i j, x = .str i ∧ y = .str j ∧ i.length + j.length ≤ sizeLine ∧ Q (.str (i ++ j)) H) (.str (S a)) (.str (S b)) G Q :=
  rd_addS (by rw [S_len, S_len]; exact le_size hl) (by rw [S_app]; exact q)
theorem rs_T {a : List Nat} {lo hi : Option Int} (hl : a.length ≤ 100000) (q : Q (.str (S (cutL a lo hi))) G) : RS K rSlS (.str (S a)) lo hi G Q := rs_S (by rw [S_len]; exact le_size hl) (by rw [S_cut]; exact q)
theorem rc_lenT {a : List Nat} (hl : a.length ≤ 100000) (q : Q (.int a.length) G) : RC K (fun xs H Q => ∃ z, xs = [.str z] ∧ z.length ≤ sizeLine ∧ Q (.int z.length) H) [.str (S a)] G Q := rc_lenS (by rw [S_len]; exact le_size hl) (by rw [S_len]; exact q)
theorem rd_eqT {a b : List Nat} (q : Q (.bl (decide (a = b))) G) : RD K rEq (.str (S a)) (.str (S b)) G Q := rd_eqS (by
  have : decide (S a = S b) = decide (a = b) := by
    by_cases e : a = b
    · subst e; simp
    · rw [decide_eq_false e, decide_eq_false fun z => e (S_inj z)]
  rw [this]
  exact q)
theorem rd_neT {a b : List Nat} (q : Q (.bl (!decide (a = b))) G) : RD K rNe (.str (S a)) (.str (S b)) G Q := rd_neS (by
  have : decide (S a = S b) = decide (a = b) := by
    by_cases e : a = b
    · subst e; simp
    · rw [decide_eq_false e, decide_eq_false fun z => e (S_inj z)]
  rw [this]
  exact q)
theorem rd_leT {a b : Nat} (q : Q (.bl (decide (a ≤ b))) G) : RD K (fun x y H Q => ∃ i j, x = .str i ∧ y = .str j ∧ Q (.bl (!decide (j.cps.toList < i.cps.toList))) H) (.str (S [a])) (.str (S [b])) G Q := rd_leS (by rw [sign_le]; exact q)
theorem rd_ixT' {l : List Nat} {i : Int} {c : Nat} (hl : l.length ≤ 100000) (h0 : 0 ≤ i) (h : l[i.toNat]? = some c) (q : Q (.str (S [c])) G) : RD K rIxS (.str (S l)) (.int i) G Q := rd_ixS (by rw [S_len]; exact le_size hl) (by rw [S_cps]; exact atZ h0 h) q
theorem rm_splitT {l : List Nat} (hl : l.length ≤ 100000) (q : Nw Q ((Tx.lines l).map fun p => D.str (S p)) G) :
    RM K (fun x xs H Q => ∃ a b, x = .str a ∧ xs = [.str b] ∧ (b.length == 0) = false ∧ a.length + 2 ≤ sizeLine ∧ rNewStrs (Txt.split a b) H Q) (.str (S l)) [.str (S [10])] G Q :=
  rm_split rfl (by rw [S_len]; exact Nat.le_trans (Nat.add_le_add_right hl 2) (by decide)) (by rw [split_nl, List.map_map]; exact q)
theorem rm_joinT {ps : List (List Nat)} (hy : IsR G y (ps.map fun p => D.str (S p))) (hl : (ps.map (·.length)).sum ≤ 1000000) (q : Q (.str (S ps.flatten)) G) :
    RM K (fun x xs H Q => ∃ a p, ∃ ys : List Str, x = .str a ∧ xs = [.ref p] ∧ (SqL K H p (ys.map V.str) ∨ SqT K H p (ys.map V.str)) ∧ (ys.map (·.length)).sum + ys.length * a.length ≤ 16777216 ∧ Q (.str (Txt.join a ys)) H) (.str (S [])) [y] G Q := by
  refine rm_join (ys := ps.map S) (by rw [List.map_map]; exact hy) ?_ (by rw [tjoin_no]; exact q)
  rw [List.map_map, S_len]
  have : ps.map ((·.length) ∘ S) = ps.map (·.length) := List.map_congr_left fun p _ => S_len p
  rw [this]
  simp
  omega
theorem rm_joinN {ps : List (List Nat)} (hy : IsR G y (ps.map fun p => D.str (S p))) (hl : (ps.map (·.length)).sum + ps.length ≤ 1000000) (q : Q (.str (S (Tx.joinL ps))) G) :
    RM K (fun x xs H Q => ∃ a p, ∃ ys : List Str, x = .str a ∧ xs = [.ref p] ∧ (SqL K H p (ys.map V.str) ∨ SqT K H p (ys.map V.str)) ∧ (ys.map (·.length)).sum + ys.length * a.length ≤ 16777216 ∧ Q (.str (Txt.join a ys)) H) (.str (S [10])) [y] G Q := by
  refine rm_join (ys := ps.map S) (by rw [List.map_map]; exact hy) ?_ (by rw [tjoin_nl]; exact q)
  rw [List.map_map, S_len]
  have : ps.map ((·.length) ∘ S) = ps.map (·.length) := List.map_congr_left fun p _ => S_len p
  rw [this]
  simp
  omega
theorem rd_mulT {l : List Nat} {n : Nat} (hl : l.length * n ≤ 100000) (hn : n ≤ 100000) (q : Q (.str (S (List.replicate n l).flatten)) G) : RD K rMulS (.str (S l)) (.int (n : Int)) G Q :=
  rd_mulS (by omega) (by omega) (by rw [S_len, Int.toNat_natCast]; exact le_size hl) (by rw [Int.toNat_natCast, S_cps]; exact q)
theorem wi_strT (h : WE K te ρ G fun d G1 => ∃ l, d = .str (S l) ∧ QI (l.map fun c => D.str (S [c])) (fun _ => True) G1) : WI K (iStr te) ρ G QI := wi_str fun w σ ok R p => h w σ ok R fun v d w' G' ⟨l, e, q⟩ => p v d w' G' ⟨S l, e, by rw [sgD_S]; exact q⟩
theorem ex_strT {b : List Nat} {Q : List Nat → Prop} (h : Q b) : ∃ c, D.str (S b) = D.str (S c) ∧ Q c := ⟨b, rfl, h⟩
/-- a comprehension whose items are told by a function -/
theorem we_lcmap {α : Type} {vs : List Nat} (ho : Own g vs) (h : WI K wi ρ G fun ds S G1 => ∃ (as : List α) (enc f : α → D), ds = as.map enc ∧ S G1 ∧ as.length ≤ 100000 ∧ (∀ a ∈ as, WG K g (enc a) (wipeR ρ vs) G1 fun ρ2 G2 => WE K te ρ2 G2 fun y G3 => y = f a ∧ G3 = G1) ∧ Nw Q (as.map f) G1) : WE K (tLc wi g tYes te vs) ρ G Q := by
  refine we_lc ho fun w σ ok R p => h w σ ok R fun J ds S w' G' ⟨as, enc, f, e0, hS, hl, he, q⟩ sq ok' f' => p J ds S w' G' ⟨fun i acc G => acc = (as.take i).map f ∧ G = G', ⟨by simp, rfl⟩, fun i acc G ⟨_, e⟩ => by rw [e]; exact hS, ?_, fun acc G ⟨e1, e2⟩ => ?_⟩ sq ok' f'
  · rintro i d acc G hi ⟨rfl, rfl⟩
    subst e0
    obtain ⟨a, ha, rfl⟩ := map_get hi
    have hm := List.mem_of_getElem? ha
    intro w σ v ok r R p
    refine he a hm w σ v ok r R fun w' G' σ' ρ' q ok' f' => p w' G' σ' ρ' (fun w σ ok R p => p true w _ ?_ ok (Fut.refl w)) ok' f'
    show WE K te ρ' G' _
    intro w σ ok R p
    refine q w σ ok R fun v y w2 G2 ⟨e1, e2⟩ ok2 r2 f2 => p v y w2 G2 ⟨?_, ?_, e2⟩ ok2 r2 f2
    · rw [List.length_map, List.length_take]
      exact lt_size (by have := (List.getElem?_eq_some_iff.mp ha).1; omega)
    · rw [e1, List.take_add_one, ha, List.map_append]
      rfl
  · have e3 : ds.length = as.length := by rw [e0, List.length_map]
    rw [e1, e2, e3, List.take_of_length_le (Nat.le_refl _)]
    exact q
end
end DL
/-! DG: objects of own classes, and dicts. -/
namespace DL
open PySem PySem.Spec PyProof.Rows L2
section
variable {K : PySem.W.Frag} {B : Hp} {ps : List Addr}
theorem RepF.look : ∀ {us : List (Str × V)} {fs : List (Str × D)} {f : Str} {d : D}, RepF K B ps us fs → fs.lookup f = some d → ∃ v, us.lookup f = some v ∧ Rep K B ps v d
  | _, _, f, d, .nil, h => nomatch h
  | (g, v) :: us, (g', e) :: fs, f, d, .cons ⟨e0, r⟩ t, h => by
    have e0 : g = g' := e0
    subst e0
    rw [List.lookup_cons] at h ⊢
    split at h
    · exact ⟨v, rfl, Option.some.inj h ▸ r⟩
    · exact RepF.look t h
theorem RepF.none : ∀ {us : List (Str × V)} {fs : List (Str × D)} {f : Str}, RepF K B ps us fs → fs.lookup f = Option.none → us.lookup f = Option.none
  | _, _, f, .nil, h => rfl
  | (g, v) :: us, (g', e) :: fs, f, .cons ⟨e0, r⟩ t, h => by
    have e0 : g = g' := e0
    subst e0
    rw [List.lookup_cons] at h ⊢
    split at h
    · exact nomatch h
    · exact RepF.none t h
/-- a field laid -/
def putD (f : Str) (d : D) : List (Str × D) → List (Str × D)
  | [] => [(f, d)]
  | (g, x) :: r => if g = f then (g, d) :: r else (g, x) :: putD f d r
theorem RepF.put {f : Str} {v : V} {d : D} (h : Rep K B ps v d) : ∀ {us : List (Str × V)} {fs : List (Str × D)}, RepF K B ps us fs → RepF K B ps (putF f v us) (putD f d fs)
  | _, _, .nil => .cons ⟨rfl, h⟩ .nil
  | (g, u) :: us, (g', e) :: fs, .cons ⟨e0, r⟩ t => by
    have e0 : g = g' := e0
    subst e0
    show RepF K B ps (if g = f then (g, v) :: us else (g, u) :: putF f v us) (if g = f then (g, d) :: fs else (g, e) :: putD f d fs)
    split
    · exact .cons ⟨rfl, h⟩ t
    · exact .cons ⟨rfl, r⟩ (RepF.put h t)
theorem RepF.len : ∀ {us : List (Str × V)} {fs : List (Str × D)}, RepF K B ps us fs → us.length = fs.length
  | _, _, .nil => rfl
  | _, _, .cons _ t => congrArg (· + 1) (RepF.len t)
end
theorem reps_slot {K : PySem.W.Frag} {B : Hp} {ps : List Addr} {vs : List V} {ds : List D} {i : Nat} {d : D} (r : Reps K B ps vs ds) (h : (ds.map some)[i]? = some (some d)) : ∃ v, (vs.map some)[i]? = some (some v) ∧ Rep K B ps v d := by
  rw [List.getElem?_map] at h
  cases e : ds[i]? with
  | none =>
    rw [e] at h
    cases h
  | some d' =>
    rw [e] at h
    cases h
    obtain ⟨v, hv, rv⟩ := r.get e
    exact ⟨v, by rw [List.getElem?_map, hv]; rfl, rv⟩
section
variable {K : PySem.W.Frag} {ρ : DEnv} {G : Cells} {Q : D → Cells → Prop} {ta tb te tv : TE} {nx : DEnv → Cells → Prop} {rt : D → Cells → Prop} {bk ct : DEnv → Cells → Prop} {f : Str}
theorem we_fld (h : WE K ta ρ G fun x G1 => ∃ (k : Nat) (C : Addr) (fs : List (Str × D)) (d : D), x = .ptr k ∧ G1[k]? = some (.ins C fs) ∧ L2.Cls K C ∧ NoAttr K C f ∧ fs.lookup f = some d ∧ Q d G1) : WE K (tFld K ta f) ρ G Q := fun w σ ok R p =>
  h w σ ok _ fun v d w1 G1 ⟨k, C, fs, d', e, hk, hc, hn, hl, q⟩ ok1 r1 f1 => by
    subst e
    cases r1 with
    | ptr hp =>
      obtain ⟨dx, us, hH, rf⟩ := ok1.cs k _ _ hp hk
      obtain ⟨v', hv, rv⟩ := RepF.look rf hl
      exact ⟨_, C, dx, us, v', rfl, hH, hc, hn, hv, p v' d' w1 G1 q ok1 rv f1⟩
theorem ws_fld (h : WE K tv ρ G fun y G1 => WE K ta ρ G1 fun x G2 => ∃ (k : Nat) (C : Addr) (fs : List (Str × D)), x = .ptr k ∧ G2[k]? = some (.ins C fs) ∧ L2.Cls K C ∧ NoAttr K C f ∧ fs.length < 1000 ∧ nx ρ (G2.set k (.ins C (putD f y fs)))) : WS K (sFld K ta tv f) ρ G ⟨nx, rt, bk, ct⟩ := fun w σ ok X l =>
  h w σ ok _ fun v y w1 G1 q1 ok1 r1 f1 => q1 w1 σ ok1 _ fun u x w2 G2 ⟨k, C, fs, e, hk, hc, hn, hlen, q⟩ ok2 r2 f2 => by
    subst e
    cases r2 with
    | ptr hp =>
      obtain ⟨dx, us, hH, rf⟩ := ok2.cs k _ _ hp hk
      obtain ⟨ok3, f3⟩ := ok2.write (o := .ins C dx (putF f v us)) (c' := .ins C (putD f y fs)) hp hk (fun z => nomatch z) ⟨dx, _, upd_same, RepF.put (r1.mono f2.b f2.p) rf⟩
      exact ⟨_, C, dx, us, rfl, hH, hc, hn, by rw [rf.len]; exact hlen, l.nx _ _ _ _ q ok3 ((f1.trans f2).trans f3)⟩
/-- o.m(..), the object a cell -/
theorem we_meth {F : FD} {C : Addr} {m : Str} {dvs : List V} {dds : List D} {E : XK} {t : TA} (hd : ∀ (B : Hp) (ps : List Addr), Reps K B ps dvs dds)
    (h : WE K ta ρ G fun x G1 => ∃ (k : Nat) (fs : List (Str × D)), x = .ptr k ∧ G1[k]? = some (.ins C fs) ∧ fs.lookup m = none ∧ WA K t ρ G1 fun ds G2 => F (.ptr k :: (ds ++ dds)) G2 Q) : WE K (tMeth C m (SpD K F) dvs E ta t) ρ G Q := fun w σ ok R p =>
  h w σ ok _ fun v x w1 G1 ⟨k, fs, e, hk, hm, q⟩ ok1 r1 f1 => by
    subst e
    cases r1 with
    | ptr hp =>
      obtain ⟨dx, us, hH, rf⟩ := ok1.cs k _ _ hp hk
      refine ⟨_, dx, us, rfl, hH, RepF.none rf hm, q w1 σ ok1 _ fun vs ds w2 G2 q2 ok2 r2 f2 => ?_⟩
      have r3 : Reps K w2.B w2.ps (_ :: (vs ++ dvs)) (.ptr k :: (ds ++ dds)) := .cons ((Rep.ptr (K := K) (B := w1.B) hp).mono f2.b f2.p) (r2.append (hd _ _))
      exact ⟨w2, G2, _, Q, rfl, ok2.slots (by rw [List.length_map, List.length_map, r3.length]; exact Nat.le_refl _) fun i d h => reps_slot r3 h, r3.length, q2, fun v d w' G' q' ok' r' f' => p v d w' G' q' (ok2.back ok' f') r' ((f1.trans f2).trans f')⟩
/-- C(..), an own class with its own __init__: a new object -/
theorem we_make {F : FD} {C : Addr} {dvs : List V} {dds : List D} {E : XK} {t : TA} (hd : ∀ (B : Hp) (ps : List Addr), Reps K B ps dvs dds)
    (h : WA K t ρ G fun ds G1 => F (.ptr G1.length :: (ds ++ dds)) (G1 ++ [.ins C []]) fun d G2 => d = .non ∧ Q (.ptr G1.length) G2) : WE K (tMake C (SpD K F) dvs E t) ρ G Q := fun w σ ok R p =>
  h w σ ok _ fun vs ds w1 G1 q ok1 r1 f1 => fun x dx hx hdx hne => by
    obtain ⟨ok2, f2⟩ := ok1.cold (o := .own x) hdx
    have hx2 : upd w1.H dx (.own x) x = none := by
      unfold upd
      rw [if_neg (fun z => hne z.symm)]
      exact hx
    obtain ⟨ok3, f3⟩ := ok2.hot (o := .ins C dx []) (c := .ins C []) hx2 ⟨dx, [], upd_same, .nil⟩
    have f13 := f2.trans f3
    have hl : w1.ps.length = G1.length := ok1.ln
    have rp : (w1.ps ++ [x])[G1.length]? = some x := by rw [← hl]; exact get_last
    have r3 : Reps K (upd w1.B dx (.own x)) (w1.ps ++ [x]) (.ref x :: (vs ++ dvs)) (.ptr G1.length :: (ds ++ dds)) := .cons (.ptr rp) ((r1.mono f13.b f13.p).append (hd _ _))
    exact ⟨_, _, _, _, rfl, ok3.slots (by rw [List.length_map, List.length_map, r3.length]; exact Nat.le_refl _) fun i d h => reps_slot r3 h, r3.length, q, fun v d w' G' ⟨e, q'⟩ ok' r' f' => by
      subst e
      cases r'
      exact ⟨rfl, p _ _ w' G' q' (ok3.back ok' f') ((Rep.ptr (K := K) (B := upd w1.B dx (.own x)) rp).mono f'.b f'.p) ((f1.trans f13).trans f')⟩⟩
end
end DL
/-! DK: del and pop in dicts whose keys are tuples. -/
namespace DL
open PySem PySem.Spec PyProof.Rows L2
theorem kt_drop {H : Hp} (k : List L2.Key) : ∀ {kvs : List (List L2.Key × V)} {xs : List (List L2.Key × Addr × Value)}, KT H kvs xs → KT H (dropK kvs k) (withoutH xs k)
  | _, _, .nil => .nil
  | (j, v) :: kvs, (j', b, u) :: xs, .cons ⟨e, hb, rv⟩ t => by
    have e : j = j' := e
    subst e
    have ih := kt_drop k t
    unfold dropK withoutH at ih ⊢
    by_cases h : j = k
    · rw [List.filter_cons_of_neg (by simp [h]), List.filter_cons_of_neg (by simp [h])]
      exact ih
    · rw [List.filter_cons_of_pos (by simp [h]), List.filter_cons_of_pos (by simp [h])]
      exact .cons ⟨rfl, hb, rv⟩ ih
section
variable {X : Cx} {pins : List (Addr × Obj)} {σ : St} {H : Hp} {s : Shared} {a b : Addr} {kvs : List (List L2.Key × V)} {k : List L2.Key} {v : V} {A : Around} {E : Value → Shared → Prop}
/-- the heap behind the loss of one key -/
theorem t_lost {h' : Heap} {tk : Nat} {xs : List (List L2.Key × Addr × Value)} (I : Inv X pins σ H s) (e : H a = some (.dT kvs)) (rel : KT H kvs xs) (z : kvs.length ≤ sizeLine) (hd : (a == sysModules) = false)
    (dd' : h'.DictOfH (tupleKind (mixKind X.prog X.w)) a (withoutH xs k)) (hs : Heap.SameBut a s.heap h') : Inv X pins σ (upd H a (.dT (dropK kvs k))) { s with heap := h', toks := tk } := by
  obtain ⟨q, es, ep, hq, h2, h3, h4, _, h5⟩ := dd'
  refine d_write I (by rw [e]; exact True.intro) hs ⟨q, hq⟩ ⟨Nat.le_trans (dropK_le kvs k) z, hd, _, (kt_drop k rel).keeps fun c ys ec => ?_, q, es, ep, hq, h2, h3, h4, h5⟩
  rw [upd_ne (ne_of ec e (fun z => nomatch z))]
  exact ec
theorem t_del {Q : Unit → Shared → Prop} (hu : A.units + 1 < cLine) (I : Inv X pins σ H s) (e : H a = some (.dT kvs)) (eb : H b = some (.tup (k.map kV))) (l : (valV kvs k).isSome = true) (h : ∀ s', Inv X pins σ (upd H a (.dT (dropK kvs k))) s' → Q () s') :
    wpAny (model X.prog X.w) A (delItem (.ref a) (.ref b)) Q E s := by
  obtain ⟨z, hd, xs, rel, dd⟩ := dt_of I.hok e
  have hz : xs.length ≤ sizeLine := by rw [← Paired.length rel]; exact z
  have hv := rel.val k
  obtain ⟨p, hp⟩ : ∃ p, atKey xs k = some p := by
    have := hv.isSome_eq
    rw [l, Option.isSome_map] at this
    exact Option.isSome_iff_exists.mp this.symm
  exact wpAny_delItem_heap (hsz := hz) (tupleKind_room_in1 hu) (key_of I.hok eb) hd dd hp fun h' dd' hs => h _ (t_lost I e rel z hd dd' hs)
theorem t_pop {Q : Value → Shared → Prop} (hu : A.units + 1 < cLine) (I : Inv X pins σ H s) (e : H a = some (.dT kvs)) (eb : H b = some (.tup (k.map kV))) (l : valV kvs k = some v) (h : ∀ w' s', Inv X pins σ (upd H a (.dT (dropK kvs k))) s' → RelV v w' → Q w' s') :
    wpAny (model X.prog X.w) A (call (.builtin "dict.pop") [.ref a, .ref b]) Q E s := by
  obtain ⟨z, hd, xs, rel, dd⟩ := dt_of I.hok e
  have hz : xs.length ≤ sizeLine := by rw [← Paired.length rel]; exact z
  have hv := rel.val k
  rw [l] at hv
  cases hp : atKey xs k with
  | none =>
    rw [hp] at hv
    exact (show False from hv).elim
  | some p =>
    rw [hp] at hv
    exact call_pop_heap (hsz := hz) (.inl rfl) (PySem.F.args_dict_pop_2 _ _) (tupleKind_room_in1 hu) (key_of I.hok eb) hd dd hp fun h' dd' hs => h _ _ (t_lost I e rel z hd dd' hs) hv
end
/-- del d[y], the key a tuple -/
def sTDel (td ty : TE) : TS := fun D σ H => td σ H fun x H1 => ty σ H1 fun y H2 => ∃ a b kvs k, x = .ref a ∧ y = .ref b ∧ H2 a = some (.dT kvs) ∧ H2 b = some (.tup (k.map kV)) ∧ (valV kvs k).isSome = true ∧ D.nx σ (upd H2 a (.dT (dropK kvs k)))
/-- d.pop(y), the key a tuple -/
def tTPop (td ty : TE) : TE := fun σ H Q => td σ H fun x H1 => ∃ a, x = .ref a ∧ IsD H1 a ∧ ty σ H1 fun y H2 => ∃ b kvs k v, y = .ref b ∧ H2 a = some (.dT kvs) ∧ H2 b = some (.tup (k.map kV)) ∧ valV kvs k = some v ∧ Q v (upd H2 a (.dT (dropK kvs k)))
section
variable {X : Cx} {o i e : Expr} {pos tpos apos cpos : Pos} {td ty : TE}
theorem ps_tdel (hu : X.A.units + 1 < cLine) (ho : PE X o td) (hi : PE X i ty) : PS X (.Delete [.Subscript o i tpos] pos) (sTDel td ty) := by
  refine ⟨fun pins s σ H D I h => ?_⟩
  refine wpAny_Delete (wpAny_deleteEach_cons (wpAny_delete_Subscript (thn (ho.run pins s σ H _ I h) fun u s1 r1 => ?_)))
  obtain ⟨x, H1, I1, rx, q1⟩ := r1
  refine thn (hi.run pins s1 σ H1 _ I1 q1) fun iv s2 r2 => ?_
  obtain ⟨y, H2, I2, ry, a, b, kvs, k, ex, ey, ea, eb, l, q2⟩ := r2
  subst ex ey
  cases rx
  cases ry
  exact t_del hu I2 ea eb l fun s3 I3 => wpAny_deleteEach_nil ⟨σ, _, I3, q2⟩
theorem pe_tpop (hu : X.A.units + 1 < cLine) (ho : PE X o td) (he : PE X e ty) (m : M1 X o "pop" apos e cpos) : PE X (.Call (.Attribute o "pop" apos) [e] [] cpos) (tTPop td ty) := by
  refine ⟨fun pins s σ H Q I h => wpAny_Call_method m.base m.few m.line PySem.F.plainAttrs_dict PySem.F.slot_dict_pop PySem.F.type_dict_pop (thn (ho.run pins s σ H _ I h) fun u s1 r1 => ?_)⟩
  obtain ⟨x, H1, I1, rx, a, ex, d, q1⟩ := r1
  subst ex
  cases rx
  obtain ⟨t1, t2, _⟩ := isD_at I1 d
  rw [m.trees]
  refine ⟨t1, t2, Calls.callWith_builtin rfl (Calls.evalArgs_plain (Calls.spliced_cons (thn (he.run pins s1 σ H1 _ I1 q1) fun iv s2 r2 => Calls.spliced_nil ?_)))⟩
  obtain ⟨y, H2, I2, ry, b, kvs, k, v, ey, ea, eb, l, q2⟩ := r2
  subst ey
  cases ry
  exact t_pop hu I2 ea eb l fun w' s3 I3 rw' => ⟨v, _, I3, rw', q2⟩
end
end DL
/-! DS: sets of texts: made, added to, sorted; sorted lists of texts of any length. -/
namespace DL
open PySem PySem.Spec PyProof.Rows L2
open PySem.Froz (SD sObj addTx tailTx TxOk add_ok add_x)
/-- the text of a value -/
def kS : Value → Str
  | .str k _ => k
  | _ => ⟨#[]⟩
/-- the payload of a set that holds the texts l -/
structure Pay (P : Program) (w : World) (D : SD) (l : List Str) : Prop where
  ok : TxOk P w D l
  pm : (D.1.toList.map fun e => kS e.2).Perm l
  st : ∀ e ∈ D.1.toList, ∃ k u, e.2 = Value.str k u
  ris : Ris D.2.2.place.toList
  led : w.params.followText "set-order" = true ∨ D.2.2.led = true
section
variable {P : Program} {w : World}
theorem tail_el {ep : Nat} {es : Array (Int × Value)} {t : SetTable} {wd : Bool} : (tailTx ep es t wd).1.toList.Perm es.toList := by
  unfold tailTx
  split
  · exact relayAll_perm t es _
  · exact List.Perm.refl _
theorem tail_ris {ep : Nat} {es : Array (Int × Value)} {t : SetTable} {wd : Bool} (r : Ris t.place.toList) : Ris (tailTx ep es t wd).2.2.place.toList := by
  unfold tailTx
  split
  · exact relayAll_ris t es _
  · exact r
theorem tail_led {ep : Nat} {es : Array (Int × Value)} {t : SetTable} {wd : Bool} : (tailTx ep es t wd).2.2.led = t.led := by
  unfold tailTx
  split
  · exact relayAll_led t es _
  · rfl
theorem Pay.add {D : SD} {l : List Str} {k : Str} (u : Tok) (F : Pay P w D l) : Pay P w (addTx (hashStr w k) (.str k u) D) (k :: l) := by
  have hel : (addTx (hashStr w k) (.str k u) D).1.toList.Perm ((hashStr w k, Value.str k u) :: D.1.toList) := by
    unfold addTx
    refine tail_el.trans ((layNew_perm D.2.2 D.1 (hashStr w k) (.str k u)).trans ?_)
    rw [Array.toList_push]
    exact List.perm_append_singleton _ _
  refine ⟨add_ok u F.ok, (hel.map _).trans ?_, fun e he => ?_, ?_, ?_⟩
  · rw [List.map_cons]
    exact List.Perm.cons k F.pm
  · rcases List.mem_cons.mp (hel.mem_iff.mp he) with h | h
    · exact ⟨k, u, by rw [h]⟩
    · exact F.st e h
  · unfold addTx
    refine tail_ris ?_
    have := layNew_ris D.2.2 D.1 (hashStr w k) (.str k u) F.ris
    split <;> exact this
  · refine F.led.imp id fun h => ?_
    unfold addTx
    rw [tail_led]
    have := (layNew_led D.2.2 D.1 (hashStr w k) (.str k u)).trans h
    split <;> exact this
theorem Pay.nil (P : Program) (w : World) : Pay P w (#[], 0, .fresh 0 0 (!w.params.followText "set-order")) [] := by
  refine ⟨.nil rfl, .refl _, fun e he => by simp at he, ?_, ?_⟩
  · show Ris (SetTable.fresh 0 0 _).place.toList
    exact List.Pairwise.nil
  · cases h : w.params.followText "set-order" with
    | true => exact .inl rfl
    | false => exact .inr rfl
end
/-- the set at a holds the texts l -/
def SetT (P : Program) (w : World) (a : Addr) (l : List Str) : HO := .ext fun h => ∃ D : SD, h.get? a = some (sObj "set" D) ∧ Pay P w D l
section
variable {P : Program} {w : World} {A : Around} {E : Value → Shared → Prop} {s : Shared} {a : Addr} {l : List Str}
theorem strs_kS : ∀ vs : List Value, (∀ v ∈ vs, ∃ k u, v = Value.str k u) → StrsAre vs (vs.map kS)
  | [], _ => .nil
  | v :: vs, h => by
    obtain ⟨k, u, rfl⟩ := h v List.mem_cons_self
    exact .cons k u (strs_kS vs fun x hx => h x (List.mem_cons_of_mem _ hx))
/-- sorted(s), s a set of texts -/
theorem sorted_texts {D : SD} {Q : Value → Shared → Prop} (ho : s.heap.get? a = some (sObj "set" D)) (F : Pay P w D l) (hb : l.length < scanBound) (hh : A.handled = none)
    (hQ : ∀ s' p (out : Array Value) (c : Nat) (ys : List Str), (∀ b o, s.heap.get? b = some o → s'.heap.get? b = some o) → s'.gens = s.gens → s'.os = s.os → s.heap.objs.size ≤ p →
      s'.heap.get? p = some (seqObj "list" out c) → StrsAre out.toList ys → ys.Perm l → sortedS ys = true → Q (.ref p) s') :
    wpAny (model P w) A (call (.builtin "sorted") [.ref a]) Q E s := by
  (refine Calls.call_function_entry kind_sorted plain_sorted entry_sorted (args_sorted1 _) ?_; unfold Builtin.«sorted»; refine wpAny_bind (m := checkCount "sorted" 1 1 _) (wpAny_pure ?_))
  have hsz : D.1.size = l.length := F.ok.sz
  refine wpAny_bind (collect_set (A := A.in1) (t := D.2.2) hh ⟨_, ho, rfl, rfl⟩ F.ok.fit (by omega) F.ris F.led fun s1 vs k1 z1 g1 o1 pm => ?_)
  have hvl : vs.length = l.length := by
    have h := pm.length_eq
    rw [List.length_map] at h
    exact h.trans (Array.length_toList.trans hsz)
  have hS : StrsAre vs (vs.map kS) := strs_kS vs fun v hv => by
    obtain ⟨e, he, q⟩ := List.mem_map.mp (pm.mem_iff.mp hv)
    obtain ⟨k, u, h⟩ := F.st e he
    exact ⟨k, u, by rw [← q]; exact h⟩
  have hP : (vs.map kS).Perm l := by
    have h := pm.map kS
    rw [List.map_map] at h
    exact h.trans F.pm
  have hL : vs.length ≤ sizeLine := by
    rw [hvl]
    exact Nat.le_of_lt (Nat.lt_of_lt_of_le hb (by decide))
  have h2 : (s1.heap.push (seqObj "list" vs.toArray 0)).get? s1.heap.objs.size = some (seqObj "list" vs.toArray 0) := Heap.get?_push_size _ rfl
  refine wpAny_bind (wpAny_newList ?_ hL)
  refine wpAny_bind (wpAny_holding (wpAny_call_entry slot_list_sort ⟨_, h2, rfl⟩ entry_list_sort (list_sort_treeKAny strKind_oneLt h2 hS.keysOf (fun v₁ v₂ r e => keyKind_strs (by rw [← e]; exact hS)) hL fun st' p1 p2 => ⟨_, rfl, ?_⟩) (args_list_sort _)))
  obtain ⟨ys, y1, y2, y3⟩ := sorted_out_str hS p1 p2
  obtain ⟨c, hc⟩ := sortedHeap_at (vs := vs) (out := (arrOf st').map (·.2)) h2
  refine wpAny_pure ⟨_, rfl, hQ _ s1.heap.objs.size _ c ys (fun b u e => ?_) g1 o1 z1 hc y1 (y2.trans hP) y3⟩
  have h3 := k1 b u e
  have h4 := Heap.lt_size h3
  exact (sortedHeap_old (Nat.ne_of_lt h4) (by rw [size_push']; exact Nat.lt_succ_of_lt h4)).trans (Heap.get?_push_of_some _ h3)
end
/-- sorted(s), s a set of texts: a new list -/
def rSortT (P : Program) (w : World) : List V → Hp → VK → Prop := fun vs H Q => ∃ (a : Addr) (l : List Str), vs = [V.ref a] ∧ H a = some (SetT P w a l) ∧ l.length < scanBound ∧
  ∀ (ys : List Str) (p : Addr), ys.Perm l → sortedS ys = true → H p = none → Q (.ref p) (upd H p (.lst (ys.map V.str)))
/-- sorted(xs), xs texts, any number of them -/
def rSortA (K : PySem.W.Frag) : List V → Hp → VK → Prop := fun vs H Q => ∃ (a : Addr) (l : List Str), vs = [V.ref a] ∧ SqL K H a (l.map V.str) ∧
  ∀ (ys : List Str) (p : Addr), ys.Perm l → sortedS ys = true → H p = none → Q (.ref p) (upd H p (.lst (ys.map V.str)))
section
variable {X : Cx}
theorem cr_sortT (hc : X.calm = true) : CallR X (.builtin "sorted") (rSortT X.prog X.w) := by
  intro pins s σ H vs us Q I r h
  obtain ⟨a, l, rfl, ha, hb, q⟩ := h
  obtain ⟨D, ho, F⟩ := (I.hok a _ ha).1
  cases r with
  | cons r1 r2 =>
    cases r2
    cases r1
    refine sorted_texts ho F hb (I.ok.hd hc) fun s' p out c ys k g o z hp hs pm so => ?_
    have hl : (ys.map V.str).length ≤ sizeLine := by
      rw [List.length_map, pm.length_eq]
      exact Nat.le_of_lt (Nat.lt_of_lt_of_le hb (by decide))
    have hn := I.hok.fresh z
    have J : Inv X pins σ (upd H p (.lst (ys.map V.str))) { s with heap := s'.heap, gens := s'.gens, drawn := s'.drawn, toks := s'.toks } :=
      I.call (ch := []) (Un.laid k z hn) (I.hok.laid k z ⟨hl, out.toList, c, vals_of_strs hs, hp⟩) (by rw [g]; exact I.bare) fun _ y => nomatch y
    have e : s' = { s with heap := s'.heap, gens := s'.gens, drawn := s'.drawn, toks := s'.toks } := by
      rcases s' with ⟨⟩
      rcases s with ⟨⟩
      cases o
      rfl
    rw [e]
    exact ⟨.ref p, _, J, rfl, q ys p pm so hn⟩
theorem cr_sortA : CallR X (.builtin "sorted") (rSortA X.K) := by
  intro pins s σ H vs us Q I r h
  obtain ⟨a, l, rfl, ha, q⟩ := h
  obtain ⟨its, rv, hl, hz⟩ := I.list ha
  cases r with
  | cons r1 r2 =>
    cases r2
    cases r1
    have hlen := rv.length
    refine sorted_strsAny hl.isList rv.strs (by rw [← hlen]; exact hz) fun out ys h1 h2 h3 => ?_
    obtain ⟨c, hc⟩ := sortedAll_at s.heap its out
    have hly : (ys.map V.str).length ≤ sizeLine := by
      rw [List.length_map, h2.length_eq]
      rw [List.length_map] at hz
      exact hz
    have J := I.laid (a := s.heap.objs.size + 1) (o := .lst (ys.map V.str)) (t' := s.toks) (fun _ _ => sortedAll_old) (Nat.le_succ _) ⟨hly, out.toList, c, vals_of_strs h1, hc⟩
    exact ⟨.ref _, _, J, rfl, q ys _ h2 h3 (I.hok.fresh (Nat.le_succ _))⟩
end
end DL
/-! DT: set comprehensions whose members are texts. -/
namespace DL
open PySem PySem.Spec PyProof.Rows L2
open PySem.Froz (SD sObj addTx tailTx TxOk add_ok add_x is_str)
section
variable {P : Program} {w : World} {A : Around} {E : Value → Shared → Prop} {s : Shared} {a : Addr} {l : List Str} {D : SD} {k : Str} {u : Tok}
/-- a text that is there already -/
theorem dup_x {Q : Bool → Shared → Prop} (ho : s.heap.get? a = some (sObj "set" D)) (F : TxOk P w D l) (hk : k ∈ l) (hb : l.length < scanBound) (h : Q false s) : wpAny (model P w) A (setAddHashed a (.str k u) (hashStr w k)) Q E s := by
  rcases D with ⟨es, ep, t⟩
  have hb0 : es.size < scanBound := by
    have : es.size = l.length := F.sz
    omega
  obtain ⟨e, he, hp⟩ := (F.mem k).mp hk
  have hj : ∃ j, List.findIdx? (fun e => (strKind P w).is k e.2) es.toList = some j := by
    cases hr : List.findIdx? (fun e => (strKind P w).is k e.2) es.toList with
    | some j => exact ⟨j, rfl⟩
    | none =>
      have := List.findIdx?_eq_none_iff.mp hr e he
      rw [hp] at this
      cases this
  obtain ⟨j, hj⟩ := hj
  unfold setAddHashed setAddHashedIn
  (refine wpAny_holding (wpAny_bind (wpAny_setState_of ho rfl F.fit ?_)); dsimp only; rw [byScan_of (x := Value.str k u) rfl hb0 F.el])
  (simp only [↓reduceIte]; unfold setAddByScan; refine wpAny_bind (wpAny_bind (wpAny_rule (wpAny_bind (wpAny_setScan_of (knd := strKind P w) (k := k) (is_str k u) ho rfl F.fit F.el ?_)))))
  (rw [hj]; dsimp only; exact wpAny_pure (wpAny_pure h))
/-- the texts behind the add of k -/
def addK (l : List Str) (k : Str) : List Str := if k ∈ l then l else k :: l
theorem fit_add {Q : Value → Shared → Prop} (ho : s.heap.get? a = some (sObj "set" D)) (F : Pay P w D l) (hb : l.length + 1 < scanBound)
    (hQ : ∀ h' D', Heap.SameBut a s.heap h' → h'.get? a = some (sObj "set" D') → Pay P w D' (addK l k) → Q .none { s with heap := h', toks := s.toks + 1 }) :
    wpAny (model P w) A (call (.builtin "set.add") [.ref a, .str k u]) Q E s := by
  have hT : s.TypeIs (.ref a) "set" := ⟨_, ho, rfl⟩
  (refine wpAny_call_entry PySem.F.slot_set_add hT PySem.F.entry_set_add ?_ (PySem.F.args_set_add_2 _ _); unfold Builtin.«set.add» Builtin.Frozenset.oneOther; simp only [List.isEmpty_nil, bind_assoc])
  (unfold Builtin.Frozenset.addrOf setAdd; refine wpAny_bind (wpAny_pure ?_))
  (try dsimp only)
  (refine wpAny_bind (wpAny_pure ?_); try dsimp only)
  (refine wpAny_bind (wpAny_holding (wpAny_bind ((strKind P w).pyHash (is_str k u) ?_))))
  have fin : ∀ (b : Bool) (h' : Heap) (D' : SD), Heap.SameBut a s.heap h' → h'.get? a = some (sObj "set" D') → Pay P w D' (addK l k) → wpAny (model P w) A.in1 (ret Value.none) (fun fin s' => ∃ v, fin = Fin.done (Flow.ret v) ∧ Q v s') E { s with heap := h', toks := s.toks + 1 } := fun b h' D' sb h1 h2 => wpAny_pure ⟨_, rfl, hQ h' D' sb h1 h2⟩
  by_cases hk : k ∈ l
  · have e : addK l k = l := if_pos hk
    rw [e] at fin
    exact dup_x (s := { s with toks := s.toks + 1 }) ho F.ok hk (by omega) (fin false s.heap D (Heap.SameBut.refl a s.heap) ho F)
  · have e : addK l k = k :: l := if_neg hk
    rw [e] at fin
    refine add_x (s := { s with toks := s.toks + 1 }) ho F.ok hk hb (fin true _ _ ?_ ?_ (F.add u))
    · exact Heap.SameBut.update _ _ _
    · exact PySem.Froz.get_upd _ ho rfl
end
open PpSet (newSet_ok compLoopS_any codeAny_compStart_set eval_SetComp)
theorem setT_ok {P : Program} {w : World} {H : Hp} {h : Heap} {a : Addr} {l : List Str} {D : SD} (ho : h.get? a = some (sObj "set" D)) (F : Pay P w D l) : ObjOk P w H h a (SetT P w a l) :=
  ⟨⟨D, ho, F⟩, ⟨_, ho⟩, fun _ _ ⟨D1, p, F1⟩ k => ⟨D1, k _ p, F1⟩⟩
section
variable {X : Cx}
theorem addT_ok {pins : List (Addr × Obj)} {σ : L2.St} {H : Hp} {s : Shared} {E : Value → Shared → Prop} {D : Addr} {l : List Str} {k : Str} {u : Tok} {Q : Value → Shared → Prop} (I : Inv X pins σ H s) (hD : H D = some (SetT X.prog X.w D l)) (hb : l.length + 1 < scanBound)
    (h : ∀ s', Inv X pins σ (upd H D (SetT X.prog X.w D (addK l k))) s' → Q .none s') : wpAny (model X.prog X.w) X.A (call (.builtin "set.add") [.ref D, .str k u]) Q E s := by
  obtain ⟨d, ho, F⟩ := (I.hok D _ hD).1
  exact fit_add ho F hb fun h' d' sb ho' F' => h _ (I.write (e := D) (t' := s.toks + 1) (by rw [hD]; trivial) (.inl rfl) (fun b o hb ho => (sb.2 b hb).trans ho) ⟨_, ho'⟩ (setT_ok ho' F'))
/-- {te for g in wi if tt}, te a text: D the new set -/
def tScT (P : Program) (w : World) (wi : TI) (g : TG) (tt : TT) (te : TE) (vs : List Nat) : TE := fun σ H Q => wi σ H fun J H1 => ∀ D, H1 D = none → ∃ W : Nat → Nat → Hp → Prop, (∃ m, W 0 m (upd H1 D (SetT P w D []))) ∧ ∀ i m H, W i m H →
  (J.stop i H ∧ Q (.ref D) H) ∨ (J.go i H ∧ ∃ Nx : Hp → Prop, (∀ H', Nx H' → ∃ m', m' < m ∧ W (i + 1) m' H') ∧ ∀ x H', J.yld i H x H' → g x (L2.wipe σ vs) H' fun σ2 H2 => L2.wipe σ2 vs = L2.wipe σ vs ∧ tt σ2 H2 fun b H3 =>
    if b = true then te σ2 H3 fun y H4 => ∃ (c : Str) (l : List Str), y = .str c ∧ H4 D = some (SetT P w D l) ∧ l.length + 1 < scanBound ∧ Nx (upd H4 D (SetT P w D (addK l c))) else Nx H3)
/-- the blocks' parts, as terms -/
structure ScParts (X : Cx) (tg elt : Expr) (ifs : List Expr) (scope : Scope) (g : TG) (tt : TT) (te : TE) : Prop where
  g : ∀ (s : Shared) (H : Hp) (C : Addr) (cl : List (Str × Addr)) (fp : List Addr), PG (X.blk s H scope (compEnvC scope cl C X.env) fp) tg g
  t : ∀ (s : Shared) (H : Hp) (C : Addr) (cl : List (Str × Addr)) (fp : List Addr), PTs (X.blk s H scope (compEnvC scope cl C X.env) fp) ifs tt
  e : ∀ (s : Shared) (H : Hp) (C : Addr) (cl : List (Str × Addr)) (fp : List Addr), PE (X.blk s H scope (compEnvC scope cl C X.env) fp) elt te
abbrev newS (w : World) (h : Heap) : Heap := h.push { cls := .type "set", dict := none, data := .set #[] 0 (.fresh 0 0 (!w.params.followText "set-order")) }
theorem pe_scT {elt tg iter : Expr} {ifs : List Expr} {scope : Scope} {own : List (Str × Nat)} {pos : Pos} {wi : TI} {g : TG} {tt : TT} {te : TE} (hc : X.calm = true) (hN : X.N.Nodup) (hi : PI X tg iter wi) (ok : BlkOk X.N X.env.scope scope own) (B : ScParts X tg elt ifs scope g tt te)
    (hs : ∀ x, foldedSetIterable iter X.env x = pure x := by intro _; rfl) : PE X (.SetComp elt [⟨tg, iter, ifs, 0⟩] scope pos) (tScT X.prog X.w wi g tt te (own.map (·.2))) := by
  refine ⟨fun pins s σ H Q I h => ?_⟩
  rw [eval_SetComp]
  have free : ∀ y ∈ scope.names, y.2 = .free → ∃ c, X.env.cells.lookup y.1 = some c := fun y hy e => (ok.free y hy e).elim (fun k => I.ok.has _ (.inl k)) fun k => I.ok.has _ (.inr k)
  refine wpAny_comprehension_free rfl hs (closure_ok free) ok.kind (fun y hy e => by rw [ok.uniq y hy, e]) (thn (hi.run pins s σ H _ I h) fun xv s1 r1 => thn r1 fun itv s2 r2 => ?_)
  obtain ⟨it, fp, tn, J, H2, rfl, I2, T, t2, f2, q⟩ := r2
  refine newSet_ok (newEnv_comp ?_)
  have hn2 : H2 s2.heap.objs.size = none := I2.hok.fresh (Nat.le_refl _)
  obtain ⟨W, ⟨m0, w0⟩, turn⟩ := q _ hn2
  have old : ∀ b o, s2.heap.get? b = some o → (newS X.w s2.heap).get? b = some o := fun b o e => Heap.get?_push_of_some _ e
  have I3 : Inv X pins σ (upd H2 s2.heap.objs.size (SetT X.prog X.w s2.heap.objs.size [])) { s2 with heap := newS X.w s2.heap } :=
    I2.laid (t' := s2.toks) (fun b o e => old b o e) (Nat.le_refl _) (setT_ok (Heap.get?_push_size _ rfl) (Pay.nil _ _))
  have lt : ∀ b ∈ fp, b < s2.heap.objs.size := fun b hb => by
    obtain ⟨o, e, _⟩ := T.obj _ _ t2 b hb
    exact Heap.lt_size e
  have f3 : ∀ b ∈ fp, FpOk X pins (upd H2 s2.heap.objs.size (SetT X.prog X.w s2.heap.objs.size [])) b ∧ b < (newS X.w s2.heap).objs.size := fun b hb =>
    ⟨⟨by rw [upd_ne (Nat.ne_of_lt (lt b hb))]; exact (f2 b hb).1, (f2 b hb).2⟩, by rw [Heap.size_push]; exact Nat.lt_succ_of_lt (lt b hb)⟩
  have t3 : tn 0 (newS X.w s2.heap) := T.keep _ _ _ t2 fun b _ o e => old b o e
  generalize hD : s2.heap.objs.size = D at *
  generalize hH : upd H2 D (SetT X.prog X.w D []) = H3 at *
  generalize hS : ({ s2 with heap := newS X.w s2.heap } : Shared) = s3 at *
  have hh3 : s3.heap = newS X.w s2.heap := by rw [← hS]
  have g3 : ∀ b ∈ fp, FpOk X pins H3 b ∧ b < s3.heap.objs.size := fun b hb => ⟨(f3 b hb).1, by rw [hh3]; exact (f3 b hb).2⟩
  have z3 : tn 0 s3.heap := by rw [hh3]; exact t3
  have I4 := block_start I3 ok hN g3
  have Bg := B.g s3 H3 s3.heap.objs.size (cellsFrom (s3.heap.objs.size + 1) scope.names (cloFrom X.env.cells scope.names [])) fp
  have Bt := B.t s3 H3 s3.heap.objs.size (cellsFrom (s3.heap.objs.size + 1) scope.names (cloFrom X.env.cells scope.names [])) fp
  have Be := B.e s3 H3 s3.heap.objs.size (cellsFrom (s3.heap.objs.size + 1) scope.names (cloFrom X.env.cells scope.names [])) fp
  change codeAny _ _ (.compStart _ 0 _ _ (compEnvC scope (cellsFrom (s3.heap.objs.size + 1) scope.names (cloFrom X.env.cells scope.names [])) s3.heap.objs.size X.env)) (compPost _ X.A X.xe none (EP X pins σ Q) (.ref D) s3.heap.objs.size) { s3 with heap := pushCells (s3.heap.push { cls := .type "dict", data := .dict #[] }) scope.names }
  have loc : (compEnvC scope (cellsFrom (s3.heap.objs.size + 1) scope.names (cloFrom X.env.cells scope.names [])) s3.heap.objs.size X.env).locals = s3.heap.objs.size := rfl
  generalize compEnvC scope (cellsFrom (s3.heap.objs.size + 1) scope.names (cloFrom X.env.cells scope.names [])) s3.heap.objs.size X.env = ce at I4 Bg Bt Be loc ⊢
  have t4 : tn 0 ({ s3 with heap := pushCells (s3.heap.push { cls := .type "dict", data := .dict #[] }) scope.names } : Shared).heap := T.keep _ _ _ z3 fun b _ o e => pushCells_keeps _ _ _ _ (Heap.get?_push_of_some _ e)
  generalize ({ s3 with heap := pushCells (s3.heap.push { cls := .type "dict", data := .dict #[] }) scope.names } : Shared) = s4 at I4 t4 ⊢
  have stat : ∀ {σ' : L2.St} {H' : Hp} {s' : Shared}, Inv (X.blk s3 H3 scope ce fp) [] σ' H' s' → (∀ b ∈ fp, H' b = none) → ∀ b ∈ fp, FpOk (X.blk s3 H3 scope ce fp) [] H' b := fun {σ' H' s'} J1 n b hb => by
    have x1 := J1.ok.exf b hb
    exact ⟨n b hb, x1.1, J1.ok.exfs b hb, .inl hb, fun x c e => x1.2 x c e, fun p hp => nomatch (show p ∈ ([] : List (Addr × Obj)) from hp)⟩
  have loop : codeAny (model X.prog X.w) X.A (.compLoop (.SetComp elt [⟨tg, iter, ifs, 0⟩] scope pos) 0 (.ref it) (.ref D) ce) (compPost (model X.prog X.w) X.A X.xe none (EP X pins σ Q) (.ref D) s3.heap.objs.size) s4 := by
    refine compLoopS_any (fun n s' => ∃ i H', (Inv (X.blk s3 H3 scope ce fp) [] (L2.wipe σ (own.map (·.2))) H' s' ∧ tn i s'.heap) ∧ (∀ b ∈ fp, H' b = none) ∧ W i n H') ?_ m0 ⟨0, H3, ⟨I4, t4⟩, fun b hb => (g3 b hb).1.1, w0⟩
    rintro n s5 ⟨i, H5, ⟨I5, t5⟩, n5, w5⟩
    have S5 := stat I5 n5
    rcases turn i n H5 w5 with ⟨stop, qq⟩ | ⟨go, Nx, hNx, step⟩
    · refine thnF (T.done (X.blk s3 H3 scope ce fp) rfl rfl rfl hc i [] s5 _ H5 (fun _ _ => False) I5 S5 t5 stop) fun r s6 r6 => ?_
      obtain ⟨hr, I6⟩ := r6
      subst hr
      have I7 : Inv X pins σ H5 s6 := I3.call' (ch := fp) I6.os I6.base I6.hok I6.bare fun b hb => by
        have f := (g3 b hb).1.2
        exact ⟨f.2.2.1, f.1, f.2.2.2.1, f.2.2.2.2⟩
      have nC : H5 s3.heap.objs.size = none := loc ▸ (show H5 ce.locals = none from I6.free)
      obtain ⟨m, hm, _⟩ := I6.loc
      have hm : s6.heap.Ns s3.heap.objs.size m := loc ▸ (show s6.heap.Ns ce.locals m from hm)
      refine ⟨m, hm, fun h'' sb => ?_⟩
      have fp0 := I3.fpOk (Nat.le_refl _) nC
      exact ⟨.ref D, H5, I7.turned (t' := s6.toks) (fun b o hb e => (sb.2 b hb).trans e) fp0.1 fp0.2.1 fp0.2.2.2.1 fp0.2.2.2.2.1 fp0.2.2.2.2.2, rfl, qq⟩
    · refine thnF (T.item (X.blk s3 H3 scope ce fp) rfl rfl rfl hc i [] s5 _ H5 (fun _ _ => False) I5 S5 t5 go) fun r s6 r6 => ?_
      obtain ⟨u, hr, h6⟩ := r6
      subst hr
      refine thnF h6 fun _ s7 r7 => ?_
      obtain ⟨x, H7, I7, rx, y7, t7, n7⟩ := r7
      have I7' := I7.pinned (stat I7 n7) (T.obj _ _ t7)
      refine thnF (Bg.run _ s7 _ H7 x u _ I7' rx (step x H7 y7)) fun _ s8 r8 => ?_
      obtain ⟨σ8, H8, I8, hw8, q8⟩ := r8
      refine thnF (Bt.run _ s8 σ8 H8 _ I8 q8) fun b s9 r9 => ?_
      obtain ⟨H9, I9, q9⟩ := r9
      have fin : ∀ {s' : Shared} {H' : Hp}, Inv (X.blk s3 H3 scope ce fp) ([] ++ pinsAt fp s7.heap) σ8 H' s' → Nx H' → ∃ m, m < n ∧ ∃ i H', (Inv (X.blk s3 H3 scope ce fp) [] (L2.wipe σ (own.map (·.2))) H' s' ∧ tn i s'.heap) ∧ (∀ b ∈ fp, H' b = none) ∧ W i m H' := fun {s' H'} K1 nx => by
        obtain ⟨m', hm, w'⟩ := hNx H' nx
        have pin : ∀ b ∈ fp, ∀ o, s7.heap.get? b = some o → s'.heap.get? b = some o ∧ H' b = none := fun b hb o e => by
          have z := K1.pin (b, o) (List.mem_append_right _ (List.mem_append_right _ (mem_pinsAt hb e)))
          exact ⟨z.1, z.2.1⟩
        refine ⟨m', hm, i + 1, H', ⟨(K1.unpinned (pins := [])).weak (by rw [← hw8, L2.wipe_length]) fun j v e => ?_, T.keep _ _ _ t7 fun b hb o e => (pin b hb o e).1⟩, fun b hb => ?_, w'⟩
        · exact (wipe_some (by rw [hw8]; exact e)).1
        · obtain ⟨o, e, _⟩ := T.obj _ _ t7 b hb
          exact (pin b hb o e).2
      cases b with
      | false => exact fin I9 q9
      | true =>
        refine thnF (Be.run _ s9 σ8 H9 _ I9 q9) fun z s10 r10 => ?_
        obtain ⟨y, H10, I10, ry, c, l, ey, hD10, hz10, nx⟩ := r10
        subst ey
        obtain ⟨u, rfl⟩ := ry
        exact addT_ok (X := X.blk s3 H3 scope ce fp) I10 hD10 hz10 fun s11 I11 => fin I11 nx
  exact codeAny_compStart_set loop (T.self X.A 0 _ _ _ t4 loop)
end
end DL
/-! DU: sorted({.. for ..}) and sorted lists of texts, over data. -/
namespace DL
open PySem PySem.Spec PyProof.Rows L2
section
variable {K : PySem.W.Frag} {ρ : DEnv} {σ : L2.St} {G : Cells} {w w0 : Wd} {a : Addr} {o : HO}
/-- a thing that nobody tracks is laid or changed -/
theorem Ok.junk (x : Ok K w G σ ρ) (hp : a ∉ w.ps) (hB : w.B a = Option.none) : Ok K ⟨w.B, upd w.H a o, w.ps⟩ G σ ρ := by
  have ne : ∀ b ∈ w.ps, b ≠ a := fun b m z => hp (z ▸ m)
  refine ⟨fun b u e => ?_, fun b m => ?_, x.nd, x.ln, x.nb, fun k q c hk hc => ?_, x.lr, x.sl⟩
  · show upd w.H a o b = some u
    rw [upd_ne (ne_of_none e hB)]
    exact x.ex b u e
  · show upd w.H a o b ≠ Option.none
    rw [upd_ne (ne b m)]
    exact x.al b m
  · exact (x.cs k q c hk hc).mono (Ex.refl _) (Pre.refl _) (upd_ne (ne q (List.mem_of_getElem? hk)))
theorem Fut.junk (f : Fut w0 w) (h0 : w0.H a = none) : Fut w0 ⟨w.B, upd w.H a o, w.ps⟩ := by
  refine ⟨f.b, f.p, fun b u e m => ?_, f.np, f.nb⟩
  show upd w.H a o b = some u
  rw [upd_ne (ne_of_none e h0)]
  exact f.fr b u e m
/-- such a thing stays through a step -/
theorem Fut.keeps {v : Wd} (f : Fut w v) (h1 : w.H a = some o) (h2 : a ∉ w.ps) (h3 : w.B a = none) : v.H a = some o ∧ a ∉ v.ps ∧ v.B a = none := by
  refine ⟨f.fr a _ h1 h2, fun m => ?_, ?_⟩
  · rcases f.np a m with z | z
    · exact h2 z
    · rw [h1] at z
      cases z
  · cases e : v.B a with
    | none => rfl
    | some u =>
      rcases f.nb a (by rw [e]; exact fun z => nomatch z) with z | z | z
      · exact absurd h3 z
      · rw [h1] at z
        cases z
      · exact absurd z h2
end
section
variable {P : Program} {wd : World} {K : PySem.W.Frag} {ρ : DEnv} {G : Cells} {Q : D → Cells → Prop} {wi : TI} {g : TG} {tt : TT} {te : TE} {vs : List Nat}
theorem we_sortSc (ho : Own g vs) (h : WI K wi ρ G fun ds S G1 => ∃ Pv : Nat → List Str → Cells → Prop, Pv 0 [] G1 ∧ (∀ i l G, Pv i l G → S G) ∧
    (∀ i d l G, ds[i]? = some d → Pv i l G → WG K g d (wipeR ρ vs) G fun ρ2 G2 => WT K tt ρ2 G2 fun b G3 => if b = true then WE K te ρ2 G3 fun y G4 => ∃ c, y = .str c ∧ l.length + 1 < scanBound ∧ Pv (i + 1) (addK l c) G4 else Pv (i + 1) l G3) ∧
    ∀ l G, Pv ds.length l G → l.length < scanBound ∧ ∀ ys : List Str, ys.Perm l → sortedS ys = true → Nw Q (ys.map D.str) G) :
    WE K (tCB (rSortT P wd) (tCons (tScT P wd wi g tt te vs) tNil)) ρ G Q := fun w σ ok R p =>
  h w σ ok _ fun J ds S w1 G1 ⟨Pv, h0, hS, hs, hd⟩ sq ok1 f1 DA nDA => by
    refine ⟨fun i m H => m = ds.length - i ∧ i ≤ ds.length ∧ ∃ w' G' l, (w'.H = H ∧ w'.H DA = some (SetT P wd DA l) ∧ DA ∉ w'.ps ∧ w'.B DA = none) ∧ Fut w1 w' ∧ Ok K w' G' σ ρ ∧ Pv i l G',
      ⟨ds.length, by simp, Nat.zero_le _, ⟨w1.B, upd w1.H DA (SetT P wd DA []), w1.ps⟩, G1, [], ⟨rfl, upd_same, ok1.fresh nDA, ok1.freshB nDA⟩, (Fut.refl w1).junk nDA, ok1.junk (ok1.fresh nDA) (ok1.freshB nDA), h0⟩, ?_⟩
    rintro i m H ⟨rfl, hi, w', G', l, ⟨rfl, eD, nP, nB⟩, f', ok', pv⟩
    by_cases hlt : i < ds.length
    · refine .inr ⟨sq.go w' G' σ ρ i f' ok' (hS _ _ _ pv) hlt, fun H => ∃ w' G' l, (w'.H = H ∧ w'.H DA = some (SetT P wd DA l) ∧ DA ∉ w'.ps ∧ w'.B DA = none) ∧ Fut w1 w' ∧ Ok K w' G' σ ρ ∧ Pv (i + 1) l G', fun H2 z => ⟨ds.length - (i + 1), by omega, rfl, hlt, z⟩, fun x H' y => ?_⟩
      have hd' : ds[i]? = some ds[i] := List.getElem?_eq_getElem hlt
      obtain ⟨w2, rfl, ok2, f2, rx⟩ := sq.yld w' G' _ _ i _ x H' f' (ok'.wipe vs) (hS _ _ _ pv) hd' y
      obtain ⟨e2, p2, b2⟩ := f2.keeps eD nP nB
      refine ho x σ w2.H _ (hs i _ l G' hd' pv w2 _ x ok2 rx _ fun w3 G3 σ3 ρ3 q3 ok3 f3 => ?_)
      obtain ⟨e3, p3, b3⟩ := f3.keeps e2 p2 b2
      refine q3 w3 σ3 ok3 _ fun b w4 G4 q4 ok4 f4 => ?_
      obtain ⟨e4, p4, b4⟩ := f4.keeps e3 p3 b3
      have f24 := (f2.trans f3).trans f4
      cases b with
      | false => exact ⟨w4, G4, l, ⟨rfl, e4, p4, b4⟩, f'.trans f24, ok'.back ok4 f24, q4⟩
      | true =>
        refine (show WE K te ρ3 G4 _ from q4) w4 σ3 ok4 _ fun v dv w5 G5 ⟨c, ec, hl, q5⟩ ok5 r5 f5 => ?_
        subst ec
        cases r5
        obtain ⟨e5, p5, b5⟩ := f5.keeps e4 p4 b4
        have f25 := f24.trans f5
        exact ⟨c, l, rfl, e5, hl, ⟨w5.B, upd w5.H DA (SetT P wd DA (addK l c)), w5.ps⟩, G5, addK l c, ⟨rfl, upd_same, p5, b5⟩, (f'.trans f25).junk nDA, (ok'.back ok5 f25).junk p5 b5, q5⟩
    · have e : i = ds.length := by omega
      subst e
      obtain ⟨hb, q⟩ := hd l G' pv
      refine .inl ⟨sq.stop w' G' σ ρ f' ok' (hS _ _ _ pv), DA, l, rfl, eD, hb, fun ys a h1 h2 h3 => ?_⟩
      have := (q ys h1 h2).run (p.later (f1.trans f')) ok' (Reps.map (fun i => .str i) ys) a h3
      exact this
theorem rc_sortA {l : List Str} {x : D} (h : IsR G x (l.map D.str)) (q : ∀ ys : List Str, ys.Perm l → sortedS ys = true → Nw Q (ys.map D.str) G) : RC K (rSortA K) [x] G Q := fun w σ ρ ok vs r R p => by
  cases r with
  | cons a r =>
    cases r
    obtain ⟨a', us, rfl, ha, rs⟩ := ok.isR h a
    have e : us = l.map V.str := rs.strs
    rw [e] at ha
    exact ⟨a', l, rfl, ha, fun ys a h1 h2 h3 => (q ys h1 h2).run p ok (Reps.map (fun i => .str i) ys) a h3⟩
end
end DL
/-! DV: more of texts: in, find, constants of the module that are tuples. -/
namespace DL
open PySem PySem.Spec PyProof.Rows L2
section
variable {K : PySem.W.Frag} {ρ : DEnv} {G : Cells} {Q : D → Cells → Prop} {ta tb te : TE} {x y : D}
/-- a tuple that the module keeps -/
theorem we_ktup {a : Addr} {vs : List V} {ds : List D} (t : ∀ H : Hp, SqT K H a vs) (r : ∀ (B : Hp) (ps : List Addr), Reps K B ps vs ds) (q : Q (.tup ds) G) : WE K (tC (.ref a)) ρ G Q := fun w σ ok R p => p.here ok q (.tup (t _) (r _ _))
theorem reps_S {B : Hp} {ps : List Addr} {vs : List V} {ls : List (List Nat)} (e : vs = ls.map fun l => V.str (S l)) : Reps K B ps vs (ls.map fun l => D.str (S l)) := by
  rw [e]
  exact Reps.map (fun l => .str (S l)) ls
theorem rd_inT {c : Nat} {l : List Nat} (q : Q (.bl (decide (c ∈ l))) G) : RD K (fun x y H Q => ∃ (c : Nat) (z : Str), x = .str ⟨#[c]⟩ ∧ y = .str z ∧ Q (.bl (decide (c ∈ z.cps.toList))) H) (.str (S [c])) (.str (S l)) G Q := fun w σ ρ ok vx vy rx ry R p => by
  cases rx
  cases ry
  exact ⟨c, S l, rfl, rfl, by rw [S_cps]; exact p.here ok q (.bl _)⟩
theorem rd_notInT {c : Nat} {l : List Nat} (q : Q (.bl (!decide (c ∈ l))) G) : RD K (fun x y H Q => ∃ (c : Nat) (z : Str), x = .str ⟨#[c]⟩ ∧ y = .str z ∧ Q (.bl (!decide (c ∈ z.cps.toList))) H) (.str (S [c])) (.str (S l)) G Q := fun w σ ρ ok vx vy rx ry R p => by
  cases rx
  cases ry
  exact ⟨c, S l, rfl, rfl, by rw [S_cps]; exact p.here ok q (.bl _)⟩
theorem inV_S {l : List Nat} {ls : List (List Nat)} : inV (.str (S l)) (ls.map fun p => V.str (S p)) = decide (l ∈ ls) := by
  unfold inV
  rw [List.any_map]
  induction ls with
  | nil => rfl
  | cons a r ih =>
    rw [List.any_cons, ih]
    show (S a == S l || decide (l ∈ r)) = decide (l ∈ a :: r)
    by_cases h : a = l
    · subst h
      rw [beq_self_eq_true, Bool.true_or, decide_eq_true List.mem_cons_self]
    · have h1 : (S a == S l) = false := beq_eq_false_iff_ne.mpr fun z => h (S_inj z)
      rw [h1, Bool.false_or]
      have h2 : (l ∈ a :: r) ↔ l ∈ r := ⟨fun z => (List.mem_cons.mp z).elim (fun e => absurd e.symm h) id, List.mem_cons_of_mem _⟩
      by_cases hr : l ∈ r
      · rw [decide_eq_true hr, decide_eq_true (h2.mpr hr)]
      · rw [decide_eq_false hr, decide_eq_false fun z => hr (h2.mp z)]
theorem flat_S {ls : List (List Nat)} : (ls.map fun p => V.str (S p)).all flatV = true := by
  rw [List.all_map]
  exact List.all_eq_true.mpr fun _ _ => rfl
theorem rd_inQ {neg : Bool} {l : List Nat} {ls : List (List Nat)} (h : IsQ G y (ls.map fun p => D.str (S p))) (q : Q (.bl (if neg then !decide (l ∈ ls) else decide (l ∈ ls))) G) : RD K (rIn K neg) (.str (S l)) y G Q := fun w σ ρ ok vx vy rx ry R p => by
  obtain ⟨a, vs, rfl, ha, rs⟩ := ok.isQ h ry
  cases rx
  have e : vs = ls.map fun p => V.str (S p) := by
    have h1 : ls.map (fun p => D.str (S p)) = (ls.map S).map D.str := by rw [List.map_map]; rfl
    rw [h1] at rs
    have := rs.strs
    rw [List.map_map] at this
    exact this
  subst e
  exact ⟨a, _, rfl, ha, rfl, flat_S, by rw [inV_S]; exact p.here ok q (.bl _)⟩
/-- a method of a text, some arguments -/
theorem we_bmS {r : V → List V → Hp → VK → Prop} {to : TE} {t : TA} (h : WE K to ρ G fun x G1 => ∃ l, x = .str (S l) ∧ WA K t ρ G1 fun xs G2 => RM K r x xs G2 Q) : WE K (tBM K "str" r to t) ρ G Q := fun w σ ok R p =>
  h w σ ok _ fun v d w1 G1 ⟨l, e, q1⟩ ok1 r1 f1 => by
    subst e
    cases r1
    exact ⟨rfl, q1 w1 σ ok1 _ fun vs ds w2 G2 q2 ok2 r2 f2 => q2 w2 σ ρ ok2 _ vs (.str _) r2 R (p.later (f1.trans f2))⟩
theorem rm_find3 {a b : List Nat} {i : Int} (q : Q (.int (Txt.find3 (S a) (S b) i)) G) : RM K (fun x xs H Q => ∃ (a b : Str) (i : Int), x = .str a ∧ xs = [.str b, .int i] ∧ Q (.int (Txt.find3 a b i)) H) (.str (S a)) [.str (S b), .int i] G Q := fun w σ ρ ok v vs rx r R p => by
  cases rx
  cases r with
  | cons r1 r2 =>
    cases r1
    cases r2 with
    | cons r1 r2 =>
      cases r1
      cases r2
      exact ⟨_, _, i, rfl, rfl, p.here ok q (.int _)⟩
end
/-- a test that is an if: the branches are tests -/
def tIfT (t ta tb : TT) : TT := fun σ H Q => t σ H fun c H1 => if c = true then ta σ H1 Q else tb σ H1 Q
theorem pt_ifT {X : Cx} {c a b : Expr} {pos : Pos} {t ta tb : TT} (hc : PT X c t) (ha : PT X a ta) (hb : PT X b tb) : PT X (.IfExp c a b pos) (tIfT t ta tb) := by
  refine ⟨fun pins s σ H Q I h => ?_⟩
  show wpAny _ _ (isTrue c X.env (eval c X.env) >>= fun d => if d = true then isTrue a X.env (eval a X.env) else isTrue b X.env (eval b X.env)) _ _ _
  refine wpAny_bind (thn (hc.run pins s σ H _ I h) fun d s1 r1 => ?_)
  obtain ⟨H1, I1, q1⟩ := r1
  cases d with
  | true => exact ha.run pins s1 σ H1 Q I1 q1
  | false => exact hb.run pins s1 σ H1 Q I1 q1
theorem wt_ifT {K : PySem.W.Frag} {ρ : DEnv} {G : Cells} {QT : Bool → Cells → Prop} {t ta tb : TT} (h : WT K t ρ G fun b G1 => if b = true then WT K ta ρ G1 QT else WT K tb ρ G1 QT) : WT K (tIfT t ta tb) ρ G QT := fun w σ ok R p =>
  h w σ ok _ fun b w1 G1 q ok1 f1 => by
    cases b with
    | true => exact (show WT K ta ρ G1 QT from q) w1 σ ok1 _ fun c w2 G2 q2 ok2 f2 => p c w2 G2 q2 ok2 (f1.trans f2)
    | false => exact (show WT K tb ρ G1 QT from q) w1 σ ok1 _ fun c w2 G2 q2 ok2 f2 => p c w2 G2 q2 ok2 (f1.trans f2)
theorem rm_starts {K : PySem.W.Frag} {G : Cells} {Q : D → Cells → Prop} {a b : Str} (q : Q (.bl (Txt.startswith a b)) G) : RM K (fun x xs H Q => ∃ a b, x = .str a ∧ xs = [.str b] ∧ Q (.bl (Txt.startswith a b)) H) (.str a) [.str b] G Q := fun w σ ρ ok v vs rx r R p => by
  cases rx
  cases r with
  | cons r1 r2 =>
    cases r1
    cases r2
    exact ⟨_, _, rfl, rfl, p.here ok q (.bl _)⟩
theorem rm_lstrip {K : PySem.W.Frag} {G : Cells} {Q : D → Cells → Prop} {a b : Str} (hl : a.length ≤ 100000) (q : ∀ l : List Nat, l.length ≤ a.length → Q (.str (S l)) G) : RM K (fun x xs H Q => ∃ a b, x = .str a ∧ xs = [.str b] ∧ a.length ≤ sizeLine ∧ Q (.str (Txt.lstripChars a b)) H) (.str a) [.str b] G Q := fun w σ ρ ok v vs rx r R p => by
  cases rx
  cases r with
  | cons r1 r2 =>
    cases r1
    cases r2
    obtain ⟨l, e, hl2⟩ : ∃ l, Txt.lstripChars a b = S l ∧ l.length = (Txt.lstripChars a b).length := ⟨(Txt.lstripChars a b).cps.toList, by cases Txt.lstripChars a b; rfl, by simp [Str.length]⟩
    have h1 : (Txt.lstripChars a b).length ≤ a.length := len_stripBy _ _ _ a
    refine ⟨_, _, rfl, rfl, le_size hl, ?_⟩
    rw [e]
    exact p.here ok (q l (by omega)) (.str _)
/-- a list as a test -/
theorem wt_truL {K : PySem.W.Frag} {ρ : DEnv} {G : Cells} {QT : Bool → Cells → Prop} {te : TE} (h : WE K te ρ G fun x G1 => ∃ ds, IsR G1 x ds ∧ QT (!decide (ds = [])) G1) : WT K (fun σ H Q => te σ H fun x H' => ∃ k, TruV K x H' k ∧ Q k H') ρ G QT := fun w σ ok R p =>
  h w σ ok _ fun v d w1 G1 ⟨ds, hx, q⟩ ok1 r1 f1 => by
    obtain ⟨a, vs, rfl, ha, rs⟩ := ok1.isR hx r1
    refine ⟨_, ?_, p _ w1 G1 q ok1 f1⟩
    refine .inl ⟨vs, ha, ?_⟩
    cases rs <;> rfl
end DL
/-! DW: == and != of data at any depth; the same data by an own def. -/
namespace DL
open PySem PySem.Spec PyProof.Rows L2
mutual
inductive Pd (G : Cells) : D → PyData → Prop
  | non : Pd G .non .none
  | bl (b : Bool) : Pd G (.bl b) (.bool b)
  | int (i : Int) : Pd G (.int i) (.int i)
  | str {x : Str} : PyData.strOk x = true → Pd G (.str x) (.str x)
  | lst {x : D} {ds : List D} {es : List PyData} : IsR G x ds → PdA G ds es → Pd G x (.list es)
  | tup {ds : List D} {es : List PyData} : PdA G ds es → Pd G (.tup ds) (.tuple es)
inductive PdA (G : Cells) : List D → List PyData → Prop
  | nil : PdA G [] []
  | cons {d : D} {e : PyData} {ds : List D} {es : List PyData} : Pd G d e → PdA G ds es → PdA G (d :: ds) (e :: es)
end
section
variable {K : PySem.W.Frag} {ρ : DEnv} {G : Cells} {Q : D → Cells → Prop} {x y : D}
mutual
theorem Pd.lay : ∀ {d : D} {e : PyData}, Pd G d e → PyData.canLay0 e = true
  | _, _, .non => rfl
  | _, _, .bl _ => rfl
  | _, _, .int _ => rfl
  | _, _, .str h => h
  | _, _, .lst _ h => PdA.lay h
  | _, _, .tup h => PdA.lay h
theorem PdA.lay : ∀ {d : List D} {e : List PyData}, PdA G d e → PyData.canLayAll0 e = true
  | _, _, .nil => rfl
  | _, _, .cons h t => by
    show (PyData.canLay0 _ && PyData.canLayAll0 _) = true
    rw [Pd.lay h, PdA.lay t]
    rfl
end
mutual
theorem Pd.dp {w : Wd} {σ : St} (ok : Ok K w G σ ρ) : ∀ {d : D} {e : PyData} {v : V}, Pd G d e → Rep K w.B w.ps v d → Dp K w.H v e
  | _, _, _, .non, r => by cases r; exact .non
  | _, _, _, .bl _, r => by cases r; exact .bl _
  | _, _, _, .int _, r => by cases r; exact .int _
  | _, _, _, .str _, r => by cases r; exact .str _
  | _, _, _, .lst h t, r => by
    obtain ⟨a, vs, rfl, ha, rs⟩ := ok.isR h r
    exact .lst ha (PdA.dp ok t rs)
  | _, _, _, .tup t, r => by
    obtain ⟨a, vs, rfl, ha, rs⟩ := ok.isT r
    exact .tup ha (PdA.dp ok t rs)
theorem PdA.dp {w : Wd} {σ : St} (ok : Ok K w G σ ρ) : ∀ {d : List D} {e : List PyData} {v : List V}, PdA G d e → Reps K w.B w.ps v d → DpAll K w.H v e
  | _, _, _, .nil, r => by cases r; exact .nil
  | _, _, _, .cons h t, r => by
    cases r with
    | cons r1 r2 => exact .cons (Pd.dp ok h r1) (PdA.dp ok t r2)
end
theorem rd_eqD {a b : PyData} (h1 : Pd G x a) (h2 : Pd G y b) (d1 : a.depth ≤ 64) (d2 : b.depth ≤ 64) (q : Q (.bl (PyData.eqv a b)) G) : RD K (rEqD K) x y G Q := fun w σ ρ ok vx vy rx ry R p =>
  ⟨a, b, h1.dp ok rx, h2.dp ok ry, Bool.and_eq_true_iff.mpr ⟨h1.lay, decide_eq_true d1⟩, Bool.and_eq_true_iff.mpr ⟨h2.lay, decide_eq_true d2⟩, p.here ok q (.bl _)⟩
theorem rd_neD {a b : PyData} (h1 : Pd G x a) (h2 : Pd G y b) (d1 : a.depth ≤ 64) (d2 : b.depth ≤ 64) (q : Q (.bl (!PyData.eqv a b)) G) : RD K (rNeD K) x y G Q := fun w σ ρ ok vx vy rx ry R p =>
  ⟨a, b, h1.dp ok rx, h2.dp ok ry, Bool.and_eq_true_iff.mpr ⟨h1.lay, decide_eq_true d1⟩, Bool.and_eq_true_iff.mpr ⟨h2.lay, decide_eq_true d2⟩, p.here ok q (.bl _)⟩
theorem PdA.map {α : Type} {f : α → D} {g : α → PyData} : ∀ {l : List α}, (∀ a ∈ l, Pd G (f a) (g a)) → PdA G (l.map f) (l.map g)
  | [], _ => .nil
  | a :: l, h => .cons (h a List.mem_cons_self) (PdA.map fun b hb => h b (List.mem_cons_of_mem _ hb))
theorem depth_map {α : Type} {g : α → PyData} {n : Nat} : ∀ {l : List α}, (∀ a ∈ l, (g a).depth ≤ n) → PyData.depthAll (l.map g) ≤ n
  | [], _ => Nat.zero_le _
  | a :: l, h => by
    show max (g a).depth (PyData.depthAll (l.map g)) ≤ n
    exact Nat.max_le.mpr ⟨h a List.mem_cons_self, depth_map fun b hb => h b (List.mem_cons_of_mem _ hb)⟩
theorem eqvAll_nil {l : List PyData} : PyData.eqvAll l [] = decide (l = []) := by
  cases l <;> rfl
/-- what is alike by its data's names -/
theorem eqvAll_map {α : Type} {g : α → PyData} (h : ∀ a b, PyData.eqv (g a) (g b) = true ↔ a = b) : ∀ {l m : List α}, PyData.eqvAll (l.map g) (m.map g) = true ↔ l = m
  | [], [] => ⟨fun _ => rfl, fun _ => rfl⟩
  | [], _ :: _ => ⟨(fun z => nomatch z), (fun z => nomatch z)⟩
  | _ :: _, [] => ⟨(fun z => nomatch z), (fun z => nomatch z)⟩
  | a :: l, b :: m => by
    show (PyData.eqv (g a) (g b) && PyData.eqvAll (l.map g) (m.map g)) = true ↔ _
    rw [Bool.and_eq_true, h, eqvAll_map h]
    simp
theorem eqv_S (a b : List Nat) : PyData.eqv (.str (S a)) (.str (S b)) = true ↔ a = b := by
  show (S a == S b) = true ↔ _
  rw [beq_iff_eq]
  exact ⟨S_inj, fun e => by rw [e]⟩
theorem strOk_S {l : List Nat} (h : ∀ c ∈ l, c < 55296) : PyData.strOk (S l) = true := by
  unfold PyData.strOk
  rw [← Array.all_toList, S_cps]
  exact List.all_eq_true.mpr fun c hc => decide_eq_true (Nat.lt_of_lt_of_le (h c hc) (by decide))
end
/-! ### alike, by _law_same -/
/-- values that are alike, kinds and all, so deep -/
inductive Eqv (G : Cells) : Nat → D → D → Prop
  | non {n : Nat} : Eqv G n .non .non
  | bl {n : Nat} (b : Bool) : Eqv G n (.bl b) (.bl b)
  | int {n : Nat} (i : Int) : Eqv G n (.int i) (.int i)
  | str {n : Nat} (x : Str) : Eqv G n (.str x) (.str x)
  | lst {n : Nat} {x y : D} {xs ys : List D} : IsL G x xs → IsL G y ys → xs.length = ys.length → ys.length ≤ 90000 → (∀ (i : Nat) a b, xs[i]? = some a → ys[i]? = some b → Eqv G n a b) → Eqv G (n + 1) x y
  | tup {n : Nat} {xs ys : List D} : xs.length = ys.length → ys.length ≤ 90000 → (∀ (i : Nat) a b, xs[i]? = some a → ys[i]? = some b → Eqv G n a b) → Eqv G (n + 1) (.tup xs) (.tup ys)
def F_same (n : Nat) : FD := fun ds G R => ∃ x y, ds = [x, y] ∧ Eqv G n x y ∧ R (.bl true) G
theorem isK_listL {G : Cells} {x : D} {ds : List D} (h : IsL G x ds) : isK G x "list" := by
  rcases h with rfl | ⟨k, rfl, hk⟩
  · rfl
  · exact .inl ⟨rfl, ds, hk⟩
section
variable {P : Program} {w : World} {K : PySem.W.Frag} {mg : Str → Option Value} {base : Heap} {k : Nat} {f : Addr} {fd : FuncData} {ps : List Str}
theorem SpD.imp {F F' : FD} (h : ∀ ds G R, F' ds G R → F ds G R) : ∀ vs H Q E, SpD K F' vs H Q E → SpD K F vs H Q E := fun vs H Q E ⟨w, G, ds, R, e, ok, hl, hF, q⟩ => ⟨w, G, ds, R, e, ok, hl, h _ _ _ hF, q⟩
theorem FnOk.weaken {F F' : FD} (A : FnOk P w K mg base CX0 k f fd ps (SpD K F)) (h : ∀ ds G R, F' ds G R → F ds G R) : FnOk P w K mg base CX0 k f fd ps (SpD K F') := A.imp (SpD.imp h)
theorem FnOk.orD {F1 F2 : FD} (A : FnOk P w K mg base CX0 k f fd ps (SpD K F1)) (B : FnOk P w K mg base CX0 k f fd ps (SpD K F2)) : FnOk P w K mg base CX0 k f fd ps (SpD K fun ds G R => F1 ds G R ∨ F2 ds G R) :=
  ⟨fun vs H Q E ⟨w, G, ds, R, e, ok, hl, hF, q⟩ => hF.elim (fun h => A.len vs H Q E ⟨w, G, ds, R, e, ok, hl, h, q⟩) fun h => B.len vs H Q E ⟨w, G, ds, R, e, ok, hl, h, q⟩,
   fun A' outer s H args us vs Q E hr he hb hv ⟨w, G, ds, R, e, ok, hl, hF, q⟩ => hF.elim (fun h => A.run A' outer s H args us vs Q E hr he hb hv ⟨w, G, ds, R, e, ok, hl, h, q⟩) fun h => B.run A' outer s H args us vs Q E hr he hb hv ⟨w, G, ds, R, e, ok, hl, h, q⟩⟩
theorem FnOk.never : FnOk P w K mg base CX0 k f fd ps (SpD K fun _ _ _ => False) := ⟨fun vs H Q E ⟨w, G, ds, R, e, ok, hl, hF, q⟩ => hF.elim, fun A outer s H args us vs Q E hr he hb hv ⟨w, G, ds, R, e, ok, hl, hF, q⟩ => hF.elim⟩
end
end DL
/-! DX: more helps. -/
namespace DL
open PySem PySem.Spec PyProof.Rows L2
abbrev sD (l : List Nat) : D := .str (S l)
section
variable {P : Program} {w : World} {K : PySem.W.Frag} {mg : Str → Option Value} {base : Heap}
theorem paired_len {α β : Type} {F : α → β → Prop} : ∀ {l : List α} {m : List β}, Paired F l m → l.length = m.length
  | _, _, .nil => rfl
  | _, _, .cons _ t => congrArg (· + 1) (paired_len t)
theorem paired_get {α β : Type} {F : α → β → Prop} : ∀ {l : List α} {m : List β}, Paired F l m → ∀ (i : Nat) a b, l[i]? = some a → m[i]? = some b → F a b
  | _, _, .nil, i, a, b, h, _ => nomatch h
  | _, _, .cons r t, 0, a, b, h, g => by
    injection h with h
    injection g with g
    exact h ▸ g ▸ r
  | _, _, .cons r t, i + 1, a, b, h, g => paired_get t i a b h g
theorem paired_map {α β γ : Type} {F : β → γ → Prop} {f : α → β} {g : α → γ} : ∀ {l : List α}, (∀ a ∈ l, F (f a) (g a)) → Paired F (l.map f) (l.map g)
  | [], _ => .nil
  | a :: l, h => .cons (h a List.mem_cons_self) (paired_map fun b hb => h b (List.mem_cons_of_mem _ hb))
theorem Eqv.tups {G : Cells} {n : Nat} {xs ys : List D} (h : Paired (Eqv G n) xs ys) (hl : ys.length ≤ 90000) : Eqv G (n + 1) (.tup xs) (.tup ys) := .tup (paired_len h) hl (paired_get h)
theorem Eqv.lsts {G : Cells} {n : Nat} {x y : D} {xs ys : List D} (hx : IsL G x xs) (hy : IsL G y ys) (h : Paired (Eqv G n) xs ys) (hl : ys.length ≤ 90000) : Eqv G (n + 1) x y := .lst hx hy (paired_len h) hl (paired_get h)
theorem depth_l {α : Type} {g : α → PyData} {l : List α} (h : ∀ a ∈ l, (g a).depth ≤ 10) : PyData.depth (.list (l.map g)) ≤ 64 := by
  have := depth_map (g := g) (n := 10) h
  show PyData.depthAll (l.map g) + 1 ≤ 64
  omega
theorem depth_0 : PyData.depth (.list []) ≤ 64 := by decide
theorem map_nil_iff {α β : Type} {f : α → β} {l : List α} : decide (l.map f = []) = decide (l = []) := by cases l <;> rfl
/-- rules for == [] -/
theorem rd_eqE {G : Cells} {Q : D → Cells → Prop} {x : D} {α : Type} {l : List α} {f : α → D} {g : α → PyData} (hx : IsR G x (l.map f)) (hp : PdA G (l.map f) (l.map g)) (hd : ∀ a ∈ l, (g a).depth ≤ 10) (q : Q (.bl (decide (l = []))) G) : RD K (rEqD K) x (.lst []) G Q :=
  rd_eqD (.lst hx hp) (.lst isR .nil) (depth_l hd) depth_0 (by
    show Q (.bl (PyData.eqvAll (l.map g) [])) G
    rw [eqvAll_nil, map_nil_iff]
    exact q)
theorem rd_neE {G : Cells} {Q : D → Cells → Prop} {x : D} {α : Type} {l : List α} {f : α → D} {g : α → PyData} (hx : IsR G x (l.map f)) (hp : PdA G (l.map f) (l.map g)) (hd : ∀ a ∈ l, (g a).depth ≤ 10) (q : Q (.bl (!decide (l = []))) G) : RD K (rNeD K) x (.lst []) G Q :=
  rd_neD (.lst hx hp) (.lst isR .nil) (depth_l hd) depth_0 (by
    show Q (.bl (!PyData.eqvAll (l.map g) [])) G
    rw [eqvAll_nil, map_nil_iff]
    exact q)
theorem isLid {G : Cells} {ls : List D} {Q : D → Cells → Prop} {te : TE} {ρ : DEnv} {wi : TI} {i : Nat} {vs : List Nat} (hi : i ∈ vs) (hl : ls.length ≤ 100000) (he : ∀ d, WE K te ((wipeR ρ vs).set i (some d)) G fun y G3 => y = d ∧ G3 = G) (h : WI K wi ρ G fun ds S G1 => ds = ls ∧ S G1 ∧ G1 = G ∧ Nw Q ls G) : WE K (tLc wi (gName i) tYes te vs) ρ G Q :=
  we_lcmap (own_name hi) fun w σ ok R p => h w σ ok R fun J ds S w' G' ⟨e, hS, eG, q⟩ sq ok' f' => p J ds S w' G' ⟨ls, id, id, by rw [List.map_id]; exact e, hS, hl, fun a _ => wg_name (by rw [eG]; exact he a), by rw [List.map_id, eG]; exact q⟩ sq ok' f'
theorem ws_join {K : PySem.W.Frag} {ρ : DEnv} {G : Cells} {ts : TS} {nx bk ct : DEnv → Cells → Prop} {rt : D → Cells → Prop} {Pm : DEnv → Cells → Prop} (h : WS K ts ρ G ⟨Pm, rt, bk, ct⟩) (g : ∀ ρ' G', Pm ρ' G' → nx ρ' G') : WS K ts ρ G ⟨nx, rt, bk, ct⟩ := fun w σ ok X l =>
  h w σ ok X ⟨fun w1 G1 σ1 ρ1 q ok1 f1 => l.nx w1 G1 σ1 ρ1 (g _ _ q) ok1 f1, l.bk, l.ct, l.rt⟩
theorem we_to {ρ : DEnv} {G : Cells} {te : TE} {Q1 Q2 : D → Cells → Prop} (h : WE K te ρ G Q1) (g : ∀ b G', Q1 b G' → Q2 b G') : WE K te ρ G Q2 := fun w σ ok R p => h w σ ok R fun v d w' G' q ok' r' f' => p v d w' G' (g d G' q) ok' r' f'
theorem wt_to {K : PySem.W.Frag} {ρ : DEnv} {G : Cells} {tt : TT} {Q1 Q2 : Bool → Cells → Prop} (h : WT K tt ρ G Q1) (g : ∀ b G', Q1 b G' → Q2 b G') : WT K tt ρ G Q2 := fun w σ ok R p => h w σ ok R fun b w' G' q ok' f' => p b w' G' (g b G' q) ok' f'
theorem set_id {α : Type} {l : List α} {k : Nat} {x : α} (h : l[k]? = some x) : l.set k x = l := by
  apply List.ext_getElem?
  intro i
  rw [List.getElem?_set]
  split
  · rename_i e
    subst e
    rw [h]
    split
    · rfl
    · rename_i e
      exact absurd (List.getElem?_eq_some_iff.mp h).1 e
  · rfl
theorem at_last {α : Type} {f : α → D} {pre : List α} {x : α} : atI ((pre ++ [x]).map f) (-1) = some (f x) := by
  unfold atI ixN
  rw [if_neg (by decide), List.length_map, List.length_append, List.length_singleton, if_pos (by omega)]
  show ((pre ++ [x]).map f)[(((pre.length + 1 : Nat) : Int) + -1).toNat]? = some (f x)
  rw [show (((pre.length + 1 : Nat) : Int) + -1).toNat = pre.length by omega, List.map_append, List.getElem?_append_right (by simp), List.length_map, Nat.sub_self]
  rfl
theorem ix_last {n : Nat} : ixN (n + 1) (-1) = some n := by
  unfold ixN
  rw [if_neg (by decide), if_pos (by omega)]
  congr 1
  omega
theorem set_lastM {α : Type} {f : α → D} {pre : List α} {x y : α} : ((pre ++ [x]).map f).set pre.length (f y) = (pre ++ [y]).map f := by
  have := set_last (a := pre.map f) (c := f x) (d := f y)
  rw [List.length_map] at this
  rw [List.map_append, List.map_append]
  exact this
theorem flat_rep {n c : Nat} : (List.replicate n [c]).flatten = List.replicate n c := by simp
end
end DL
/-! HM: the light head with facts, tuples of constants, classes without __init__. -/
namespace HM
open PySem PySem.Spec PyProof.Rows L2
/-! ### a part of the heap, made strict -/
def Good (g : Addr → Option Obj) (K : PySem.W.Frag) : Prop := ∀ a o, (a, o) ∈ K → g a = some o
theorem Good.cons {g : Addr → Option Obj} {K : PySem.W.Frag} {a : Addr} {o : Obj} (h : Good g K) (e : g a = some o) : Good g ((a, o) :: K) := fun b p m => by
  rcases List.mem_cons.mp m with q | q
  · cases q
    exact e
  · exact h b p q
theorem lookup_mem {a : Addr} {o : Obj} : ∀ {l : List (Addr × Obj)}, l.lookup a = some o → (a, o) ∈ l
  | [], h => nomatch (show (none : Option Obj) = some o from h)
  | (b, p) :: r, h => by
    have h1 : (match a == b with | true => some p | false => r.lookup a) = some o := h
    cases q : (a == b) with
    | true =>
      rw [q] at h1
      have e : p = o := Option.some.inj h1
      rw [beq_iff_eq.mp q, e]
      exact List.mem_cons_self
    | false =>
      rw [q] at h1
      exact List.mem_cons_of_mem _ (lookup_mem h1)
def Cps (g : Addr → Option Obj) (f : (PySem.W.Frag → Bool × List He.FnW) → Bool × List He.FnW) : Prop := ∃ K', Good g K' ∧ ∀ k, f k = k K'
abbrev AlM : Type := Bool × List He.FnW
def at1 (g : Addr → Option Obj) (v : Value) (K : PySem.W.Frag) (k : PySem.W.Frag → AlM) : AlM := match v with
  | .ref a => HandSHeadRun.frNat a fun a => match g a with
    | some o => k ((a, o) :: K)
    | none => k K
  | _ => k K
theorem at1_ok {g : Addr → Option Obj} (v : Value) {K : PySem.W.Frag} (h : Good g K) : Cps g (at1 g v K) := by
  unfold at1
  cases v with
  | ref a =>
    cases e : g a with
    | none => exact ⟨K, h, fun k => by
        show HandSHeadRun.frNat a _ = _
        rw [HandSHeadRun.frNat_eq, e]⟩
    | some o => exact ⟨(a, o) :: K, h.cons e, fun k => by
        show HandSHeadRun.frNat a _ = _
        rw [HandSHeadRun.frNat_eq, e]⟩
  | _ => exact ⟨K, h, fun k => rfl⟩
def fn1 (g : Addr → Option Obj) (v : Value) (K : PySem.W.Frag) (k : PySem.W.Frag → AlM) : AlM := match v with
  | .ref a => HandSHeadRun.frNat a fun a => match g a with
    | some ⟨oc, od, .func fd, sl⟩ => at1 g fd.code ((a, ⟨oc, od, .func fd, sl⟩) :: K) k
    | _ => k K
  | _ => k K
theorem fn1_ok {g : Addr → Option Obj} (v : Value) {K : PySem.W.Frag} (h : Good g K) : Cps g (fn1 g v K) := by
  unfold fn1
  cases v with
  | ref a =>
    cases e : g a with
    | none => exact ⟨K, h, fun k => by
        show HandSHeadRun.frNat a _ = _
        rw [HandSHeadRun.frNat_eq, e]⟩
    | some o =>
      obtain ⟨oc, od, dt, sl⟩ := o
      cases dt with
      | func fd =>
        obtain ⟨K', h', q⟩ := at1_ok fd.code (h.cons e)
        exact ⟨K', h', fun k => by
          show HandSHeadRun.frNat a _ = _
          rw [HandSHeadRun.frNat_eq, e]
          exact q k⟩
      | _ => exact ⟨K, h, fun k => by
          show HandSHeadRun.frNat a _ = _
          rw [HandSHeadRun.frNat_eq, e]⟩
  | _ => exact ⟨K, h, fun k => rfl⟩
def fns (g : Addr → Option Obj) : List DictEntry → PySem.W.Frag → (PySem.W.Frag → AlM) → AlM
  | [], K, k => k K
  | e :: r, K, k => fn1 g e.val K fun K => fns g r K k
theorem fns_ok {g : Addr → Option Obj} : ∀ (l : List DictEntry) {K : PySem.W.Frag}, Good g K → Cps g (fns g l K)
  | [], K, h => ⟨K, h, fun _ => rfl⟩
  | e :: r, K, h => by
    obtain ⟨K1, h1, q1⟩ := fn1_ok e.val h
    obtain ⟨K2, h2, q2⟩ := fns_ok r h1
    exact ⟨K2, h2, fun k => by
      show fn1 g e.val K _ = _
      rw [q1, q2]⟩
def ob1 (g : Addr → Option Obj) (v : Value) (K : PySem.W.Frag) (k : PySem.W.Frag → AlM) : AlM := match v with
  | .ref a => HandSHeadRun.frNat a fun a => match g a with
    | some ⟨oc, od, .func fd, sl⟩ => at1 g fd.code ((a, ⟨oc, od, .func fd, sl⟩) :: K) k
    | some ⟨oc, od, .seq its n, sl⟩ => k ((a, ⟨oc, od, .seq its n, sl⟩) :: K)
    | some ⟨oc, od, .cls cd, sl⟩ => at1 g (.ref cd.ns) ((a, ⟨oc, od, .cls cd, sl⟩) :: K) fun K => match g cd.ns with
      | some ⟨_, _, .dict es _, _⟩ => fns g es.toList K k
      | _ => k K
    | _ => k K
  | _ => k K
theorem ob1_ok {g : Addr → Option Obj} (v : Value) {K : PySem.W.Frag} (h : Good g K) : Cps g (ob1 g v K) := by
  unfold ob1
  cases v with
  | ref a =>
    cases e : g a with
    | none => exact ⟨K, h, fun k => by
        show HandSHeadRun.frNat a _ = _
        rw [HandSHeadRun.frNat_eq, e]⟩
    | some o =>
      obtain ⟨oc, od, dt, sl⟩ := o
      cases dt with
      | func fd =>
        obtain ⟨K', h', q⟩ := at1_ok fd.code (h.cons e)
        exact ⟨K', h', fun k => by
          show HandSHeadRun.frNat a _ = _
          rw [HandSHeadRun.frNat_eq, e]
          exact q k⟩
      | seq its n => exact ⟨_, h.cons e, fun k => by
          show HandSHeadRun.frNat a _ = _
          rw [HandSHeadRun.frNat_eq, e]⟩
      | cls cd =>
        obtain ⟨K1, h1, q1⟩ := at1_ok (.ref cd.ns) (h.cons e)
        cases e2 : g cd.ns with
        | none => exact ⟨K1, h1, fun k => by
            show HandSHeadRun.frNat a _ = _
            rw [HandSHeadRun.frNat_eq, e]
            show at1 g (.ref cd.ns) _ _ = _
            rw [q1, e2]⟩
        | some o2 =>
          obtain ⟨oc2, od2, dt2, sl2⟩ := o2
          cases dt2 with
          | dict es n =>
            obtain ⟨K2, h2, q2⟩ := fns_ok es.toList h1
            exact ⟨K2, h2, fun k => by
              show HandSHeadRun.frNat a _ = _
              rw [HandSHeadRun.frNat_eq, e]
              show at1 g (.ref cd.ns) _ _ = _
              rw [q1, e2]
              exact q2 k⟩
          | _ => exact ⟨K1, h1, fun k => by
              show HandSHeadRun.frNat a _ = _
              rw [HandSHeadRun.frNat_eq, e]
              show at1 g (.ref cd.ns) _ _ = _
              rw [q1, e2]⟩
      | _ => exact ⟨K, h, fun k => by
          show HandSHeadRun.frNat a _ = _
          rw [HandSHeadRun.frNat_eq, e]⟩
  | _ => exact ⟨K, h, fun k => rfl⟩
def obs1 (g : Addr → Option Obj) : List DictEntry → PySem.W.Frag → (PySem.W.Frag → AlM) → AlM
  | [], K, k => k K
  | e :: r, K, k => ob1 g e.val K fun K => obs1 g r K k
theorem obs1_ok {g : Addr → Option Obj} : ∀ (l : List DictEntry) {K : PySem.W.Frag}, Good g K → Cps g (obs1 g l K)
  | [], K, h => ⟨K, h, fun _ => rfl⟩
  | e :: r, K, h => by
    obtain ⟨K1, h1, q1⟩ := ob1_ok e.val h
    obtain ⟨K2, h2, q2⟩ := obs1_ok r h1
    exact ⟨K2, h2, fun k => by
      show ob1 g e.val K _ = _
      rw [q1, q2]⟩
def withK (g : Addr → Option Obj) (k : PySem.W.Frag → AlM) : AlM := match g mainGlobals with
  | some ⟨oc, od, .dict es n, sl⟩ => obs1 g es.toList [(mainGlobals, ⟨oc, od, .dict es n, sl⟩)] k
  | _ => (false, [])
def obsM (fa : List He.Fa) (fn : List He.DefD) (ex : PySem.W.Frag → Bool) (g : Addr → Option Obj) : AlM := withK g fun K => ((fa.all fun f => f.ok K) && ((fn.all fun d => d.ok K) && ex K), fn.map fun d => He.fnW K d.at_)
def valM (fn : List He.DefD) : AlM := (true, fn.map He.DefD.val)
theorem withK_ok {fa : List He.Fa} {fn : List He.DefD} {ex : PySem.W.Frag → Bool} {h : Heap} (e : obsM fa fn ex h.get? = valM fn) : ∃ K : PySem.W.Frag, K.In h ∧ He.SaysD fa fn K ∧ ex K = true := by
  unfold obsM withK at e
  split at e
  · rename_i oc od es n sl eg
    obtain ⟨K, hK, q⟩ := obs1_ok (g := h.get?) es.toList (K := [(mainGlobals, ⟨oc, od, .dict es n, sl⟩)]) (fun a o m => by
      cases List.mem_singleton.mp m
      exact eg)
    rw [q] at e
    have e1 := congrArg (fun z : AlM => z.1) e
    have e2 : fn.map (fun d => He.fnW K d.at_) = fn.map He.DefD.val := congrArg (fun z : AlM => z.2) e
    obtain ⟨f1, f2⟩ := He.ba (show ((fa.all fun f => f.ok K) && ((fn.all fun d => d.ok K) && ex K)) = true from e1)
    obtain ⟨f3, f4⟩ := He.ba f2
    refine ⟨K, fun a o m => hK a o (lookup_mem m), ?_, f4⟩
    show ((fa.all fun f => f.ok K) && fn.all fun d => d.ok K, fn.map fun d => He.fnW K d.at_) = (true, fn.map He.DefD.val)
    rw [e2, f1, f3]
    rfl
  · have e1 := congrArg (fun z : AlM => z.1) e
    exact nomatch (show (false : Bool) = true from e1)
def hookM (fa : List He.Fa) (fn : List He.DefD) (ex : PySem.W.Frag → Bool) : PySem.W.Hook where
  α := AlM
  obs := fun s => obsM fa fn ex s.heap.get?
  val := fun _ => valM fn
  says := fun _ h => ∃ K : PySem.W.Frag, K.In h ∧ He.SaysD fa fn K ∧ ex K = true
  of := fun _ _ e => withK_ok e
  keeps := fun _ _ _ ⟨K, hK, c⟩ k => ⟨K, PySem.W.Frag.In.keeps hK k, c⟩
theorem obsM_eq {fa : List He.Fa} {fn : List He.DefD} {ex : PySem.W.Frag → Bool} {g : Addr → Option Obj} {s : Shared} (h : ∀ a, g a = s.heap.get? a) : obsM fa fn ex g = (hookM fa fn ex).obs s := by
  have e : g = s.heap.get? := funext h
  rw [e] <;> rfl
def dd (p : Str × Option Str) (x q : Str) (st : Stmt) : He.DefD := ⟨p, x, q, defArgs st, defBody st, defScope st, [], []⟩
theorem def_of {fa : List He.Fa} {fn : List He.DefD} {K : PySem.W.Frag} (c : He.SaysD fa fn K) (i : Nat) {p : Str × Option Str} {x q : Str} {st : Stmt} (h : fn[i]? = some (dd p x q st) := by rfl) : ∃ fd, Fun K x q st (He.fAd K p) fd := by
  obtain ⟨fd, ⟨oc, od, dV, kV, doc, pm, an, cdv, ct, osl, e, lk, hc, hd, _⟩, kp⟩ := c.def_ i h
  rcases hd with ⟨_, h2⟩ | ⟨h1, _⟩
  · subst h2
    exact ⟨fd, ⟨oc, od, kV, doc, pm, an, cdv, ct, osl, e, lk, hc⟩, kp⟩
  · exact absurd rfl h1
end HM
namespace My
open PySem PySem.Spec PyProof.Rows L2 DL
local macro_rules | `(tactic| walk_at "w") => `(tactic| first
  | ((with_reducible refine' we_isiT (ts := ["list", "tuple"]) ?_); rotate_left 2)
  | with_reducible refine ws_seq ?_
  | with_reducible refine ws_asg ?_
  | with_reducible refine ws_if ?_
  | with_reducible refine ws_ret ?_
  | with_reducible refine ws_retN ?_
  | with_reducible refine ws_drop ?_
  | with_reducible refine ws_next ?_
  | with_reducible refine ws_break ?_
  | with_reducible refine ws_cont ?_
  | with_reducible refine ws_par' ?_
  | with_reducible refine ws_par3' ?_
  | with_reducible refine we_var (by with_unfolding_all exact rfl) ?_
  | with_reducible refine we_int ?_
  | with_reducible refine we_str ?_
  | with_reducible refine we_bl ?_
  | with_reducible refine we_non ?_
  | with_reducible refine we_ty ?_
  | with_reducible refine we_op ?_
  | with_reducible refine we_cb ?_
  | with_reducible refine wa_cons ?_
  | with_reducible refine wa_nil ?_
  | with_reducible refine wt_test ?_
  | with_reducible refine wt_B ?_
  | with_reducible refine wt_not ?_
  | with_reducible refine wt_and ?_
  | with_reducible refine wt_or ?_
  | with_reducible refine wt_ifT ?_
  | with_reducible refine we_un ?_
  | with_reducible refine we_if ?_
  | with_reducible refine we_andV ?_
  | with_reducible refine we_orV ?_
  | with_reducible refine we_notV ?_
  | with_reducible refine we_chain ?_
  | with_reducible refine we_call ?_
  | with_reducible refine we_sl ?_
  | with_reducible refine wo_none ?_
  | with_reducible refine wo_some ?_
  | with_reducible refine we_lst ?_
  | with_reducible refine we_tup ?_
  | with_reducible refine we_m1 ?_
  | with_reducible refine we_bmL ?_
  | with_reducible refine we_bmL0 ?_
  | with_reducible refine we_listRg ?_
  | with_reducible refine wrg_2 ?_
  | with_reducible refine wrg_1 ?_
  | with_reducible refine wg_name' (by dsimp only [List.set, wipeR]) ?_
  | with_reducible refine wg_tup (by with_unfolding_all exact rfl) ?_
  | with_reducible refine wgs_cons ?_
  | with_reducible refine wgs_nil ?_
  | with_reducible refine wg_setL ?_
  | with_reducible refine rd_add ?_
  | with_reducible refine rd_sub ?_
  | with_reducible refine rd_lt ?_
  | with_reducible refine rd_le ?_
  | with_reducible refine rd_gt ?_
  | with_reducible refine rd_ge ?_
  | with_reducible refine rd_eqI ?_
  | with_reducible refine rd_neI ?_
  | with_reducible refine rd_eqT ?_
  | with_reducible refine rd_neT ?_
  | with_reducible refine rd_eqS ?_
  | with_reducible refine rd_neS ?_
  | with_reducible refine rd_leT ?_
  | with_reducible refine rd_eqB ?_
  | with_reducible refine rd_neB ?_
  | with_reducible refine rd_isN' (by first | exact nn_n | exact nn_b | exact nn_i | exact nn_s | exact nn_l | exact nn_t | exact nn_p | exact rfl) ?_
  | with_reducible refine rd_notN' (by first | exact nm_n | exact nm_b | exact nm_i | exact nm_s | exact nm_l | exact nm_t | exact nm_p | exact rfl) ?_
  | with_reducible refine rd_leS ?_
  | with_reducible refine rd_inT ?_
  | with_reducible refine rd_notInT ?_
  | with_reducible refine ru_neg ?_
  | ((with_reducible refine rd_catT ?h1 ?h2 ?h3 ?_); (case h1 => exact List.cons_ne_nil _ _); (case h2 => exact List.cons_ne_nil _ _); (case h3 => simp [sizeLine_eq]))
  | ((with_reducible refine rd_mul ?c ?_); rotate_left)
  | ((with_reducible refine rd_fdiv ?c ?_); rotate_left)
  | ((with_reducible refine rd_mod ?c ?_); rotate_left)
  | ((with_reducible refine rd_pow ?c ?_); rotate_left)
  | ((with_reducible refine rd_addT ?c ?_); rotate_left)
  | with_reducible refine rd_ixT (by with_unfolding_all exact rfl) ?_
  | with_reducible refine rc_int ?_
  | with_reducible refine rc_intB ?_
  | with_reducible refine rc_len isQ ?_
  | with_reducible refine rc_len isQt ?_
  | with_reducible refine rc_len isQo ?_
  | with_reducible refine rc_len (isQp (by with_unfolding_all exact rfl)) ?_
  | ((with_reducible refine rc_lenT ?c ?_); rotate_left)
  | with_reducible refine rc_min2 ?_
  | with_reducible refine rc_max2 ?_
  | with_reducible refine rc_abs ?_
  | ((with_reducible refine rs_T ?c ?_); rotate_left)
  | ((with_reducible refine And.intro (a := List.length _ ≤ sizeLine) ?len ?_); (case len => simp [sizeLine_eq]))
  | with_reducible refine ite_T ?_
  | with_reducible refine ite_F ?_
  | with_reducible refine ite_nT ?_
  | with_reducible refine ite_nF ?_
  | ((with_reducible refine ite_nyes ?h ?_); (case h => exact rfl))
  | ((with_reducible refine ite_yes ?h ?_); (case h => exact rfl))
  | with_reducible refine ex_bl ?_
  | with_reducible refine ex_int ?_
  | with_reducible refine ex_strT ?_
  | with_reducible refine ex_str ?_
  | with_reducible refine ex_tup ?_
  | with_reducible refine and_str ?_
  | with_reducible refine ex_int2 ?_
  | with_reducible refine ex_par (by dsimp only [List.set, wipeR]) ?_
  | with_reducible refine ex_par3 (by dsimp only [List.set, wipeR]) ?_)
local macro_rules | `(tactic| walk_at "v") => `(tactic| first
  | ((with_reducible refine' we_isiT (ts := ["list", "tuple"]) ?_); rotate_left 2)
  | with_reducible refine ws_seq ?_
  | with_reducible refine ws_asg ?_
  | with_reducible refine ws_ret ?_
  | with_reducible refine ws_retN ?_
  | with_reducible refine ws_drop ?_
  | with_reducible refine ws_next ?_
  | with_reducible refine ws_break ?_
  | with_reducible refine ws_cont ?_
  | with_reducible refine ws_par' ?_
  | with_reducible refine ws_par3' ?_
  | with_reducible refine we_var (by with_unfolding_all exact rfl) ?_
  | with_reducible refine we_int ?_
  | with_reducible refine we_str ?_
  | with_reducible refine we_bl ?_
  | with_reducible refine we_non ?_
  | with_reducible refine we_ty ?_
  | with_reducible refine we_op ?_
  | with_reducible refine we_cb ?_
  | with_reducible refine wa_cons ?_
  | with_reducible refine wa_nil ?_
  | with_reducible refine wt_test ?_
  | with_reducible refine wt_B ?_
  | with_reducible refine wt_not ?_
  | with_reducible refine wt_and ?_
  | with_reducible refine wt_or ?_
  | with_reducible refine wt_ifT ?_
  | with_reducible refine we_un ?_
  | with_reducible refine we_if ?_
  | with_reducible refine we_andV ?_
  | with_reducible refine we_orV ?_
  | with_reducible refine we_notV ?_
  | with_reducible refine we_chain ?_
  | with_reducible refine we_call ?_
  | with_reducible refine we_sl ?_
  | with_reducible refine wo_none ?_
  | with_reducible refine wo_some ?_
  | with_reducible refine we_lst ?_
  | with_reducible refine we_tup ?_
  | with_reducible refine we_m1 ?_
  | with_reducible refine we_bmL ?_
  | with_reducible refine we_bmL0 ?_
  | with_reducible refine we_listRg ?_
  | with_reducible refine wrg_2 ?_
  | with_reducible refine wrg_1 ?_
  | with_reducible refine wg_name' (by dsimp only [List.set, wipeR]) ?_
  | with_reducible refine wg_tup (by with_unfolding_all exact rfl) ?_
  | with_reducible refine wgs_cons ?_
  | with_reducible refine wgs_nil ?_
  | with_reducible refine wg_setL ?_
  | with_reducible refine rd_add ?_
  | with_reducible refine rd_sub ?_
  | with_reducible refine rd_lt ?_
  | with_reducible refine rd_le ?_
  | with_reducible refine rd_gt ?_
  | with_reducible refine rd_ge ?_
  | with_reducible refine rd_eqI ?_
  | with_reducible refine rd_neI ?_
  | with_reducible refine rd_eqT ?_
  | with_reducible refine rd_neT ?_
  | with_reducible refine rd_eqS ?_
  | with_reducible refine rd_neS ?_
  | with_reducible refine rd_leT ?_
  | with_reducible refine rd_eqB ?_
  | with_reducible refine rd_neB ?_
  | with_reducible refine rd_isN' (by first | exact nn_n | exact nn_b | exact nn_i | exact nn_s | exact nn_l | exact nn_t | exact nn_p | exact rfl) ?_
  | with_reducible refine rd_notN' (by first | exact nm_n | exact nm_b | exact nm_i | exact nm_s | exact nm_l | exact nm_t | exact nm_p | exact rfl) ?_
  | with_reducible refine rd_leS ?_
  | with_reducible refine rd_inT ?_
  | with_reducible refine rd_notInT ?_
  | with_reducible refine ru_neg ?_
  | ((with_reducible refine rd_catT ?h1 ?h2 ?h3 ?_); (case h1 => exact List.cons_ne_nil _ _); (case h2 => exact List.cons_ne_nil _ _); (case h3 => simp [sizeLine_eq]))
  | ((with_reducible refine rd_mul ?c ?_); rotate_left)
  | ((with_reducible refine rd_fdiv ?c ?_); rotate_left)
  | ((with_reducible refine rd_mod ?c ?_); rotate_left)
  | ((with_reducible refine rd_pow ?c ?_); rotate_left)
  | ((with_reducible refine rd_addT ?c ?_); rotate_left)
  | with_reducible refine rd_ixT (by with_unfolding_all exact rfl) ?_
  | with_reducible refine rc_int ?_
  | with_reducible refine rc_intB ?_
  | with_reducible refine rc_len isQ ?_
  | with_reducible refine rc_len isQt ?_
  | with_reducible refine rc_len isQo ?_
  | with_reducible refine rc_len (isQp (by with_unfolding_all exact rfl)) ?_
  | ((with_reducible refine rc_lenT ?c ?_); rotate_left)
  | with_reducible refine rc_min2 ?_
  | with_reducible refine rc_max2 ?_
  | with_reducible refine rc_abs ?_
  | ((with_reducible refine rs_T ?c ?_); rotate_left)
  | ((with_reducible refine And.intro (a := List.length _ ≤ sizeLine) ?len ?_); (case len => simp [sizeLine_eq]))
  | with_reducible refine ite_T ?_
  | with_reducible refine ite_F ?_
  | with_reducible refine ite_nT ?_
  | with_reducible refine ite_nF ?_
  | ((with_reducible refine ite_nyes ?h ?_); (case h => exact rfl))
  | ((with_reducible refine ite_yes ?h ?_); (case h => exact rfl))
  | with_reducible refine ex_bl ?_
  | with_reducible refine ex_int ?_
  | with_reducible refine ex_strT ?_
  | with_reducible refine ex_str ?_
  | with_reducible refine ex_tup ?_
  | with_reducible refine and_str ?_
  | with_reducible refine ex_int2 ?_
  | with_reducible refine ex_par (by dsimp only [List.set, wipeR]) ?_
  | with_reducible refine ex_par3 (by dsimp only [List.set, wipeR]) ?_)
local macro_rules | `(tactic| walk_at "kb") => `(tactic| first | exact kb_ii | exact kb_ib | exact kb_is | exact kb_il | exact kb_it | exact kb_id | exact kb_bi | exact kb_bb | exact kb_bs | exact kb_bl | exact kb_bt | exact kb_bd | exact kb_si | exact kb_sb | exact kb_ss | exact kb_sl | exact kb_st | exact kb_sd | exact kb_li | exact kb_lb | exact kb_ls | exact kb_ll | exact kb_lt | exact kb_ld | exact kb_ti | exact kb_tb | exact kb_ts | exact kb_tl | exact kb_tt | exact kb_td | exact kb_ni | exact kb_nb | exact kb_ns | exact kb_nl | exact kb_nt | exact kb_nd)
local macro_rules | `(tactic| walk_at "isi") => `(tactic| (with_reducible refine rc_isi (by with_unfolding_all exact rfl) (by walk_at "kb") ?_))
local macro_rules | `(tactic| walk_at "ww") => `(tactic| repeat (first | walk_at "w" | walk_at "isi"))
local macro_rules | `(tactic| walk_at "cold") => `(tactic| (refine Or.inl ?_; walk_at "ww"))
local macro_rules | `(tactic| walk_at "hot") => `(tactic| (refine Or.inr ?_; walk_at "ww"))
local macro_rules | `(tactic| walk_at "side") => `(tactic| first | decide | omega | exact ⟨by decide, by decide⟩ | exact ⟨by omega, by omega⟩ | exact .inl ⟨by omega, by omega⟩ | exact .inr ⟨by omega, by omega⟩ | exact cpow18)
local macro_rules | `(tactic| walk_at "vv") => `(tactic| repeat (first | walk_at "v" | walk_at "isi"))

def topS (i : Nat) : Stmt := PySem.Challenge.pw_asifnew_k10_whole_signs_by_the_making.main.body.getD i (.Pass ⟨0, 0, 0, 0⟩)
abbrev s_is_line : Stmt := topS 11
theorem sc_is_line : FnScope ["value", "sign"] ["value"] (defScope s_is_line) := ⟨rfl, rfl, rfl, by decide +kernel, rfl, by decide +kernel, by decide +kernel⟩
abbrev s_is_word : Stmt := topS 12
theorem sc_is_word : FnScope ["value", "begins", "signs", "sign"] ["value", "begins", "signs"] (defScope s_is_word) := ⟨rfl, rfl, rfl, by decide +kernel, rfl, by decide +kernel, by decide +kernel⟩
abbrev s_is_name : Stmt := topS 13
theorem sc_is_name : FnScope ["value"] ["value"] (defScope s_is_name) := ⟨rfl, rfl, rfl, by decide +kernel, rfl, by decide +kernel, by decide +kernel⟩
abbrev s_is_great : Stmt := topS 14
theorem sc_is_great : FnScope ["value"] ["value"] (defScope s_is_great) := ⟨rfl, rfl, rfl, by decide +kernel, rfl, by decide +kernel, by decide +kernel⟩
abbrev s_run_of : Stmt := topS 15
theorem sc_run_of : FnScope ["line", "signs", "end"] ["line", "signs"] (defScope s_run_of) := ⟨rfl, rfl, rfl, by decide +kernel, rfl, by decide +kernel, by decide +kernel⟩
abbrev s_begins_block : Stmt := topS 16
theorem sc_begins_block : FnScope ["line"] ["line"] (defScope s_begins_block) := ⟨rfl, rfl, rfl, by decide +kernel, rfl, by decide +kernel, by decide +kernel⟩
abbrev s_head_of : Stmt := topS 17
theorem sc_head_of : FnScope ["line", "word", "rest", "name"] ["line"] (defScope s_head_of) := ⟨rfl, rfl, rfl, by decide +kernel, rfl, by decide +kernel, by decide +kernel⟩
abbrev s_check_lines : Stmt := topS 24
theorem sc_check_lines : FnScope ["value", "line"] ["value"] (defScope s_check_lines) := ⟨rfl, rfl, rfl, by decide +kernel, rfl, by decide +kernel, by decide +kernel⟩
abbrev s_is_figures : Stmt := topS 25
theorem sc_is_figures : FnScope ["value", "sign"] ["value"] (defScope s_is_figures) := ⟨rfl, rfl, rfl, by decide +kernel, rfl, by decide +kernel, by decide +kernel⟩
abbrev s_run_end : Stmt := topS 26
theorem sc_run_end : FnScope ["line", "at", "signs", "end"] ["line", "at", "signs"] (defScope s_run_end) := ⟨rfl, rfl, rfl, by decide +kernel, rfl, by decide +kernel, by decide +kernel⟩
abbrev s_wild_end : Stmt := topS 27
theorem sc_wild_end : FnScope ["line", "at", "known", "end"] ["line", "at"] (defScope s_wild_end) := ⟨rfl, rfl, rfl, by decide +kernel, rfl, by decide +kernel, by decide +kernel⟩
abbrev s_word_of : Stmt := topS 28
theorem sc_word_of : FnScope ["string"] ["string"] (defScope s_word_of) := ⟨rfl, rfl, rfl, by decide +kernel, rfl, by decide +kernel, by decide +kernel⟩
abbrev s_text_at : Stmt := topS 29
theorem sc_text_at : FnScope ["line", "at", "end"] ["line", "at"] (defScope s_text_at) := ⟨rfl, rfl, rfl, by decide +kernel, rfl, by decide +kernel, by decide +kernel⟩
abbrev s_sign_at : Stmt := topS 30
theorem sc_sign_at : FnScope ["line", "at", "first", "end"] ["line", "at"] (defScope s_sign_at) := ⟨rfl, rfl, rfl, by decide +kernel, rfl, by decide +kernel, by decide +kernel⟩
abbrev s_spans_in : Stmt := topS 31
theorem sc_spans_in : FnScope ["line", "found", "at", "word", "end"] ["line"] (defScope s_spans_in) := ⟨rfl, rfl, rfl, by decide +kernel, rfl, by decide +kernel, by decide +kernel⟩
abbrev s_signs_of : Stmt := topS 32
theorem sc_signs_of : FnScope ["lines", "signs", "faults", "number", "line", "word", "begin", "end"] ["lines"] (defScope s_signs_of) := ⟨rfl, rfl, rfl, by decide +kernel, rfl, by decide +kernel, by decide +kernel⟩
abbrev s_tree_from : Stmt := topS 68
theorem sc_tree_from : FnScope ["head", "signs", "faults", "names", "word", "tree", "e", "nodes", "string", "line", "column", "node", "depth"] ["head", "signs", "faults"] (defScope s_tree_from) := ⟨rfl, rfl, rfl, by decide +kernel, rfl, by decide +kernel, by decide +kernel⟩
abbrev s_tree_of : Stmt := topS 69
theorem sc_tree_of : FnScope ["lines", "signs", "faults"] ["lines"] (defScope s_tree_of) := ⟨rfl, rfl, rfl, by decide +kernel, rfl, by decide +kernel, by decide +kernel⟩
abbrev s_law_pool : Stmt := topS 71
theorem sc_law_pool : FnScope ["script", "pool", "cell", "rest", "k", "state"] ["script"] (defScope s_law_pool) := ⟨rfl, rfl, rfl, by decide +kernel, rfl, by decide +kernel, by decide +kernel⟩
abbrev s_law_stream : Stmt := topS 72
theorem sc_law_stream : FnScope ["script"] ["script"] (defScope s_law_stream) := ⟨rfl, rfl, rfl, by decide +kernel, rfl, by decide +kernel, by decide +kernel⟩
abbrev s_law_pick : Stmt := topS 73
theorem sc_law_pick : FnScope ["pool", "many", "place"] ["pool", "many"] (defScope s_law_pick) := ⟨rfl, rfl, rfl, by decide +kernel, rfl, by decide +kernel, by decide +kernel⟩
abbrev s_law_same : Stmt := topS 74
theorem sc_law_same : FnScope ["one", "other", "k"] ["one", "other"] (defScope s_law_same) := ⟨rfl, rfl, rfl, by decide +kernel, rfl, by decide +kernel, by decide +kernel⟩
abbrev s_law_of : Stmt := topS 75
theorem sc_law_of : FnScope ["pool", "signs"] ["pool", "signs"] (defScope s_law_of) := ⟨rfl, rfl, rfl, by decide +kernel, rfl, by decide +kernel, by decide +kernel⟩
abbrev s_law_run : Stmt := topS 76
theorem sc_law_run : FnScope ["pool", "first", "others", "many", "k"] ["pool", "first", "others", "many"] (defScope s_law_run) := ⟨rfl, rfl, rfl, by decide +kernel, rfl, by decide +kernel, by decide +kernel⟩
abbrev s_law_small : Stmt := topS 77
theorem sc_law_small : FnScope [] [] (defScope s_law_small) := ⟨rfl, rfl, rfl, by decide +kernel, rfl, by decide +kernel, by decide +kernel⟩
abbrev s_law_great : Stmt := topS 78
theorem sc_law_great : FnScope [] [] (defScope s_law_great) := ⟨rfl, rfl, rfl, by decide +kernel, rfl, by decide +kernel, by decide +kernel⟩
abbrev s_law_wild : Stmt := topS 79
theorem sc_law_wild : FnScope [] [] (defScope s_law_wild) := ⟨rfl, rfl, rfl, by decide +kernel, rfl, by decide +kernel, by decide +kernel⟩
abbrev s_law_all : Stmt := topS 80
theorem sc_law_all : FnScope [] [] (defScope s_law_all) := ⟨rfl, rfl, rfl, by decide +kernel, rfl, by decide +kernel, by decide +kernel⟩
abbrev s_law_words : Stmt := topS 81
theorem sc_law_words : FnScope ["found"] [] (defScope s_law_words) := ⟨rfl, rfl, rfl, by decide +kernel, rfl, by decide +kernel, by decide +kernel⟩
abbrev s_law_marks : Stmt := topS 82
theorem sc_law_marks : FnScope [] [] (defScope s_law_marks) := ⟨rfl, rfl, rfl, by decide +kernel, rfl, by decide +kernel, by decide +kernel⟩
abbrev s_law_sign : Stmt := topS 83
theorem sc_law_sign : FnScope ["pool", "small", "great", "figures", "way", "string", "many", "word", "k"] ["pool"] (defScope s_law_sign) := ⟨rfl, rfl, rfl, by decide +kernel, rfl, by decide +kernel, by decide +kernel⟩
abbrev s_law_none : Stmt := topS 84
theorem sc_law_none : FnScope ["pool", "small", "great", "figures", "way", "many", "tails", "string", "k"] ["pool"] (defScope s_law_none) := ⟨rfl, rfl, rfl, by decide +kernel, rfl, by decide +kernel, by decide +kernel⟩
abbrev s_law_tight : Stmt := topS 85
theorem sc_law_tight : FnScope ["one", "other", "small", "figures", "great", "wild"] ["one", "other"] (defScope s_law_tight) := ⟨rfl, rfl, rfl, by decide +kernel, rfl, by decide +kernel, by decide +kernel⟩
abbrev s_law_remark : Stmt := topS 86
theorem sc_law_remark : FnScope ["pool", "k"] ["pool"] (defScope s_law_remark) := ⟨rfl, rfl, rfl, by decide +kernel, rfl, by decide +kernel, by decide +kernel⟩
abbrev s_law_laid : Stmt := topS 87
theorem sc_law_laid : FnScope ["pool", "rows", "lines", "signs", "faults", "last", "word", "string", "line", "way", "gap", "place"] ["pool", "rows"] (defScope s_law_laid) := ⟨rfl, rfl, rfl, by decide +kernel, rfl, by decide +kernel, by decide +kernel⟩
abbrev s_law_tall : Stmt := topS 88
theorem sc_law_tall : FnScope ["lines", "signs", "faults", "many", "found", "dues", "places", "k", "word", "string", "line", "column"] ["lines", "signs", "faults"] (defScope s_law_tall) := ⟨rfl, rfl, rfl, by decide +kernel, rfl, by decide +kernel, by decide +kernel⟩
abbrev s_law_block : Stmt := topS 89
theorem sc_law_block : FnScope ["lines", "signs", "faults", "names", "lead", "word", "string", "line", "column", "k", "name"] ["lines", "signs", "faults"] (defScope s_law_block) := ⟨rfl, rfl, rfl, by decide +kernel, rfl, by decide +kernel, by decide +kernel⟩
abbrev s_law : Stmt := topS 90
theorem sc_law : FnScope ["script", "pool", "rows", "odd", "turn", "lines", "signs", "faults", "given", "told", "line"] ["script"] (defScope s_law) := ⟨rfl, rfl, rfl, by decide +kernel, rfl, by decide +kernel, by decide +kernel⟩
theorem lit_0 : Str.ofString " " = S [32] := by decide +kernel
theorem lit_1 : Str.ofString "~" = S [126] := by decide +kernel
theorem lit_2 : Str.ofString "use" = S [117, 115, 101] := by decide +kernel
theorem lit_3 : Str.ofString "data" = S [100, 97, 116, 97] := by decide +kernel
theorem lit_4 : Str.ofString "let" = S [108, 101, 116] := by decide +kernel
theorem lit_5 : Str.ofString "fun" = S [102, 117, 110] := by decide +kernel
theorem lit_6 : Str.ofString "if" = S [105, 102] := by decide +kernel
theorem lit_7 : Str.ofString "then" = S [116, 104, 101, 110] := by decide +kernel
theorem lit_8 : Str.ofString "else" = S [101, 108, 115, 101] := by decide +kernel
theorem lit_9 : Str.ofString "in" = S [105, 110] := by decide +kernel
theorem lit_10 : Str.ofString "match" = S [109, 97, 116, 99, 104] := by decide +kernel
theorem lit_11 : Str.ofString "with" = S [119, 105, 116, 104] := by decide +kernel
theorem lit_12 : Str.ofString "end" = S [101, 110, 100] := by decide +kernel
theorem lit_13 : Str.ofString "true" = S [116, 114, 117, 101] := by decide +kernel
theorem lit_14 : Str.ofString "false" = S [102, 97, 108, 115, 101] := by decide +kernel
theorem lit_15 : Str.ofString "and" = S [97, 110, 100] := by decide +kernel
theorem lit_16 : Str.ofString "or" = S [111, 114] := by decide +kernel
theorem lit_17 : Str.ofString "not" = S [110, 111, 116] := by decide +kernel
theorem lit_18 : Str.ofString "int" = S [105, 110, 116] := by decide +kernel
theorem lit_19 : Str.ofString "bool" = S [98, 111, 111, 108] := by decide +kernel
theorem lit_20 : Str.ofString "text" = S [116, 101, 120, 116] := by decide +kernel
theorem lit_21 : Str.ofString "abcdefghijklmnopqrstuvwxyz" = S [97, 98, 99, 100, 101, 102, 103, 104, 105, 106, 107, 108, 109, 110, 111, 112, 113, 114, 115, 116, 117, 118, 119, 120, 121, 122] := by decide +kernel
theorem lit_22 : Str.ofString "_" = S [95] := by decide +kernel
theorem lit_23 : Str.ofString "0123456789" = S [48, 49, 50, 51, 52, 53, 54, 55, 56, 57] := by decide +kernel
theorem lit_24 : Str.ofString "ABCDEFGHIJKLMNOPQRSTUVWXYZ" = S [65, 66, 67, 68, 69, 70, 71, 72, 73, 74, 75, 76, 77, 78, 79, 80, 81, 82, 83, 84, 85, 86, 87, 88, 89, 90] := by decide +kernel
theorem lit_25 : Str.ofString "" = S [] := by decide +kernel
theorem lit_26 : Str.ofString "lead" = S [108, 101, 97, 100] := by decide +kernel
theorem lit_27 : Str.ofString "0" = S [48] := by decide +kernel
theorem lit_28 : Str.ofString "(){},:=|.?+-*<" = S [40, 41, 123, 125, 44, 58, 61, 124, 46, 63, 43, 45, 42, 60] := by decide +kernel
theorem lit_29 : Str.ofString "\"" = S [34] := by decide +kernel
theorem lit_30 : Str.ofString "_ " = S [95, 32] := by decide +kernel
theorem lit_31 : Str.ofString "name" = S [110, 97, 109, 101] := by decide +kernel
theorem lit_32 : Str.ofString "great" = S [103, 114, 101, 97, 116] := by decide +kernel
theorem lit_33 : Str.ofString "number" = S [110, 117, 109, 98, 101, 114] := by decide +kernel
theorem lit_34 : Str.ofString "string" = S [115, 116, 114, 105, 110, 103] := by decide +kernel
theorem lit_35 : Str.ofString "->" = S [45, 62] := by decide +kernel
theorem lit_36 : Str.ofString "==" = S [61, 61] := by decide +kernel
theorem lit_37 : Str.ofString "--" = S [45, 45] := by decide +kernel
theorem lit_38 : Str.ofString "hole" = S [104, 111, 108, 101] := by decide +kernel
theorem lit_39 : Str.ofString "deep" = S [100, 101, 101, 112] := by decide +kernel
theorem lit_40 : Str.ofString "form" = S [102, 111, 114, 109] := by decide +kernel
theorem lit_41 : Str.ofString "!#$&'/;>\x40[\\]^`~" = S [33, 35, 36, 38, 39, 47, 59, 62, 64, 91, 92, 93, 94, 96, 126] := by decide +kernel
theorem lit_42 : Str.ofString "{|}~" = S [123, 124, 125, 126] := by decide +kernel
theorem lit_43 : Str.ofString "[\\]^_`" = S [91, 92, 93, 94, 95, 96] := by decide +kernel
theorem lit_44 : Str.ofString " !#$&'()*+,-./0123456789:;<=>?\x40" = S [32, 33, 35, 36, 38, 39, 40, 41, 42, 43, 44, 45, 46, 47, 48, 49, 50, 51, 52, 53, 54, 55, 56, 57, 58, 59, 60, 61, 62, 63, 64] := by decide +kernel
theorem lit_45 : Str.ofString "(" = S [40] := by decide +kernel
theorem lit_46 : Str.ofString ")" = S [41] := by decide +kernel
theorem lit_47 : Str.ofString "{" = S [123] := by decide +kernel
theorem lit_48 : Str.ofString "}" = S [125] := by decide +kernel
theorem lit_49 : Str.ofString "," = S [44] := by decide +kernel
theorem lit_50 : Str.ofString ":" = S [58] := by decide +kernel
theorem lit_51 : Str.ofString "=" = S [61] := by decide +kernel
theorem lit_52 : Str.ofString "|" = S [124] := by decide +kernel
theorem lit_53 : Str.ofString "." = S [46] := by decide +kernel
theorem lit_54 : Str.ofString "?" = S [63] := by decide +kernel
theorem lit_55 : Str.ofString "+" = S [43] := by decide +kernel
theorem lit_56 : Str.ofString "-" = S [45] := by decide +kernel
theorem lit_57 : Str.ofString "*" = S [42] := by decide +kernel
theorem lit_58 : Str.ofString "<" = S [60] := by decide +kernel
theorem lit_59 : Str.ofString "123456789" = S [49, 50, 51, 52, 53, 54, 55, 56, 57] := by decide +kernel
theorem lit_60 : Str.ofString "7" = S [55] := by decide +kernel
theorem lit_61 : Str.ofString "01" = S [48, 49] := by decide +kernel
theorem lit_62 : Str.ofString "rest" = S [114, 101, 115, 116] := by decide +kernel
theorem lit_63 : Str.ofString "  " = S [32, 32] := by decide +kernel
theorem lit_64 : Str.ofString "x" = S [120] := by decide +kernel
def WORDS_l : List (List Nat) := [[117, 115, 101], [100, 97, 116, 97], [108, 101, 116], [102, 117, 110], [105, 102], [116, 104, 101, 110], [101, 108, 115, 101], [105, 110], [109, 97, 116, 99, 104], [119, 105, 116, 104], [101, 110, 100], [116, 114, 117, 101], [102, 97, 108, 115, 101], [97, 110, 100], [111, 114], [110, 111, 116], [105, 110, 116], [98, 111, 111, 108], [116, 101, 120, 116]]
theorem WORDS_v : ([.str "use", .str "data", .str "let", .str "fun", .str "if", .str "then", .str "else", .str "in", .str "match", .str "with", .str "end", .str "true", .str "false", .str "and", .str "or", .str "not", .str "int", .str "bool", .str "text"] : List V) = WORDS_l.map fun l => V.str (S l) := by
  simp only [lit_2, lit_3, lit_4, lit_5, lit_6, lit_7, lit_8, lit_9, lit_10, lit_11, lit_12, lit_13, lit_14, lit_15, lit_16, lit_17, lit_18, lit_19, lit_20]
  rfl
def HEAD_WORDS_l : List (List Nat) := [[117, 115, 101], [100, 97, 116, 97], [108, 101, 116], [102, 117, 110]]
theorem HEAD_WORDS_v : ([.str "use", .str "data", .str "let", .str "fun"] : List V) = HEAD_WORDS_l.map fun l => V.str (S l) := by
  simp only [lit_2, lit_3, lit_4, lit_5]
  rfl
def LONG_MARKS_l : List (List Nat) := [[45, 62], [61, 61]]
theorem LONG_MARKS_v : ([.str "->", .str "=="] : List V) = LONG_MARKS_l.map fun l => V.str (S l) := by
  simp only [lit_35, lit_36]
  rfl
structure FnAt (K : PySem.W.Frag) (mg : Str → Option Value) (x : Str) (st : Stmt) (ps : List Str) (f : Addr) (fd : FuncData) : Prop where
  fn : Fun K x x st f fd
  bd : Binds K fd ps []
  mg : mg x = some (.ref f)
structure Top (K : PySem.W.Frag) (mg : Str → Option Value) where
  a_is_line : Addr
  d_is_line : FuncData
  is_line : FnAt K mg "is_line" s_is_line ["value"] a_is_line d_is_line
  a_is_word : Addr
  d_is_word : FuncData
  is_word : FnAt K mg "is_word" s_is_word ["value", "begins", "signs"] a_is_word d_is_word
  a_is_name : Addr
  d_is_name : FuncData
  is_name : FnAt K mg "is_name" s_is_name ["value"] a_is_name d_is_name
  a_is_great : Addr
  d_is_great : FuncData
  is_great : FnAt K mg "is_great" s_is_great ["value"] a_is_great d_is_great
  a_run_of : Addr
  d_run_of : FuncData
  run_of : FnAt K mg "run_of" s_run_of ["line", "signs"] a_run_of d_run_of
  a_begins_block : Addr
  d_begins_block : FuncData
  begins_block : FnAt K mg "begins_block" s_begins_block ["line"] a_begins_block d_begins_block
  a_head_of : Addr
  d_head_of : FuncData
  head_of : FnAt K mg "head_of" s_head_of ["line"] a_head_of d_head_of
  a_check_lines : Addr
  d_check_lines : FuncData
  check_lines : FnAt K mg "check_lines" s_check_lines ["value"] a_check_lines d_check_lines
  a_is_figures : Addr
  d_is_figures : FuncData
  is_figures : FnAt K mg "is_figures" s_is_figures ["value"] a_is_figures d_is_figures
  a_run_end : Addr
  d_run_end : FuncData
  run_end : FnAt K mg "run_end" s_run_end ["line", "at", "signs"] a_run_end d_run_end
  a_wild_end : Addr
  d_wild_end : FuncData
  wild_end : FnAt K mg "wild_end" s_wild_end ["line", "at"] a_wild_end d_wild_end
  a_word_of : Addr
  d_word_of : FuncData
  word_of : FnAt K mg "word_of" s_word_of ["string"] a_word_of d_word_of
  a_text_at : Addr
  d_text_at : FuncData
  text_at : FnAt K mg "text_at" s_text_at ["line", "at"] a_text_at d_text_at
  a_sign_at : Addr
  d_sign_at : FuncData
  sign_at : FnAt K mg "sign_at" s_sign_at ["line", "at"] a_sign_at d_sign_at
  a_spans_in : Addr
  d_spans_in : FuncData
  spans_in : FnAt K mg "spans_in" s_spans_in ["line"] a_spans_in d_spans_in
  a_signs_of : Addr
  d_signs_of : FuncData
  signs_of : FnAt K mg "signs_of" s_signs_of ["lines"] a_signs_of d_signs_of
  a_tree_from : Addr
  d_tree_from : FuncData
  tree_from : FnAt K mg "tree_from" s_tree_from ["head", "signs", "faults"] a_tree_from d_tree_from
  a_tree_of : Addr
  d_tree_of : FuncData
  tree_of : FnAt K mg "tree_of" s_tree_of ["lines"] a_tree_of d_tree_of
  a_law_pool : Addr
  d_law_pool : FuncData
  law_pool : FnAt K mg "_law_pool" s_law_pool ["script"] a_law_pool d_law_pool
  a_law_stream : Addr
  d_law_stream : FuncData
  law_stream : FnAt K mg "_law_stream" s_law_stream ["script"] a_law_stream d_law_stream
  a_law_pick : Addr
  d_law_pick : FuncData
  law_pick : FnAt K mg "_law_pick" s_law_pick ["pool", "many"] a_law_pick d_law_pick
  a_law_same : Addr
  d_law_same : FuncData
  law_same : FnAt K mg "_law_same" s_law_same ["one", "other"] a_law_same d_law_same
  a_law_of : Addr
  d_law_of : FuncData
  law_of : FnAt K mg "_law_of" s_law_of ["pool", "signs"] a_law_of d_law_of
  a_law_run : Addr
  d_law_run : FuncData
  law_run : FnAt K mg "_law_run" s_law_run ["pool", "first", "others", "many"] a_law_run d_law_run
  a_law_small : Addr
  d_law_small : FuncData
  law_small : FnAt K mg "_law_small" s_law_small [] a_law_small d_law_small
  a_law_great : Addr
  d_law_great : FuncData
  law_great : FnAt K mg "_law_great" s_law_great [] a_law_great d_law_great
  a_law_wild : Addr
  d_law_wild : FuncData
  law_wild : FnAt K mg "_law_wild" s_law_wild [] a_law_wild d_law_wild
  a_law_all : Addr
  d_law_all : FuncData
  law_all : FnAt K mg "_law_all" s_law_all [] a_law_all d_law_all
  a_law_words : Addr
  d_law_words : FuncData
  law_words : FnAt K mg "_law_words" s_law_words [] a_law_words d_law_words
  a_law_marks : Addr
  d_law_marks : FuncData
  law_marks : FnAt K mg "_law_marks" s_law_marks [] a_law_marks d_law_marks
  a_law_sign : Addr
  d_law_sign : FuncData
  law_sign : FnAt K mg "_law_sign" s_law_sign ["pool"] a_law_sign d_law_sign
  a_law_none : Addr
  d_law_none : FuncData
  law_none : FnAt K mg "_law_none" s_law_none ["pool"] a_law_none d_law_none
  a_law_tight : Addr
  d_law_tight : FuncData
  law_tight : FnAt K mg "_law_tight" s_law_tight ["one", "other"] a_law_tight d_law_tight
  a_law_remark : Addr
  d_law_remark : FuncData
  law_remark : FnAt K mg "_law_remark" s_law_remark ["pool"] a_law_remark d_law_remark
  a_law_laid : Addr
  d_law_laid : FuncData
  law_laid : FnAt K mg "_law_laid" s_law_laid ["pool", "rows"] a_law_laid d_law_laid
  a_law_tall : Addr
  d_law_tall : FuncData
  law_tall : FnAt K mg "_law_tall" s_law_tall ["lines", "signs", "faults"] a_law_tall d_law_tall
  a_law_block : Addr
  d_law_block : FuncData
  law_block : FnAt K mg "_law_block" s_law_block ["lines", "signs", "faults"] a_law_block d_law_block
  a_law : Addr
  d_law : FuncData
  law : FnAt K mg "law" s_law ["script"] a_law d_law
  q_WORDS : Addr
  WORDS : mg "WORDS" = some (.ref q_WORDS)
  tp_WORDS : ∀ H : Hp, SqT K H q_WORDS [.str "use", .str "data", .str "let", .str "fun", .str "if", .str "then", .str "else", .str "in", .str "match", .str "with", .str "end", .str "true", .str "false", .str "and", .str "or", .str "not", .str "int", .str "bool", .str "text"]
  q_HEAD_WORDS : Addr
  HEAD_WORDS : mg "HEAD_WORDS" = some (.ref q_HEAD_WORDS)
  tp_HEAD_WORDS : ∀ H : Hp, SqT K H q_HEAD_WORDS [.str "use", .str "data", .str "let", .str "fun"]
  t_MOST_SIGNS : Tok
  MOST_SIGNS : mg "MOST_SIGNS" = some (Value.int 100 t_MOST_SIGNS)
  t_SMALL : Tok
  SMALL : mg "SMALL" = some (Value.str "abcdefghijklmnopqrstuvwxyz" t_SMALL)
  t_GREAT : Tok
  GREAT : mg "GREAT" = some (Value.str "ABCDEFGHIJKLMNOPQRSTUVWXYZ" t_GREAT)
  t_FIGURES : Tok
  FIGURES : mg "FIGURES" = some (Value.str "0123456789" t_FIGURES)
  t_MOST_TEXT : Tok
  MOST_TEXT : mg "MOST_TEXT" = some (Value.int 60 t_MOST_TEXT)
  t_MOST_FIGURES : Tok
  MOST_FIGURES : mg "MOST_FIGURES" = some (Value.int 18 t_MOST_FIGURES)
  q_LONG_MARKS : Addr
  LONG_MARKS : mg "LONG_MARKS" = some (.ref q_LONG_MARKS)
  tp_LONG_MARKS : ∀ H : Hp, SqT K H q_LONG_MARKS [.str "->", .str "=="]
  t_MARKS : Tok
  MARKS : mg "MARKS" = some (Value.str "(){},:=|.?+-*<" t_MARKS)
  t_QUOTE : Tok
  QUOTE : mg "QUOTE" = some (Value.str "\"" t_QUOTE)
  range : mg "range" = none
  int : mg "int" = none
  len : mg "len" = none
  bool : mg "bool" = none
  str : mg "str" = none
  list : mg "list" = none
  tuple : mg "tuple" = none
  isinstance : mg "isinstance" = none
  all : mg "all" = none
  sum : mg "sum" = none
  enumerate : mg "enumerate" = none
  min : mg "min" = none
  max : mg "max" = none
  sorted : mg "sorted" = none

local macro_rules | `(tactic| walk_at "go") => `(tactic| ((try dsimp only [cxOf, Cx.nox, Cx.wish, List.map_cons, List.map_nil]); (try simp only [lit_0, lit_1, lit_2, lit_3, lit_4, lit_5, lit_6, lit_7, lit_8, lit_9, lit_10, lit_11, lit_12, lit_13, lit_14, lit_15, lit_16, lit_17, lit_18, lit_19, lit_20, lit_21, lit_22, lit_23, lit_24, lit_25, lit_26, lit_27, lit_28, lit_29, lit_30, lit_31, lit_32, lit_33, lit_34, lit_35, lit_36, lit_37, lit_38, lit_39, lit_40, lit_41, lit_42, lit_43, lit_44, lit_45, lit_46, lit_47, lit_48, lit_49, lit_50, lit_51, lit_52, lit_53, lit_54, lit_55, lit_56, lit_57, lit_58, lit_59, lit_60, lit_61, lit_62, lit_63, lit_64])))

def loose0 : List PySem.Str := ["_wall", "ServerError", "BadText", "WORDS", "HEAD_WORDS", "MOST_SIGNS", "SMALL", "GREAT", "FIGURES", "is_line", "is_word", "is_name", "is_great", "run_of", "begins_block", "head_of", "MOST_TEXT", "MOST_FIGURES", "LONG_MARKS", "MARKS", "QUOTE", "check_lines", "is_figures", "run_end", "wild_end", "word_of", "text_at", "sign_at", "spans_in", "signs_of"]
def loose1 : List PySem.Str := ["OPERATORS", "ITEMS", "ATOMS", "NotForm", "Reading", "read_sign", "read_thing", "read_kind", "begin", "wrap", "finish", "read_item", "read_rest", "read_some", "read_perhaps", "read_told", "read_body", "read_rank", "read_tail", "read_member", "read_atom", "ACTIONS", "step", "begun", "declaration", "MOST_ROW", "MOST_BRACKETS", "MOST_DEPTH", "MOST_NODES", "too_much"]
def loose2 : List PySem.Str := ["walked", "place_in", "without_spans", "tree_from", "tree_of", "_law_pool", "_law_stream", "_law_pick", "_law_same", "_law_of", "_law_run", "_law_small", "_law_great", "_law_wild", "_law_all", "_law_words", "_law_marks", "_law_sign", "_law_none", "_law_tight", "_law_remark", "_law_laid", "_law_tall", "_law_block"]
def hfn0 : List He.DefD := [HM.dd ("is_line", none) "is_line" "is_line" s_is_line, HM.dd ("is_word", none) "is_word" "is_word" s_is_word, HM.dd ("is_name", none) "is_name" "is_name" s_is_name, HM.dd ("is_great", none) "is_great" "is_great" s_is_great, HM.dd ("run_of", none) "run_of" "run_of" s_run_of, HM.dd ("begins_block", none) "begins_block" "begins_block" s_begins_block, HM.dd ("head_of", none) "head_of" "head_of" s_head_of, HM.dd ("check_lines", none) "check_lines" "check_lines" s_check_lines, HM.dd ("is_figures", none) "is_figures" "is_figures" s_is_figures, HM.dd ("run_end", none) "run_end" "run_end" s_run_end, HM.dd ("wild_end", none) "wild_end" "wild_end" s_wild_end, HM.dd ("word_of", none) "word_of" "word_of" s_word_of, HM.dd ("text_at", none) "text_at" "text_at" s_text_at, HM.dd ("sign_at", none) "sign_at" "sign_at" s_sign_at, HM.dd ("spans_in", none) "spans_in" "spans_in" s_spans_in, HM.dd ("signs_of", none) "signs_of" "signs_of" s_signs_of, HM.dd ("tree_from", none) "tree_from" "tree_from" s_tree_from, HM.dd ("tree_of", none) "tree_of" "tree_of" s_tree_of, HM.dd ("_law_pool", none) "_law_pool" "_law_pool" s_law_pool, HM.dd ("_law_stream", none) "_law_stream" "_law_stream" s_law_stream]
def hfn1 : List He.DefD := [HM.dd ("_law_pick", none) "_law_pick" "_law_pick" s_law_pick, HM.dd ("_law_same", none) "_law_same" "_law_same" s_law_same, HM.dd ("_law_of", none) "_law_of" "_law_of" s_law_of, HM.dd ("_law_run", none) "_law_run" "_law_run" s_law_run, HM.dd ("_law_small", none) "_law_small" "_law_small" s_law_small, HM.dd ("_law_great", none) "_law_great" "_law_great" s_law_great, HM.dd ("_law_wild", none) "_law_wild" "_law_wild" s_law_wild, HM.dd ("_law_all", none) "_law_all" "_law_all" s_law_all, HM.dd ("_law_words", none) "_law_words" "_law_words" s_law_words, HM.dd ("_law_marks", none) "_law_marks" "_law_marks" s_law_marks, HM.dd ("_law_sign", none) "_law_sign" "_law_sign" s_law_sign, HM.dd ("_law_none", none) "_law_none" "_law_none" s_law_none, HM.dd ("_law_tight", none) "_law_tight" "_law_tight" s_law_tight, HM.dd ("_law_remark", none) "_law_remark" "_law_remark" s_law_remark, HM.dd ("_law_laid", none) "_law_laid" "_law_laid" s_law_laid, HM.dd ("_law_tall", none) "_law_tall" "_law_tall" s_law_tall, HM.dd ("_law_block", none) "_law_block" "_law_block" s_law_block, HM.dd ("law", none) "law" "law" s_law]
def hfn : List He.DefD := hfn0 ++ hfn1
def hfa0 : List He.Fa := [.glo "is_line", .glo "is_word", .glo "is_name", .glo "is_great", .glo "run_of", .glo "begins_block", .glo "head_of", .glo "check_lines", .glo "is_figures", .glo "run_end", .glo "wild_end", .glo "word_of", .glo "text_at", .glo "sign_at", .glo "spans_in", .glo "signs_of", .glo "tree_from", .glo "tree_of", .glo "_law_pool", .glo "_law_stream", .glo "_law_pick", .glo "_law_same", .glo "_law_of", .glo "_law_run", .glo "_law_small", .glo "_law_great", .glo "_law_wild", .glo "_law_all", .glo "_law_words", .glo "_law_marks"]
def hfa1 : List He.Fa := [.glo "_law_sign", .glo "_law_none", .glo "_law_tight", .glo "_law_remark", .glo "_law_laid", .glo "_law_tall", .glo "_law_block", .glo "law", .glo "WORDS", .glo "HEAD_WORDS", .int "MOST_SIGNS" 100, .str "SMALL" "abcdefghijklmnopqrstuvwxyz", .str "GREAT" "ABCDEFGHIJKLMNOPQRSTUVWXYZ", .str "FIGURES" "0123456789", .int "MOST_TEXT" 60, .int "MOST_FIGURES" 18, .glo "LONG_MARKS", .str "MARKS" "(){},:=|.?+-*<", .str "QUOTE" "\"", .free "range", .free "int", .free "len", .free "bool", .free "str", .free "list", .free "tuple", .free "isinstance", .free "all", .free "sum", .free "enumerate"]
def hfa2 : List He.Fa := [.free "min", .free "max", .free "sorted"]
def hfa : List He.Fa := hfa0 ++ hfa1 ++ hfa2
def hexs (K : PySem.W.Frag) : List Bool := [He.tupB K "WORDS" [.str "use", .str "data", .str "let", .str "fun", .str "if", .str "then", .str "else", .str "in", .str "match", .str "with", .str "end", .str "true", .str "false", .str "and", .str "or", .str "not", .str "int", .str "bool", .str "text"], He.tupB K "HEAD_WORDS" [.str "use", .str "data", .str "let", .str "fun"], He.tupB K "LONG_MARKS" [.str "->", .str "=="]]
def hex (K : PySem.W.Frag) : Bool := (hexs K).all id
abbrev hR : PySem.W.OpenRow := PySem.W.OpenLaw.row PySem.Challenge.rw_asifnew_k10_whole_signs_by_the_making
abbrev hH : PySem.W.Hook := HM.hookM hfa hfn hex
def hob (s : PySem.W.SharedT) : HM.AlM := HM.obsM hfa hfn hex (HandSHeadRun.getT s)
theorem hob_eq (s : PySem.W.SharedT) : hob s = hH.obs s.abs := HM.obsM_eq (HandSHeadRun.getT_eq s)
theorem hrun0 (w : World) : HandSHeadRun.RunEq hR (PySem.W.view hR.prog [90]) hH hob 12000 (My.loose0 ++ My.loose1 ++ My.loose2) (w.withFollow "special-get-raises" false) := by
  intro os
  kernel_rfl
theorem hrun1 (w : World) : HandSHeadRun.RunEq hR (PySem.W.view hR.prog [90]) hH hob 12000 (My.loose0 ++ My.loose1 ++ My.loose2) (w.withFollow "special-get-raises" true) := by
  intro os
  kernel_rfl
theorem hrun (w : World) : HandSHeadRun.RunEq hR (PySem.W.view hR.prog [90]) hH hob 12000 (My.loose0 ++ My.loose1 ++ My.loose2) w := PySem.W.byRow2 "special-get-raises" (P := fun w => HandSHeadRun.RunEq hR (PySem.W.view hR.prog [90]) hH hob 12000 (My.loose0 ++ My.loose1 ++ My.loose2) w) hrun0 hrun1 w

section
variable {P : Program} {w : World} {K : PySem.W.Frag} {mg : Str → Option Value} {base : Heap}
/-- the pool: its place, and numbers from 0 to 59 -/
def Pool (ns : List Int) : Prop := ∃ (i : Nat) (r : List Int), ns = (i : Int) :: r ∧ 1 ≤ i ∧ i ≤ r.length ∧ r.length ≤ 100000 ∧ ∀ z ∈ r, 0 ≤ z ∧ z < 60
def F_pick : FD := fun ds G R => ∃ (k : Nat) (ns : List Int) (n : Int), ds = [.ptr k, .int n] ∧ 0 < n ∧ G[k]? = some (.lst (ns.map D.int)) ∧ Pool ns ∧
  ∀ (z : Int) (ns' : List Int), 0 ≤ z → z < n → Pool ns' → R (.int z) (G.set k (.lst (ns'.map D.int)))
theorem ok_law_pick (T : Top K mg) : FnOk P w K mg base CX0 1 T.a_law_pick T.d_law_pick ["pool", "many"] (SpD K F_pick) := by
  refine fn_ok T.law_pick.fn sc_law_pick (fun ds G R h => ?_) fun cdv A outer s H E hr => ⟨_, (pss_cons (ps_set (i := 2) sc_law_pick.nd rfl (Or.inl rfl) (pe_ix (show IxR _ (rIxL K) from ix_list) (pv 0) pe_int (fun _ _ => rfl)))
  (pss_cons (ps_asg (pe_op op_add (pv 2) pe_int) (pg_sub (pv 0) pe_int set_list))
  (pss_cons (ps_if (pt_cmpR op_eq (pe_ix (show IxR _ (rIxL K) from ix_list) (pv 0) pe_int (fun _ _ => rfl)) (pe_callB (show CallR _ (Value.builtin "len") (fun xs H Q => ∃ p ys, xs = [L2.V.ref p] ∧ (SqL K H p ys ∨ SqT K H p ys) ∧ Q (L2.V.int ys.length) H) from call_len_seq) (by rfl) T.len (by decide +kernel) (pa_cons (pv 0) pa_nil)) (nomark _))
   (pss_one (ps_asg pe_int (pg_sub (pv 0) pe_int set_list)))
   pss_nil)
  (pss_one (ps_ret (pe_op op_mod (pe_callTy call_int1 (by rfl) T.int (by decide +kernel) (pa_cons (pe_ix (show IxR _ (rIxL K) from ix_list) (pv 0) (pv 2) (fun _ _ => rfl)) pa_nil)) (pv 1))))))), fun ds G R hF => ?_⟩
  · obtain ⟨k, ns, n, rfl, _⟩ := h
    rfl
  · obtain ⟨k, ns, n, rfl, hn, hk, hP, q⟩ := hF
    (try dsimp only [cxOf, Cx.nox, Cx.wish])
    change WS K _ [some _, some _, none] _ _
    obtain ⟨i, r, rfl, h1, h2, h3, h4⟩ := hP
    have hi : i - 1 < r.length := by omega
    obtain ⟨z, hz⟩ : ∃ z, r[i - 1]? = some z := ⟨_, List.getElem?_eq_getElem hi⟩
    have hl : k < G.length := (List.getElem?_eq_some_iff.mp hk).1
    walk_at "ww"
    refine rd_ixL (isRp hk) at0 ?_
    walk_at "ww"
    refine ⟨_, _, _, _, rfl, rfl, hk, ix0 (by simp), ?_⟩
    walk_at "ww"
    refine rd_ixL (isRp (List.getElem?_set_self hl)) at0 ?_
    walk_at "ww"
    refine rc_len (isQp (List.getElem?_set_self hl)) ?_
    walk_at "ww"
    have e0 : (List.map D.int ((i : Int) :: r)).set 0 (.int ((i : Int) + 1)) = List.map D.int (((i : Int) + 1) :: r) := rfl
    rw [e0]
    have get : ∀ (G' : Cells) (y : Int), G'[k]? = some (.lst (List.map D.int (y :: r))) → atI (List.map D.int (y :: r)) (i : Int) = some (.int z) := fun G' y _ => atZ (by omega) (by
      have e : ((i : Int)).toNat = (i - 1) + 1 := by omega
      rw [e, List.map_cons, List.getElem?_cons_succ, List.getElem?_map, hz]
      rfl)
    have hz4 := h4 z (List.mem_of_getElem? hz)
    refine ite_P (fun hc => ?_) (fun hc => ?_)
    · walk_at "ww"
      refine ⟨_, _, _, _, rfl, rfl, List.getElem?_set_self hl, ix0 (by simp), ?_⟩
      walk_at "ww"
      rw [List.set_set, show (List.map D.int (((i : Int) + 1) :: r)).set 0 (.int 1) = List.map D.int ((1 : Int) :: r) from rfl]
      refine rd_ixL (isRp (List.getElem?_set_self hl)) (get _ _ (List.getElem?_set_self hl)) ?_
      walk_at "ww"
      · exact .inl (q _ _ (Int.emod_nonneg _ (by omega)) (Int.emod_lt_of_pos _ hn) ⟨1, r, rfl, by omega, by omega, h3, h4⟩)
      · exact hn
    · walk_at "ww"
      refine rd_ixL (isRp (List.getElem?_set_self hl)) (get _ _ (List.getElem?_set_self hl)) ?_
      walk_at "ww"
      · refine .inl (q _ _ (Int.emod_nonneg _ (by omega)) (Int.emod_lt_of_pos _ hn) ⟨i + 1, r, by simp, by omega, ?_, h3, h4⟩)
        simp at hc
        omega
      · exact hn
/-- a list of numbers from 0 to 59 -/
def Digs (ns : List Int) : Prop := ∀ z ∈ ns, 0 ≤ z ∧ z < 60
theorem Digs.snoc {ns : List Int} (h : Digs ns) {z : Int} : Digs (ns ++ [z % 60]) := fun y hy => by
  rcases List.mem_append.mp hy with hy | hy
  · exact h y hy
  · rw [List.mem_singleton.mp hy]
    exact ⟨Int.emod_nonneg _ (by decide), Int.emod_lt_of_pos _ (by decide)⟩
theorem map_snoc {ns : List Int} {z : Int} : List.map D.int ns ++ [D.int z] = List.map D.int (ns ++ [z]) := by rw [List.map_append]; rfl
/-- a pool that grows at a slot -/
def Grow (G : Cells) (n : Nat) (o : Option D) (G' : Cells) : Prop := ∃ (k : Nat) (ms : List Int) (more : Cells), o = some (.ptr (G.length + k)) ∧ G' = G ++ more ∧ more[k]? = some (.lst (ms.map D.int)) ∧ Digs ms ∧ ms.length ≤ n
def F_pool : FD := fun ds G R => ∃ ns : List Int, ds = [.ro (ns.map D.int)] ∧ ns.length ≤ 63 ∧ ∀ ms : List Int, Digs ms → 300 ≤ ms.length → ms.length ≤ 5000 → R (.lst (ms.map D.int)) G
theorem ok_law_pool (T : Top K mg) : FnOk P w K mg base CX0 1 T.a_law_pool T.d_law_pool ["script"] (SpD K F_pool) := by
  refine fn_ok T.law_pool.fn sc_law_pool (fun ds G R h => ?_) fun cdv A outer s H E hr => ⟨_, (pss_cons (ps_set (i := 1) sc_law_pool.nd rfl (Or.inl rfl) (pe_lst pa_nil))
  (pss_cons (ps_for PassesOwn.never rfl (pi_list (pv 0)) (pg_name (i := 2) sc_law_pool.nd rfl (Or.inl rfl))
   (pss_cons (ps_set (i := 3) sc_law_pool.nd rfl (Or.inl rfl) (pe_callTy call_int1 (by rfl) T.int (by decide +kernel) (pa_cons (pv 2) pa_nil)))
  (pss_one (ps_if (pt_cmpR op_ge (pv 3) (pe_op op_pow pe_int pe_int) (nomark _))
   (pss_one (ps_for PassesOwn.never rfl (pi_range1 rfl T.range (pa_cons pe_int pa_nil)) (pg_name (i := 4) sc_law_pool.nd rfl (Or.inl rfl))
   (pss_cons (ps_expr (pe_bm PySem.F.plainAttrs_list PySem.F.slot_list_append PySem.F.type_list_append mt_append (pv 1) (pa_cons (pe_op op_mod (pe_callTy call_int1 (by rfl) T.int (by decide +kernel) (pa_cons (pv 3) pa_nil)) pe_int) pa_nil)))
  (pss_cons (ps_set (i := 3) sc_law_pool.nd rfl (Or.inl rfl) (pe_callTy call_int1 (by rfl) T.int (by decide +kernel) (pa_cons (pe_op op_fdiv (pv 3) pe_int) pa_nil)))
  (pss_one (ps_if (pt_cmpR op_eq (pv 3) pe_int (nomark _))
   (pss_one ps_break)
   pss_nil))))))
   (pss_one (ps_set (i := 1) sc_law_pool.nd rfl (Or.inl rfl) (pe_op op_cat (pv 1) (pe_lst (pa_cons (pe_op op_mod (pe_callTy call_int1 (by rfl) T.int (by decide +kernel) (pa_cons (pv 3) pa_nil)) pe_int) (pa_cons (pe_op op_mod (pe_callTy call_int1 (by rfl) T.int (by decide +kernel) (pa_cons (pe_op op_fdiv (pv 3) pe_int) pa_nil)) pe_int) pa_nil))))))))))
  (pss_cons (ps_set (i := 5) sc_law_pool.nd rfl (Or.inl rfl) pe_int)
  (pss_cons (ps_for PassesOwn.never rfl (pi_list (pv 0)) (pg_name (i := 2) sc_law_pool.nd rfl (Or.inl rfl))
   (pss_one (ps_set (i := 5) sc_law_pool.nd rfl (Or.inl rfl) (pe_op op_mod (pe_op op_add (pe_op op_mul (pv 5) pe_int) (pe_callTy call_int1 (by rfl) T.int (by decide +kernel) (pa_cons (pv 2) pa_nil))) pe_int))))
  (pss_cons (ps_for PassesOwn.never rfl (pi_range1 rfl T.range (pa_cons pe_int pa_nil)) (pg_name (i := 4) sc_law_pool.nd rfl (Or.inl rfl))
   (pss_cons (ps_set (i := 5) sc_law_pool.nd rfl (Or.inl rfl) (pe_op op_mod (pe_op op_add (pe_op op_mul (pv 5) pe_int) pe_int) pe_int))
  (pss_one (ps_expr (pe_bm PySem.F.plainAttrs_list PySem.F.slot_list_append PySem.F.type_list_append mt_append (pv 1) (pa_cons (pe_op op_mod (pe_callTy call_int1 (by rfl) T.int (by decide +kernel) (pa_cons (pe_op op_fdiv (pv 5) pe_int) pa_nil)) pe_int) pa_nil))))))
  (pss_one (ps_ret (pv 1)))))))), fun ds G R hF => ?_⟩
  · obtain ⟨ns, rfl, _⟩ := h
    rfl
  · obtain ⟨ns, rfl, hn, q⟩ := hF
    (try dsimp only [cxOf, Cx.nox, Cx.wish])
    change WS K _ [some _, none, none, none, none, none] _ _
    walk_at "ww"
    walk_at "hot"
    -- for cell in script
    refine ws_for (wi_list (we_var rfl ⟨_, isRo, fun i ρ G' => ∃ o x2 x3 x4, ρ = [some (.ro (ns.map D.int)), o, x2, x3, x4, none] ∧ Grow G (60 * i) o G', ⟨_, none, none, none, rfl, 0, [], [.lst []], rfl, rfl, rfl, (fun z hz => by cases hz), Nat.zero_le _⟩, fun i ρ G' _ => isRo, ?_, ?_⟩))
    · rintro i d ρ G' hi ⟨o, x2, x3, x4, rfl, k, ms, more, rfl, rfl, hk, hd, hl⟩
      obtain ⟨c, hc, rfl⟩ := map_get hi
      have hi63 : i < 63 := Nat.lt_of_lt_of_le (List.getElem?_eq_some_iff.mp hc).1 hn
      walk_at "ww"
      · refine ite_P (fun hb => ?_) (fun hb => ?_)
        · -- for k in range(60)
          refine ws_for (wi_rng1 (wa_cons (we_int (wa_nil ⟨60, rfl, by decide, by decide, fun j ρ G' => ∃ (o x2 : Option D) (x3 : Int) (x4 : Option D), ρ = [some (.ro (ns.map D.int)), o, x2, some (.int x3), x4, none] ∧ Grow G (60 * i + j) o G', ⟨_, _, c, x4, rfl, k, ms, more, rfl, rfl, hk, hd, hl⟩, fun _ _ _ _ => trivial, ?_, ?_⟩))))
          · rintro j d ρ G' hj ⟨o, x2, x3, x4, rfl, k, ms, more, rfl, rfl, hk, hd, hl⟩
            obtain ⟨hj', rfl⟩ := rgD_get' hj
            have hj : j < 60 := hj'
            walk_at "ww"
            refine ⟨⟨_, isLp (get_app.trans hk)⟩, ?_⟩
            walk_at "ww"
            · refine rm_append (get_app.trans hk) (by rw [List.length_map]; exact lt_size (by omega)) ?_
              rw [set_app, map_snoc]
              walk_at "ww"
              · have z : Grow G (60 * i + (j + 1)) (some (.ptr (G.length + k))) (G ++ more.set k (.lst (List.map D.int (ms ++ [x3 % 60])))) := ⟨k, ms ++ [x3 % 60], _, rfl, rfl, set_same hk, hd.snoc, by rw [List.length_append]; simp; omega⟩
                refine ite_P (fun _ => ?_) (fun _ => ?_)
                · walk_at "ww"
                  obtain ⟨k', ms', more', e1, e2, e3, e4, e5⟩ := z
                  exact ⟨_, _, _, _, rfl, k', ms', more', e1, e2, e3, e4, by omega⟩
                · walk_at "ww"
                  exact ⟨_, _, _, _, rfl, z⟩
              · exact ⟨by decide, by decide⟩
            · decide
          · rintro ρ G' ⟨o, x2, x3, x4, rfl, k, ms, more, rfl, rfl, hk, hd, hl⟩
            have hl : ms.length ≤ 60 * i + 60 := hl
            exact ⟨_, _, _, _, rfl, k, ms, more, rfl, rfl, hk, hd, by omega⟩
        · walk_at "ww"
          · walk_at "cold"
            refine rd_cat (isLp (get_app.trans hk)) isL (by rw [List.length_map]; exact le_size (by simp; omega)) ?_
            walk_at "hot"
            refine ⟨_, _, _, _, rfl, more.length, ms ++ [c % 60] ++ [c / 60 % 60], more ++ [.lst (List.map D.int (ms ++ [c % 60] ++ [c / 60 % 60]))], ?_, ?_, ?_, hd.snoc.snoc, ?_⟩
            · rw [List.length_append]
            · rw [List.append_assoc, ← map_snoc, ← map_snoc, List.append_assoc]
              rfl
            · rw [List.getElem?_append_right (Nat.le_refl _), Nat.sub_self]
              rfl
            · simp
              omega
          all_goals first | decide | exact ⟨by decide, by decide⟩
      · exact cpow18
    · rintro ρ G' ⟨o, x2, x3, x4, rfl, k, ms, more, rfl, rfl, hk, hd, hl⟩
      rw [List.length_map] at hl
      walk_at "ww"
      -- the state's loop
      refine ws_for (wi_list (we_var rfl ⟨_, isRo, fun i ρ G' => ∃ (x2 : Option D) (x5 : Int), ρ = [some (.ro (ns.map D.int)), some (.ptr (G.length + k)), x2, x3, x4, some (.int x5)] ∧ G' = G ++ more ∧ 0 ≤ x5 ∧ x5 < 2147483647, ⟨_, 17, rfl, rfl, by decide, by decide⟩, fun i ρ G' _ => isRo, ?_, ?_⟩))
      · rintro i d ρ G' hi ⟨x2, x5, rfl, rfl, h5, h6⟩
        obtain ⟨c, hc, rfl⟩ := map_get hi
        walk_at "ww"
        · exact ⟨_, _, rfl, rfl, Int.emod_nonneg _ (by decide), Int.emod_lt_of_pos _ (by decide)⟩
        · exact .inl ⟨by omega, by omega⟩
        · decide
      · rintro ρ G' ⟨x2, x5, rfl, rfl, h5, h6⟩
        walk_at "ww"
        -- three hundred behind
        refine ws_for (wi_rng1 (wa_cons (we_int (wa_nil ⟨300, rfl, by decide, by decide, fun j ρ G' => ∃ (o x4 : Option D) (x5 : Int), ρ = [some (.ro (ns.map D.int)), o, x2, x3, x4, some (.int x5)] ∧ 0 ≤ x5 ∧ x5 < 2147483647 ∧ ∃ (k : Nat) (ms : List Int) (more : Cells), o = some (.ptr (G.length + k)) ∧ G' = G ++ more ∧ more[k]? = some (.lst (ms.map D.int)) ∧ Digs ms ∧ ms.length ≤ 4000 + j ∧ j ≤ ms.length,
          ⟨_, x4, x5, rfl, h5, h6, k, ms, more, rfl, rfl, hk, hd, by omega, by omega⟩, fun _ _ _ _ => trivial, ?_, ?_⟩))))
        · rintro j d ρ G' hj ⟨o, x4, x5, rfl, h5, h6, k, ms, more, rfl, rfl, hk, hd, hl, hj2⟩
          obtain ⟨hj', rfl⟩ := rgD_get' hj
          have hj : j < 300 := hj'
          walk_at "ww"
          · refine ⟨⟨_, isLp (get_app.trans hk)⟩, ?_⟩
            walk_at "ww"
            · refine rm_append (get_app.trans hk) (by rw [List.length_map]; exact lt_size (by omega)) ?_
              rw [set_app, map_snoc]
              refine ⟨_, _, _, rfl, Int.emod_nonneg _ (by decide), Int.emod_lt_of_pos _ (by decide), k, _, _, rfl, rfl, set_same hk, hd.snoc, ?_, ?_⟩
              · rw [List.length_append]
                simp
                omega
              · rw [List.length_append]
                simp
                omega
            all_goals walk_at "side"
          all_goals walk_at "side"
        · rintro ρ G' ⟨o, x4, x5, rfl, h5, h6, k, ms, more, rfl, rfl, hk, hd, hl, hj2⟩
          have hl : ms.length ≤ 4000 + 300 := hl
          have hj2 : 300 ≤ ms.length := hj2
          refine ws_ret (we_fz (we_var rfl ⟨_, _, rfl, get_app.trans hk, ?_⟩))
          rw [set_app]
          exact Gc.same (.lst (Cls.map (fun i => .int i) _)) (q ms hd hj2 (by omega))
def F_stream : FD := fun ds G R => ∃ ns : List Int, ds = [.ro (ns.map D.int)] ∧ ns.length ≤ 63 ∧ ∀ ms : List Int, Pool ms → R (.ptr G.length) (G ++ [.lst (ms.map D.int)])
theorem ok_law_stream (T : Top K mg) : FnOk P w K mg base CX0 2 T.a_law_stream T.d_law_stream ["script"] (SpD K F_stream) := by
  refine fn_ok T.law_stream.fn sc_law_stream (fun ds G R h => ?_) fun cdv A outer s H E hr => ⟨_, (pss_one (ps_ret (pe_op op_cat (pe_lst (pa_cons pe_int pa_nil)) (pe_call (ok_law_pool T) (hr.mono (by decide)) (by rfl) T.law_pool.mg T.law_pool.fn.kp T.law_pool.bd .nil pass0 (pa_cons (pv 0) pa_nil))))), fun ds G R hF => ?_⟩
  · obtain ⟨ns, rfl, _⟩ := h
    rfl
  · obtain ⟨ns, rfl, hn, q⟩ := hF
    (try dsimp only [cxOf, Cx.nox, Cx.wish])
    change WS K _ [some _] _ _
    walk_at "ww"
    walk_at "cold"
    refine ⟨ns, rfl, hn, fun ms h1 h2 h3 => ?_⟩
    refine rd_cat isL isL (by rw [List.length_map]; exact le_size (by simp; omega)) (.inr (.inl ?_))
    exact q (1 :: ms) ⟨1, ms, rfl, by omega, by omega, by omega, h1⟩
end

section
variable {P : Program} {w : World} {K : PySem.W.Frag} {mg : Str → Option Value} {base : Heap}
/-- how far a run of signs goes -/
def tw (s l : List Nat) : Nat := (l.takeWhile fun c => decide (c ∈ s)).length
theorem tw_in {s l : List Nat} {e c : Nat} (h : l[e]? = some c) (hc : c ∈ s) : tw s (l.drop e) = 1 + tw s (l.drop (e + 1)) := by
  have hl := (List.getElem?_eq_some_iff.mp h).1
  have hv := (List.getElem?_eq_some_iff.mp h).2
  unfold tw
  rw [List.drop_eq_getElem_cons hl, hv, List.takeWhile_cons_of_pos (p := fun c => decide (c ∈ s)) (decide_eq_true hc), List.length_cons, Nat.add_comm]
theorem tw_out {s l : List Nat} {e c : Nat} (h : l[e]? = some c) (hc : ¬ c ∈ s) : tw s (l.drop e) = 0 := by
  have hl := (List.getElem?_eq_some_iff.mp h).1
  have hv := (List.getElem?_eq_some_iff.mp h).2
  unfold tw
  rw [List.drop_eq_getElem_cons hl, hv, List.takeWhile_cons_of_neg (p := fun c => decide (c ∈ s)) (by rw [decide_eq_false hc]; exact Bool.false_ne_true)]
  rfl
theorem tw_end {s l : List Nat} {e : Nat} (h : l.length ≤ e) : tw s (l.drop e) = 0 := by
  rw [List.drop_eq_nil_of_le h]
  rfl
/-- what is left, by the number in a slot -/
def left (n i : Nat) : DEnv → Cells → Nat := fun ρ _ => match ρ[i]? with
  | some (some (.int z)) => n - z.toNat
  | _ => 0
def F_run_end : FD := fun ds G R => ∃ (l : List Nat) (a : Nat) (s : List Nat), ds = [.str (S l), .int (a : Nat), .str (S s)] ∧ l.length ≤ 90000 ∧ a ≤ l.length ∧ R (.int ((a + tw s (l.drop a) : Nat) : Int)) G
theorem ok_run_end (T : Top K mg) : FnOk P w K mg base CX0 1 T.a_run_end T.d_run_end ["line", "at", "signs"] (SpD K F_run_end) := by
  refine fn_ok T.run_end.fn sc_run_end (fun ds G R h => ?_) fun cdv A outer s H E hr => ⟨_, (pss_cons (ps_set (i := 3) sc_run_end.nd rfl (Or.inl rfl) (pv 1))
  (pss_cons (ps_while PassesOwn.never (PW.pt (pw_and (pt_cmpR op_lt (pv 3) (pe_callB call_len_str (by rfl) T.len (by decide +kernel) (pa_cons (pv 0) pa_nil)) (nomark _)) (pw_and1 (pt_cmpR op_in_sign (pe_ix ix_str (pv 0) (pv 3) (fun _ _ => rfl)) (pv 2) rfl))))
   (pss_one (ps_aug (i := 3) sc_run_end.nd rfl (Or.inl rfl) pe_int ip_add)))
  (pss_one (ps_ret (pv 3))))), fun ds G R hF => ?_⟩
  · obtain ⟨l, a, s, rfl, _⟩ := h
    rfl
  · obtain ⟨l, a, s, rfl, hl, ha, q⟩ := hF
    walk_at "go"
    change WS K _ [some _, some _, some _, none] _ _
    walk_at "ww"
    refine ws_while (fun ρ G' => ∃ e : Nat, ρ = [some (.str (S l)), some (.int (a : Nat)), some (.str (S s)), some (.int (e : Nat))] ∧ G' = G ∧ e ≤ l.length ∧ e + tw s (l.drop e) = a + tw s (l.drop a)) (left l.length 3) ⟨a, rfl, rfl, ha, rfl⟩ ?_
    rintro ρ G' ⟨e, rfl, rfl, he, hq⟩
    walk_at "ww"
    · refine ite_P (fun h1 => ?_) (fun h1 => ?_)
      · have h1 : e < l.length := by omega
        obtain ⟨c, hc⟩ : ∃ c, l[e]? = some c := ⟨_, List.getElem?_eq_getElem h1⟩
        walk_at "ww"
        refine rd_ixT' (by omega) (by omega) (c := c) (by rw [Int.toNat_natCast]; exact hc) ?_
        walk_at "ww"
        refine ite_P (fun h2 => ?_) (fun h2 => ?_)
        · refine ws_augI rfl ?_
          walk_at "ww"
          have e1 : (e : Int) + 1 = ((e + 1 : Nat) : Int) := rfl
          rw [e1]
          refine ⟨⟨e + 1, rfl, rfl, h1, ?_⟩, ?_⟩
          · rw [← hq, tw_in hc h2]
            omega
          · show l.length - (((e + 1 : Nat) : Int)).toNat < l.length - ((e : Nat) : Int).toNat
            omega
        · walk_at "ww"
          rw [tw_out hc h2, Nat.add_zero] at hq
          rw [hq]
          exact .inl q
      · walk_at "ww"
        rw [tw_end (by omega), Nat.add_zero] at hq
        rw [hq]
        exact .inl q
    · omega
def F_is_line : FD := fun ds G R => ∃ l : List Nat, ds = [.str (S l)] ∧ l.length ≤ 100000 ∧ R (.bl (Tx.isLine l)) G
theorem ok_is_line (T : Top K mg) : FnOk P w K mg base CX0 1 T.a_is_line T.d_is_line ["value"] (SpD K F_is_line) := by
  refine fn_ok T.is_line.fn sc_is_line (fun ds G R h => ?_) fun cdv A outer s H E hr => ⟨_, (pss_one (ps_ret (pe_and (pe_callB call_isi (by rfl) T.isinstance (by decide +kernel) (pa_cons (pv 0) (pa_cons (pe_bltn (v := .ty "str") (by rfl) T.str (by decide +kernel) rfl) pa_nil))) (pe_and (pe_cmpR op_le (pe_callB call_len_str (by rfl) T.len (by decide +kernel) (pa_cons (pv 0) pa_nil)) (pe_glob (v := .int 100) rfl T.MOST_SIGNS ⟨_, rfl⟩) (nomark _)) (pe_one (pe_callB (cr_all rfl) (by rfl) T.all (by decide +kernel) (pa_cons (pe_lc (own := [("sign", 1)]) rfl sc_is_line.nd (pi_str (pv 0)) (blkOk_by (N := ["value", "sign"]) (sc := defScope s_is_line) (by decide +kernel)) (fun _ _ _ _ _ => (pg_name (i := 1) sc_is_line.nd rfl (Or.inl rfl))) (fun _ _ _ _ _ => pts_nil) (fun _ _ _ _ _ => (pe_chain op_le_str op_le_str pe_str (pv 1) pe_str))) pa_nil))))))), fun ds G R hF => ?_⟩
  · obtain ⟨l, rfl, _⟩ := h
    rfl
  · obtain ⟨l, rfl, hl, q⟩ := hF
    walk_at "go"
    change WS K _ [some _, none] _ _
    walk_at "ww"
    · refine ite_P (fun h1 => ?_) (fun h1 => ?_)
      · walk_at "ww"
        refine we_lcmap (own_name (by decide)) (wi_strT (we_var rfl (ex_strT ⟨l, _, fun c => .bl (Tx.isSign c), rfl, trivial, hl, fun c hc => ?_, ?_⟩)))
        · walk_at "ww"
          refine ite_P (fun h2 => ?_) (fun h2 => ?_)
          · walk_at "ww"
            exact ⟨by show _ = D.bl (decide (32 ≤ c) && decide (c ≤ 126)); rw [decide_eq_true h2, Bool.true_and], rfl⟩
          · exact ⟨by show _ = D.bl (decide (32 ≤ c) && decide (c ≤ 126)); rw [decide_eq_false h2, Bool.false_and], rfl⟩
        · walk_at "cold"
          refine rc_all (ns := l.map Tx.isSign) (by rw [List.map_map]; exact isR) ?_
          have e : Tx.isLine l = ((l.map Tx.isSign).all id) := by
            unfold Tx.isLine
            rw [decide_eq_true (by omega), Bool.true_and, List.all_map]
            rfl
          rw [← e]
          exact .inl q
      · have e : Tx.isLine l = false := by
          unfold Tx.isLine
          rw [decide_eq_false (by omega), Bool.false_and]
        rw [e] at q
        exact .inl q
    · exact hl
def isWord (b s l : List Nat) : Bool := decide (1 ≤ l.length) && decide (l.length ≤ 12) && decide (l.headD 0 ∈ b) && l.all fun c => decide (c ∈ s)
def F_is_word : FD := fun ds G R => ∃ l b s : List Nat, ds = [.str (S l), .str (S b), .str (S s)] ∧ l.length ≤ 90000 ∧ R (.bl (isWord b s l)) G
theorem ok_is_word (T : Top K mg) : FnOk P w K mg base CX0 1 T.a_is_word T.d_is_word ["value", "begins", "signs"] (SpD K F_is_word) := by
  refine fn_ok T.is_word.fn sc_is_word (fun ds G R h => ?_) fun cdv A outer s H E hr => ⟨_, (pss_cons (ps_if (PW.pt (pw_or (pt_not (pt_val (pe_callB call_isi (by rfl) T.isinstance (by decide +kernel) (pa_cons (pv 0) (pa_cons (pe_bltn (v := .ty "str") (by rfl) T.str (by decide +kernel) rfl) pa_nil))))) (pw_or (pt_not (pt_chain op_le op_le pe_int (pe_callB call_len_str (by rfl) T.len (by decide +kernel) (pa_cons (pv 0) pa_nil)) pe_int)) (pw_or1 (pt_cmpR op_notIn_sign (pe_ix ix_str (pv 0) pe_int (fun _ _ => rfl)) (pv 1) rfl)))))
   (pss_one (ps_ret pe_bl))
   pss_nil)
  (pss_one (ps_ret (pe_callB (cr_all rfl) (by rfl) T.all (by decide +kernel) (pa_cons (pe_lc (own := [("sign", 3)]) rfl sc_is_word.nd (pi_str (pv 0)) (blkOk_by (N := ["value", "begins", "signs", "sign"]) (sc := defScope s_is_word) (by decide +kernel)) (fun _ _ _ _ _ => (pg_name (i := 3) sc_is_word.nd rfl (Or.inl rfl))) (fun _ _ _ _ _ => pts_nil) (fun _ _ _ _ _ => (pe_cmpR op_in_sign (pv 3) (pv 2) rfl))) pa_nil))))), fun ds G R hF => ?_⟩
  · obtain ⟨l, b, s, rfl, _⟩ := h
    rfl
  · obtain ⟨l, b, s, rfl, hl, q⟩ := hF
    walk_at "go"
    change WS K _ [some _, some _, some _, none] _ _
    have bad : isWord b s l = false → Gc G R (.bl false) G := fun e => .inl (by rw [e] at q; exact q)
    walk_at "ww"
    · refine ite_P (fun h1 => ?_) (fun h1 => ?_)
      · walk_at "ww"
        refine ite_N (fun h2 => ?_) (fun h2 => ?_)
        · walk_at "ww"
          exact bad (by unfold isWord; rw [decide_eq_false (p := l.length ≤ 12) (by omega), Bool.and_false, Bool.false_and, Bool.false_and])
        · walk_at "ww"
          obtain ⟨c, r, rfl⟩ : ∃ c r, l = c :: r := by
            cases l with
            | nil => exact absurd h1 (by simp)
            | cons c r => exact ⟨c, r, rfl⟩
          refine rd_ixT' (by omega) (by omega) (c := c) rfl ?_
          walk_at "ww"
          refine ite_N (fun h3 => ?_) (fun h3 => ?_)
          · walk_at "ww"
            exact bad (by unfold isWord; rw [decide_eq_false (p := (c :: r).headD 0 ∈ b) h3, Bool.and_false, Bool.false_and])
          · walk_at "ww"
            refine we_lcmap (own_name (by decide)) (wi_strT (we_var rfl (ex_strT ⟨c :: r, _, fun d => .bl (decide (d ∈ s)), rfl, trivial, by omega, fun d hd => ?_, ?_⟩)))
            · walk_at "ww"
              exact ⟨rfl, rfl⟩
            · walk_at "cold"
              refine rc_all (ns := (c :: r).map fun d => decide (d ∈ s)) (by rw [List.map_map]; exact isR) ?_
              have e : isWord b s (c :: r) = (((c :: r).map fun d => decide (d ∈ s)).all id) := by
                unfold isWord
                rw [decide_eq_true (p := 1 ≤ (c :: r).length) (by omega), decide_eq_true (p := (c :: r).length ≤ 12) (by omega), decide_eq_true (p := (c :: r).headD 0 ∈ b) h3, List.all_map]
                rfl
              rw [← e]
              exact .inl q
      · walk_at "ww"
        exact bad (by unfold isWord; rw [decide_eq_false (p := 1 ≤ l.length) (by omega), Bool.false_and, Bool.false_and, Bool.false_and])
    · omega
abbrev smallL : List Nat := [97, 98, 99, 100, 101, 102, 103, 104, 105, 106, 107, 108, 109, 110, 111, 112, 113, 114, 115, 116, 117, 118, 119, 120, 121, 122]
abbrev greatL : List Nat := [65, 66, 67, 68, 69, 70, 71, 72, 73, 74, 75, 76, 77, 78, 79, 80, 81, 82, 83, 84, 85, 86, 87, 88, 89, 90]
abbrev figL : List Nat := [48, 49, 50, 51, 52, 53, 54, 55, 56, 57]
def isName (l : List Nat) : Bool := isWord (smallL ++ [95]) (smallL ++ figL ++ [95]) l && !decide (l ∈ WORDS_l)
def isGreat (l : List Nat) : Bool := isWord greatL (smallL ++ greatL ++ figL) l
def F_is_name : FD := fun ds G R => ∃ l : List Nat, ds = [.str (S l)] ∧ l.length ≤ 90000 ∧ R (.bl (isName l)) G
theorem ok_is_name (T : Top K mg) : FnOk P w K mg base CX0 2 T.a_is_name T.d_is_name ["value"] (SpD K F_is_name) := by
  refine fn_ok T.is_name.fn sc_is_name (fun ds G R h => ?_) fun cdv A outer s H E hr => ⟨_, (pss_one (ps_ret (pe_and (pe_call (ok_is_word T) (hr.mono (by decide)) (by rfl) T.is_word.mg T.is_word.fn.kp T.is_word.bd .nil pass0 (pa_cons (pv 0) (pa_cons (pe_op op_add_str (pe_glob (v := .str "abcdefghijklmnopqrstuvwxyz") rfl T.SMALL ⟨_, rfl⟩) pe_str) (pa_cons (pe_op op_add_str (pe_op op_add_str (pe_glob (v := .str "abcdefghijklmnopqrstuvwxyz") rfl T.SMALL ⟨_, rfl⟩) (pe_glob (v := .str "0123456789") rfl T.FIGURES ⟨_, rfl⟩)) pe_str) pa_nil)))) (pe_one (pe_cmpR (show OpR _ _ (rIn K true) from op_notIn_seq) (pv 0) (pe_glob (v := .ref T.q_WORDS) rfl T.WORDS rfl) (by first | rfl | exact nomark _)))))), fun ds G R hF => ?_⟩
  · obtain ⟨l, rfl, _⟩ := h
    rfl
  · obtain ⟨l, rfl, hl, q⟩ := hF
    walk_at "go"
    change WS K _ [some _] _ _
    walk_at "ww"
    · refine ⟨l, _, _, rfl, hl, ?_⟩
      refine ⟨_, rfl, ?_⟩
      have e : isName l = (isWord (smallL ++ [95]) (smallL ++ figL ++ [95]) l && !decide (l ∈ WORDS_l)) := rfl
      refine ite_b (fun h => ?_) (fun h => ?_)
      · walk_at "ww"
        refine we_ktup T.tp_WORDS (fun _ _ => reps_S WORDS_v) (rd_inQ isQt ?_)
        rw [h, Bool.true_and] at e
        rw [e] at q
        exact .inl q
      · rw [h, Bool.false_and] at e
        rw [e] at q
        exact .inl q
    all_goals decide
def F_is_great : FD := fun ds G R => ∃ l : List Nat, ds = [.str (S l)] ∧ l.length ≤ 90000 ∧ R (.bl (isGreat l)) G
theorem ok_is_great (T : Top K mg) : FnOk P w K mg base CX0 2 T.a_is_great T.d_is_great ["value"] (SpD K F_is_great) := by
  refine fn_ok T.is_great.fn sc_is_great (fun ds G R h => ?_) fun cdv A outer s H E hr => ⟨_, (pss_one (ps_ret (pe_call (ok_is_word T) (hr.mono (by decide)) (by rfl) T.is_word.mg T.is_word.fn.kp T.is_word.bd .nil pass0 (pa_cons (pv 0) (pa_cons (pe_glob (v := .str "ABCDEFGHIJKLMNOPQRSTUVWXYZ") rfl T.GREAT ⟨_, rfl⟩) (pa_cons (pe_op op_add_str (pe_op op_add_str (pe_glob (v := .str "abcdefghijklmnopqrstuvwxyz") rfl T.SMALL ⟨_, rfl⟩) (pe_glob (v := .str "ABCDEFGHIJKLMNOPQRSTUVWXYZ") rfl T.GREAT ⟨_, rfl⟩)) (pe_glob (v := .str "0123456789") rfl T.FIGURES ⟨_, rfl⟩)) pa_nil)))))), fun ds G R hF => ?_⟩
  · obtain ⟨l, rfl, _⟩ := h
    rfl
  · obtain ⟨l, rfl, hl, q⟩ := hF
    walk_at "go"
    change WS K _ [some _] _ _
    walk_at "ww"
    · exact ⟨l, _, _, rfl, hl, .inl q⟩
    all_goals decide
def isFig (l : List Nat) : Bool := decide (1 ≤ l.length) && decide (l.length ≤ 18) && (l.all fun c => decide (c ∈ figL)) && (decide (l = [48]) || !decide (l.headD 0 = 48))
def F_is_figures : FD := fun ds G R => ∃ l : List Nat, ds = [.str (S l)] ∧ l.length ≤ 90000 ∧ R (.bl (isFig l)) G
theorem ok_is_figures (T : Top K mg) : FnOk P w K mg base CX0 1 T.a_is_figures T.d_is_figures ["value"] (SpD K F_is_figures) := by
  refine fn_ok T.is_figures.fn sc_is_figures (fun ds G R h => ?_) fun cdv A outer s H E hr => ⟨_, (pss_cons (ps_if (PW.pt (pw_or (pt_not (pt_chain op_le op_le pe_int (pe_callB call_len_str (by rfl) T.len (by decide +kernel) (pa_cons (pv 0) pa_nil)) (pe_glob (v := .int 18) rfl T.MOST_FIGURES ⟨_, rfl⟩))) (pw_or1 (pt_not (pt_val (pe_callB (cr_all rfl) (by rfl) T.all (by decide +kernel) (pa_cons (pe_lc (own := [("sign", 1)]) rfl sc_is_figures.nd (pi_str (pv 0)) (blkOk_by (N := ["value", "sign"]) (sc := defScope s_is_figures) (by decide +kernel)) (fun _ _ _ _ _ => (pg_name (i := 1) sc_is_figures.nd rfl (Or.inl rfl))) (fun _ _ _ _ _ => pts_nil) (fun _ _ _ _ _ => (pe_cmpR op_in_sign (pv 1) (pe_glob (v := .str "0123456789") rfl T.FIGURES ⟨_, rfl⟩) rfl))) pa_nil)))))))
   (pss_one (ps_ret pe_bl))
   pss_nil)
  (pss_one (ps_ret (pe_or (pe_cmpR op_eq (pv 0) pe_str (nomark _)) (pe_one (pe_cmpR op_ne (pe_ix ix_str (pv 0) pe_int (fun _ _ => rfl)) pe_str (nomark _))))))), fun ds G R hF => ?_⟩
  · obtain ⟨l, rfl, _⟩ := h
    rfl
  · obtain ⟨l, rfl, hl, q⟩ := hF
    walk_at "go"
    change WS K _ [some _, none] _ _
    have bad : isFig l = false → Gc G R (.bl false) G := fun e => .inl (by rw [e] at q; exact q)
    walk_at "ww"
    · refine ite_P (fun h1 => ?_) (fun h1 => ?_)
      · walk_at "ww"
        refine ite_N (fun h2 => ?_) (fun h2 => ?_)
        · walk_at "ww"
          exact bad (by unfold isFig; rw [decide_eq_false (p := l.length ≤ 18) (by omega), Bool.and_false, Bool.false_and, Bool.false_and])
        · walk_at "ww"
          obtain ⟨c, r, rfl⟩ : ∃ c r, l = c :: r := by
            cases l with
            | nil => exact absurd h1 (by simp)
            | cons c r => exact ⟨c, r, rfl⟩
          refine we_lcmap (own_name (by decide)) (wi_strT (we_var rfl (ex_strT ⟨c :: r, _, fun d => .bl (decide (d ∈ figL)), rfl, trivial, by omega, fun d hd => ?_, ?_⟩)))
          · walk_at "ww"
            exact ⟨rfl, rfl⟩
          · walk_at "cold"
            refine rc_all (ns := (c :: r).map fun d => decide (d ∈ figL)) (by rw [List.map_map]; exact isR) ?_
            have e : ((c :: r).all fun d => decide (d ∈ figL)) = (((c :: r).map fun d => decide (d ∈ figL)).all id) := by rw [List.all_map]; rfl
            rw [← e]
            have e2 : isFig (c :: r) = (((c :: r).all fun d => decide (d ∈ figL)) && (decide (c :: r = [48]) || !decide (c = 48))) := by
              unfold isFig
              rw [decide_eq_true (p := 1 ≤ (c :: r).length) (by omega), decide_eq_true (p := (c :: r).length ≤ 18) (by omega)]
              rfl
            walk_at "ww"
            refine ite_nb (fun h3 => ?_) (fun h3 => ?_)
            · walk_at "ww"
              exact bad (by rw [e2, h3, Bool.false_and])
            · rw [h3, Bool.true_and] at e2
              walk_at "ww"
              refine ite_P (fun h4 => ?_) (fun h4 => ?_)
              · rw [decide_eq_true h4, Bool.true_or] at e2
                rw [e2] at q
                exact .inl q
              · rw [decide_eq_false h4, Bool.false_or] at e2
                walk_at "ww"
                refine rd_ixT' (by omega) (by omega) (c := c) rfl ?_
                walk_at "ww"
                have e3 : (!decide (([c] : List Nat) = [48])) = !decide (c = 48) := by
                  by_cases h5 : c = 48
                  · subst h5; rfl
                  · rw [decide_eq_false h5, decide_eq_false fun z => h5 (by simpa using z)]
                rw [e3, ← e2]
                exact .inl q
      · walk_at "ww"
        exact bad (by unfold isFig; rw [decide_eq_false (p := 1 ≤ l.length) (by omega), Bool.false_and, Bool.false_and, Bool.false_and])
    · omega
theorem wild_known : ∀ l : List Nat, True := fun _ => trivial
def knownL : List Nat := smallL ++ greatL ++ figL ++ [95, 32] ++ [34] ++ [40, 41, 123, 125, 44, 58, 61, 124, 46, 63, 43, 45, 42, 60]
/-- how far a run of other signs goes -/
def two (s l : List Nat) : Nat := (l.takeWhile fun c => !decide (c ∈ s)).length
theorem two_out {s l : List Nat} {e c : Nat} (h : l[e]? = some c) (hc : ¬ c ∈ s) : two s (l.drop e) = 1 + two s (l.drop (e + 1)) := by
  have hl := (List.getElem?_eq_some_iff.mp h).1
  have hv := (List.getElem?_eq_some_iff.mp h).2
  unfold two
  rw [List.drop_eq_getElem_cons hl, hv, List.takeWhile_cons_of_pos (p := fun c => !decide (c ∈ s)) (by rw [decide_eq_false hc]; rfl), List.length_cons, Nat.add_comm]
theorem two_in {s l : List Nat} {e c : Nat} (h : l[e]? = some c) (hc : c ∈ s) : two s (l.drop e) = 0 := by
  have hl := (List.getElem?_eq_some_iff.mp h).1
  have hv := (List.getElem?_eq_some_iff.mp h).2
  unfold two
  rw [List.drop_eq_getElem_cons hl, hv, List.takeWhile_cons_of_neg (p := fun c => !decide (c ∈ s)) (by rw [decide_eq_true hc]; decide)]
  rfl
theorem two_end {s l : List Nat} {e : Nat} (h : l.length ≤ e) : two s (l.drop e) = 0 := by
  rw [List.drop_eq_nil_of_le h]
  rfl
def F_wild_end : FD := fun ds G R => ∃ (l : List Nat) (a : Nat), ds = [.str (S l), .int (a : Nat)] ∧ l.length ≤ 90000 ∧ a ≤ l.length ∧ R (.int ((a + two knownL (l.drop a) : Nat) : Int)) G
theorem ok_wild_end (T : Top K mg) : FnOk P w K mg base CX0 1 T.a_wild_end T.d_wild_end ["line", "at"] (SpD K F_wild_end) := by
  refine fn_ok T.wild_end.fn sc_wild_end (fun ds G R h => ?_) fun cdv A outer s H E hr => ⟨_, (pss_cons (ps_set (i := 2) sc_wild_end.nd rfl (Or.inl rfl) (pe_op op_add_str (pe_op op_add_str (pe_op op_add_str (pe_op op_add_str (pe_op op_add_str (pe_glob (v := .str "abcdefghijklmnopqrstuvwxyz") rfl T.SMALL ⟨_, rfl⟩) (pe_glob (v := .str "ABCDEFGHIJKLMNOPQRSTUVWXYZ") rfl T.GREAT ⟨_, rfl⟩)) (pe_glob (v := .str "0123456789") rfl T.FIGURES ⟨_, rfl⟩)) pe_str) (pe_glob (v := .str "\"") rfl T.QUOTE ⟨_, rfl⟩)) (pe_glob (v := .str "(){},:=|.?+-*<") rfl T.MARKS ⟨_, rfl⟩)))
  (pss_cons (ps_set (i := 3) sc_wild_end.nd rfl (Or.inl rfl) (pv 1))
  (pss_cons (ps_while PassesOwn.never (PW.pt (pw_and (pt_cmpR op_lt (pv 3) (pe_callB call_len_str (by rfl) T.len (by decide +kernel) (pa_cons (pv 0) pa_nil)) (nomark _)) (pw_and1 (pt_cmpR op_notIn_sign (pe_ix ix_str (pv 0) (pv 3) (fun _ _ => rfl)) (pv 2) rfl))))
   (pss_one (ps_aug (i := 3) sc_wild_end.nd rfl (Or.inl rfl) pe_int ip_add)))
  (pss_one (ps_ret (pv 3)))))), fun ds G R hF => ?_⟩
  · obtain ⟨l, a, rfl, _⟩ := h
    rfl
  · obtain ⟨l, a, rfl, hl, ha, q⟩ := hF
    walk_at "go"
    change WS K _ [some _, some _, none, none] _ _
    walk_at "ww"
    · have ek : smallL ++ greatL ++ figL ++ [95, 32] ++ [34] ++ [40, 41, 123, 125, 44, 58, 61, 124, 46, 63, 43, 45, 42, 60] = knownL := rfl
      rw [ek]
      refine ws_while (fun ρ G' => ∃ e : Nat, ρ = [some (.str (S l)), some (.int (a : Nat)), some (.str (S knownL)), some (.int (e : Nat))] ∧ G' = G ∧ e ≤ l.length ∧ e + two knownL (l.drop e) = a + two knownL (l.drop a)) (left l.length 3) ⟨a, rfl, rfl, ha, rfl⟩ ?_
      rintro ρ G' ⟨e, rfl, rfl, he, hq⟩
      walk_at "ww"
      · refine ite_P (fun h1 => ?_) (fun h1 => ?_)
        · have h1 : e < l.length := by omega
          obtain ⟨c, hc⟩ : ∃ c, l[e]? = some c := ⟨_, List.getElem?_eq_getElem h1⟩
          walk_at "ww"
          refine rd_ixT' (by omega) (by omega) (c := c) (by rw [Int.toNat_natCast]; exact hc) ?_
          walk_at "ww"
          refine ite_N (fun h2 => ?_) (fun h2 => ?_)
          · refine ws_augI rfl ?_
            walk_at "ww"
            have e1 : (e : Int) + 1 = ((e + 1 : Nat) : Int) := rfl
            rw [e1]
            refine ⟨⟨e + 1, rfl, rfl, h1, ?_⟩, ?_⟩
            · rw [← hq, two_out hc h2]
              omega
            · show l.length - (((e + 1 : Nat) : Int)).toNat < l.length - ((e : Nat) : Int).toNat
              omega
          · walk_at "ww"
            rw [two_in hc h2, Nat.add_zero] at hq
            rw [hq]
            exact .inl q
        · walk_at "ww"
          rw [two_end (by omega), Nat.add_zero] at hq
          rw [hq]
          exact .inl q
      · omega
    all_goals decide
def wordOf (l : List Nat) : List Nat := if l ∈ WORDS_l then l else if isName l = true then [110, 97, 109, 101] else if isGreat l = true then [103, 114, 101, 97, 116] else if isFig l = true then [110, 117, 109, 98, 101, 114] else []
def F_word_of : FD := fun ds G R => ∃ l : List Nat, ds = [.str (S l)] ∧ l.length ≤ 90000 ∧ R (.str (S (wordOf l))) G
theorem ok_word_of (T : Top K mg) : FnOk P w K mg base CX0 3 T.a_word_of T.d_word_of ["string"] (SpD K F_word_of) := by
  refine fn_ok T.word_of.fn sc_word_of (fun ds G R h => ?_) fun cdv A outer s H E hr => ⟨_, (pss_cons (ps_if (pt_cmpR (show OpR _ _ (rIn K false) from op_in_seq) (pv 0) (pe_glob (v := .ref T.q_WORDS) rfl T.WORDS rfl) (by first | rfl | exact nomark _))
   (pss_one (ps_ret (pv 0)))
   pss_nil)
  (pss_cons (ps_if (pt_val (pe_call (ok_is_name T) (hr.mono (by decide)) (by rfl) T.is_name.mg T.is_name.fn.kp T.is_name.bd .nil pass0 (pa_cons (pv 0) pa_nil)))
   (pss_one (ps_ret pe_str))
   pss_nil)
  (pss_cons (ps_if (pt_val (pe_call (ok_is_great T) (hr.mono (by decide)) (by rfl) T.is_great.mg T.is_great.fn.kp T.is_great.bd .nil pass0 (pa_cons (pv 0) pa_nil)))
   (pss_one (ps_ret pe_str))
   pss_nil)
  (pss_one (ps_ret (pe_ifExp (pt_val (pe_call (ok_is_figures T) (hr.mono (by decide)) (by rfl) T.is_figures.mg T.is_figures.fn.kp T.is_figures.bd .nil pass0 (pa_cons (pv 0) pa_nil))) pe_str pe_str)))))), fun ds G R hF => ?_⟩
  · obtain ⟨l, rfl, _⟩ := h
    rfl
  · obtain ⟨l, rfl, hl, q⟩ := hF
    walk_at "go"
    change WS K _ [some _] _ _
    walk_at "ww"
    refine we_ktup T.tp_WORDS (fun _ _ => reps_S WORDS_v) (rd_inQ isQt ?_)
    rw [if_neg (by decide)]
    unfold wordOf at q
    walk_at "ww"
    refine ite_P (fun h1 => ?_) (fun h1 => ?_)
    · walk_at "ww"
      rw [if_pos h1] at q
      exact .inl q
    · rw [if_neg h1] at q
      walk_at "ww"
      refine ⟨l, rfl, hl, _, rfl, ?_⟩
      refine ite_b (fun h2 => ?_) (fun h2 => ?_)
      · walk_at "ww"
        rw [if_pos h2] at q
        exact .inl q
      · rw [if_neg (by rw [h2]; decide)] at q
        walk_at "ww"
        refine ⟨l, rfl, hl, _, rfl, ?_⟩
        refine ite_b (fun h3 => ?_) (fun h3 => ?_)
        · walk_at "ww"
          rw [if_pos h3] at q
          exact .inl q
        · rw [if_neg (by rw [h3]; decide)] at q
          walk_at "ww"
          refine ⟨l, rfl, hl, _, rfl, ?_⟩
          refine ite_b (fun h4 => ?_) (fun h4 => ?_)
          · walk_at "ww"
            rw [if_pos h4] at q
            exact .inl q
          · walk_at "ww"
            rw [if_neg (by rw [h4]; decide)] at q
            exact .inl q
end

section
variable {P : Program} {w : World} {K : PySem.W.Frag} {mg : Str → Option Value} {base : Heap}
/-- where the text that begins at the first sign ends: its word, the number of its signs -/
def textAt (l : List Nat) (a : Nat) : List Nat × Nat := if 34 ∈ l.drop (a + 1) then (if two [34] (l.drop (a + 1)) ≤ 60 then [115, 116, 114, 105, 110, 103] else [], a + 1 + two [34] (l.drop (a + 1)) + 1) else ([], l.length)
open PySem.StrLaws (occBody occ_eq subAt_one) in
theorem occ_full {s sub : Str} {hi : Nat} : ∀ (ls : List Nat) (st : Array Nat × Nat), st.1.size = 1 → (forIn ls st (occBody s sub hi 1)).run = st
  | [], st, _ => rfl
  | a :: ls, st, h => by
    rw [List.forIn_cons]
    unfold occBody
    rw [if_neg (fun z => absurd z.1.1.1 (by rw [h]; decide))]
    exact occ_full ls st h
open PySem.StrLaws (occBody occ_eq subAt_one) in
theorem occ_first {l : List Nat} {q : Nat} : ∀ (m i free : Nat), i + m = l.length + 1 → free ≤ i → (forIn (List.range' i m) ((#[] : Array Nat), free) (occBody (S l) (S [q]) l.length 1)).run.1.toList = if q ∈ l.drop i then [i + two [q] (l.drop i)] else []
  | 0, i, free, hm, hf => by
    rw [List.drop_eq_nil_of_le (by omega), if_neg (by simp)]
    rfl
  | m + 1, i, free, hm, hf => by
    have hs : (i + (S [q]).length ≤ l.length ∧ Builtin.Str.subAt (S l) (S [q]) i = true) ↔ l[i]? = some q := by
      have := subAt_one (S l) q i
      rw [S_len, S_cps] at this
      exact this
    rw [List.range'_succ, List.forIn_cons]
    unfold occBody
    by_cases hc : l[i]? = some q
    · have h1 := hs.mpr hc
      have hl := (List.getElem?_eq_some_iff.mp hc).1
      rw [if_pos ⟨⟨⟨by simp, hf⟩, h1.1⟩, h1.2⟩]
      have hmem : q ∈ l.drop i := by
        rw [List.drop_eq_getElem_cons hl, (List.getElem?_eq_some_iff.mp hc).2]
        exact List.mem_cons_self
      rw [if_pos hmem, two_in hc (by simp)]
      have := occ_full (s := S l) (sub := S [q]) (hi := l.length) (List.range' (i + 1) m) ((#[] : Array Nat).push i, i + (S [q]).length) (by simp)
      exact congrArg (fun z : Array Nat × Nat => z.1.toList) this
    · rw [if_neg (fun z => hc (hs.mp ⟨z.1.2, z.2⟩))]
      have ih := occ_first (l := l) (q := q) m (i + 1) free (by omega) (by omega)
      refine ih.trans ?_
      cases hv : l[i]? with
      | none =>
        have hl := List.getElem?_eq_none_iff.mp hv
        rw [List.drop_eq_nil_of_le hl, List.drop_eq_nil_of_le (by omega), if_neg (by simp), if_neg (by simp)]
      | some c =>
        have hl := (List.getElem?_eq_some_iff.mp hv).1
        have hne : ¬ c ∈ [q] := fun z => hc (by rw [hv, List.mem_singleton.mp z])
        have hm2 : q ∈ l.drop i ↔ q ∈ l.drop (i + 1) := by
          rw [List.drop_eq_getElem_cons hl, (List.getElem?_eq_some_iff.mp hv).2]
          exact ⟨fun z => (List.mem_cons.mp z).elim (fun e => absurd (List.mem_singleton.mpr e.symm) hne) id, List.mem_cons_of_mem _⟩
        by_cases hq : q ∈ l.drop (i + 1)
        · rw [if_pos hq, if_pos (hm2.mpr hq), two_out hv hne]
          congr 1
          omega
        · rw [if_neg hq, if_neg fun z => hq (hm2.mp z)]
theorem find_quote (l : List Nat) (a : Nat) (ha : a ≤ l.length) : Txt.find3 (S l) (S [34]) ((a : Nat) : Int) = if 34 ∈ l.drop a then ((a + two [34] (l.drop a) : Nat) : Int) else -1 := by
  have e : Builtin.Str.occurrences (S l) (S [34]) a (S l).length 1 = if 34 ∈ l.drop a then [a + two [34] (l.drop a)] else [] := by
    rw [S_len, PySem.StrLaws.occ_eq]
    exact occ_first (l.length + 1 - a) a a (by omega) (Nat.le_refl _)
  unfold Txt.find3
  have e2 : fromIndex (S l).length ((a : Nat) : Int) = a := by
    unfold fromIndex
    rw [if_neg (by omega)]
    omega
  rw [e2, e]
  split
  · rename_i h
    split at h
    · rename_i h2
      rw [if_pos h2]
      injection h with h _
      rw [h]
    · exact nomatch h
  · rename_i h
    split at h
    · exact nomatch h
    · rename_i h2
      rw [if_neg h2]
def F_text_at : FD := fun ds G R => ∃ (l : List Nat) (a : Nat), ds = [.str (S l), .int (a : Nat)] ∧ l.length ≤ 90000 ∧ a < l.length ∧ R (.tup [.str (S (textAt l a).1), .int ((textAt l a).2 : Nat)]) G
theorem ok_text_at (T : Top K mg) : FnOk P w K mg base CX0 1 T.a_text_at T.d_text_at ["line", "at"] (SpD K F_text_at) := by
  refine fn_ok T.text_at.fn sc_text_at (fun ds G R h => ?_) fun cdv A outer s H E hr => ⟨_, (pss_cons (ps_set (i := 2) sc_text_at.nd rfl (Or.inl rfl) (pe_bm PySem.F.plainAttrs_str PySem.F.slot_str_find PySem.F.type_str_find mt_find3 (pv 0) (pa_cons (pe_glob (v := .str "\"") rfl T.QUOTE ⟨_, rfl⟩) (pa_cons (pe_op op_add (pv 1) pe_int) pa_nil))))
  (pss_cons (ps_if (pt_cmpR op_lt (pv 2) pe_int (nomark _))
   (pss_one (ps_ret (pe_tup (pa_cons pe_str (pa_cons (pe_callB call_len_str (by rfl) T.len (by decide +kernel) (pa_cons (pv 0) pa_nil)) pa_nil)))))
   pss_nil)
  (pss_one (ps_ret (pe_tup (pa_cons (pe_ifExp (pt_cmpR op_le (pe_op op_sub (pe_op op_sub (pv 2) (pv 1)) pe_int) (pe_glob (v := .int 60) rfl T.MOST_TEXT ⟨_, rfl⟩) (nomark _)) pe_str pe_str) (pa_cons (pe_op op_add (pv 2) pe_int) pa_nil))))))), fun ds G R hF => ?_⟩
  · obtain ⟨l, a, rfl, _⟩ := h
    rfl
  · obtain ⟨l, a, rfl, hl, ha, q⟩ := hF
    walk_at "go"
    change WS K _ [some _, some _, none] _ _
    walk_at "ww"
    refine we_bmS (we_var rfl ⟨l, rfl, ?_⟩)
    walk_at "ww"
    refine rm_find3 ?_
    have ea : (a : Int) + 1 = ((a + 1 : Nat) : Int) := rfl
    rw [ea, find_quote l (a + 1) (by omega)]
    unfold textAt at q
    by_cases hq : 34 ∈ l.drop (a + 1)
    · rw [if_pos hq] at q ⊢
      walk_at "ww"
      refine ite_P (fun h1 => absurd h1 (by omega)) (fun h1 => ?_)
      walk_at "ww"
      refine ite_P (fun h2 => ?_) (fun h2 => ?_)
      · rw [if_pos (by omega)] at q
        walk_at "ww"
        exact .inl q
      · rw [if_neg (by omega)] at q
        walk_at "ww"
        exact .inl q
    · rw [if_neg hq] at q ⊢
      walk_at "ww"
      refine ite_P (fun h1 => ?_) (fun h1 => absurd (show (-1 : Int) < 0 by decide) h1)
      walk_at "ww"
      · exact .inl q
      · omega
end

section
variable {P : Program} {w : World} {K : PySem.W.Frag} {mg : Str → Option Value} {base : Heap}
abbrev marksL : List Nat := [40, 41, 123, 125, 44, 58, 61, 124, 46, 63, 43, 45, 42, 60]
def runAt (s l : List Nat) (a : Nat) : List Nat × Nat := (wordOf (Tx.cut l a (a + tw s (l.drop a))), a + tw s (l.drop a))
/-- the sign at a place: its word, its end -/
def signAt (l : List Nat) (a : Nat) : List Nat × Nat :=
  if l.getD a 0 = 34 then textAt l a
  else if (l.drop a).take 2 ∈ LONG_MARKS_l then ((l.drop a).take 2, a + 2)
  else if l.getD a 0 ∈ marksL then ([l.getD a 0], a + 1)
  else if l.getD a 0 ∈ smallL ++ [95] then runAt (smallL ++ figL ++ [95]) l a
  else if l.getD a 0 ∈ greatL then runAt (smallL ++ greatL ++ figL) l a
  else if l.getD a 0 ∈ figL then runAt (smallL ++ greatL ++ figL ++ [95]) l a
  else ([], a + two knownL (l.drop a))
theorem cutL_two {l : List Nat} {a : Nat} (h : a ≤ l.length) : cutL l (some (a : Int)) (some ((a : Int) + 2)) = (l.drop a).take 2 := by
  have e : (a : Int) + 2 = ((a + 2 : Nat) : Int) := rfl
  unfold cutL
  rw [e, HT.sIx_nat, HT.sIx_nat, Nat.min_eq_left h]
  by_cases h2 : a + 2 ≤ l.length
  · rw [Nat.min_eq_left h2]
    congr 1
    omega
  · rw [Nat.min_eq_right (by omega), List.take_of_length_le (by rw [List.length_drop]; omega), List.take_of_length_le (by rw [List.length_drop]; omega)]
theorem tw_le {s l : List Nat} : tw s l ≤ l.length := (List.takeWhile_sublist _).length_le
def F_sign_at : FD := fun ds G R => ∃ (l : List Nat) (a : Nat), ds = [.str (S l), .int (a : Nat)] ∧ l.length ≤ 90000 ∧ a < l.length ∧ R (.tup [.str (S (signAt l a).1), .int ((signAt l a).2 : Nat)]) G
theorem ok_sign_at (T : Top K mg) : FnOk P w K mg base CX0 4 T.a_sign_at T.d_sign_at ["line", "at"] (SpD K F_sign_at) := by
  refine fn_ok T.sign_at.fn sc_sign_at (fun ds G R h => ?_) fun cdv A outer s H E hr => ⟨_, (pss_cons (ps_set (i := 2) sc_sign_at.nd rfl (Or.inl rfl) (pe_ix ix_str (pv 0) (pv 1) (fun _ _ => rfl)))
  (pss_cons (ps_if (pt_cmpR op_eq (pv 2) (pe_glob (v := .str "\"") rfl T.QUOTE ⟨_, rfl⟩) (nomark _))
   (pss_one (ps_ret (pe_call (ok_text_at T) (hr.mono (by decide)) (by rfl) T.text_at.mg T.text_at.fn.kp T.text_at.bd .nil pass0 (pa_cons (pv 0) (pa_cons (pv 1) pa_nil)))))
   pss_nil)
  (pss_cons (ps_if (pt_cmpR (show OpR _ _ (rIn K false) from op_in_seq) (pe_slice sl_str (pv 0) (po_some (pv 1)) (po_some (pe_op op_add (pv 1) pe_int))) (pe_glob (v := .ref T.q_LONG_MARKS) rfl T.LONG_MARKS rfl) (by first | rfl | exact nomark _))
   (pss_one (ps_ret (pe_tup (pa_cons (pe_slice sl_str (pv 0) (po_some (pv 1)) (po_some (pe_op op_add (pv 1) pe_int))) (pa_cons (pe_op op_add (pv 1) pe_int) pa_nil)))))
   pss_nil)
  (pss_cons (ps_if (pt_cmpR op_in_sign (pv 2) (pe_glob (v := .str "(){},:=|.?+-*<") rfl T.MARKS ⟨_, rfl⟩) rfl)
   (pss_one (ps_ret (pe_tup (pa_cons (pv 2) (pa_cons (pe_op op_add (pv 1) pe_int) pa_nil)))))
   pss_nil)
  (pss_cons (ps_if (pt_cmpR op_in_sign (pv 2) (pe_op op_add_str (pe_glob (v := .str "abcdefghijklmnopqrstuvwxyz") rfl T.SMALL ⟨_, rfl⟩) pe_str) rfl)
   (pss_one (ps_set (i := 3) sc_sign_at.nd rfl (Or.inl rfl) (pe_call (ok_run_end T) (hr.mono (by decide)) (by rfl) T.run_end.mg T.run_end.fn.kp T.run_end.bd .nil pass0 (pa_cons (pv 0) (pa_cons (pv 1) (pa_cons (pe_op op_add_str (pe_op op_add_str (pe_glob (v := .str "abcdefghijklmnopqrstuvwxyz") rfl T.SMALL ⟨_, rfl⟩) (pe_glob (v := .str "0123456789") rfl T.FIGURES ⟨_, rfl⟩)) pe_str) pa_nil))))))
   (pss_one (ps_if (pt_cmpR op_in_sign (pv 2) (pe_glob (v := .str "ABCDEFGHIJKLMNOPQRSTUVWXYZ") rfl T.GREAT ⟨_, rfl⟩) rfl)
   (pss_one (ps_set (i := 3) sc_sign_at.nd rfl (Or.inl rfl) (pe_call (ok_run_end T) (hr.mono (by decide)) (by rfl) T.run_end.mg T.run_end.fn.kp T.run_end.bd .nil pass0 (pa_cons (pv 0) (pa_cons (pv 1) (pa_cons (pe_op op_add_str (pe_op op_add_str (pe_glob (v := .str "abcdefghijklmnopqrstuvwxyz") rfl T.SMALL ⟨_, rfl⟩) (pe_glob (v := .str "ABCDEFGHIJKLMNOPQRSTUVWXYZ") rfl T.GREAT ⟨_, rfl⟩)) (pe_glob (v := .str "0123456789") rfl T.FIGURES ⟨_, rfl⟩)) pa_nil))))))
   (pss_one (ps_if (pt_cmpR op_in_sign (pv 2) (pe_glob (v := .str "0123456789") rfl T.FIGURES ⟨_, rfl⟩) rfl)
   (pss_one (ps_set (i := 3) sc_sign_at.nd rfl (Or.inl rfl) (pe_call (ok_run_end T) (hr.mono (by decide)) (by rfl) T.run_end.mg T.run_end.fn.kp T.run_end.bd .nil pass0 (pa_cons (pv 0) (pa_cons (pv 1) (pa_cons (pe_op op_add_str (pe_op op_add_str (pe_op op_add_str (pe_glob (v := .str "abcdefghijklmnopqrstuvwxyz") rfl T.SMALL ⟨_, rfl⟩) (pe_glob (v := .str "ABCDEFGHIJKLMNOPQRSTUVWXYZ") rfl T.GREAT ⟨_, rfl⟩)) (pe_glob (v := .str "0123456789") rfl T.FIGURES ⟨_, rfl⟩)) pe_str) pa_nil))))))
   (pss_one (ps_ret (pe_tup (pa_cons pe_str (pa_cons (pe_call (ok_wild_end T) (hr.mono (by decide)) (by rfl) T.wild_end.mg T.wild_end.fn.kp T.wild_end.bd .nil pass0 (pa_cons (pv 0) (pa_cons (pv 1) pa_nil))) pa_nil))))))))))
  (pss_one (ps_ret (pe_tup (pa_cons (pe_call (ok_word_of T) (hr.mono (by decide)) (by rfl) T.word_of.mg T.word_of.fn.kp T.word_of.bd .nil pass0 (pa_cons (pe_slice sl_str (pv 0) (po_some (pv 1)) (po_some (pv 3))) pa_nil)) (pa_cons (pv 3) pa_nil)))))))))), fun ds G R hF => ?_⟩
  · obtain ⟨l, a, rfl, _⟩ := h
    rfl
  · obtain ⟨l, a, rfl, hl, ha, q⟩ := hF
    obtain ⟨c, hc⟩ : ∃ c, l[a]? = some c := ⟨_, List.getElem?_eq_getElem ha⟩
    have hg : l.getD a 0 = c := by rw [List.getD_eq_getElem?_getD, hc]; rfl
    unfold signAt at q
    rw [hg] at q
    walk_at "go"
    change WS K _ [some _, some _, none, none] _ _
    walk_at "ww"
    refine rd_ixT' (by omega) (by omega) (c := c) (by rw [Int.toNat_natCast]; exact hc) ?_
    walk_at "ww"
    refine ite_P (fun h1 => ?_) (fun h1 => ?_)
    · have h1 : c = 34 := by simpa using h1
      rw [if_pos h1] at q
      walk_at "ww"
      exact ⟨l, a, rfl, hl, ha, .inl q⟩
    · rw [if_neg (fun z => h1 (by rw [z]))] at q
      walk_at "ww"
      · rw [cutL_two (by omega)]
        refine we_ktup T.tp_LONG_MARKS (fun _ _ => reps_S LONG_MARKS_v) (rd_inQ isQt ?_)
        rw [if_neg (by decide)]
        walk_at "ww"
        refine ite_P (fun h2 => ?_) (fun h2 => ?_)
        · rw [if_pos h2] at q
          walk_at "ww"
          · rw [cutL_two (by omega)]
            walk_at "ww"
            exact .inl q
          · omega
        · rw [if_neg h2] at q
          walk_at "ww"
          refine ite_P (fun h3 => ?_) (fun h3 => ?_)
          · rw [if_pos h3] at q
            walk_at "ww"
            exact .inl q
          · rw [if_neg h3] at q
            walk_at "ww"
            · refine ite_P (fun h4 => ?_) (fun h4 => ?_)
              · rw [if_pos h4] at q
                have hle := tw_le (s := (smallL ++ figL ++ [95])) (l := l.drop a)
                rw [List.length_drop] at hle
                walk_at "ww"
                · refine ⟨l, a, (smallL ++ figL ++ [95]), rfl, hl, by omega, ?_⟩
                  walk_at "ww"
                  · refine ⟨_, rfl, ?_, ?_⟩
                    · rw [cutL_nn (by omega) (by omega), Tx.cut_len (by omega)]
                      omega
                    · rw [cutL_nn (by omega) (by omega)]
                      walk_at "ww"
                      exact .inl q
                  · omega
                all_goals decide
              · rw [if_neg h4] at q
                walk_at "ww"
                refine ite_P (fun h5 => ?_) (fun h5 => ?_)
                · rw [if_pos h5] at q
                  have hle := tw_le (s := (smallL ++ greatL ++ figL)) (l := l.drop a)
                  rw [List.length_drop] at hle
                  walk_at "ww"
                  · refine ⟨l, a, (smallL ++ greatL ++ figL), rfl, hl, by omega, ?_⟩
                    walk_at "ww"
                    · refine ⟨_, rfl, ?_, ?_⟩
                      · rw [cutL_nn (by omega) (by omega), Tx.cut_len (by omega)]
                        omega
                      · rw [cutL_nn (by omega) (by omega)]
                        walk_at "ww"
                        exact .inl q
                    · omega
                  all_goals decide
                · rw [if_neg h5] at q
                  walk_at "ww"
                  refine ite_P (fun h6 => ?_) (fun h6 => ?_)
                  · rw [if_pos h6] at q
                    have hle := tw_le (s := (smallL ++ greatL ++ figL ++ [95])) (l := l.drop a)
                    rw [List.length_drop] at hle
                    walk_at "ww"
                    · refine ⟨l, a, (smallL ++ greatL ++ figL ++ [95]), rfl, hl, by omega, ?_⟩
                      walk_at "ww"
                      · refine ⟨_, rfl, ?_, ?_⟩
                        · rw [cutL_nn (by omega) (by omega), Tx.cut_len (by omega)]
                          omega
                        · rw [cutL_nn (by omega) (by omega)]
                          walk_at "ww"
                          exact .inl q
                      · omega
                    all_goals decide
                  · rw [if_neg h6] at q
                    walk_at "ww"
                    refine ⟨l, a, rfl, hl, by omega, ?_⟩
                    walk_at "ww"
                    exact .inl q
            all_goals decide
      · omega
end

section
variable {P : Program} {w : World} {K : PySem.W.Frag} {mg : Str → Option Value} {base : Heap}
theorem two_le {s l : List Nat} : two s l ≤ l.length := (List.takeWhile_sublist _).length_le
theorem two_lt {q : Nat} : ∀ {l : List Nat}, q ∈ l → two [q] l < l.length
  | c :: r, h => by
    unfold two
    by_cases hc : c = q
    · rw [List.takeWhile_cons_of_neg (p := fun c => !decide (c ∈ [q])) (by rw [decide_eq_true (List.mem_singleton.mpr hc)]; decide)]
      simp
    · have hr : q ∈ r := (List.mem_cons.mp h).elim (fun e => absurd e.symm hc) id
      have := two_lt hr
      unfold two at this
      rw [List.takeWhile_cons_of_pos (p := fun c => !decide (c ∈ [q])) (by rw [decide_eq_false (fun z => hc (List.mem_singleton.mp z))]; rfl), List.length_cons, List.length_cons]
      omega
theorem signAt_gt {l : List Nat} {a : Nat} (ha : a < l.length) (h32 : l.getD a 0 ≠ 32) : a < (signAt l a).2 ∧ (signAt l a).2 ≤ l.length := by
  obtain ⟨c, hc⟩ : ∃ c, l[a]? = some c := ⟨_, List.getElem?_eq_getElem ha⟩
  have hg : l.getD a 0 = c := by rw [List.getD_eq_getElem?_getD, hc]; rfl
  have run : ∀ s : List Nat, c ∈ s → a < (runAt s l a).2 ∧ (runAt s l a).2 ≤ l.length := fun s h => by
    have h1 := tw_in hc h
    have h2 := tw_le (s := s) (l := l.drop a)
    rw [List.length_drop] at h2
    show a < a + tw s (l.drop a) ∧ a + tw s (l.drop a) ≤ l.length
    omega
  rw [hg] at h32
  unfold signAt
  rw [hg]
  split
  · unfold textAt
    split
    · rename_i h
      have := two_lt h
      rw [List.length_drop] at this
      show a < a + 1 + two [34] (l.drop (a + 1)) + 1 ∧ a + 1 + two [34] (l.drop (a + 1)) + 1 ≤ l.length
      omega
    · exact ⟨ha, Nat.le_refl _⟩
  · rename_i h34
    split
    · rename_i h
      have h2 : ((l.drop a).take 2).length = 2 := (by decide : ∀ p ∈ LONG_MARKS_l, p.length = 2) _ h
      rw [List.length_take, List.length_drop] at h2
      show a < a + 2 ∧ a + 2 ≤ l.length
      omega
    · split
      · exact ⟨Nat.lt_succ_self a, ha⟩
      · rename_i hm
        split
        · rename_i h
          exact run _ ((by decide : ∀ c ∈ smallL ++ [95], c ∈ smallL ++ figL ++ [95]) c h)
        · rename_i hs
          split
          · rename_i h
            exact run _ ((by decide : ∀ c ∈ greatL, c ∈ smallL ++ greatL ++ figL) c h)
          · rename_i hgr
            split
            · rename_i h
              exact run _ ((by decide : ∀ c ∈ figL, c ∈ smallL ++ greatL ++ figL ++ [95]) c h)
            · rename_i hf
              have hk : ¬ c ∈ knownL := fun z => by
                rcases (by decide : ∀ c ∈ knownL, c ∈ smallL ++ [95] ∨ c ∈ greatL ∨ c ∈ figL ∨ c ∈ marksL ∨ c = 32 ∨ c = 34) c z with h | h | h | h | h | h
                · exact hs h
                · exact hgr h
                · exact hf h
                · exact hm h
                · exact h32 h
                · exact h34 h
              have h1 := two_out hc hk
              have h2 := two_le (s := knownL) (l := l.drop a)
              rw [List.length_drop] at h2
              show a < a + two knownL (l.drop a) ∧ a + two knownL (l.drop a) ≤ l.length
              omega
/-- the spans of a line from a place on -/
def scan : Nat → List Nat → Nat → List (List Nat × Nat × Nat)
  | 0, _, _ => []
  | n + 1, l, a => if a < l.length ∧ (l.drop a).take 2 ≠ [45, 45] then (if l.getD a 0 = 32 then scan n l (a + 1) else ((signAt l a).1, a, (signAt l a).2) :: scan n l (signAt l a).2) else []
abbrev sgD (x : List Nat × Nat × Nat) : D := .tup [.str (S x.1), .int (x.2.1 : Nat), .int (x.2.2 : Nat)]
def F_spans_in : FD := fun ds G R => ∃ l : List Nat, ds = [.str (S l)] ∧ l.length ≤ 90000 ∧ R (.lst ((scan (l.length + 1) l 0).map sgD)) G
theorem ok_spans_in (T : Top K mg) : FnOk P w K mg base CX0 5 T.a_spans_in T.d_spans_in ["line"] (SpD K F_spans_in) := by
  refine fn_ok T.spans_in.fn sc_spans_in (fun ds G R h => ?_) fun cdv A outer s H E hr => ⟨_, (pss_cons (ps_par (i := 1) (j := 2) rfl sc_spans_in.nd rfl rfl (by decide) rfl rfl (pa_cons (pe_lst pa_nil) (pa_cons pe_int pa_nil)) (by rfl))
  (pss_cons (ps_while PassesOwn.never (PW.pt (pw_and (pt_cmpR op_lt (pv 2) (pe_callB call_len_str (by rfl) T.len (by decide +kernel) (pa_cons (pv 0) pa_nil)) (nomark _)) (pw_and1 (pt_cmpR op_ne (pe_slice sl_str (pv 0) (po_some (pv 2)) (po_some (pe_op op_add (pv 2) pe_int))) pe_str (nomark _)))))
   (pss_one (ps_if (pt_cmpR op_eq (pe_ix ix_str (pv 0) (pv 2) (fun _ _ => rfl)) pe_str (nomark _))
   (pss_one (ps_aug (i := 2) sc_spans_in.nd rfl (Or.inl rfl) pe_int ip_add))
   (pss_cons (ps_asg (pe_call (ok_sign_at T) (hr.mono (by decide)) (by rfl) T.sign_at.mg T.sign_at.fn.kp T.sign_at.bd .nil pass0 (pa_cons (pv 0) (pa_cons (pv 2) pa_nil))) (show PG _ _ (gTup K 2 _) from pg_tup rfl (pgs_cons (pg_name (i := 3) sc_spans_in.nd rfl (Or.inl rfl)) (pgs_cons (pg_name (i := 4) sc_spans_in.nd rfl (Or.inl rfl)) pgs_nil))))
  (pss_cons (ps_expr (pe_bm PySem.F.plainAttrs_list PySem.F.slot_list_append PySem.F.type_list_append mt_append (pv 1) (pa_cons (pe_tup (pa_cons (pv 3) (pa_cons (pv 2) (pa_cons (pv 4) pa_nil)))) pa_nil)))
  (pss_one (ps_set (i := 2) sc_spans_in.nd rfl (Or.inl rfl) (pv 4))))))))
  (pss_one (ps_ret (pv 1))))), fun ds G R hF => ?_⟩
  · obtain ⟨l, rfl, _⟩ := h
    rfl
  · obtain ⟨l, rfl, hl, q⟩ := hF
    walk_at "go"
    change WS K _ [some _, none, none, none, none] _ _
    walk_at "ww"
    walk_at "hot"
    refine ws_while (fun ρ G' => ∃ (e n : Nat) (acc : List (List Nat × Nat × Nat)) (x3 x4 : Option D), ρ = [some (.str (S l)), some (.ptr G.length), some (.int (e : Nat)), x3, x4] ∧ G' = G ++ [.lst (acc.map sgD)] ∧ e ≤ l.length ∧ acc.length ≤ e ∧ l.length - e < n ∧ acc ++ scan n l e = scan (l.length + 1) l 0) (left l.length 2) ⟨0, l.length + 1, [], none, none, rfl, rfl, Nat.zero_le _, Nat.le_refl _, by omega, rfl⟩ ?_
    rintro ρ G' ⟨e, n, acc, x3, x4, rfl, rfl, he, hacc, hn, hq⟩
    obtain ⟨n, rfl⟩ : ∃ m, n = m + 1 := ⟨n - 1, by omega⟩
    have hq : acc ++ (if e < l.length ∧ (l.drop e).take 2 ≠ [45, 45] then (if l.getD e 0 = 32 then scan n l (e + 1) else ((signAt l e).1, e, (signAt l e).2) :: scan n l (signAt l e).2) else []) = scan (l.length + 1) l 0 := hq
    have fin : ∀ x3 x4, ¬ (e < l.length ∧ (l.drop e).take 2 ≠ [45, 45]) → WS K (tRet (tVar 1)) [some (.str (S l)), some (.ptr G.length), some (.int (e : Nat)), x3, x4] (G ++ [.lst (acc.map sgD)]) ⟨fun _ G1 => Gc G R .non G1, Gc G R, fun _ _ => False, fun _ _ => False⟩ := fun x3 x4 h => by
      rw [if_neg h, List.append_nil] at hq
      refine ws_ret (we_fz (we_var rfl ⟨_, _, rfl, get_last, ?_⟩))
      rw [set_last, hq]
      exact Gc.same (.lst (Cls.map (fun x => .tup (.cons (.str _) (.cons (.int _) (.cons (.int _) .nil)))) _)) q
    walk_at "ww"
    · refine ite_P (fun h1 => ?_) (fun h1 => ?_)
      · have h1 : e < l.length := by omega
        obtain ⟨c, hc⟩ : ∃ c, l[e]? = some c := ⟨_, List.getElem?_eq_getElem h1⟩
        have hg : l.getD e 0 = c := by rw [List.getD_eq_getElem?_getD, hc]; rfl
        walk_at "ww"
        · rw [cutL_two he]
          walk_at "ww"
          refine ite_N (fun h2 => ?_) (fun h2 => ?_)
          · rw [if_pos ⟨h1, h2⟩, hg] at hq
            walk_at "ww"
            refine rd_ixT' (by omega) (by omega) (c := c) (by rw [Int.toNat_natCast]; exact hc) ?_
            walk_at "ww"
            refine ite_P (fun h3 => ?_) (fun h3 => ?_)
            · have h3 : c = 32 := by simpa using h3
              rw [if_pos h3] at hq
              refine ws_augI rfl ?_
              walk_at "ww"
              have e1 : (e : Int) + 1 = ((e + 1 : Nat) : Int) := rfl
              rw [e1]
              refine ⟨⟨e + 1, n, acc, _, _, rfl, rfl, h1, by omega, by omega, hq⟩, ?_⟩
              show l.length - (((e + 1 : Nat) : Int)).toNat < l.length - ((e : Nat) : Int).toNat
              omega
            · have h3 : ¬ c = 32 := fun z => h3 (by rw [z])
              rw [if_neg h3] at hq
              obtain ⟨g1, g2⟩ := signAt_gt h1 (by rw [hg]; exact h3)
              walk_at "ww"
              refine ⟨l, e, rfl, hl, h1, ?_⟩
              walk_at "ww"
              refine ⟨⟨_, isLp get_last⟩, ?_⟩
              walk_at "ww"
              refine rm_append get_last (by rw [List.length_map]; exact lt_size (by omega)) ?_
              rw [set_last]
              have el : acc.map sgD ++ [.tup [.str (S (signAt l e).1), .int (e : Nat), .int ((signAt l e).2 : Nat)]] = (acc ++ [((signAt l e).1, e, (signAt l e).2)]).map sgD := by rw [List.map_append]; rfl
              rw [el]
              walk_at "ww"
              refine ⟨⟨(signAt l e).2, n, acc ++ [((signAt l e).1, e, (signAt l e).2)], _, _, rfl, rfl, g2, by rw [List.length_append, List.length_singleton]; omega, by omega, by rw [List.append_assoc]; exact hq⟩, ?_⟩
              show l.length - (((signAt l e).2 : Nat) : Int).toNat < l.length - ((e : Nat) : Int).toNat
              omega
          · exact fin _ _ fun z => z.2 h2
        · omega
      · exact fin _ _ fun z => h1 (by omega)
    · omega
end

section
variable {P : Program} {w : World} {K : PySem.W.Frag} {mg : Str → Option Value} {base : Heap}
theorem isK_list {G : Cells} {x : D} {ds : List D} (h : IsL G x ds) : isK G x "list" := by
  rcases h with rfl | ⟨k, rfl, hk⟩
  · rfl
  · exact .inl ⟨rfl, ds, hk⟩
def F_check_lines : FD := fun ds G R => ∃ (x : D) (ls : List (List Nat)), ds = [x] ∧ IsL G x (ls.map fun l => D.str (S l)) ∧ 1 ≤ ls.length ∧ ls.length ≤ 400 ∧ (∀ l ∈ ls, Tx.isLine l = true) ∧ R .non G
theorem ok_check_lines (T : Top K mg) : FnOk P w K mg base CX0 3 T.a_check_lines T.d_check_lines ["value"] (SpD K F_check_lines) := by
  refine fn_ok T.check_lines.fn sc_check_lines (fun ds G R h => ?_) fun cdv A outer s H E hr => ⟨_, (pss_one (ps_if (PW.pt (pw_or (pt_not (pt_val (pe_callB call_isi (by rfl) T.isinstance (by decide +kernel) (pa_cons (pv 0) (pa_cons (pe_bltn (v := .ty "list") (by rfl) T.list (by decide +kernel) rfl) pa_nil))))) (pw_or (pt_not (pt_chain op_le op_le pe_int (pe_callB (show CallR _ (Value.builtin "len") (fun xs H Q => ∃ p ys, xs = [L2.V.ref p] ∧ (SqL K H p ys ∨ SqT K H p ys) ∧ Q (L2.V.int ys.length) H) from call_len_seq) (by rfl) T.len (by decide +kernel) (pa_cons (pv 0) pa_nil)) pe_int)) (pw_or1 (pt_not (pt_val (pe_callB (cr_all rfl) (by rfl) T.all (by decide +kernel) (pa_cons (pe_lc (own := [("line", 1)]) rfl sc_check_lines.nd (pi_list (pv 0)) (blkOk_by (N := ["value", "line"]) (sc := defScope s_check_lines) (by decide +kernel)) (fun _ _ _ _ _ => (pg_name (i := 1) sc_check_lines.nd rfl (Or.inl rfl))) (fun _ _ _ _ _ => pts_nil) (fun _ _ _ _ _ => (pe_call (ok_is_line T) (hr.mono (by decide)) (by rfl) T.is_line.mg T.is_line.fn.kp T.is_line.bd .nil pass0 (pa_cons (pv 1) pa_nil)))) pa_nil))))))))
   (pss_one ps_never)
   pss_nil)), fun ds G R hF => ?_⟩
  · obtain ⟨x, ls, rfl, _⟩ := h
    rfl
  · obtain ⟨x, ls, rfl, hx, h1, h2, h3, q⟩ := hF
    walk_at "go"
    change WS K _ [some _, none] _ _
    have hll : ∀ l ∈ ls, l.length ≤ 100 := fun l hl => by
      have := h3 l hl
      unfold Tx.isLine at this
      rw [Bool.and_eq_true] at this
      exact of_decide_eq_true this.1
    walk_at "ww"
    refine rc_isi (isK_list hx) kb_ll ?_
    walk_at "ww"
    refine rc_len (.inr (.inr hx)) ?_
    rw [List.length_map]
    walk_at "ww"
    refine ite_P (fun g1 => ?_) (fun g1 => absurd g1 (by omega))
    walk_at "ww"
    refine ite_N (fun g2 => absurd g2 (by omega)) (fun g2 => ?_)
    walk_at "ww"
    refine we_lcmap (own_name (by decide)) (wi_list (we_var rfl ⟨_, .inr hx, ls, _, fun p => .bl (Tx.isLine p), rfl, .inr hx, by omega, fun p hp => ?_, ?_⟩))
    · walk_at "ww"
      exact ⟨p, rfl, by have := hll p hp; omega, rfl, rfl⟩
    · walk_at "cold"
      refine rc_all (ns := ls.map Tx.isLine) (by rw [List.map_map]; exact isR) ?_
      have e : (ls.map Tx.isLine).all id = true := by
        rw [List.all_map]
        exact List.all_eq_true.mpr h3
      rw [e]
      walk_at "ww"
      exact .inl q
abbrev sigD (x : List Nat × List Nat × Nat × Nat) : D := .tup [.str (S x.1), .str (S x.2.1), .int (x.2.2.1 : Nat), .int (x.2.2.2 : Nat)]
abbrev ftD (x : Nat × Nat) : D := .tup [.int (x.1 : Nat), .int (x.2 : Nat)]
def lineSigns (n : Nat) (l : List Nat) (xs : List (List Nat × Nat × Nat)) : List (List Nat × List Nat × Nat × Nat) := xs.filterMap fun x => if x.1 = [] then none else some (x.1, Tx.cut l x.2.1 x.2.2, n, x.2.1 + 1)
def lineFaults (n : Nat) (xs : List (List Nat × Nat × Nat)) : List (Nat × Nat) := xs.filterMap fun x => if x.1 = [] then some (n, x.2.1 + 1) else none
/-- the signs and faults of lines, the first of number n -/
def signsF : Nat → List (List Nat) → List (List Nat × List Nat × Nat × Nat)
  | _, [] => []
  | n, l :: r => lineSigns n l (scan (l.length + 1) l 0) ++ signsF (n + 1) r
def faultsF : Nat → List (List Nat) → List (Nat × Nat)
  | _, [] => []
  | n, l :: r => lineFaults n (scan (l.length + 1) l 0) ++ faultsF (n + 1) r
end

section
variable {P : Program} {w : World} {K : PySem.W.Frag} {mg : Str → Option Value} {base : Heap}
theorem en_get {ds : List D} {i : Nat} {d : D} (h : (enD ds)[i]? = some d) : ∃ x, ds[i]? = some x ∧ d = .tup [.int (i : Nat), x] := by
  unfold enD at h
  rw [List.getElem?_mapIdx] at h
  cases e : ds[i]? with
  | none =>
    rw [e] at h
    cases h
  | some x =>
    rw [e] at h
    exact ⟨x, rfl, (Option.some.inj h).symm⟩
theorem enD_len {ds : List D} : (enD ds).length = ds.length := by
  unfold enD
  rw [List.length_mapIdx]
theorem drop_at' {α : Type} {l : List α} {i : Nat} {x : α} (h : l[i]? = some x) : l.drop i = x :: l.drop (i + 1) := by
  have hl := (List.getElem?_eq_some_iff.mp h).1
  rw [List.drop_eq_getElem_cons hl, (List.getElem?_eq_some_iff.mp h).2]
theorem scan_le {l : List Nat} : ∀ (n a : Nat), ∀ x ∈ scan n l a, a ≤ x.2.1 ∧ x.2.1 < x.2.2 ∧ x.2.2 ≤ l.length
  | 0, a, x, h => nomatch h
  | n + 1, a, x, h => by
    have h : x ∈ (if a < l.length ∧ (l.drop a).take 2 ≠ [45, 45] then (if l.getD a 0 = 32 then scan n l (a + 1) else ((signAt l a).1, a, (signAt l a).2) :: scan n l (signAt l a).2) else []) := h
    split at h
    · rename_i h1
      split at h
      · have := scan_le n (a + 1) x h
        omega
      · rename_i h2
        have g := signAt_gt h1.1 h2
        rcases List.mem_cons.mp h with h | h
        · rw [h]
          exact ⟨Nat.le_refl _, g⟩
        · have := scan_le n _ x h
          omega
    · exact nomatch h
theorem scan_len {l : List Nat} : ∀ (n a : Nat), a ≤ l.length → (scan n l a).length + a ≤ l.length
  | 0, a, h => by simpa [scan] using h
  | n + 1, a, h => by
    show (if a < l.length ∧ (l.drop a).take 2 ≠ [45, 45] then (if l.getD a 0 = 32 then scan n l (a + 1) else ((signAt l a).1, a, (signAt l a).2) :: scan n l (signAt l a).2) else []).length + a ≤ l.length
    split
    · rename_i h1
      split
      · have := scan_len n (a + 1) h1.1
        omega
      · rename_i h2
        have g := signAt_gt h1.1 h2
        have := scan_len n _ g.2
        rw [List.length_cons]
        omega
    · simpa using h
theorem lineSigns_cons {n b e : Nat} {l w : List Nat} {r : List (List Nat × Nat × Nat)} (h : w ≠ []) : lineSigns n l ((w, b, e) :: r) = (w, Tx.cut l b e, n, b + 1) :: lineSigns n l r := by
  unfold lineSigns
  exact List.filterMap_cons_some (by exact if_neg h)
theorem lineFaults_cons {n b e : Nat} {w : List Nat} {r : List (List Nat × Nat × Nat)} (h : w ≠ []) : lineFaults n ((w, b, e) :: r) = lineFaults n r := by
  unfold lineFaults
  exact List.filterMap_cons_none (by exact if_neg h)
theorem get0 {G : Cells} {a b : Cell} : (G ++ [a, b])[G.length]? = some a := get_app (k := 0)
theorem get1 {G : Cells} {a b : Cell} : (G ++ [a, b])[G.length + 1]? = some b := get_app (k := 1)
theorem set0 {G : Cells} {a b c : Cell} : (G ++ [a, b]).set G.length c = G ++ [c, b] := set_app (k := 0)
theorem set1 {G : Cells} {a b c : Cell} : (G ++ [a, b]).set (G.length + 1) c = G ++ [a, c] := set_app (k := 1)
def F_signs_of : FD := fun ds G R => ∃ (x : D) (ls : List (List Nat)), ds = [x] ∧ IsL G x (ls.map fun l => D.str (S l)) ∧ 1 ≤ ls.length ∧ ls.length ≤ 400 ∧ (∀ l ∈ ls, Tx.isLine l = true) ∧
  R (.tup [.ptr G.length, .ptr (G.length + 1)]) (G ++ [.lst ((signsF 0 ls).map sigD), .lst ((faultsF 0 ls).map ftD)])
theorem ok_signs_of (T : Top K mg) : FnOk P w K mg base CX0 6 T.a_signs_of T.d_signs_of ["lines"] (SpD K F_signs_of) := by
  refine fn_ok T.signs_of.fn sc_signs_of (fun ds G R h => ?_) fun cdv A outer s H E hr => ⟨_, (pss_cons (ps_expr (pe_call (ok_check_lines T) (hr.mono (by decide)) (by rfl) T.check_lines.mg T.check_lines.fn.kp T.check_lines.bd .nil pass0 (pa_cons (pv 0) pa_nil)))
  (pss_cons (ps_par (i := 1) (j := 2) rfl sc_signs_of.nd rfl rfl (by decide) rfl rfl (pa_cons (pe_lst pa_nil) (pa_cons (pe_lst pa_nil) pa_nil)) (by rfl))
  (pss_cons (ps_for PassesOwn.never rfl (pi_enum (by rfl) T.enumerate (pa_cons (pv 0) pa_nil)) (show PG _ _ (gTup K 2 _) from pg_tup rfl (pgs_cons (pg_name (i := 3) sc_signs_of.nd rfl (Or.inl rfl)) (pgs_cons (pg_name (i := 4) sc_signs_of.nd rfl (Or.inl rfl)) pgs_nil)))
   (pss_one (ps_for PassesOwn.never rfl (pi_list (pe_call (ok_spans_in T) (hr.mono (by decide)) (by rfl) T.spans_in.mg T.spans_in.fn.kp T.spans_in.bd .nil pass0 (pa_cons (pv 4) pa_nil))) (show PG _ _ (gTup K 3 _) from pg_tup rfl (pgs_cons (pg_name (i := 5) sc_signs_of.nd rfl (Or.inl rfl)) (pgs_cons (pg_name (i := 6) sc_signs_of.nd rfl (Or.inl rfl)) (pgs_cons (pg_name (i := 7) sc_signs_of.nd rfl (Or.inl rfl)) pgs_nil))))
   (pss_one (ps_if (pt_cmpR op_eq (pv 5) pe_str (nomark _))
   (pss_one (ps_expr (pe_bm PySem.F.plainAttrs_list PySem.F.slot_list_append PySem.F.type_list_append mt_append (pv 2) (pa_cons (pe_tup (pa_cons (pv 3) (pa_cons (pe_op op_add (pv 6) pe_int) pa_nil))) pa_nil))))
   (pss_one (ps_expr (pe_bm PySem.F.plainAttrs_list PySem.F.slot_list_append PySem.F.type_list_append mt_append (pv 1) (pa_cons (pe_tup (pa_cons (pv 5) (pa_cons (pe_slice sl_str (pv 4) (po_some (pv 6)) (po_some (pv 7))) (pa_cons (pv 3) (pa_cons (pe_op op_add (pv 6) pe_int) pa_nil))))) pa_nil)))))))))
  (pss_one (ps_ret (pe_tup (pa_cons (pv 1) (pa_cons (pv 2) pa_nil)))))))), fun ds G R hF => ?_⟩
  · obtain ⟨x, ls, rfl, _⟩ := h
    rfl
  · obtain ⟨x, ls, rfl, hx, h1, h2, h3, q⟩ := hF
    walk_at "go"
    change WS K _ [some _, none, none, none, none, none, none, none] _ _
    walk_at "ww"
    refine ⟨x, ls, rfl, hx, h1, h2, h3, ?_⟩
    walk_at "ww"
    walk_at "hot"
    walk_at "hot"
    rw [show (G ++ [Cell.lst []]).length = G.length + 1 by rw [List.length_append]; rfl, List.append_assoc]
    have hxm : ∀ more : Cells, IsL (G ++ more) x (ls.map fun l => D.str (S l)) := fun more => hx.imp id fun ⟨k, e, hk⟩ => ⟨k, e, by rw [List.getElem?_append_left (List.getElem?_eq_some_iff.mp hk).1]; exact hk⟩
    refine ws_for (wi_enum (wa_cons (we_var rfl (wa_nil ⟨_, _, rfl, .inr (hxm _), fun i ρ G' => ∃ (a1 : List (List Nat × List Nat × Nat × Nat)) (a2 : List (Nat × Nat)) (x3 x4 x5 x6 x7 : Option D), ρ = [some x, some (.ptr G.length), some (.ptr (G.length + 1)), x3, x4, x5, x6, x7] ∧ G' = G ++ [.lst (a1.map sigD), .lst (a2.map ftD)] ∧ a1.length ≤ 100 * i ∧ a2.length ≤ 100 * i ∧ a1 ++ signsF i (ls.drop i) = signsF 0 ls ∧ a2 ++ faultsF i (ls.drop i) = faultsF 0 ls,
      ⟨[], [], none, none, none, none, none, rfl, rfl, Nat.zero_le _, Nat.zero_le _, rfl, rfl⟩, fun i ρ G' h => ?_, ?_, ?_⟩))))
    · obtain ⟨a1, a2, x3, x4, x5, x6, x7, rfl, rfl, _⟩ := h
      exact .inr (hxm _)
    · rintro i d ρ G' hi ⟨a1, a2, x3, x4, x5, x6, x7, rfl, rfl, hl1, hl2, hq1, hq2⟩
      obtain ⟨c, hc, rfl⟩ := en_get hi
      obtain ⟨l, hli, rfl⟩ := map_get hc
      have hil := (List.getElem?_eq_some_iff.mp hli).1
      have hll : l.length ≤ 100 := by
        have := h3 l (List.mem_of_getElem? hli)
        unfold Tx.isLine at this
        rw [Bool.and_eq_true] at this
        exact of_decide_eq_true this.1
      rw [drop_at' hli] at hq1 hq2
      have hq1 : a1 ++ (lineSigns i l (scan (l.length + 1) l 0) ++ signsF (i + 1) (ls.drop (i + 1))) = signsF 0 ls := hq1
      have hq2 : a2 ++ (lineFaults i (scan (l.length + 1) l 0) ++ faultsF (i + 1) (ls.drop (i + 1))) = faultsF 0 ls := hq2
      have hsl := scan_len (l := l) (l.length + 1) 0 (Nat.zero_le _)
      have hsc := scan_le (l := l) (l.length + 1) 0
      walk_at "ww"
      refine ws_for (wi_list (by
        walk_at "ww"
        refine ⟨l, rfl, by omega, ?_⟩
        generalize scan (l.length + 1) l 0 = xs at hq1 hq2 hsl hsc ⊢
        refine ⟨_, isR, fun j ρ G' => ∃ (b1 : List (List Nat × List Nat × Nat × Nat)) (b2 : List (Nat × Nat)) (x5 x6 x7 : Option D), ρ = [some x, some (.ptr G.length), some (.ptr (G.length + 1)), some (.int (i : Nat)), some (.str (S l)), x5, x6, x7] ∧ G' = G ++ [.lst (b1.map sigD), .lst (b2.map ftD)] ∧ b1.length ≤ 100 * i + j ∧ b2.length ≤ 100 * i + j ∧ b1 ++ lineSigns i l (xs.drop j) = a1 ++ lineSigns i l xs ∧ b2 ++ lineFaults i (xs.drop j) = a2 ++ lineFaults i xs,
          ⟨a1, a2, _, _, _, rfl, rfl, hl1, hl2, rfl, rfl⟩, fun j ρ G' _ => isR, ?_, ?_⟩
        · rintro j d ρ G' hj ⟨b1, b2, x5, x6, x7, rfl, rfl, hb1, hb2, hr1, hr2⟩
          obtain ⟨⟨w, b, e⟩, hxj, rfl⟩ := map_get hj
          have hjl := (List.getElem?_eq_some_iff.mp hxj).1
          obtain ⟨_, he1, he2⟩ := hsc _ (List.mem_of_getElem? hxj)
          have he1 : b < e := he1
          have he2 : e ≤ l.length := he2
          rw [drop_at' hxj] at hr1 hr2
          walk_at "ww"
          refine ite_P (fun hw => ?_) (fun hw => ?_)
          · subst hw
            have hr1 : b1 ++ lineSigns i l (xs.drop (j + 1)) = a1 ++ lineSigns i l xs := hr1
            have hr2 : b2 ++ (i, b + 1) :: lineFaults i (xs.drop (j + 1)) = a2 ++ lineFaults i xs := hr2
            walk_at "ww"
            refine ⟨⟨_, isLp get1⟩, ?_⟩
            walk_at "ww"
            refine rm_append get1 (by rw [List.length_map]; exact lt_size (by omega)) ?_
            rw [set1]
            have el : b2.map ftD ++ [.tup [.int (i : Nat), .int ((b : Int) + 1)]] = (b2 ++ [(i, b + 1)]).map ftD := by rw [List.map_append]; rfl
            rw [el]
            exact ⟨b1, b2 ++ [(i, b + 1)], _, _, _, rfl, rfl, by omega, by rw [List.length_append, List.length_singleton]; omega, hr1, by rw [List.append_assoc]; exact hr2⟩
          · rw [lineSigns_cons hw] at hr1
            rw [lineFaults_cons hw] at hr2
            walk_at "ww"
            refine ⟨⟨_, isLp get0⟩, ?_⟩
            walk_at "ww"
            · rw [cutL_nn (by omega) he2]
              walk_at "ww"
              refine rm_append get0 (by rw [List.length_map]; exact lt_size (by omega)) ?_
              rw [set0]
              have el : b1.map sigD ++ [.tup [.str (S w), .str (S (Tx.cut l b e)), .int (i : Nat), .int ((b : Int) + 1)]] = (b1 ++ [(w, Tx.cut l b e, i, b + 1)]).map sigD := by rw [List.map_append]; rfl
              rw [el]
              exact ⟨b1 ++ [(w, Tx.cut l b e, i, b + 1)], b2, _, _, _, rfl, rfl, by rw [List.length_append, List.length_singleton]; omega, by omega, by rw [List.append_assoc]; exact hr1, hr2⟩
            · omega
        · rintro ρ G' ⟨b1, b2, x5, x6, x7, rfl, rfl, hb1, hb2, hr1, hr2⟩
          rw [List.length_map] at hb1 hb2
          rw [List.length_map, List.drop_length] at hr1 hr2
          have hr1 : b1 ++ [] = a1 ++ lineSigns i l xs := hr1
          have hr2 : b2 ++ [] = a2 ++ lineFaults i xs := hr2
          rw [List.append_nil] at hr1 hr2
          exact ⟨b1, b2, _, _, _, _, _, rfl, rfl, by omega, by omega, by rw [hr1, List.append_assoc]; exact hq1, by rw [hr2, List.append_assoc]; exact hq2⟩))
    · rintro ρ G' ⟨a1, a2, x3, x4, x5, x6, x7, rfl, rfl, hl1, hl2, hq1, hq2⟩
      rw [enD_len, List.length_map, List.drop_length] at hq1 hq2
      have hq1 : a1 ++ [] = _ := hq1
      have hq2 : a2 ++ [] = _ := hq2
      rw [List.append_nil] at hq1 hq2
      walk_at "ww"
      rw [hq1, hq2]
      exact .inl q
end

section
variable {P : Program} {w : World} {K : PySem.W.Frag} {mg : Str → Option Value} {base : Heap}
/-- the line begins no block -/
def blankL (l : List Nat) : Bool := decide (l = []) || decide (l.headD 0 = 32)
def F_begins_block : FD := fun ds G R => ∃ l : List Nat, ds = [.str (S l)] ∧ l.length ≤ 90000 ∧ R (.bl (!blankL l)) G
theorem ok_begins_block (T : Top K mg) : FnOk P w K mg base CX0 1 T.a_begins_block T.d_begins_block ["line"] (SpD K F_begins_block) := by
  refine fn_ok T.begins_block.fn sc_begins_block (fun ds G R h => ?_) fun cdv A outer s H E hr => ⟨_, (pss_one (ps_ret (pe_cmpR (show OpR _ _ (rIn K true) from op_notIn_seq) (pe_slice sl_str (pv 0) po_none (po_some pe_int)) (pe_tup (pa_cons pe_str (pa_cons pe_str pa_nil))) (by first | rfl | exact nomark _)))), fun ds G R hF => ?_⟩
  · obtain ⟨l, rfl, _⟩ := h
    rfl
  · obtain ⟨l, rfl, hl, q⟩ := hF
    walk_at "go"
    change WS K _ [some _] _ _
    walk_at "ww"
    · rw [show cutL l none (some 1) = l.take 1 from cutL_on (b := 1)]
      refine rd_inQ (ls := [[], [32]]) isQt ?_
      have e : decide (l.take 1 ∈ ([[], [32]] : List (List Nat))) = blankL l := by
        cases l with
        | nil => rfl
        | cons c r =>
          show decide ([c] ∈ ([[], [32]] : List (List Nat))) = (decide (c :: r = []) || decide (c = 32))
          by_cases h : c = 32
          · subst h
            simp
          · simp [h]
      rw [e]
      exact .inl q
    · omega
def F_run_of : FD := fun ds G R => ∃ (l s : List Nat), ds = [.str (S l), .str (S s)] ∧ l.length ≤ 90000 ∧ R (.str (S (l.take (tw s l)))) G
theorem ok_run_of (T : Top K mg) : FnOk P w K mg base CX0 1 T.a_run_of T.d_run_of ["line", "signs"] (SpD K F_run_of) := by
  refine fn_ok T.run_of.fn sc_run_of (fun ds G R h => ?_) fun cdv A outer s H E hr => ⟨_, (pss_cons (ps_set (i := 2) sc_run_of.nd rfl (Or.inl rfl) pe_int)
  (pss_cons (ps_while PassesOwn.never (PW.pt (pw_and (pt_cmpR op_lt (pv 2) (pe_callB call_len_str (by rfl) T.len (by decide +kernel) (pa_cons (pv 0) pa_nil)) (nomark _)) (pw_and1 (pt_cmpR op_in_sign (pe_ix ix_str (pv 0) (pv 2) (fun _ _ => rfl)) (pv 1) rfl))))
   (pss_one (ps_aug (i := 2) sc_run_of.nd rfl (Or.inl rfl) pe_int ip_add)))
  (pss_one (ps_ret (pe_slice sl_str (pv 0) po_none (po_some (pv 2))))))), fun ds G R hF => ?_⟩
  · obtain ⟨l, s, rfl, _⟩ := h
    rfl
  · obtain ⟨l, s, rfl, hl, q⟩ := hF
    walk_at "go"
    change WS K _ [some _, some _, none] _ _
    walk_at "ww"
    refine ws_while (fun ρ G' => ∃ e : Nat, ρ = [some (.str (S l)), some (.str (S s)), some (.int (e : Nat))] ∧ G' = G ∧ e ≤ l.length ∧ e + tw s (l.drop e) = tw s l) (left l.length 2) ⟨0, rfl, rfl, Nat.zero_le _, by rw [List.drop_zero, Nat.zero_add]⟩ ?_
    rintro ρ G' ⟨e, rfl, rfl, he, hq⟩
    have ret : tw s (l.drop e) = 0 → WS K (tRet (tSl rSlS (tVar 0) tNoPart (tPart (tVar 2)))) [some (.str (S l)), some (.str (S s)), some (.int (e : Nat))] G' ⟨fun _ G1 => Gc G' R .non G1, Gc G' R, fun _ _ => False, fun _ _ => False⟩ := fun h => by
      rw [h, Nat.add_zero] at hq
      walk_at "ww"
      · rw [cutL_on, hq]
        exact .inl q
      · omega
    walk_at "ww"
    · refine ite_P (fun h1 => ?_) (fun h1 => ?_)
      · have h1 : e < l.length := by omega
        obtain ⟨c, hc⟩ : ∃ c, l[e]? = some c := ⟨_, List.getElem?_eq_getElem h1⟩
        walk_at "ww"
        refine rd_ixT' (by omega) (by omega) (c := c) (by rw [Int.toNat_natCast]; exact hc) ?_
        walk_at "ww"
        refine ite_P (fun h2 => ?_) (fun h2 => ret (tw_out hc h2))
        refine ws_augI rfl ?_
        walk_at "ww"
        have e1 : (e : Int) + 1 = ((e + 1 : Nat) : Int) := rfl
        rw [e1]
        refine ⟨⟨e + 1, rfl, rfl, h1, ?_⟩, ?_⟩
        · rw [← hq, tw_in hc h2]
          omega
        · show l.length - (((e + 1 : Nat) : Int)).toNat < l.length - ((e : Nat) : Int).toNat
          omega
      · exact ret (tw_end (by omega))
    · omega
end

section
variable {P : Program} {w : World} {K : PySem.W.Frag} {mg : Str → Option Value} {base : Heap}
theorem S_of (z : Str) : ∃ l, z = S l ∧ l.length = z.length := ⟨z.cps.toList, by cases z; rfl, by simp [Str.length]⟩
theorem cutL_le {l : List Nat} {lo hi : Option Int} : (cutL l lo hi).length ≤ l.length := by
  unfold cutL
  rw [List.length_take, List.length_drop]
  omega
abbrev leadL : List Nat := [108, 101, 97, 100]
def F_head_of : FD := fun ds G R => ∃ l : List Nat, ds = [.str (S l)] ∧ l.length ≤ 100 ∧ ∀ w n : List Nat, (∀ c ∈ w ++ n, c < 55296) → (if blankL l = true then w = leadL ∧ n = [] else w ≠ leadL) → R (.tup [.str (S w), .str (S n)]) G
theorem word_lt {b s l : List Nat} (hs : ∀ c ∈ s, c < 55296) (h : isWord b s l = true) : ∀ c ∈ l, c < 55296 := fun c hc => by
  unfold isWord at h
  simp only [Bool.and_eq_true] at h
  exact hs c (of_decide_eq_true (List.all_eq_true.mp h.2 c hc))
theorem name_lt {l : List Nat} (h : isName l = true) : ∀ c ∈ l, c < 55296 := by
  unfold isName at h
  rw [Bool.and_eq_true] at h
  exact word_lt (by decide) h.1
theorem great_lt {l : List Nat} (h : isGreat l = true) : ∀ c ∈ l, c < 55296 := word_lt (by decide) h
theorem ok_head_of (T : Top K mg) : FnOk P w K mg base CX0 3 T.a_head_of T.d_head_of ["line"] (SpD K F_head_of) := by
  refine fn_ok T.head_of.fn sc_head_of (fun ds G R h => ?_) fun cdv A outer s H E hr => ⟨_, (pss_cons (ps_if (pt_not (pt_val (pe_call (ok_begins_block T) (hr.mono (by decide)) (by rfl) T.begins_block.mg T.begins_block.fn.kp T.begins_block.bd .nil pass0 (pa_cons (pv 0) pa_nil))))
   (pss_one (ps_ret (pe_tup (pa_cons pe_str (pa_cons pe_str pa_nil)))))
   pss_nil)
  (pss_cons (ps_for PassesOwn.never rfl (pi_tup (pe_glob (v := .ref T.q_HEAD_WORDS) rfl T.HEAD_WORDS rfl)) (pg_name (i := 1) sc_head_of.nd rfl (Or.inl rfl))
   (pss_one (ps_if (pt_val (pe_m1 PySem.F.slot_str_startswith PySem.F.type_str_startswith mt_startswith (pv 0) (pe_op op_add_str (pv 1) pe_str)))
   (pss_cons (ps_set (i := 2) sc_head_of.nd rfl (Or.inl rfl) (pe_m1 PySem.F.slot_str_lstrip PySem.F.type_str_lstrip mt_lstripChars (pe_slice sl_str (pv 0) (po_some (pe_callB call_len_str (by rfl) T.len (by decide +kernel) (pa_cons (pv 1) pa_nil))) po_none) pe_str))
  (pss_cons (ps_set (i := 3) sc_head_of.nd rfl (Or.inl rfl) (pe_call (ok_run_of T) (hr.mono (by decide)) (by rfl) T.run_of.mg T.run_of.fn.kp T.run_of.bd .nil pass0 (pa_cons (pv 2) (pa_cons (pe_ifExp (pt_cmpR op_eq (pv 1) pe_str (nomark _)) (pe_op op_add_str (pe_op op_add_str (pe_glob (v := .str "abcdefghijklmnopqrstuvwxyz") rfl T.SMALL ⟨_, rfl⟩) (pe_glob (v := .str "ABCDEFGHIJKLMNOPQRSTUVWXYZ") rfl T.GREAT ⟨_, rfl⟩)) (pe_glob (v := .str "0123456789") rfl T.FIGURES ⟨_, rfl⟩)) (pe_op op_add_str (pe_op op_add_str (pe_glob (v := .str "abcdefghijklmnopqrstuvwxyz") rfl T.SMALL ⟨_, rfl⟩) (pe_glob (v := .str "0123456789") rfl T.FIGURES ⟨_, rfl⟩)) pe_str)) pa_nil))))
  (pss_one (ps_if (pt_ifT (pt_cmpR op_eq (pv 1) pe_str (nomark _)) (pt_val (pe_call (ok_is_great T) (hr.mono (by decide)) (by rfl) T.is_great.mg T.is_great.fn.kp T.is_great.bd .nil pass0 (pa_cons (pv 3) pa_nil))) (pt_val (pe_call (ok_is_name T) (hr.mono (by decide)) (by rfl) T.is_name.mg T.is_name.fn.kp T.is_name.bd .nil pass0 (pa_cons (pv 3) pa_nil))))
   (pss_one (ps_ret (pe_tup (pa_cons (pv 1) (pa_cons (pv 3) pa_nil)))))
   pss_nil))))
   pss_nil)))
  (pss_one (ps_ret (pe_tup (pa_cons pe_str (pa_cons pe_str pa_nil))))))), fun ds G R hF => ?_⟩
  · obtain ⟨l, rfl, _⟩ := h
    rfl
  · obtain ⟨l, rfl, hl, q⟩ := hF
    walk_at "go"
    change WS K _ [some _, none, none, none] _ _
    walk_at "ww"
    refine ⟨l, rfl, by omega, _, rfl, ?_⟩
    refine ite_nb (fun h1 => ?_) (fun h1 => ?_)
    · have h1 : blankL l = true := by simpa using h1
      walk_at "ww"
      exact .inl (q leadL [] (by decide) (by rw [if_pos h1]; exact ⟨rfl, rfl⟩))
    · have h1 : blankL l = false := by simpa using h1
      have q : ∀ w n : List Nat, (∀ c ∈ w ++ n, c < 55296) → w ≠ leadL → R (.tup [.str (S w), .str (S n)]) G := fun w n hwn h => q w n hwn (by rw [if_neg (by rw [h1]; decide)]; exact h)
      walk_at "ww"
      refine ws_for (wi_tup (we_ktup T.tp_HEAD_WORDS (fun _ _ => reps_S HEAD_WORDS_v) ⟨_, rfl, fun i ρ G' => ∃ x1 x2 x3 : Option D, ρ = [some (.str (S l)), x1, x2, x3] ∧ G' = G, ⟨none, none, none, rfl, rfl⟩, fun _ _ _ _ => trivial, ?_, ?_⟩))
      · rintro i d ρ G' hi ⟨x1, x2, x3, rfl, rfl⟩
        obtain ⟨p, hp, rfl⟩ := map_get hi
        have hpl : p.length ≤ 4 ∧ p ≠ leadL ∧ ∀ c ∈ p, c < 55296 := (by decide : ∀ p ∈ HEAD_WORDS_l, p.length ≤ 4 ∧ p ≠ leadL ∧ ∀ c ∈ p, c < 55296) p (List.mem_of_getElem? hp)
        walk_at "ww"
        · refine rm_starts ⟨_, rfl, ?_⟩
          refine ite_b (fun _ => ?_) (fun _ => ?_)
          · have hcl := cutL_le (l := l) (lo := some (p.length : Int)) (hi := none)
            walk_at "ww"
            · refine rm_lstrip (by rw [S_len]; omega) fun z hz => ?_
              rw [S_len] at hz
              have hzl : (z : List Nat).length ≤ 90000 := by omega
              have hzt : ∀ n, (z.take n).length ≤ 90000 := fun n => by rw [List.length_take]; omega
              walk_at "ww"
              refine ite_P (fun h5 => ?_) (fun h5 => ?_)
              · walk_at "ww"
                · refine ⟨z, _, rfl, hzl, ?_⟩
                  walk_at "ww"
                  refine ite_P (fun _ => ?_) (fun g => absurd h5 g)
                  walk_at "ww"
                  refine ⟨_, rfl, hzt _, _, rfl, ?_⟩
                  refine ite_b (fun hnm => ?_) (fun _ => ?_)
                  · walk_at "ww"
                    exact .inl (q p _ (fun c hc => (List.mem_append.mp hc).elim (hpl.2.2 c) (great_lt hnm c)) hpl.2.1)
                  · walk_at "ww"
                    exact ⟨_, _, _, rfl, rfl⟩
                all_goals decide
              · walk_at "ww"
                · refine ⟨z, _, rfl, hzl, ?_⟩
                  walk_at "ww"
                  refine ite_P (fun g => absurd g h5) (fun _ => ?_)
                  walk_at "ww"
                  refine ⟨_, rfl, hzt _, _, rfl, ?_⟩
                  refine ite_b (fun hnm => ?_) (fun _ => ?_)
                  · walk_at "ww"
                    exact .inl (q p _ (fun c hc => (List.mem_append.mp hc).elim (hpl.2.2 c) (name_lt hnm c)) hpl.2.1)
                  · walk_at "ww"
                    exact ⟨_, _, _, rfl, rfl⟩
                all_goals decide
            all_goals omega
          · walk_at "ww"
            exact ⟨_, _, _, rfl, rfl⟩
        · rw [List.length_singleton]
          omega
      · rintro ρ G' ⟨x1, x2, x3, rfl, rfl⟩
        walk_at "ww"
        exact .inl (q [] [] (by decide) (by decide))
end

section
/-- the sign at the beginning of a rest of a line -/
def runT (s t : List Nat) : List Nat × Nat := (wordOf (t.take (tw s t)), tw s t)
def sgn (t : List Nat) : List Nat × Nat :=
  if t.headD 0 = 34 then (if 34 ∈ t.drop 1 then (if two [34] (t.drop 1) ≤ 60 then [115, 116, 114, 105, 110, 103] else [], 1 + two [34] (t.drop 1) + 1) else ([], t.length))
  else if t.take 2 ∈ LONG_MARKS_l then (t.take 2, 2)
  else if t.headD 0 ∈ marksL then ([t.headD 0], 1)
  else if t.headD 0 ∈ smallL ++ [95] then runT (smallL ++ figL ++ [95]) t
  else if t.headD 0 ∈ greatL then runT (smallL ++ greatL ++ figL) t
  else if t.headD 0 ∈ figL then runT (smallL ++ greatL ++ figL ++ [95]) t
  else ([], two knownL t)
theorem head_drop {l : List Nat} {a : Nat} : l.getD a 0 = (l.drop a).headD 0 := by
  rw [List.getD_eq_getElem?_getD, List.headD_eq_head?_getD, List.head?_drop]
theorem run_T {s l : List Nat} {a : Nat} : runAt s l a = ((runT s (l.drop a)).1, a + (runT s (l.drop a)).2) := by
  unfold runAt runT Tx.cut
  rw [Nat.add_sub_cancel_left]
theorem signAt_sgn {l : List Nat} {a : Nat} (h : a < l.length) : signAt l a = ((sgn (l.drop a)).1, a + (sgn (l.drop a)).2) := by
  have e1 : (l.drop a).drop 1 = l.drop (a + 1) := by rw [List.drop_drop]
  have e2 : l.length = a + (l.drop a).length := by rw [List.length_drop]; omega
  unfold signAt sgn
  rw [head_drop, e1]
  split
  · unfold textAt
    split
    · show _ = (_, _)
      rw [Nat.add_assoc, Nat.add_assoc, Nat.add_assoc]
    · rw [← e2]
  · split
    · rfl
    · split
      · rfl
      · split
        · exact run_T
        · split
          · exact run_T
          · split
            · exact run_T
            · rfl
def sc : Nat → List Nat → Nat → List (List Nat × Nat × Nat)
  | 0, _, _ => []
  | n + 1, t, a => if t ≠ [] ∧ t.take 2 ≠ [45, 45] then (if t.headD 0 = 32 then sc n (t.drop 1) (a + 1) else ((sgn t).1, a, a + (sgn t).2) :: sc n (t.drop (sgn t).2) (a + (sgn t).2)) else []
theorem scan_sc {l : List Nat} : ∀ (n a : Nat), scan n l a = sc n (l.drop a) a
  | 0, a => rfl
  | n + 1, a => by
    show (if a < l.length ∧ (l.drop a).take 2 ≠ [45, 45] then (if l.getD a 0 = 32 then scan n l (a + 1) else ((signAt l a).1, a, (signAt l a).2) :: scan n l (signAt l a).2) else []) = (if l.drop a ≠ [] ∧ (l.drop a).take 2 ≠ [45, 45] then (if (l.drop a).headD 0 = 32 then sc n ((l.drop a).drop 1) (a + 1) else ((sgn (l.drop a)).1, a, a + (sgn (l.drop a)).2) :: sc n ((l.drop a).drop (sgn (l.drop a)).2) (a + (sgn (l.drop a)).2)) else [])
    have hd : l.drop a ≠ [] ↔ a < l.length := by
      rw [Ne, List.drop_eq_nil_iff]
      omega
    by_cases h : a < l.length
    · rw [signAt_sgn h, scan_sc n (a + 1), scan_sc n (a + (sgn (l.drop a)).2), head_drop, List.drop_drop, List.drop_drop]
      by_cases h2 : (l.drop a).take 2 ≠ [45, 45]
      · rw [if_pos (show a < l.length ∧ (l.drop a).take 2 ≠ [45, 45] from ⟨h, h2⟩), if_pos (show l.drop a ≠ [] ∧ (l.drop a).take 2 ≠ [45, 45] from ⟨hd.mpr h, h2⟩)]
      · rw [if_neg fun z => h2 z.2, if_neg fun z => h2 z.2]
    · rw [if_neg fun z => h z.1, if_neg fun z => h (hd.mp z.1)]
theorem sc_nil : ∀ (n a : Nat), sc n [] a = []
  | 0, _ => rfl
  | n + 1, a => by
    show (if ([] : List Nat) ≠ [] ∧ _ then _ else []) = []
    rw [if_neg fun z => z.1 rfl]
theorem sc_dash {n a : Nat} {r : List Nat} : sc n (45 :: 45 :: r) a = [] := by
  cases n with
  | zero => rfl
  | succ n =>
    show (if _ ∧ (45 :: 45 :: r).take 2 ≠ [45, 45] then _ else []) = []
    rw [if_neg fun z => z.2 rfl]
theorem sc_blank {n a : Nat} {t : List Nat} (h : ∀ n a, sc n t a = []) : sc n (32 :: t) a = [] := by
  cases n with
  | zero => rfl
  | succ n =>
    show (if _ ∧ _ then (if (32 : Nat) = 32 then sc n t (a + 1) else _) else []) = []
    rw [if_pos rfl, h]
    split <;> rfl
/-! ### pieces -/
/-- a character that a law writes -/
def okc (c : Nat) : Bool := Tx.isSign c && !decide (c = 37)
abbrev wildL : List Nat := [33, 35, 36, 38, 39, 47, 59, 62, 64, 91, 92, 93, 94, 96, 126]
/-- whether what follows may stand right behind -/
def tightL (a o : List Nat) : Bool :=
  if a.headD 0 ∈ figL then !decide (o.headD 0 ∈ smallL ++ greatL ++ figL ++ [95])
  else if a.headD 0 ∈ greatL then !decide (o.headD 0 ∈ smallL ++ greatL ++ figL)
  else if a.headD 0 ∈ smallL ++ [95] then !decide (o.headD 0 ∈ smallL ++ figL ++ [95])
  else if a.headD 0 ∈ wildL then !decide (o.headD 0 ∈ wildL)
  else !decide (a ∈ ([[45], [61]] : List (List Nat))) || !decide (a ++ [o.headD 0] ∈ ([[45, 45], [45, 62], [61, 61]] : List (List Nat)))
def Foll (s : List Nat) (b : Bool) (r : List Nat) : Prop := r = [] ∨ (b = false ∧ (r.headD 0 = 32 ∨ tightL s r = true))
structure Piece (w s : List Nat) (b : Bool) : Prop where
  ne : s ≠ []
  len : s.length ≤ 90
  pr : ∀ c ∈ s, okc c = true
  h32 : s.headD 0 ≠ 32
  dd : ∀ r, (∀ c ∈ r, okc c = true) → Foll s b r → (s ++ r).take 2 ≠ [45, 45]
  sg : ∀ r, (∀ c ∈ r, okc c = true) → Foll s b r → sgn (s ++ r) = (w, s.length)
theorem tw_app {S r : List Nat} : ∀ {s : List Nat}, (∀ c ∈ s, c ∈ S) → (r = [] ∨ r.headD 0 ∉ S) → tw S (s ++ r) = s.length
  | [], _, hr => by
    cases r with
    | nil => rfl
    | cons c r =>
      have hc : c ∉ S := hr.elim (fun z => nomatch z) id
      unfold tw
      rw [List.nil_append, List.takeWhile_cons_of_neg (by simpa using hc)]
  | c :: s, h, hr => by
    have := tw_app (s := s) (fun d hd => h d (List.mem_cons_of_mem _ hd)) hr
    unfold tw at this ⊢
    rw [List.cons_append, List.takeWhile_cons_of_pos (by simpa using h c List.mem_cons_self), List.length_cons, this, List.length_cons]
theorem two_app {S r : List Nat} : ∀ {s : List Nat}, (∀ c ∈ s, c ∉ S) → (r = [] ∨ r.headD 0 ∈ S) → two S (s ++ r) = s.length
  | [], _, hr => by
    cases r with
    | nil => rfl
    | cons c r =>
      have hc : c ∈ S := hr.elim (fun z => nomatch z) id
      unfold two
      rw [List.nil_append, List.takeWhile_cons_of_neg (by simpa using hc)]
  | c :: s, h, hr => by
    have := two_app (s := s) (fun d hd => h d (List.mem_cons_of_mem _ hd)) hr
    unfold two at this ⊢
    rw [List.cons_append, List.takeWhile_cons_of_pos (by simpa using h c List.mem_cons_self), List.length_cons, this, List.length_cons]
theorem long_head {c : Nat} {v : List Nat} (h : (c :: v).take 2 ∈ LONG_MARKS_l) : c = 45 ∨ c = 61 := by
  unfold LONG_MARKS_l at h
  rcases List.mem_cons.mp h with h | h
  · injection h with h _
    exact .inl h
  · have h := List.mem_singleton.mp h
    injection h with h _
    exact .inr h
theorem sgn_small {c : Nat} {v : List Nat} (h : c ∈ smallL ++ [95]) : sgn (c :: v) = runT (smallL ++ figL ++ [95]) (c :: v) := by
  have h1 := (by decide : ∀ c ∈ smallL ++ [95], c ≠ 34 ∧ c ≠ 45 ∧ c ≠ 61 ∧ c ∉ marksL) c h
  unfold sgn
  rw [List.headD_cons, if_neg h1.1, if_neg fun z => (long_head z).elim h1.2.1 h1.2.2.1, if_neg h1.2.2.2, if_pos h]
theorem sgn_great {c : Nat} {v : List Nat} (h : c ∈ greatL) : sgn (c :: v) = runT (smallL ++ greatL ++ figL) (c :: v) := by
  have h1 := (by decide : ∀ c ∈ greatL, c ≠ 34 ∧ c ≠ 45 ∧ c ≠ 61 ∧ c ∉ marksL ∧ c ∉ smallL ++ [95]) c h
  unfold sgn
  rw [List.headD_cons, if_neg h1.1, if_neg fun z => (long_head z).elim h1.2.1 h1.2.2.1, if_neg h1.2.2.2.1, if_neg h1.2.2.2.2, if_pos h]
theorem sgn_fig {c : Nat} {v : List Nat} (h : c ∈ figL) : sgn (c :: v) = runT (smallL ++ greatL ++ figL ++ [95]) (c :: v) := by
  have h1 := (by decide : ∀ c ∈ figL, c ≠ 34 ∧ c ≠ 45 ∧ c ≠ 61 ∧ c ∉ marksL ∧ c ∉ smallL ++ [95] ∧ c ∉ greatL) c h
  unfold sgn
  rw [List.headD_cons, if_neg h1.1, if_neg fun z => (long_head z).elim h1.2.1 h1.2.2.1, if_neg h1.2.2.2.1, if_neg h1.2.2.2.2.1, if_neg h1.2.2.2.2.2, if_pos h]
theorem sgn_wild {c : Nat} {v : List Nat} (h : c ∈ wildL) : sgn (c :: v) = ([], two knownL (c :: v)) := by
  have h1 := (by decide : ∀ c ∈ wildL, c ≠ 34 ∧ c ≠ 45 ∧ c ≠ 61 ∧ c ∉ marksL ∧ c ∉ smallL ++ [95] ∧ c ∉ greatL ∧ c ∉ figL) c h
  unfold sgn
  rw [List.headD_cons, if_neg h1.1, if_neg fun z => (long_head z).elim h1.2.1 h1.2.2.1, if_neg h1.2.2.2.1, if_neg h1.2.2.2.2.1, if_neg h1.2.2.2.2.2.1, if_neg h1.2.2.2.2.2.2]
theorem runT_app {S s r : List Nat} (h : ∀ c ∈ s, c ∈ S) (hr : r = [] ∨ r.headD 0 ∉ S) : runT S (s ++ r) = (wordOf s, s.length) := by
  unfold runT
  rw [tw_app h hr, List.take_left']
  rfl
theorem dd_head {c : Nat} {u r : List Nat} (h : c ≠ 45) : (c :: u ++ r).take 2 ≠ [45, 45] := fun z => by
  have z : c :: (u ++ r).take 1 = [45, 45] := z
  injection z with z _
  exact h z
theorem piece_small {c : Nat} {u : List Nat} (hc : c ∈ smallL ++ [95]) (hu : ∀ d ∈ u, d ∈ smallL ++ figL ++ [95]) (hl : u.length ≤ 89) : Piece (wordOf (c :: u)) (c :: u) false := by
  have h1 := (by decide : ∀ c ∈ smallL ++ [95], c ≠ 32 ∧ c ≠ 45 ∧ c ∈ smallL ++ figL ++ [95] ∧ c ∉ figL ∧ c ∉ greatL) c hc
  have ha : ∀ d ∈ c :: u, d ∈ smallL ++ figL ++ [95] := fun d hd => (List.mem_cons.mp hd).elim (fun e => e ▸ h1.2.2.1) (hu d)
  refine ⟨List.cons_ne_nil _ _, by rw [List.length_cons]; omega, fun d hd => (by decide : ∀ c ∈ smallL ++ figL ++ [95], okc c = true) d (ha d hd), h1.1, fun r _ _ => dd_head h1.2.1, fun r _ hf => ?_⟩
  rw [List.cons_append, sgn_small hc]
  refine runT_app ha ?_
  rcases hf with h | ⟨_, h | h⟩
  · exact .inl h
  · exact .inr (by rw [h]; decide)
  · unfold tightL at h
    rw [List.headD_cons, if_neg h1.2.2.2.1, if_neg h1.2.2.2.2, if_pos hc] at h
    exact .inr (by simpa using h)
theorem piece_great {c : Nat} {u : List Nat} (hc : c ∈ greatL) (hu : ∀ d ∈ u, d ∈ smallL ++ greatL ++ figL) (hl : u.length ≤ 89) : Piece (wordOf (c :: u)) (c :: u) false := by
  have h1 := (by decide : ∀ c ∈ greatL, c ≠ 32 ∧ c ≠ 45 ∧ c ∈ smallL ++ greatL ++ figL ∧ c ∉ figL) c hc
  have ha : ∀ d ∈ c :: u, d ∈ smallL ++ greatL ++ figL := fun d hd => (List.mem_cons.mp hd).elim (fun e => e ▸ h1.2.2.1) (hu d)
  refine ⟨List.cons_ne_nil _ _, by rw [List.length_cons]; omega, fun d hd => (by decide : ∀ c ∈ smallL ++ greatL ++ figL, okc c = true) d (ha d hd), h1.1, fun r _ _ => dd_head h1.2.1, fun r _ hf => ?_⟩
  rw [List.cons_append, sgn_great hc]
  refine runT_app ha ?_
  rcases hf with h | ⟨_, h | h⟩
  · exact .inl h
  · exact .inr (by rw [h]; decide)
  · unfold tightL at h
    rw [List.headD_cons, if_neg h1.2.2.2, if_pos hc] at h
    exact .inr (by simpa using h)
theorem piece_fig {c : Nat} {u : List Nat} (hc : c ∈ figL) (hu : ∀ d ∈ u, d ∈ smallL ++ greatL ++ figL ++ [95]) (hl : u.length ≤ 89) : Piece (wordOf (c :: u)) (c :: u) false := by
  have h1 := (by decide : ∀ c ∈ figL, c ≠ 32 ∧ c ≠ 45 ∧ c ∈ smallL ++ greatL ++ figL ++ [95]) c hc
  have ha : ∀ d ∈ c :: u, d ∈ smallL ++ greatL ++ figL ++ [95] := fun d hd => (List.mem_cons.mp hd).elim (fun e => e ▸ h1.2.2) (hu d)
  refine ⟨List.cons_ne_nil _ _, by rw [List.length_cons]; omega, fun d hd => (by decide : ∀ c ∈ smallL ++ greatL ++ figL ++ [95], okc c = true) d (ha d hd), h1.1, fun r _ _ => dd_head h1.2.1, fun r _ hf => ?_⟩
  rw [List.cons_append, sgn_fig hc]
  refine runT_app ha ?_
  rcases hf with h | ⟨_, h | h⟩
  · exact .inl h
  · exact .inr (by rw [h]; decide)
  · unfold tightL at h
    rw [List.headD_cons, if_pos hc] at h
    exact .inr (by simpa using h)
theorem sign_known {d : Nat} (h0 : okc d = true) (hk : d ∉ wildL) : d ∈ knownL := by
  unfold okc at h0
  rw [Bool.and_eq_true] at h0
  have hs := h0.1
  have hp : d ≠ 37 := by simpa using h0.2
  unfold Tx.isSign at hs
  rw [Bool.and_eq_true] at hs
  have h1 : 32 ≤ d := of_decide_eq_true hs.1
  have h2 : d ≤ 126 := of_decide_eq_true hs.2
  have h3 := (by decide : ∀ i : Fin 95, i.val + 32 ≠ 37 → i.val + 32 ∉ wildL → i.val + 32 ∈ knownL) ⟨d - 32, by omega⟩
  have e : d - 32 + 32 = d := by omega
  rw [show (⟨d - 32, by omega⟩ : Fin 95).val + 32 = d from e] at h3
  exact h3 hp hk
theorem piece_mark1 {c : Nat} (hc : c ∈ marksL) : Piece [c] [c] false := by
  have h1 := (by decide : ∀ c ∈ marksL, c ≠ 32 ∧ c ≠ 34 ∧ okc c = true ∧ c ∉ figL ∧ c ∉ greatL ∧ c ∉ smallL ++ [95] ∧ c ∉ wildL) c hc
  have tk : ∀ r : List Nat, Foll [c] false r → ([c] ++ r).take 2 ∉ ([[45, 45], [45, 62], [61, 61]] : List (List Nat)) := fun r hf => by
    cases r with
    | nil =>
      show [c] ∉ _
      simp
    | cons d r =>
      show [c, d] ∉ _
      rcases hf with h | ⟨_, h | h⟩
      · exact nomatch h
      · have h : d = 32 := h
        subst h
        simp
      · unfold tightL at h
        rw [List.headD_cons, if_neg h1.2.2.2.1, if_neg h1.2.2.2.2.1, if_neg h1.2.2.2.2.2.1, if_neg h1.2.2.2.2.2.2, Bool.or_eq_true] at h
        rcases h with h | h
        · have h : [c] ∉ ([[45], [61]] : List (List Nat)) := by simpa using h
          intro z
          apply h
          simp at z ⊢
          omega
        · have h : [c] ++ [(d :: r).headD 0] ∉ ([[45, 45], [45, 62], [61, 61]] : List (List Nat)) := of_decide_eq_false (Bool.not_eq_true' _ ▸ h)
          exact h
  refine ⟨List.cons_ne_nil _ _, (show (1 : Nat) ≤ 90 by decide), fun d hd => List.mem_singleton.mp hd ▸ h1.2.2.1, h1.1, fun r _ hf z => tk r hf (by rw [z]; decide), fun r _ hf => ?_⟩
  have tl : ([c] ++ r).take 2 ∉ LONG_MARKS_l := fun z => tk r hf (List.mem_cons_of_mem _ z)
  unfold sgn
  rw [if_neg tl]
  show (if c = 34 then _ else if c ∈ marksL then ([c], 1) else _) = _
  rw [if_neg h1.2.1, if_pos hc]
  rfl
theorem piece_mark2 {s : List Nat} (hs : s ∈ LONG_MARKS_l) : Piece s s false := by
  have h1 := (by decide : ∀ s ∈ LONG_MARKS_l, s ≠ [] ∧ s.length = 2 ∧ (∀ c ∈ s, okc c = true) ∧ s.headD 0 ≠ 32 ∧ s ≠ [45, 45] ∧ s.headD 0 ≠ 34) s hs
  have tk : ∀ r, (s ++ r).take 2 = s := fun r => List.take_left' h1.2.1
  refine ⟨h1.1, by omega, h1.2.2.1, h1.2.2.2.1, fun r _ _ => by rw [tk]; exact h1.2.2.2.2.1, fun r _ _ => ?_⟩
  obtain ⟨c, u, rfl⟩ : ∃ c u, s = c :: u := by
    cases s with
    | nil => exact absurd rfl h1.1
    | cons c u => exact ⟨c, u, rfl⟩
  unfold sgn
  rw [tk, if_pos hs, List.cons_append, if_neg (show ¬ (c :: (u ++ r)).headD 0 = 34 from h1.2.2.2.2.2), h1.2.1]
theorem piece_text {u : List Nat} (hu : ∀ c ∈ u, okc c = true ∧ c ≠ 34) (hl : u.length ≤ 88) : Piece (if u.length ≤ 60 then [115, 116, 114, 105, 110, 103] else []) (34 :: u ++ [34]) false := by
  refine ⟨List.cons_ne_nil _ _, by simp; omega, fun d hd => ?_, (show (34 : Nat) ≠ 32 by decide), fun r _ _ => dd_head (by decide), fun r _ _ => ?_⟩
  · rcases List.mem_cons.mp hd with h | h
    · rw [h]; decide
    · rcases List.mem_append.mp (show d ∈ u ++ [34] from h) with h | h
      · exact (hu d h).1
      · have h := List.mem_singleton.mp h
        rw [h]; decide
  · have e : two [34] (u ++ [34] ++ r) = u.length := by
      rw [List.append_assoc]
      exact two_app (fun c hc z => (hu c hc).2 (List.mem_singleton.mp z)) (.inr List.mem_cons_self)
    have m : 34 ∈ u ++ [34] ++ r := by simp
    unfold sgn
    rw [show List.headD (34 :: u ++ [34] ++ r) 0 = 34 from rfl, show List.drop 1 (34 :: u ++ [34] ++ r) = u ++ [34] ++ r from rfl, if_pos rfl, if_pos m, e]
    simp
    omega
theorem piece_rest {u : List Nat} (hu : ∀ c ∈ u, okc c = true ∧ c ≠ 34) (hl : u.length ≤ 89) : Piece [] (34 :: u) true := by
  refine ⟨List.cons_ne_nil _ _, by simp; omega, fun d hd => ?_, (show (34 : Nat) ≠ 32 by decide), fun r _ _ => dd_head (by decide), fun r _ hf => ?_⟩
  · rcases List.mem_cons.mp hd with h | h
    · rw [h]; decide
    · exact (hu d h).1
  · rcases hf with rfl | ⟨h, _⟩
    · have m : ¬ 34 ∈ u := fun z => (hu 34 z).2 rfl
      rw [List.append_nil]
      unfold sgn
      rw [show (34 :: u).headD 0 = 34 from rfl, show (34 :: u).drop 1 = u from rfl, if_pos rfl, if_neg m]
    · exact nomatch h
theorem piece_wild {c : Nat} {u : List Nat} (hu : ∀ d ∈ c :: u, d ∈ wildL) (hl : u.length ≤ 89) : Piece [] (c :: u) false := by
  have hc := hu c List.mem_cons_self
  have h1 := (by decide : ∀ c ∈ wildL, c ≠ 32 ∧ c ≠ 45 ∧ c ∉ figL ∧ c ∉ greatL ∧ c ∉ smallL ++ [95]) c hc
  refine ⟨List.cons_ne_nil _ _, by rw [List.length_cons]; omega, fun d hd => (by decide : ∀ c ∈ wildL, okc c = true) d (hu d hd), h1.1, fun r _ _ => dd_head h1.2.1, fun r hr hf => ?_⟩
  rw [List.cons_append, sgn_wild hc, ← List.cons_append, two_app (fun d hd => (by decide : ∀ c ∈ wildL, c ∉ knownL) d (hu d hd))]
  rcases hf with h | ⟨_, h | h⟩
  · exact .inl h
  · exact .inr (by rw [h]; decide)
  · cases r with
    | nil => exact .inl rfl
    | cons d r =>
      unfold tightL at h
      rw [List.headD_cons, if_neg h1.2.2.1, if_neg h1.2.2.2.1, if_neg h1.2.2.2.2, if_pos hc] at h
      exact .inr (sign_known (hr d List.mem_cons_self) (by simpa using h))
/-! ### the words of strings -/
theorem words_head : ∀ s ∈ WORDS_l, s.headD 0 ∈ smallL ∧ s.length ≤ 5 ∧ 95 ∉ s ∧ s ≠ [] := by decide
theorem word_name {s : List Nat} (h : isName s = true) : wordOf s = [110, 97, 109, 101] := by
  have hw : s ∉ WORDS_l := by
    unfold isName at h
    rw [Bool.and_eq_true] at h
    simpa using h.2
  unfold wordOf
  rw [if_neg hw, if_pos h]
theorem word_great {s : List Nat} (h : isGreat s = true) : wordOf s = [103, 114, 101, 97, 116] := by
  have hh : s.headD 0 ∈ greatL := by
    unfold isGreat isWord at h
    simp only [Bool.and_eq_true] at h
    exact of_decide_eq_true h.1.2
  have h2 := (by decide : ∀ c ∈ greatL, c ∉ smallL ∧ c ∉ smallL ++ [95]) _ hh
  have hw : s ∉ WORDS_l := fun z => h2.1 (words_head s z).1
  have hn : ¬ isName s = true := fun z => by
    unfold isName isWord at z
    simp only [Bool.and_eq_true] at z
    exact h2.2 (of_decide_eq_true z.1.1.2)
  unfold wordOf
  rw [if_neg hw, if_neg hn, if_pos h]
theorem word_fig {s : List Nat} (hh : s.headD 0 ∈ figL) : wordOf s = if isFig s = true then [110, 117, 109, 98, 101, 114] else [] := by
  have h2 := (by decide : ∀ c ∈ figL, c ∉ smallL ∧ c ∉ smallL ++ [95] ∧ c ∉ greatL) _ hh
  have hw : s ∉ WORDS_l := fun z => h2.1 (words_head s z).1
  have hn : ¬ isName s = true := fun z => by
    unfold isName isWord at z
    simp only [Bool.and_eq_true] at z
    exact h2.2.1 (of_decide_eq_true z.1.1.2)
  have hg : ¬ isGreat s = true := fun z => by
    unfold isGreat isWord at z
    simp only [Bool.and_eq_true] at z
    exact h2.2.2 (of_decide_eq_true z.1.2)
  unfold wordOf
  rw [if_neg hw, if_neg hn, if_neg hg]
theorem word_long {s : List Nat} (hl : 13 ≤ s.length) (hh : s.headD 0 ∉ figL) : wordOf s = [] := by
  have hw : s ∉ WORDS_l := fun z => by have := (words_head s z).2.1; omega
  have hn : ¬ isName s = true := fun z => by
    unfold isName isWord at z
    simp only [Bool.and_eq_true] at z
    have := of_decide_eq_true z.1.1.1.2
    omega
  have hg : ¬ isGreat s = true := fun z => by
    unfold isGreat isWord at z
    simp only [Bool.and_eq_true] at z
    have := of_decide_eq_true z.1.1.2
    omega
  have hf : ¬ isFig s = true := fun z => by
    unfold isFig at z
    simp only [Bool.and_eq_true] at z
    cases s with
    | nil => exact absurd hl (by decide)
    | cons c r =>
      have := List.all_eq_true.mp z.1.2 c List.mem_cons_self
      exact hh (of_decide_eq_true this)
  unfold wordOf
  rw [if_neg hw, if_neg hn, if_neg hg, if_neg hf]
theorem word_word {s : List Nat} (h : s ∈ WORDS_l) : wordOf s = s := by
  unfold wordOf
  rw [if_pos h]
theorem fig_not {s : List Nat} (h : s.length ≥ 19 ∨ (∃ c ∈ s, c ∉ figL) ∨ (s.headD 0 = 48 ∧ s ≠ [48])) : ¬ isFig s = true := fun z => by
  unfold isFig at z
  simp only [Bool.and_eq_true] at z
  rcases h with h | ⟨c, h1, h2⟩ | ⟨h1, h2⟩
  · have := of_decide_eq_true z.1.1.2
    omega
  · exact h2 (of_decide_eq_true (List.all_eq_true.mp z.1.2 c h1))
  · have := z.2
    rw [h1, Bool.or_eq_true] at this
    rcases this with h | h
    · exact h2 (of_decide_eq_true h)
    · exact absurd h (by decide)
theorem fig_is {c : Nat} {u : List Nat} (hc : c ∈ [49, 50, 51, 52, 53, 54, 55, 56, 57]) (hu : ∀ d ∈ u, d ∈ figL) (hl : u.length ≤ 17) : isFig (c :: u) = true := by
  have h1 := (by decide : ∀ c ∈ [49, 50, 51, 52, 53, 54, 55, 56, 57], c ∈ figL ∧ c ≠ 48) c hc
  unfold isFig
  rw [decide_eq_true (p := 1 ≤ (c :: u).length) (by simp), decide_eq_true (p := (c :: u).length ≤ 18) (by simp; omega), List.all_eq_true.mpr (fun d hd => decide_eq_true ((List.mem_cons.mp hd).elim (fun e => e ▸ h1.1) (hu d))), List.headD_cons, decide_eq_false h1.2]
  simp
theorem name_is {c : Nat} {u : List Nat} (hc : c ∈ smallL ++ [95]) (hu : ∀ d ∈ u, d ∈ smallL ++ figL ++ [95]) (hl : u.length ≤ 11) (hw : c :: u ∉ WORDS_l) : isName (c :: u) = true := by
  have h1 := (by decide : ∀ c ∈ smallL ++ [95], c ∈ smallL ++ figL ++ [95]) c hc
  unfold isName isWord
  rw [decide_eq_true (p := 1 ≤ (c :: u).length) (by simp), decide_eq_true (p := (c :: u).length ≤ 12) (by simp; omega), List.all_eq_true.mpr (fun d hd => decide_eq_true ((List.mem_cons.mp hd).elim (fun e => e ▸ h1) (hu d))), List.headD_cons, decide_eq_true hc, decide_eq_false hw]
  rfl
theorem great_is {c : Nat} {u : List Nat} (hc : c ∈ greatL) (hu : ∀ d ∈ u, d ∈ smallL ++ greatL ++ figL) (hl : u.length ≤ 11) : isGreat (c :: u) = true := by
  have h1 := (by decide : ∀ c ∈ greatL, c ∈ smallL ++ greatL ++ figL) c hc
  unfold isGreat isWord
  rw [decide_eq_true (p := 1 ≤ (c :: u).length) (by simp), decide_eq_true (p := (c :: u).length ≤ 12) (by simp; omega), List.all_eq_true.mpr (fun d hd => decide_eq_true ((List.mem_cons.mp hd).elim (fun e => e ▸ h1) (hu d))), List.headD_cons, decide_eq_true hc]
  rfl
/-! ### lines -/
/-- a gap and a piece: its word, how it is written, whether nothing may follow -/
structure It where
  g : Nat
  w : List Nat
  s : List Nat
  b : Bool
def lineOf : List It → List Nat
  | [] => []
  | x :: r => List.replicate x.g 32 ++ (x.s ++ lineOf r)
/-- the items of a line, and what stands behind them -/
def Chain : List It → List Nat → Prop
  | [], t => ∀ n a, sc n t a = []
  | x :: r, t => Piece x.w x.s x.b ∧ Foll x.s x.b (lineOf r ++ t) ∧ Chain r t
def spansOf : List It → Nat → List (List Nat × Nat × Nat)
  | [], _ => []
  | x :: r, a => (x.w, a + x.g, a + x.g + x.s.length) :: spansOf r (a + x.g + x.s.length)
theorem lineOf_len {x : It} {r : List It} : (lineOf (x :: r)).length = x.g + x.s.length + (lineOf r).length := by
  show (List.replicate x.g 32 ++ (x.s ++ lineOf r)).length = _
  rw [List.length_append, List.length_append, List.length_replicate, Nat.add_assoc]
theorem lineOf_snoc {y : It} : ∀ {l : List It}, lineOf (l ++ [y]) = lineOf l ++ (List.replicate y.g 32 ++ y.s)
  | [] => by show List.replicate y.g 32 ++ (y.s ++ []) = _; rw [List.append_nil]; rfl
  | x :: r => by
    show List.replicate x.g 32 ++ (x.s ++ lineOf (r ++ [y])) = List.replicate x.g 32 ++ (x.s ++ lineOf r) ++ _
    rw [lineOf_snoc, List.append_assoc, List.append_assoc]
theorem sc_gap {n a : Nat} {t : List Nat} : ∀ {g : Nat}, g < n → sc n (List.replicate g 32 ++ t) a = sc (n - g) t (a + g)
  | 0, _ => rfl
  | g + 1, h => by
    obtain ⟨m, rfl⟩ : ∃ m, n = m + 1 := ⟨n - 1, by omega⟩
    rw [List.replicate_succ, List.cons_append]
    show (if 32 :: (List.replicate g 32 ++ t) ≠ [] ∧ (32 :: (List.replicate g 32 ++ t)).take 2 ≠ [45, 45] then (if (32 : Nat) = 32 then sc m (List.replicate g 32 ++ t) (a + 1) else _) else []) = _
    rw [if_pos (show 32 :: (List.replicate g 32 ++ t) ≠ [] ∧ (32 :: (List.replicate g 32 ++ t)).take 2 ≠ [45, 45] from ⟨List.cons_ne_nil _ _, fun z => by injection z with z _; exact absurd z (by decide)⟩), if_pos rfl, sc_gap (a := a + 1) (by omega), show m + 1 - (g + 1) = m - g by omega, show a + 1 + g = a + (g + 1) by omega]
def Okc (t : List Nat) : Prop := ∀ c ∈ t, okc c = true
theorem Chain.okc : ∀ {l : List It} {t : List Nat}, Chain l t → Okc (lineOf l)
  | [], _, _ => fun c hc => nomatch hc
  | x :: r, t, h => fun c hc => by
    have hc : c ∈ List.replicate x.g 32 ++ (x.s ++ lineOf r) := hc
    rcases List.mem_append.mp hc with hc | hc
    · rw [(List.mem_replicate.mp hc).2]; decide
    · rcases List.mem_append.mp hc with hc | hc
      · exact h.1.pr c hc
      · exact Chain.okc h.2.2 c hc
theorem sc_items {t : List Nat} (ht : Okc t) : ∀ {l : List It} {n a : Nat}, Chain l t → (lineOf l ++ t).length < n → sc n (lineOf l ++ t) a = spansOf l a
  | [], n, a, h, hn => h n a
  | x :: r, n, a, ⟨hp, hf, hr⟩, hn => by
    rw [List.length_append, lineOf_len] at hn
    show sc n (List.replicate x.g 32 ++ (x.s ++ lineOf r) ++ t) a = _
    rw [List.append_assoc, sc_gap (by omega)]
    obtain ⟨m, hm⟩ : ∃ m, n - x.g = m + 1 := ⟨n - x.g - 1, by omega⟩
    have hok : ∀ c ∈ lineOf r ++ t, okc c = true := fun c hc => (List.mem_append.mp hc).elim (hr.okc c) (ht c)
    have e1 := hp.sg _ hok hf
    have e2 := hp.dd _ hok hf
    obtain ⟨c, u, hcu⟩ : ∃ c u, x.s = c :: u := by
      cases h : x.s with
      | nil => exact absurd h hp.ne
      | cons c u => exact ⟨c, u, rfl⟩
    have h32 : c ≠ 32 := fun z => hp.h32 (by rw [hcu, z]; rfl)
    have hlen : x.s.length = u.length + 1 := by rw [hcu]; rfl
    rw [hm, List.append_assoc]
    show (if x.s ++ (lineOf r ++ t) ≠ [] ∧ (x.s ++ (lineOf r ++ t)).take 2 ≠ [45, 45] then (if (x.s ++ (lineOf r ++ t)).headD 0 = 32 then _ else ((sgn (x.s ++ (lineOf r ++ t))).1, a + x.g, a + x.g + (sgn (x.s ++ (lineOf r ++ t))).2) :: sc m ((x.s ++ (lineOf r ++ t)).drop (sgn (x.s ++ (lineOf r ++ t))).2) (a + x.g + (sgn (x.s ++ (lineOf r ++ t))).2)) else []) = _
    rw [if_pos (show x.s ++ (lineOf r ++ t) ≠ [] ∧ (x.s ++ (lineOf r ++ t)).take 2 ≠ [45, 45] from ⟨by rw [hcu]; exact List.cons_ne_nil _ _, e2⟩), if_neg (by rw [hcu]; exact h32), e1]
    show (x.w, a + x.g, a + x.g + x.s.length) :: sc m ((x.s ++ (lineOf r ++ t)).drop x.s.length) (a + x.g + x.s.length) = _
    rw [List.drop_left' rfl, sc_items ht hr (by rw [List.length_append]; omega)]
    rfl
theorem line_head {l : List It} (h : l ≠ []) (hp : ∀ x ∈ l, x.s ≠ []) (t : List Nat) : (lineOf l ++ t).headD 0 = (lineOf l).headD 0 ∧ lineOf l ≠ [] := by
  cases l with
  | nil => exact absurd rfl h
  | cons x r =>
    obtain ⟨c, u, hcu⟩ : ∃ c u, x.s = c :: u := by
      cases h : x.s with
      | nil => exact absurd h (hp x List.mem_cons_self)
      | cons c u => exact ⟨c, u, rfl⟩
    have e : lineOf (x :: r) = List.replicate x.g 32 ++ (x.s ++ lineOf r) := rfl
    rw [e, hcu]
    cases x.g with
    | zero => exact ⟨rfl, List.cons_ne_nil _ _⟩
    | succ g => exact ⟨rfl, List.cons_ne_nil _ _⟩
theorem foll_head {s r r' : List Nat} {b : Bool} (h : Foll s b r) (hn : r ≠ []) (e : r'.headD 0 = r.headD 0) : Foll s b r' := by
  rcases h with h | ⟨h1, h2⟩
  · exact absurd h hn
  · refine .inr ⟨h1, ?_⟩
    rcases h2 with h2 | h2
    · exact .inl (e.trans h2)
    · refine .inr ?_
      unfold tightL at h2 ⊢
      rw [e]
      exact h2
theorem Chain.ne : ∀ {l : List It} {t : List Nat}, Chain l t → ∀ x ∈ l, Piece x.w x.s x.b
  | [], _, _, x, hx => nomatch hx
  | y :: r, t, h, x, hx => (List.mem_cons.mp hx).elim (fun e => e ▸ h.1) (Chain.ne h.2.2 x)
/-- a chain goes on -/
theorem Chain.ext {t : List Nat} (ht : ∀ n a, sc n t a = []) : ∀ {l : List It}, Chain l [] → (∀ x, l.getLast? = some x → Foll x.s x.b t) → Chain l t
  | [], _, _ => ht
  | [x], ⟨hp, _, _⟩, hf => ⟨hp, hf x rfl, ht⟩
  | x :: y :: r, ⟨hp, hf, hr⟩, hl => by
    have hr' : Chain (y :: r) t := Chain.ext ht hr fun z hz => hl z (by rw [List.getLast?_cons_cons]; exact hz)
    have hh := line_head (l := y :: r) (List.cons_ne_nil _ _) (fun z hz => (hr.ne z hz).ne) t
    refine ⟨hp, foll_head hf ?_ ?_, hr'⟩
    · rw [List.append_nil]; exact hh.2
    · rw [hh.1, List.append_nil]
theorem Chain.snoc {y : It} (hy : Piece y.w y.s y.b) : ∀ {l : List It}, Chain l [] → (∀ x, l.getLast? = some x → Foll x.s x.b (List.replicate y.g 32 ++ y.s)) → Chain (l ++ [y]) []
  | [], _, _ => ⟨hy, .inl rfl, sc_nil⟩
  | [x], ⟨hp, _, _⟩, hf => ⟨hp, by
      show Foll x.s x.b (List.replicate y.g 32 ++ (y.s ++ []) ++ [])
      rw [List.append_nil, List.append_nil]
      exact hf x rfl, hy, .inl rfl, sc_nil⟩
  | x :: y' :: r, ⟨hp, hf, hr⟩, hl => by
    have hr' : Chain (y' :: r ++ [y]) [] := Chain.snoc hy hr fun z hz => hl z (by rw [List.getLast?_cons_cons]; exact hz)
    have hh := line_head (l := y' :: r) (List.cons_ne_nil _ _) (fun z hz => (hr.ne z hz).ne) (List.replicate y.g 32 ++ y.s)
    refine ⟨hp, foll_head hf ?_ ?_, hr'⟩
    · rw [List.append_nil]; exact hh.2
    · rw [List.append_nil, List.append_nil, ← hh.1, ← lineOf_snoc]
      rfl
/-! ### the signs and faults of a line -/
def sgs (n : Nat) : Nat → List It → List (List Nat × List Nat × Nat × Nat)
  | _, [] => []
  | a, x :: r => (if x.w = [] then [] else [(x.w, x.s, n, a + x.g + 1)]) ++ sgs n (a + x.g + x.s.length) r
def fts (n : Nat) : Nat → List It → List (Nat × Nat)
  | _, [] => []
  | a, x :: r => (if x.w = [] then [(n, a + x.g + 1)] else []) ++ fts n (a + x.g + x.s.length) r
theorem sgs_snoc {n : Nat} {y : It} : ∀ {l : List It} {a : Nat}, sgs n a (l ++ [y]) = sgs n a l ++ (if y.w = [] then [] else [(y.w, y.s, n, a + (lineOf l).length + y.g + 1)])
  | [], a => by show _ ++ [] = _; rw [List.append_nil]; rfl
  | x :: r, a => by
    show _ ++ sgs n _ (r ++ [y]) = (_ ++ sgs n _ r) ++ _
    rw [sgs_snoc, List.append_assoc, lineOf_len, show a + x.g + x.s.length + (lineOf r).length = a + (x.g + x.s.length + (lineOf r).length) by omega]
theorem fts_snoc {n : Nat} {y : It} : ∀ {l : List It} {a : Nat}, fts n a (l ++ [y]) = fts n a l ++ (if y.w = [] then [(n, a + (lineOf l).length + y.g + 1)] else [])
  | [], a => by show _ ++ [] = _; rw [List.append_nil]; rfl
  | x :: r, a => by
    show _ ++ fts n _ (r ++ [y]) = (_ ++ fts n _ r) ++ _
    rw [fts_snoc, List.append_assoc, lineOf_len, show a + x.g + x.s.length + (lineOf r).length = a + (x.g + x.s.length + (lineOf r).length) by omega]
theorem line_sgs {n : Nat} {t : List Nat} : ∀ {l : List It} {pre : List Nat}, lineSigns n (pre ++ (lineOf l ++ t)) (spansOf l pre.length) = sgs n pre.length l
  | [], pre => rfl
  | x :: r, pre => by
    have e : pre ++ (lineOf (x :: r) ++ t) = (pre ++ List.replicate x.g 32 ++ x.s) ++ (lineOf r ++ t) := by
      show pre ++ (List.replicate x.g 32 ++ (x.s ++ lineOf r) ++ t) = _
      simp [List.append_assoc]
    have el : (pre ++ List.replicate x.g 32 ++ x.s).length = pre.length + x.g + x.s.length := by simp; omega
    have ih := line_sgs (n := n) (t := t) (l := r) (pre := pre ++ List.replicate x.g 32 ++ x.s)
    rw [el] at ih
    have ec : Tx.cut (pre ++ (lineOf (x :: r) ++ t)) (pre.length + x.g) (pre.length + x.g + x.s.length) = x.s := by
      unfold Tx.cut
      rw [e, List.append_assoc, List.drop_left' (by simp), show pre.length + x.g + x.s.length - (pre.length + x.g) = x.s.length by omega, List.take_left' rfl]
    have es : spansOf (x :: r) pre.length = (x.w, pre.length + x.g, pre.length + x.g + x.s.length) :: spansOf r (pre.length + x.g + x.s.length) := rfl
    have eg : sgs n pre.length (x :: r) = (if x.w = [] then [] else [(x.w, x.s, n, pre.length + x.g + 1)]) ++ sgs n (pre.length + x.g + x.s.length) r := rfl
    rw [es, eg, ← ih, ← e]
    unfold lineSigns
    rw [List.filterMap_cons]
    simp only [ec]
    by_cases h : x.w = []
    · simp [h]
    · simp [h]
theorem line_fts {n : Nat} : ∀ {l : List It} {a : Nat}, lineFaults n (spansOf l a) = fts n a l
  | [], a => rfl
  | x :: r, a => by
    have ih := line_fts (n := n) (l := r) (a := a + x.g + x.s.length)
    have es : spansOf (x :: r) a = (x.w, a + x.g, a + x.g + x.s.length) :: spansOf r (a + x.g + x.s.length) := rfl
    have eg : fts n a (x :: r) = (if x.w = [] then [(n, a + x.g + 1)] else []) ++ fts n (a + x.g + x.s.length) r := rfl
    rw [es, eg, ← ih]
    unfold lineFaults
    rw [List.filterMap_cons]
    by_cases h : x.w = []
    · simp [h]
    · simp [h]
/-- a line's signs and faults -/
theorem line_all {n : Nat} {l : List It} {t : List Nat} (h : Chain l t) (ht : Okc t) : lineSigns n (lineOf l ++ t) (scan ((lineOf l ++ t).length + 1) (lineOf l ++ t) 0) = sgs n 0 l ∧ lineFaults n (scan ((lineOf l ++ t).length + 1) (lineOf l ++ t) 0) = fts n 0 l := by
  rw [scan_sc, List.drop_zero, sc_items ht h (Nat.lt_succ_self _)]
  exact ⟨line_sgs (pre := []), line_fts⟩
theorem signsF_app {b : List (List Nat)} : ∀ {a : List (List Nat)} {n : Nat}, signsF n (a ++ b) = signsF n a ++ signsF (n + a.length) b ∧ faultsF n (a ++ b) = faultsF n a ++ faultsF (n + a.length) b
  | [], n => ⟨rfl, rfl⟩
  | x :: r, n => by
    have ih := signsF_app (b := b) (a := r) (n := n + 1)
    constructor
    · show _ ++ signsF (n + 1) (r ++ b) = (_ ++ signsF (n + 1) r) ++ _
      rw [ih.1, List.append_assoc, List.length_cons, show n + 1 + r.length = n + (r.length + 1) by omega]
    · show _ ++ faultsF (n + 1) (r ++ b) = (_ ++ faultsF (n + 1) r) ++ _
      rw [ih.2, List.append_assoc, List.length_cons, show n + 1 + r.length = n + (r.length + 1) by omega]
theorem lineSigns_shift {n k : Nat} {l : List Nat} {xs : List (List Nat × Nat × Nat)} : lineSigns (n + k) l xs = (lineSigns n l xs).map (fun x => (x.1, x.2.1, x.2.2.1 + k, x.2.2.2)) ∧ lineFaults (n + k) xs = (lineFaults n xs).map (fun x => (x.1 + k, x.2)) := by
  unfold lineSigns lineFaults
  rw [List.map_filterMap, List.map_filterMap]
  constructor
  · congr 1
    funext x
    split <;> rfl
  · congr 1
    funext x
    split <;> rfl
theorem signsF_shift {k : Nat} : ∀ {a : List (List Nat)} {n : Nat}, signsF (n + k) a = (signsF n a).map (fun x => (x.1, x.2.1, x.2.2.1 + k, x.2.2.2)) ∧ faultsF (n + k) a = (faultsF n a).map (fun x => (x.1 + k, x.2))
  | [], n => ⟨rfl, rfl⟩
  | x :: r, n => by
    have ih := signsF_shift (k := k) (a := r) (n := n + 1)
    rw [show n + 1 + k = n + k + 1 by omega] at ih
    constructor
    · show _ ++ signsF (n + k + 1) r = (_ ++ signsF (n + 1) r).map _
      rw [ih.1, List.map_append, (lineSigns_shift (k := k)).1]
    · show _ ++ faultsF (n + k + 1) r = (_ ++ faultsF (n + 1) r).map _
      rw [ih.2, List.map_append, (lineSigns_shift (k := k) (l := [])).2]
theorem signsF_blank : ∀ {m n : Nat}, signsF n (List.replicate m []) = [] ∧ faultsF n (List.replicate m []) = []
  | 0, n => ⟨rfl, rfl⟩
  | m + 1, n => by
    rw [List.replicate_succ]
    exact ⟨(signsF_blank (m := m) (n := n + 1)).1, (signsF_blank (m := m) (n := n + 1)).2⟩
end

section
variable {P : Program} {w : World} {K : PySem.W.Frag} {mg : Str → Option Value} {base : Heap}
theorem ok_same_p (T : Top K mg) : FnOk P w K mg base CX0 1 T.a_law_same T.d_law_same ["one", "other"] (SpD K (F_same 0)) := by
  have IH : FnOk P w K mg base CX0 0 T.a_law_same T.d_law_same ["one", "other"] (SpD K fun _ _ _ => False) := FnOk.never
  refine fn_ok T.law_same.fn sc_law_same (fun ds G R h => ?_) fun cdv A outer s H E hr => ⟨_, (pss_cons (ps_if (pt_cmpR op_isN (pv 1) pe_non (nomark _))
   (pss_one (ps_ret (pe_cmpR op_isN (pv 0) pe_non (nomark _))))
   pss_nil)
  (pss_cons (ps_if (pt_val (pe_callB call_isi (by rfl) T.isinstance (by decide +kernel) (pa_cons (pv 1) (pa_cons (pe_bltn (v := .ty "bool") (by rfl) T.bool (by decide +kernel) rfl) pa_nil))))
   (pss_one (ps_ret (pe_and (pe_callB call_isi (by rfl) T.isinstance (by decide +kernel) (pa_cons (pv 0) (pa_cons (pe_bltn (v := .ty "bool") (by rfl) T.bool (by decide +kernel) rfl) pa_nil))) (pe_one (pe_cmpR op_eq (pv 0) (pv 1) (nomark _))))))
   pss_nil)
  (pss_cons (ps_if (pt_val (pe_callB call_isi (by rfl) T.isinstance (by decide +kernel) (pa_cons (pv 1) (pa_cons (pe_bltn (v := .ty "int") (by rfl) T.int (by decide +kernel) rfl) pa_nil))))
   (pss_one (ps_ret (pe_and (pe_callB call_isi (by rfl) T.isinstance (by decide +kernel) (pa_cons (pv 0) (pa_cons (pe_bltn (v := .ty "int") (by rfl) T.int (by decide +kernel) rfl) pa_nil))) (pe_and (pe_not (pe_callB call_isi (by rfl) T.isinstance (by decide +kernel) (pa_cons (pv 0) (pa_cons (pe_bltn (v := .ty "bool") (by rfl) T.bool (by decide +kernel) rfl) pa_nil)))) (pe_one (pe_cmpR op_eq (pv 0) (pv 1) (nomark _)))))))
   pss_nil)
  (pss_cons (ps_if (pt_val (pe_callB call_isi (by rfl) T.isinstance (by decide +kernel) (pa_cons (pv 1) (pa_cons (pe_bltn (v := .ty "str") (by rfl) T.str (by decide +kernel) rfl) pa_nil))))
   (pss_one (ps_ret (pe_and (pe_callB call_isi (by rfl) T.isinstance (by decide +kernel) (pa_cons (pv 0) (pa_cons (pe_bltn (v := .ty "str") (by rfl) T.str (by decide +kernel) rfl) pa_nil))) (pe_one (pe_cmpR op_eq (pv 0) (pv 1) (nomark _))))))
   pss_nil)
  (pss_cons (ps_if (PW.pt (pw_or (pt_cmpR op_ne (pe_callB call_isi (by rfl) T.isinstance (by decide +kernel) (pa_cons (pv 0) (pa_cons (pe_bltn (v := .ty "list") (by rfl) T.list (by decide +kernel) rfl) pa_nil))) (pe_callB call_isi (by rfl) T.isinstance (by decide +kernel) (pa_cons (pv 1) (pa_cons (pe_bltn (v := .ty "list") (by rfl) T.list (by decide +kernel) rfl) pa_nil))) (nomark _)) (pw_or (pt_not (pt_val (pe_callB call_isiT (by rfl) T.isinstance (by decide +kernel) (pa_cons (pv 0) (pa_cons (pe_tup (pa_cons (pe_bltn (v := .ty "list") (by rfl) T.list (by decide +kernel) rfl) (pa_cons (pe_bltn (v := .ty "tuple") (by rfl) T.tuple (by decide +kernel) rfl) pa_nil))) pa_nil))))) (pw_or1 (pt_cmpR op_ne (pe_callB (show CallR _ (Value.builtin "len") (fun xs H Q => ∃ p ys, xs = [L2.V.ref p] ∧ (SqL K H p ys ∨ SqT K H p ys) ∧ Q (L2.V.int ys.length) H) from call_len_seq) (by rfl) T.len (by decide +kernel) (pa_cons (pv 0) pa_nil)) (pe_callB (show CallR _ (Value.builtin "len") (fun xs H Q => ∃ p ys, xs = [L2.V.ref p] ∧ (SqL K H p ys ∨ SqT K H p ys) ∧ Q (L2.V.int ys.length) H) from call_len_seq) (by rfl) T.len (by decide +kernel) (pa_cons (pv 1) pa_nil)) (nomark _))))))
   (pss_one (ps_ret pe_bl))
   pss_nil)
  (pss_one (ps_ret (pe_callB (cr_all rfl) (by rfl) T.all (by decide +kernel) (pa_cons (pe_lc (own := [("k", 2)]) rfl sc_law_same.nd (pi_range1 rfl T.range (pa_cons (pe_callB (show CallR _ (Value.builtin "len") (fun xs H Q => ∃ p ys, xs = [L2.V.ref p] ∧ (SqL K H p ys ∨ SqT K H p ys) ∧ Q (L2.V.int ys.length) H) from call_len_seq) (by rfl) T.len (by decide +kernel) (pa_cons (pv 1) pa_nil)) pa_nil)) (blkOk_by (N := ["one", "other", "k"]) (sc := defScope s_law_same) (by decide +kernel)) (fun _ _ _ _ _ => (pg_name (i := 2) sc_law_same.nd rfl (Or.inl rfl))) (fun _ _ _ _ _ => pts_nil) (fun _ _ _ _ _ => (pe_call IH (hr.mono (by first | decide | omega)) (by rfl) T.law_same.mg T.law_same.fn.kp T.law_same.bd .nil pass0 (pa_cons (pe_ix (show IxR _ (rIxL K) from ix_list) (pv 0) (pv 2) (fun _ _ => rfl)) (pa_cons (pe_ix (show IxR _ (rIxL K) from ix_list) (pv 1) (pv 2) (fun _ _ => rfl)) pa_nil))))) pa_nil))))))))), fun ds G R hF => ?_⟩
  · obtain ⟨x, y, rfl, _⟩ := h
    rfl
  · obtain ⟨x, y, rfl, hx, q⟩ := hF
    walk_at "go"
    change WS K _ [some _, some _, none] _ _
    cases hx with
    | non =>
      walk_at "ww"
      exact .inl q
    | bl b =>
      walk_at "ww"
      rw [decide_eq_true rfl]
      exact .inl q
    | int i =>
      walk_at "ww"
      rw [decide_eq_true rfl]
      exact .inl q
    | str x =>
      walk_at "ww"
      rw [decide_eq_true rfl]
      exact .inl q
theorem ok_same_t (T : Top K mg) {n k : Nat} (IH : FnOk P w K mg base CX0 k T.a_law_same T.d_law_same ["one", "other"] (SpD K (F_same n))) : FnOk P w K mg base CX0 (k + 1) T.a_law_same T.d_law_same ["one", "other"] (SpD K fun ds G R => ∃ xs ys, ds = [.tup xs, .tup ys] ∧ Eqv G (n + 1) (.tup xs) (.tup ys) ∧ R (.bl true) G) := by
  refine fn_ok T.law_same.fn sc_law_same (fun ds G R h => ?_) fun cdv A outer s H E hr => ⟨_, (pss_cons (ps_if (pt_cmpR op_isN (pv 1) pe_non (nomark _))
   (pss_one (ps_ret (pe_cmpR op_isN (pv 0) pe_non (nomark _))))
   pss_nil)
  (pss_cons (ps_if (pt_val (pe_callB call_isi (by rfl) T.isinstance (by decide +kernel) (pa_cons (pv 1) (pa_cons (pe_bltn (v := .ty "bool") (by rfl) T.bool (by decide +kernel) rfl) pa_nil))))
   (pss_one (ps_ret (pe_and (pe_callB call_isi (by rfl) T.isinstance (by decide +kernel) (pa_cons (pv 0) (pa_cons (pe_bltn (v := .ty "bool") (by rfl) T.bool (by decide +kernel) rfl) pa_nil))) (pe_one (pe_cmpR (op_eqD hr.units) (pv 0) (pv 1) (nomark _))))))
   pss_nil)
  (pss_cons (ps_if (pt_val (pe_callB call_isi (by rfl) T.isinstance (by decide +kernel) (pa_cons (pv 1) (pa_cons (pe_bltn (v := .ty "int") (by rfl) T.int (by decide +kernel) rfl) pa_nil))))
   (pss_one (ps_ret (pe_and (pe_callB call_isi (by rfl) T.isinstance (by decide +kernel) (pa_cons (pv 0) (pa_cons (pe_bltn (v := .ty "int") (by rfl) T.int (by decide +kernel) rfl) pa_nil))) (pe_and (pe_not (pe_callB call_isi (by rfl) T.isinstance (by decide +kernel) (pa_cons (pv 0) (pa_cons (pe_bltn (v := .ty "bool") (by rfl) T.bool (by decide +kernel) rfl) pa_nil)))) (pe_one (pe_cmpR (op_eqD hr.units) (pv 0) (pv 1) (nomark _)))))))
   pss_nil)
  (pss_cons (ps_if (pt_val (pe_callB call_isi (by rfl) T.isinstance (by decide +kernel) (pa_cons (pv 1) (pa_cons (pe_bltn (v := .ty "str") (by rfl) T.str (by decide +kernel) rfl) pa_nil))))
   (pss_one (ps_ret (pe_and (pe_callB call_isi (by rfl) T.isinstance (by decide +kernel) (pa_cons (pv 0) (pa_cons (pe_bltn (v := .ty "str") (by rfl) T.str (by decide +kernel) rfl) pa_nil))) (pe_one (pe_cmpR (op_eqD hr.units) (pv 0) (pv 1) (nomark _))))))
   pss_nil)
  (pss_cons (ps_if (PW.pt (pw_or (pt_cmpR op_ne (pe_callB call_isi (by rfl) T.isinstance (by decide +kernel) (pa_cons (pv 0) (pa_cons (pe_bltn (v := .ty "list") (by rfl) T.list (by decide +kernel) rfl) pa_nil))) (pe_callB call_isi (by rfl) T.isinstance (by decide +kernel) (pa_cons (pv 1) (pa_cons (pe_bltn (v := .ty "list") (by rfl) T.list (by decide +kernel) rfl) pa_nil))) (nomark _)) (pw_or (pt_not (pt_val (pe_callB call_isiT (by rfl) T.isinstance (by decide +kernel) (pa_cons (pv 0) (pa_cons (pe_tup (pa_cons (pe_bltn (v := .ty "list") (by rfl) T.list (by decide +kernel) rfl) (pa_cons (pe_bltn (v := .ty "tuple") (by rfl) T.tuple (by decide +kernel) rfl) pa_nil))) pa_nil))))) (pw_or1 (pt_cmpR op_ne (pe_callB (show CallR _ (Value.builtin "len") (fun xs H Q => ∃ p ys, xs = [L2.V.ref p] ∧ (SqL K H p ys ∨ SqT K H p ys) ∧ Q (L2.V.int ys.length) H) from call_len_seq) (by rfl) T.len (by decide +kernel) (pa_cons (pv 0) pa_nil)) (pe_callB (show CallR _ (Value.builtin "len") (fun xs H Q => ∃ p ys, xs = [L2.V.ref p] ∧ (SqL K H p ys ∨ SqT K H p ys) ∧ Q (L2.V.int ys.length) H) from call_len_seq) (by rfl) T.len (by decide +kernel) (pa_cons (pv 1) pa_nil)) (nomark _))))))
   (pss_one (ps_ret pe_bl))
   pss_nil)
  (pss_one (ps_ret (pe_callB (cr_all rfl) (by rfl) T.all (by decide +kernel) (pa_cons (pe_lc (own := [("k", 2)]) rfl sc_law_same.nd (pi_range1 rfl T.range (pa_cons (pe_callB (show CallR _ (Value.builtin "len") (fun xs H Q => ∃ p ys, xs = [L2.V.ref p] ∧ (SqL K H p ys ∨ SqT K H p ys) ∧ Q (L2.V.int ys.length) H) from call_len_seq) (by rfl) T.len (by decide +kernel) (pa_cons (pv 1) pa_nil)) pa_nil)) (blkOk_by (N := ["one", "other", "k"]) (sc := defScope s_law_same) (by decide +kernel)) (fun _ _ _ _ _ => (pg_name (i := 2) sc_law_same.nd rfl (Or.inl rfl))) (fun _ _ _ _ _ => pts_nil) (fun _ _ _ _ _ => (pe_call IH (hr.mono (by first | decide | omega)) (by rfl) T.law_same.mg T.law_same.fn.kp T.law_same.bd .nil pass0 (pa_cons (pe_ix (show IxR _ (rIxT K) from ix_tup) (pv 0) (pv 2) (fun _ _ => rfl)) (pa_cons (pe_ix (show IxR _ (rIxT K) from ix_tup) (pv 1) (pv 2) (fun _ _ => rfl)) pa_nil))))) pa_nil))))))))), fun ds G R hF => ?_⟩
  · obtain ⟨xs, ys, rfl, _⟩ := h
    rfl
  · obtain ⟨xs, ys, rfl, hE, q⟩ := hF
    obtain ⟨hl, hn, he⟩ : xs.length = ys.length ∧ ys.length ≤ 90000 ∧ ∀ (i : Nat) a b, xs[i]? = some a → ys[i]? = some b → Eqv G n a b := by
      cases hE with
      | lst h1 => rcases h1 with h1 | ⟨_, h1, _⟩ <;> exact nomatch h1
      | tup a b c => exact ⟨a, b, c⟩
    walk_at "go"
    change WS K _ [some _, some _, none] _ _
    walk_at "ww"
    refine ⟨rfl, by decide, (show isK G (D.tup xs) "tuple" from rfl), (show kitBs "tuple" ["list", "tuple"] = some true by decide), ?_⟩
    walk_at "ww"
    rw [hl]
    walk_at "ww"
    refine we_lcmap (own_name (by decide)) (wi_rng1 (by
      walk_at "ww"
      refine ⟨_, rfl, by omega, by omega, List.range ys.length, fun i : Nat => D.int ((0 : Int) + i), fun _ => D.bl true, ?_, trivial, by rw [List.length_range]; omega, fun i hi => ?_, ?_⟩
      · rw [Int.toNat_natCast]
        rfl
      · have hil : i < ys.length := List.mem_range.mp hi
        have hil2 : i < xs.length := by omega
        walk_at "ww"
        refine rd_ixT (atZ (by omega) (by rw [show ((0 : Int) + (i : Nat)).toNat = i by omega]; exact List.getElem?_eq_getElem hil2)) ?_
        walk_at "ww"
        refine rd_ixT (atZ (by omega) (by rw [show ((0 : Int) + (i : Nat)).toNat = i by omega]; exact List.getElem?_eq_getElem hil)) ?_
        walk_at "ww"
        exact ⟨_, _, rfl, he i _ _ (List.getElem?_eq_getElem hil2) (List.getElem?_eq_getElem hil), rfl, rfl⟩
      · walk_at "cold"
        refine rc_all (ns := (List.range ys.length).map fun _ => true) (by rw [List.map_map]; exact isR) ?_
        have e : (((List.range ys.length).map fun _ => true).all id) = true := by simp
        rw [e]
        exact .inl q))
theorem ok_same_l (T : Top K mg) {n k : Nat} (IH : FnOk P w K mg base CX0 k T.a_law_same T.d_law_same ["one", "other"] (SpD K (F_same n))) : FnOk P w K mg base CX0 (k + 1) T.a_law_same T.d_law_same ["one", "other"] (SpD K fun ds G R => ∃ x y xs ys, ds = [x, y] ∧ IsL G x xs ∧ IsL G y ys ∧ xs.length = ys.length ∧ ys.length ≤ 90000 ∧ (∀ (i : Nat) a b, xs[i]? = some a → ys[i]? = some b → Eqv G n a b) ∧ R (.bl true) G) := by
  refine fn_ok T.law_same.fn sc_law_same (fun ds G R h => ?_) fun cdv A outer s H E hr => ⟨_, (pss_cons (ps_if (pt_cmpR op_isN (pv 1) pe_non (nomark _))
   (pss_one (ps_ret (pe_cmpR op_isN (pv 0) pe_non (nomark _))))
   pss_nil)
  (pss_cons (ps_if (pt_val (pe_callB call_isi (by rfl) T.isinstance (by decide +kernel) (pa_cons (pv 1) (pa_cons (pe_bltn (v := .ty "bool") (by rfl) T.bool (by decide +kernel) rfl) pa_nil))))
   (pss_one (ps_ret (pe_and (pe_callB call_isi (by rfl) T.isinstance (by decide +kernel) (pa_cons (pv 0) (pa_cons (pe_bltn (v := .ty "bool") (by rfl) T.bool (by decide +kernel) rfl) pa_nil))) (pe_one (pe_cmpR (op_eqD hr.units) (pv 0) (pv 1) (nomark _))))))
   pss_nil)
  (pss_cons (ps_if (pt_val (pe_callB call_isi (by rfl) T.isinstance (by decide +kernel) (pa_cons (pv 1) (pa_cons (pe_bltn (v := .ty "int") (by rfl) T.int (by decide +kernel) rfl) pa_nil))))
   (pss_one (ps_ret (pe_and (pe_callB call_isi (by rfl) T.isinstance (by decide +kernel) (pa_cons (pv 0) (pa_cons (pe_bltn (v := .ty "int") (by rfl) T.int (by decide +kernel) rfl) pa_nil))) (pe_and (pe_not (pe_callB call_isi (by rfl) T.isinstance (by decide +kernel) (pa_cons (pv 0) (pa_cons (pe_bltn (v := .ty "bool") (by rfl) T.bool (by decide +kernel) rfl) pa_nil)))) (pe_one (pe_cmpR (op_eqD hr.units) (pv 0) (pv 1) (nomark _)))))))
   pss_nil)
  (pss_cons (ps_if (pt_val (pe_callB call_isi (by rfl) T.isinstance (by decide +kernel) (pa_cons (pv 1) (pa_cons (pe_bltn (v := .ty "str") (by rfl) T.str (by decide +kernel) rfl) pa_nil))))
   (pss_one (ps_ret (pe_and (pe_callB call_isi (by rfl) T.isinstance (by decide +kernel) (pa_cons (pv 0) (pa_cons (pe_bltn (v := .ty "str") (by rfl) T.str (by decide +kernel) rfl) pa_nil))) (pe_one (pe_cmpR (op_eqD hr.units) (pv 0) (pv 1) (nomark _))))))
   pss_nil)
  (pss_cons (ps_if (PW.pt (pw_or (pt_cmpR op_ne (pe_callB call_isi (by rfl) T.isinstance (by decide +kernel) (pa_cons (pv 0) (pa_cons (pe_bltn (v := .ty "list") (by rfl) T.list (by decide +kernel) rfl) pa_nil))) (pe_callB call_isi (by rfl) T.isinstance (by decide +kernel) (pa_cons (pv 1) (pa_cons (pe_bltn (v := .ty "list") (by rfl) T.list (by decide +kernel) rfl) pa_nil))) (nomark _)) (pw_or (pt_not (pt_val (pe_callB call_isiT (by rfl) T.isinstance (by decide +kernel) (pa_cons (pv 0) (pa_cons (pe_tup (pa_cons (pe_bltn (v := .ty "list") (by rfl) T.list (by decide +kernel) rfl) (pa_cons (pe_bltn (v := .ty "tuple") (by rfl) T.tuple (by decide +kernel) rfl) pa_nil))) pa_nil))))) (pw_or1 (pt_cmpR op_ne (pe_callB (show CallR _ (Value.builtin "len") (fun xs H Q => ∃ p ys, xs = [L2.V.ref p] ∧ (SqL K H p ys ∨ SqT K H p ys) ∧ Q (L2.V.int ys.length) H) from call_len_seq) (by rfl) T.len (by decide +kernel) (pa_cons (pv 0) pa_nil)) (pe_callB (show CallR _ (Value.builtin "len") (fun xs H Q => ∃ p ys, xs = [L2.V.ref p] ∧ (SqL K H p ys ∨ SqT K H p ys) ∧ Q (L2.V.int ys.length) H) from call_len_seq) (by rfl) T.len (by decide +kernel) (pa_cons (pv 1) pa_nil)) (nomark _))))))
   (pss_one (ps_ret pe_bl))
   pss_nil)
  (pss_one (ps_ret (pe_callB (cr_all rfl) (by rfl) T.all (by decide +kernel) (pa_cons (pe_lc (own := [("k", 2)]) rfl sc_law_same.nd (pi_range1 rfl T.range (pa_cons (pe_callB (show CallR _ (Value.builtin "len") (fun xs H Q => ∃ p ys, xs = [L2.V.ref p] ∧ (SqL K H p ys ∨ SqT K H p ys) ∧ Q (L2.V.int ys.length) H) from call_len_seq) (by rfl) T.len (by decide +kernel) (pa_cons (pv 1) pa_nil)) pa_nil)) (blkOk_by (N := ["one", "other", "k"]) (sc := defScope s_law_same) (by decide +kernel)) (fun _ _ _ _ _ => (pg_name (i := 2) sc_law_same.nd rfl (Or.inl rfl))) (fun _ _ _ _ _ => pts_nil) (fun _ _ _ _ _ => (pe_call IH (hr.mono (by first | decide | omega)) (by rfl) T.law_same.mg T.law_same.fn.kp T.law_same.bd .nil pass0 (pa_cons (pe_ix (show IxR _ (rIxL K) from ix_list) (pv 0) (pv 2) (fun _ _ => rfl)) (pa_cons (pe_ix (show IxR _ (rIxL K) from ix_list) (pv 1) (pv 2) (fun _ _ => rfl)) pa_nil))))) pa_nil))))))))), fun ds G R hF => ?_⟩
  · obtain ⟨x, y, xs, ys, rfl, _⟩ := h
    rfl
  · obtain ⟨x, y, xs, ys, rfl, hx, hy, hl, hn, he, q⟩ := hF
    walk_at "go"
    change WS K _ [some _, some _, none] _ _
    have nx : isNonD y = false := by rcases hy with rfl | ⟨_, rfl, _⟩ <;> rfl
    have ii : ∀ {t : String} {z : D} {zs : List D} {b : Bool} {Q : D → Cells → Prop}, IsL G z zs → kitB "list" t = some b → Q (.bl b) G → RC K (rIsi K) [z, .ty t] G Q := fun h hb q => rc_isi (isK_listL h) hb q
    walk_at "ww"
    rw [nx]
    walk_at "ww"
    refine ii hy kb_lb ?_
    walk_at "ww"
    refine ii hy kb_li ?_
    walk_at "ww"
    refine ii hy kb_ls ?_
    walk_at "ww"
    refine ii hx kb_ll ?_
    walk_at "ww"
    refine ii hy kb_ll ?_
    walk_at "ww"
    refine ⟨rfl, by decide, isK_listL hx, (show kitBs "list" ["list", "tuple"] = some true by decide), ?_⟩
    walk_at "ww"
    refine rc_len (.inr (.inr hx)) ?_
    walk_at "ww"
    refine rc_len (.inr (.inr hy)) ?_
    rw [hl]
    walk_at "ww"
    refine we_lcmap (own_name (by decide)) (wi_rng1 (by
      walk_at "ww"
      refine rc_len (.inr (.inr hy)) ?_
      walk_at "ww"
      refine ⟨_, rfl, by omega, by omega, List.range ys.length, fun i : Nat => D.int ((0 : Int) + i), fun _ => D.bl true, ?_, trivial, by rw [List.length_range]; omega, fun i hi => ?_, ?_⟩
      · rw [Int.toNat_natCast]
        rfl
      · have hil : i < ys.length := List.mem_range.mp hi
        have hil2 : i < xs.length := by omega
        walk_at "ww"
        refine rd_ixL (.inr hx) (atZ (by omega) (by rw [show ((0 : Int) + (i : Nat)).toNat = i by omega]; exact List.getElem?_eq_getElem hil2)) ?_
        walk_at "ww"
        refine rd_ixL (.inr hy) (atZ (by omega) (by rw [show ((0 : Int) + (i : Nat)).toNat = i by omega]; exact List.getElem?_eq_getElem hil)) ?_
        walk_at "ww"
        exact ⟨_, _, rfl, he i _ _ (List.getElem?_eq_getElem hil2) (List.getElem?_eq_getElem hil), rfl, rfl⟩
      · walk_at "cold"
        refine rc_all (ns := (List.range ys.length).map fun _ => true) (by rw [List.map_map]; exact isR) ?_
        have e : (((List.range ys.length).map fun _ => true).all id) = true := by simp
        rw [e]
        exact .inl q))
theorem ok_same_n (T : Top K mg) : ∀ n : Nat, FnOk P w K mg base CX0 (n + 1) T.a_law_same T.d_law_same ["one", "other"] (SpD K (F_same n))
  | 0 => ok_same_p T
  | n + 1 => by
    have IH := ok_same_n T n
    have h0 : FnOk P w K mg base CX0 (n + 1 + 1) T.a_law_same T.d_law_same ["one", "other"] (SpD K (F_same 0)) := (ok_same_p T).mono (by omega)
    refine DL.FnOk.weaken (DL.FnOk.orD h0 (DL.FnOk.orD (ok_same_t T IH) (ok_same_l T IH))) ?_
    rintro ds G R ⟨x, y, rfl, hE, q⟩
    cases hE with
    | non => exact .inl ⟨_, _, rfl, .non, q⟩
    | bl b => exact .inl ⟨_, _, rfl, .bl b, q⟩
    | int b => exact .inl ⟨_, _, rfl, .int b, q⟩
    | str b => exact .inl ⟨_, _, rfl, .str b, q⟩
    | tup a b c => exact .inr (.inl ⟨_, _, rfl, .tup a b c, q⟩)
    | lst a b c d e => exact .inr (.inr ⟨_, _, _, _, rfl, a, b, c, d, e, q⟩)
theorem ok_law_same (T : Top K mg) : FnOk P w K mg base CX0 6 T.a_law_same T.d_law_same ["one", "other"] (SpD K (F_same 5)) := ok_same_n T 5
end

section
variable {P : Program} {w : World} {K : PySem.W.Frag} {mg : Str → Option Value} {base : Heap}
/-- the names among signs, each once, in order -/
def NamesOf (sg : List (List Nat × List Nat × Nat × Nat)) (ys : List Str) : Prop := sortedS ys = true ∧ ys.Nodup ∧ ∀ z : Str, z ∈ ys ↔ ∃ x ∈ sg, (x.1 = [110, 97, 109, 101] ∨ x.1 = [103, 114, 101, 97, 116]) ∧ z = S x.2.1
def F_tree_from : FD := fun ds G R => ∃ (w n : List Nat) (a b : Nat) (sg : List (List Nat × List Nat × Nat × Nat)) (fl : List (Nat × Nat)), ds = [.tup [.str (S w), .str (S n)], .ptr a, .ptr b] ∧ G[a]? = some (.lst (sg.map sigD)) ∧ G[b]? = some (.lst (fl.map ftD)) ∧ sg.length ≤ 40000 ∧ (∀ l : List Str, l.Nodup → (∀ z ∈ l, ∃ x ∈ sg, z = S x.2.1) → l.length ≤ 4000) ∧ (fl ≠ [] ∨ sg = []) ∧ (∀ c ∈ w ++ n, c < 55296) ∧
  ∀ ys : List Str, NamesOf sg ys → R (if fl = [] ∧ w = leadL ∧ n = [] then .tup [.str (S leadL), .int 0, .int 1, .lst [], .lst []] else .tup [.str (S [104, 111, 108, 101]), .str (S []), .int 0, .int 1, .lst (ys.map D.str)]) G
theorem ok_tree_from (T : Top K mg) : FnOk P w K mg base CX0 1 T.a_tree_from T.d_tree_from ["head", "signs", "faults"] (SpD K F_tree_from) := by
  refine fn_ok T.tree_from.fn sc_tree_from (fun ds G R h => ?_) fun cdv A outer s H E hr => ⟨_, (pss_cons (ps_set (i := 3) sc_tree_from.nd rfl (Or.inl rfl) (pe_callB (cr_sortT rfl) (by rfl) T.sorted (by decide +kernel) (pa_cons (pe_scT (own := [("word", 4), ("string", 8), ("line", 9), ("column", 10)]) rfl sc_tree_from.nd (pi_list (pv 1)) (blkOk_by (N := ["head", "signs", "faults", "names", "word", "tree", "e", "nodes", "string", "line", "column", "node", "depth"]) (sc := defScope s_tree_from) (by decide +kernel)) ⟨fun _ _ _ _ _ => (show PG _ _ (gTup K 4 _) from pg_tup rfl (pgs_cons (pg_name (i := 4) sc_tree_from.nd rfl (Or.inl rfl)) (pgs_cons (pg_name (i := 8) sc_tree_from.nd rfl (Or.inl rfl)) (pgs_cons (pg_name (i := 9) sc_tree_from.nd rfl (Or.inl rfl)) (pgs_cons (pg_name (i := 10) sc_tree_from.nd rfl (Or.inl rfl)) pgs_nil))))), fun _ _ _ _ _ => (pts_one (pt_cmpR (show OpR _ _ (rIn K false) from op_in_seq) (pv 4) (pe_tup (pa_cons pe_str (pa_cons pe_str pa_nil))) (by first | rfl | exact nomark _))), fun _ _ _ _ _ => (pv 8)⟩) pa_nil)))
  (pss_cons (ps_if (PW.pt (pw_or (pt_truth (pv 2) (by intro _; rfl)) (pw_or1 (PW.pt (pw_and (pt_cmpR (op_eqD hr.units) (pv 1) (pe_lst pa_nil) (nomark _)) (pw_and1 (pt_cmpR (op_neD hr.units) (pv 0) (pe_tup (pa_cons pe_str (pa_cons pe_str pa_nil))) (nomark _))))))))
   (pss_one (ps_ret (pe_tup (pa_cons pe_str (pa_cons pe_str (pa_cons pe_int (pa_cons pe_int (pa_cons (pv 3) pa_nil))))))))
   pss_nil)
  (pss_cons (ps_if (pt_cmpR (op_eqD hr.units) (pv 1) (pe_lst pa_nil) (nomark _))
   (pss_one (ps_ret (pe_tup (pa_cons pe_str (pa_cons pe_int (pa_cons pe_int (pa_cons (pe_lst pa_nil) (pa_cons (pe_lst pa_nil) pa_nil))))))))
   pss_nil)
  (pss_cons ps_never
  (pss_cons ps_never
  (pss_cons ps_never
  (pss_cons ps_never
  (pss_cons ps_never
  (pss_cons ps_never
  (pss_one ps_never)))))))))), fun ds G R hF => ?_⟩
  · obtain ⟨w, n, a, b, sg, fl, rfl, _⟩ := h
    rfl
  · obtain ⟨w, n, a, b, sg, fl, rfl, ha, hb, hl, hN, hc, hlt, q⟩ := hF
    walk_at "go"
    change WS K _ [some _, some _, some _, none, none, none, none, none, none, none, none, none, none] _ _
    walk_at "w"
    walk_at "w"
    refine we_sortSc (own_tup (owns_cons (by decide) (owns_cons (by decide) (owns_cons (by decide) (owns_cons (by decide) owns_nil))))) (wi_list (we_var rfl ⟨_, isRp ha, fun i l G' => G' = G ∧ l.Nodup ∧ l.length ≤ i ∧ ∀ z : Str, z ∈ l ↔ ∃ x ∈ sg.take i, (x.1 = [110, 97, 109, 101] ∨ x.1 = [103, 114, 101, 97, 116]) ∧ z = S x.2.1,
      ⟨rfl, List.nodup_nil, Nat.le_refl _, fun z => by simp⟩, fun i l G' h => by rw [h.1]; exact isRp ha, ?_, ?_⟩))
    · rintro i d l G' hi ⟨rfl, hnd, hll, hm⟩
      obtain ⟨⟨u, v, ln, cl⟩, hx, rfl⟩ := map_get hi
      have hil := (List.getElem?_eq_some_iff.mp hx).1
      have hst : ∀ z : Str, (∃ x ∈ sg.take (i + 1), (x.1 = [110, 97, 109, 101] ∨ x.1 = [103, 114, 101, 97, 116]) ∧ z = S x.2.1) ↔ (z ∈ l ∨ ((u = [110, 97, 109, 101] ∨ u = [103, 114, 101, 97, 116]) ∧ z = S v)) := fun z => by
        rw [hm z, List.take_add_one, hx]
        constructor
        · rintro ⟨x, hx1, hx2⟩
          rcases List.mem_append.mp hx1 with h | h
          · exact .inl ⟨x, h, hx2⟩
          · have h : x = (u, v, ln, cl) := List.mem_singleton.mp h
            subst h
            exact .inr hx2
        · rintro (⟨x, hx1, hx2⟩ | h)
          · exact ⟨x, List.mem_append_left _ hx1, hx2⟩
          · exact ⟨(u, v, ln, cl), List.mem_append_right _ (List.mem_singleton.mpr rfl), h⟩
      walk_at "ww"
      refine rd_inQ (ls := [[110, 97, 109, 101], [103, 114, 101, 97, 116]]) isQt ?_
      rw [if_neg (by decide)]
      walk_at "ww"
      have hu : u ∈ ([[110, 97, 109, 101], [103, 114, 101, 97, 116]] : List (List Nat)) ↔ (u = [110, 97, 109, 101] ∨ u = [103, 114, 101, 97, 116]) := by simp
      refine ite_P (fun h => ?_) (fun h => ?_)
      · have h := hu.mp h
        walk_at "ww"
        refine ⟨?_, rfl, ?_, ?_, fun z => ?_⟩
        · have := hN l hnd fun z hz => by
            obtain ⟨x, hx1, _, hx2⟩ := (hm z).mp hz
            exact ⟨x, List.mem_of_mem_take hx1, hx2⟩
          have h4 : (4096 : Nat) = scanBound := rfl
          rw [← h4]
          omega
        · unfold addK
          split
          · exact hnd
          · rename_i hz
            exact List.nodup_cons.mpr ⟨hz, hnd⟩
        · unfold addK
          split
          · omega
          · rw [List.length_cons]; omega
        · rw [hst z]
          unfold addK
          split
          · rename_i hz
            exact ⟨.inl, fun k => k.elim id fun k => by rw [k.2]; exact hz⟩
          · rw [List.mem_cons]
            exact ⟨fun k => k.elim (fun e => .inr ⟨h, e⟩) .inl, fun k => k.elim .inr fun k => .inl k.2⟩
      · exact ⟨rfl, hnd, by omega, fun z => (hst z).trans ⟨fun k => k.elim id fun k => absurd (hu.mpr k.1) h, .inl⟩ |>.symm⟩
    · rintro l G' ⟨rfl, hnd, hll, hm⟩
      rw [List.length_map, List.take_of_length_le (Nat.le_refl _)] at hm
      have h4 : (4096 : Nat) = scanBound := rfl
      have hN1 := hN l hnd fun z hz => by
        obtain ⟨x, hx1, _, hx2⟩ := (hm z).mp hz
        exact ⟨x, hx1, hx2⟩
      refine ⟨by omega, fun ys hp hs => ?_⟩
      have qy := q ys ⟨hs, hp.nodup_iff.mpr hnd, fun z => (hp.mem_iff.trans (hm z))⟩
      walk_at "cold"
      refine wt_truL (we_var rfl ⟨_, isRp hb, ?_⟩)
      by_cases hf : fl = []
      · subst hf
        have hs0 : sg = [] := hc.elim (fun z => absurd rfl z) id
        subst hs0
        rw [show (!decide (List.map ftD [] = [])) = false from rfl]
        walk_at "ww"
        walk_at "cold"
        refine rd_eqD (.lst (isRp ha) .nil) (.lst isR .nil) (by decide) (by decide) ?_
        rw [show PyData.eqv (.list []) (.list []) = true from rfl]
        walk_at "ww"
        have hwl : ∀ c ∈ w, c < 55296 := fun c h => hlt c (List.mem_append_left _ h)
        have hnl : ∀ c ∈ n, c < 55296 := fun c h => hlt c (List.mem_append_right _ h)
        refine rd_neD (a := .tuple [.str (S w), .str (S n)]) (b := .tuple [.str (S leadL), .str (S [])]) (.tup (.cons (.str (strOk_S hwl)) (.cons (.str (strOk_S hnl)) .nil))) (.tup (.cons (.str (strOk_S (by decide))) (.cons (.str (strOk_S (by decide))) .nil))) (show 1 ≤ 64 by decide) (show 1 ≤ 64 by decide) ?_
        have ee : PyData.eqv (.tuple [.str (S w), .str (S n)]) (.tuple [.str (S leadL), .str (S [])]) = decide (w = leadL ∧ n = []) := by
          rw [Bool.eq_iff_iff, decide_eq_true_iff]
          show (PyData.eqv (.str (S w)) (.str (S leadL)) && (PyData.eqv (.str (S n)) (.str (S [])) && true)) = true ↔ _
          rw [Bool.and_eq_true, Bool.and_true, eqv_S, eqv_S]
        rw [ee]
        by_cases hw : w = leadL ∧ n = []
        · rw [decide_eq_true hw]
          rw [if_pos ⟨rfl, hw⟩] at qy
          walk_at "ww"
          walk_at "cold"
          refine rd_eqD (.lst (isRp ha) .nil) (.lst isR .nil) (by decide) (by decide) ?_
          rw [show PyData.eqv (.list []) (.list []) = true from rfl]
          walk_at "ww"
          walk_at "cold"
          walk_at "cold"
          exact .inl qy
        · rw [decide_eq_false hw]
          rw [if_neg fun z => hw z.2] at qy
          walk_at "ww"
          exact .inl qy
      · have e : (!decide (List.map ftD fl = [])) = true := by
          rw [decide_eq_false (by simpa using hf)]
          rfl
        rw [e]
        rw [if_neg fun z => hf z.1] at qy
        walk_at "ww"
        exact .inl qy
def F_tree_of : FD := fun ds G R => ∃ (x : D) (ls : List (List Nat)), ds = [x] ∧ IsL G x (ls.map fun l => D.str (S l)) ∧ 1 ≤ ls.length ∧ ls.length ≤ 400 ∧ (∀ l ∈ ls, Tx.isLine l = true) ∧ (faultsF 0 ls ≠ [] ∨ signsF 0 ls = []) ∧
  (∀ l : List Str, l.Nodup → (∀ z ∈ l, ∃ x ∈ signsF 0 ls, z = S x.2.1) → l.length ≤ 4000) ∧
  ∀ ys : List Str, NamesOf (signsF 0 ls) ys → R (if faultsF 0 ls = [] ∧ blankL (ls.headD []) = true then .tup [.str (S leadL), .int 0, .int 1, .lst [], .lst []] else .tup [.str (S [104, 111, 108, 101]), .str (S []), .int 0, .int 1, .lst (ys.map D.str)]) G
theorem signsF_len : ∀ {ls : List (List Nat)} {n : Nat}, (∀ l ∈ ls, l.length ≤ 100) → (signsF n ls).length ≤ 100 * ls.length
  | [], n, _ => Nat.le_refl _
  | l :: r, n, h => by
    have ih := signsF_len (ls := r) (n := n + 1) fun l hl => h l (List.mem_cons_of_mem _ hl)
    have h1 : (lineSigns n l (scan (l.length + 1) l 0)).length ≤ (scan (l.length + 1) l 0).length := List.length_filterMap_le _ _
    have h2 := scan_len (l := l) (l.length + 1) 0 (Nat.zero_le _)
    have h3 := h l List.mem_cons_self
    show (lineSigns n l (scan (l.length + 1) l 0) ++ signsF (n + 1) r).length ≤ _
    rw [List.length_append, List.length_cons]
    omega
theorem line_le {l : List Nat} (h : Tx.isLine l = true) : l.length ≤ 100 := by
  unfold Tx.isLine at h
  rw [Bool.and_eq_true] at h
  exact of_decide_eq_true h.1
theorem ok_tree_of (T : Top K mg) : FnOk P w K mg base CX0 7 T.a_tree_of T.d_tree_of ["lines"] (SpD K F_tree_of) := by
  refine fn_ok T.tree_of.fn sc_tree_of (fun ds G R h => ?_) fun cdv A outer s H E hr => ⟨_, (pss_cons (ps_asg (pe_call (ok_signs_of T) (hr.mono (by decide)) (by rfl) T.signs_of.mg T.signs_of.fn.kp T.signs_of.bd .nil pass0 (pa_cons (pv 0) pa_nil)) (show PG _ _ (gTup K 2 _) from pg_tup rfl (pgs_cons (pg_name (i := 1) sc_tree_of.nd rfl (Or.inl rfl)) (pgs_cons (pg_name (i := 2) sc_tree_of.nd rfl (Or.inl rfl)) pgs_nil))))
  (pss_one (ps_ret (pe_call (ok_tree_from T) (hr.mono (by decide)) (by rfl) T.tree_from.mg T.tree_from.fn.kp T.tree_from.bd .nil pass0 (pa_cons (pe_call (ok_head_of T) (hr.mono (by decide)) (by rfl) T.head_of.mg T.head_of.fn.kp T.head_of.bd .nil pass0 (pa_cons (pe_ix (show IxR _ (rIxL K) from ix_list) (pv 0) pe_int (fun _ _ => rfl)) pa_nil)) (pa_cons (pv 1) (pa_cons (pv 2) pa_nil))))))), fun ds G R hF => ?_⟩
  · obtain ⟨x, ls, rfl, _⟩ := h
    rfl
  · obtain ⟨x, ls, rfl, hx, h1, h2, h3, hc, hN, q⟩ := hF
    walk_at "go"
    change WS K _ [some _, none, none] _ _
    walk_at "ww"
    refine ⟨x, ls, rfl, hx, h1, h2, h3, ?_⟩
    walk_at "ww"
    have hxm : ∀ more : Cells, IsL (G ++ more) x (ls.map fun l => D.str (S l)) := fun more => hx.imp id fun ⟨k, e, hk⟩ => ⟨k, e, by rw [List.getElem?_append_left (List.getElem?_eq_some_iff.mp hk).1]; exact hk⟩
    obtain ⟨l0, r0, rfl⟩ : ∃ l0 r0, ls = l0 :: r0 := by
      cases ls with
      | nil => exact absurd h1 (by decide)
      | cons a b => exact ⟨a, b, rfl⟩
    refine rd_ixL (.inr (hxm _)) (at0 (d := D.str (S l0))) ?_
    walk_at "ww"
    refine ⟨l0, rfl, line_le (h3 l0 List.mem_cons_self), fun w n hlt hw => ?_⟩
    walk_at "ww"
    refine ⟨w, n, _, _, _, _, rfl, get0, get1, ?_, hN, hc, hlt, fun ys hys => ?_⟩
    · have := signsF_len (n := 0) fun l hl => line_le (h3 l hl)
      omega
    · have q := q ys hys
      have e : (faultsF 0 (l0 :: r0) = [] ∧ w = leadL ∧ n = []) ↔ (faultsF 0 (l0 :: r0) = [] ∧ blankL ((l0 :: r0).headD []) = true) := by
        show _ ↔ (_ ∧ blankL l0 = true)
        by_cases hb : blankL l0 = true
        · rw [if_pos hb] at hw
          exact ⟨fun z => ⟨z.1, hb⟩, fun z => ⟨z.1, hw⟩⟩
        · rw [if_neg hb] at hw
          exact ⟨fun z => absurd z.2.1 hw, fun z => absurd z.2 hb⟩
      by_cases hq : faultsF 0 (l0 :: r0) = [] ∧ blankL ((l0 :: r0).headD []) = true
      · rw [if_pos hq] at q
        rw [if_pos (e.mpr hq)]
        exact Gc.same (.tup (.cons (.str _) (.cons (.int _) (.cons (.int _) (.cons (.lst .nil) (.cons (.lst .nil) .nil)))))) q
      · rw [if_neg hq] at q
        rw [if_neg fun z => hq (e.mp z)]
        exact Gc.same (.tup (.cons (.str _) (.cons (.str _) (.cons (.int _) (.cons (.int _) (.cons (.lst (Cls.map (fun z => .str z) _)) .nil)))))) q
end

section
variable {P : Program} {w : World} {K : PySem.W.Frag} {mg : Str → Option Value} {base : Heap}
/-- a cell of numbers that changes -/
abbrev nC (ns : List Int) : Cell := .lst (ns.map D.int)
theorem lit_get {α : Type} {enc : α → D} {l : List α} {z : Int} (h0 : 0 ≤ z) (h : z < (l.length : Nat)) : ∃ a ∈ l, atI (l.map enc) z = some (enc a) := by
  have h1 : z.toNat < l.length := by omega
  exact ⟨l[z.toNat], List.getElem_mem h1, atZ h0 (by rw [List.getElem?_map, List.getElem?_eq_getElem h1]; rfl)⟩
theorem pk0 {B : Cells} {k : Nat} {x : Cell} (h : k < B.length) : (B.set k x)[k]? = some x := List.getElem?_set_self h
theorem pkm {B more : Cells} {k : Nat} {x : Cell} (h : k < B.length) : (B.set k x ++ more)[k]? = some x := by
  rw [List.getElem?_append_left (by rw [List.length_set]; exact h)]
  exact pk0 h
theorem psm {B more : Cells} {k : Nat} {x y : Cell} (h : k < B.length) : (B.set k x ++ more).set k y = B.set k y ++ more := by
  rw [List.set_append_left _ _ (by rw [List.length_set]; exact h), List.set_set]
theorem pget {B : Cells} {k : Nat} {x c : Cell} : (B.set k x ++ [c])[B.length]? = some c := by
  have := get_last (a := B.set k x) (c := c)
  rw [List.length_set] at this
  exact this
theorem pset {B : Cells} {k : Nat} {x c d : Cell} : (B.set k x ++ [c]).set B.length d = B.set k x ++ [d] := by
  have := set_last (a := B.set k x) (c := c) (d := d)
  rw [List.length_set] at this
  exact this
theorem Gc.pool {G more : Cells} {R : D → Cells → Prop} {d : D} {k : Nat} {ns : List Int} (h : Cl G.length d) (q : R d (G.set k (nC ns))) : Gc G R d (G.set k (nC ns) ++ more) := by
  have e : (G.set k (nC ns) ++ more).take G.length = G.set k (nC ns) := by
    have := List.take_left' (l₁ := G.set k (nC ns)) (l₂ := more) rfl
    rw [List.length_set] at this
    exact this
  refine .inr ⟨by rw [List.length_append, List.length_set]; exact Nat.le_add_right _ _, h, fun c hc => ?_, by rw [e]; exact q⟩
  rw [e] at hc
  rcases List.mem_or_eq_of_mem_set hc with z | z
  · exact .inl z
  · subst z
    exact .inr (Cls.map (fun i => .int i) _)
theorem wt_yes {ρ : DEnv} {G : Cells} {QT : Bool → Cells → Prop} (q : QT true G) : WT K tYes ρ G QT := fun w σ ok R p => p true w G q ok (Fut.refl w)
theorem flat1 : ∀ l : List Nat, (l.map fun c => [c]).flatten = l
  | [] => rfl
  | c :: r => by rw [List.map_cons, List.flatten_cons, flat1 r]; rfl
theorem sum1 : ∀ l : List Nat, ((l.map fun c => [c]).map (·.length)).sum = l.length
  | [] => rfl
  | c :: r => by rw [List.map_cons, List.map_cons, List.sum_cons, sum1 r, List.length_cons, Nat.add_comm]; rfl
/-- a list of drawn signs -/
theorem we_ofs {ρ : DEnv} {G G0 : Cells} {Q : D → Cells → Prop} {wi : TI} {te : TE} {i k : Nat} {vs : List Nat} {s : List Nat} (hi : i ∈ vs)
    (he : ∀ ns d, Pool ns → WE K te ((wipeR ρ vs).set i (some d)) (G0.set k (nC ns)) fun y G3 => ∃ c ns', c ∈ s ∧ y = .str (S [c]) ∧ Pool ns' ∧ G3 = G0.set k (nC ns'))
    (hw : WI K wi ρ G fun ds SS G1 => ∃ (n : Nat) (ns : List Int), n ≤ 1000 ∧ ds.length = n ∧ (∀ G, SS G) ∧ G1 = G0.set k (nC ns) ∧ Pool ns ∧ ∀ (u : List Nat) (ns' : List Int), u.length = n → (∀ d ∈ u, d ∈ s) → Pool ns' → Q (.lst (u.map fun c => .str (S [c]))) (G0.set k (nC ns'))) :
    WE K (tLc wi (gName i) tYes te vs) ρ G Q := by
  refine we_lc (own_name hi) fun w σ ok R p => hw w σ ok R fun J ds SS w' G' ⟨n, ns, hn, hds, hSS, e, hP, q⟩ sq ok' f' => p J ds SS w' G' ⟨fun j acc G' => ∃ (l : List Nat) (ns' : List Int), acc = l.map (fun c => D.str (S [c])) ∧ l.length = j ∧ (∀ c ∈ l, c ∈ s) ∧ Pool ns' ∧ G' = G0.set k (nC ns'), ⟨[], ns, rfl, rfl, (fun c h => nomatch h), hP, e⟩, fun _ _ _ _ => hSS _, ?_, ?_⟩ sq ok' f'
  · rintro j d acc G2 hj ⟨l, ns2, rfl, hl, hs, hP2, rfl⟩
    have hjl := (List.getElem?_eq_some_iff.mp hj).1
    refine wg_name (wt_yes ?_)
    show WE K te _ _ _
    intro w σ ok R p
    refine he ns2 d hP2 w σ ok R fun v y w2 G3 ⟨c, ns', hc, e1, hP', e2⟩ ok2 r2 f2 => p v y w2 G3 ⟨?_, l ++ [c], ns', ?_, ?_, ?_, hP', e2⟩ ok2 r2 f2
    · rw [List.length_map]
      exact lt_size (by omega)
    · rw [e1, List.map_append]; rfl
    · rw [List.length_append, hl]; rfl
    · intro d hd
      rcases List.mem_append.mp hd with h | h
      · exact hs d h
      · rw [List.mem_singleton.mp h]; exact hc
  · rintro acc G2 ⟨l, ns2, rfl, hl, hs, hP2, rfl⟩
    exact .inl (q l ns2 (by omega) hs hP2)
theorem rm_joinC {G : Cells} {Q : D → Cells → Prop} {u : List Nat} (hl : u.length ≤ 100000) (q : Q (.str (S u)) G) :
    RM K (fun x xs H Q => ∃ a p, ∃ ys : List Str, x = .str a ∧ xs = [.ref p] ∧ (SqL K H p (ys.map V.str) ∨ SqT K H p (ys.map V.str)) ∧ (ys.map (·.length)).sum + ys.length * a.length ≤ 16777216 ∧ Q (.str (Txt.join a ys)) H) (.str (S [])) [.lst (u.map fun c => D.str (S [c]))] G Q := by
  refine rm_joinT (ps := u.map fun c => [c]) (by rw [List.map_map]; exact isR) ?_ ?_
  · rw [sum1]
    omega
  · rw [flat1 u]
    exact q
end

section
variable {P : Program} {w : World} {K : PySem.W.Frag} {mg : Str → Option Value} {base : Heap}
def F_law_of : FD := fun ds G R => ∃ (k : Nat) (ns : List Int) (s : List Nat), ds = [.ptr k, .str (S s)] ∧ s ≠ [] ∧ s.length ≤ 3600 ∧ G[k]? = some (nC ns) ∧ Pool ns ∧ ∀ (c : Nat) (ns' : List Int), c ∈ s → Pool ns' → R (.str (S [c])) (G.set k (nC ns'))
theorem ok_law_of (T : Top K mg) : FnOk P w K mg base CX0 2 T.a_law_of T.d_law_of ["pool", "signs"] (SpD K F_law_of) := by
  refine fn_ok T.law_of.fn sc_law_of (fun ds G R h => ?_) fun cdv A outer s H E hr => ⟨_, (pss_one (ps_ret (pe_ix ix_str (pv 1) (pe_op op_mod (pe_callTy call_int1 (by rfl) T.int (by decide +kernel) (pa_cons (pe_op op_add (pe_op op_mul (pe_call (ok_law_pick T) (hr.mono (by decide)) (by rfl) T.law_pick.mg T.law_pick.fn.kp T.law_pick.bd .nil pass0 (pa_cons (pv 0) (pa_cons pe_int pa_nil))) pe_int) (pe_call (ok_law_pick T) (hr.mono (by decide)) (by rfl) T.law_pick.mg T.law_pick.fn.kp T.law_pick.bd .nil pass0 (pa_cons (pv 0) (pa_cons pe_int pa_nil)))) pa_nil)) (pe_callB call_len_str (by rfl) T.len (by decide +kernel) (pa_cons (pv 1) pa_nil))) (fun _ _ => rfl)))), fun ds G R hF => ?_⟩
  · obtain ⟨k, ns, s, rfl, _⟩ := h
    rfl
  · obtain ⟨k, ns, s, rfl, hs, hl, hk, hP, q⟩ := hF
    have hkl := (List.getElem?_eq_some_iff.mp hk).1
    have hsl : 0 < s.length := List.length_pos_iff.mpr hs
    walk_at "go"
    change WS K _ [some _, some _] _ _
    walk_at "ww"
    refine ⟨k, ns, 60, rfl, by decide, hk, hP, fun z ns1 z0 z1 hP1 => ?_⟩
    walk_at "ww"
    · refine ⟨k, ns1, 60, rfl, by decide, pk0 hkl, hP1, fun y ns2 y0 y1 hP2 => ?_⟩
      rw [List.set_set]
      walk_at "ww"
      · have h1 := Int.emod_nonneg (z * 60 + y) (b := (s.length : Int)) (by omega)
        have h2 := Int.emod_lt_of_pos (z * 60 + y) (b := (s.length : Int)) (by omega)
        have h3 : ((z * 60 + y) % (s.length : Int)).toNat < s.length := by omega
        exact rd_ixT' (by omega) h1 (List.getElem?_eq_getElem h3) (.inl (q _ ns2 (List.getElem_mem h3) hP2))
      all_goals omega
    · exact .inl ⟨by omega, by omega⟩
def F_law_run : FD := fun ds G R => ∃ (k : Nat) (ns : List Int) (f o : List Nat) (n : Nat), ds = [.ptr k, .str (S f), .str (S o), .int (n : Nat)] ∧ f ≠ [] ∧ f.length ≤ 3600 ∧ o ≠ [] ∧ o.length ≤ 3600 ∧ 1 ≤ n ∧ n ≤ 100 ∧ G[k]? = some (nC ns) ∧ Pool ns ∧
  ∀ (c : Nat) (u : List Nat) (ns' : List Int), c ∈ f → (∀ d ∈ u, d ∈ o) → u.length + 1 = n → Pool ns' → R (.str (S (c :: u))) (G.set k (nC ns'))
theorem ok_law_run (T : Top K mg) : FnOk P w K mg base CX0 3 T.a_law_run T.d_law_run ["pool", "first", "others", "many"] (SpD K F_law_run) := by
  refine fn_ok T.law_run.fn sc_law_run (fun ds G R h => ?_) fun cdv A outer s H E hr => ⟨_, (pss_one (ps_ret (pe_op op_add_str (pe_call (ok_law_of T) (hr.mono (by decide)) (by rfl) T.law_of.mg T.law_of.fn.kp T.law_of.bd .nil pass0 (pa_cons (pv 0) (pa_cons (pv 1) pa_nil))) (pe_join pe_str (pe_lc (own := [("k", 4)]) rfl sc_law_run.nd (pi_range1 rfl T.range (pa_cons (pe_op op_sub (pv 3) pe_int) pa_nil)) (blkOk_by (N := ["pool", "first", "others", "many", "k"]) (sc := defScope s_law_run) (by decide +kernel)) (fun _ _ _ _ _ => (pg_name (i := 4) sc_law_run.nd rfl (Or.inl rfl))) (fun _ _ _ _ _ => pts_nil) (fun _ _ _ _ _ => (pe_call (ok_law_of T) (hr.mono (by decide)) (by rfl) T.law_of.mg T.law_of.fn.kp T.law_of.bd .nil pass0 (pa_cons (pv 0) (pa_cons (pv 2) pa_nil))))))))), fun ds G R hF => ?_⟩
  · obtain ⟨k, ns, f, o, n, rfl, _⟩ := h
    rfl
  · obtain ⟨k, ns, f, o, n, rfl, hf, hfl, ho, hol, hn1, hn2, hk, hP, q⟩ := hF
    have hkl := (List.getElem?_eq_some_iff.mp hk).1
    walk_at "go"
    change WS K _ [some _, some _, some _, some _, none] _ _
    walk_at "ww"
    refine ⟨k, ns, f, rfl, hf, hfl, hk, hP, fun c ns1 hc hP1 => ?_⟩
    walk_at "ww"
    refine we_ofs (k := k) (G0 := G) (s := o) (by decide) (fun ns d hP => ?_) (wi_rng1 ?_)
    · walk_at "ww"
      refine ⟨k, ns, o, rfl, ho, hol, pk0 hkl, hP, fun c ns' hc hP' => ?_⟩
      rw [List.set_set]
      exact ⟨c, ns', hc, rfl, hP', rfl⟩
    · walk_at "ww"
      refine ⟨_, rfl, by omega, by omega, n - 1, ns1, by omega, by rw [rgD_len]; omega, fun _ => trivial, rfl, hP1, fun u ns' hu hs hP' => ?_⟩
      refine rm_joinC (by omega) ?_
      walk_at "ww"
      · exact .inl (q c u ns' hc hs (by omega) hP')
      · rw [List.length_singleton]
        omega
end

section
variable {P : Program} {w : World} {K : PySem.W.Frag} {mg : Str → Option Value} {base : Heap}
def F_law_small : FD := fun ds G R => ds = [] ∧ R (.str (S smallL)) G
theorem ok_law_small (T : Top K mg) : FnOk P w K mg base CX0 1 T.a_law_small T.d_law_small [] (SpD K F_law_small) := by
  refine fn_ok T.law_small.fn sc_law_small (fun ds G R h => by rw [h.1]; rfl) fun cdv A outer s H E hr => ⟨_, (pss_one (ps_ret pe_str)), fun ds G R hF => ?_⟩
  obtain ⟨rfl, q⟩ := hF
  walk_at "go"
  change WS K _ [] _ _
  walk_at "ww"
  exact .inl q
def F_law_great : FD := fun ds G R => ds = [] ∧ R (.str (S greatL)) G
theorem ok_law_great (T : Top K mg) : FnOk P w K mg base CX0 1 T.a_law_great T.d_law_great [] (SpD K F_law_great) := by
  refine fn_ok T.law_great.fn sc_law_great (fun ds G R h => by rw [h.1]; rfl) fun cdv A outer s H E hr => ⟨_, (pss_one (ps_ret pe_str)), fun ds G R hF => ?_⟩
  obtain ⟨rfl, q⟩ := hF
  walk_at "go"
  change WS K _ [] _ _
  walk_at "ww"
  exact .inl q
def F_law_wild : FD := fun ds G R => ds = [] ∧ R (.str (S wildL)) G
theorem ok_law_wild (T : Top K mg) : FnOk P w K mg base CX0 1 T.a_law_wild T.d_law_wild [] (SpD K F_law_wild) := by
  refine fn_ok T.law_wild.fn sc_law_wild (fun ds G R h => by rw [h.1]; rfl) fun cdv A outer s H E hr => ⟨_, (pss_one (ps_ret pe_str)), fun ds G R hF => ?_⟩
  obtain ⟨rfl, q⟩ := hF
  walk_at "go"
  change WS K _ [] _ _
  walk_at "ww"
  exact .inl q
def allL : List Nat := [32, 33, 35, 36, 38, 39, 40, 41, 42, 43, 44, 45, 46, 47, 48, 49, 50, 51, 52, 53, 54, 55, 56, 57, 58, 59, 60, 61, 62, 63, 64] ++ greatL ++ [91, 92, 93, 94, 95, 96] ++ smallL ++ [123, 124, 125, 126]
def F_law_all : FD := fun ds G R => ds = [] ∧ R (.str (S allL)) G
theorem ok_law_all (T : Top K mg) : FnOk P w K mg base CX0 2 T.a_law_all T.d_law_all [] (SpD K F_law_all) := by
  refine fn_ok T.law_all.fn sc_law_all (fun ds G R h => by rw [h.1]; rfl) fun cdv A outer s H E hr => ⟨_, (pss_one (ps_ret (pe_op op_add_str (pe_op op_add_str (pe_op op_add_str (pe_op op_add_str pe_str (pe_call0 (ok_law_great T) (hr.mono (by decide)) (by rfl) T.law_great.mg T.law_great.fn.kp T.law_great.bd .nil pass0)) pe_str) (pe_call0 (ok_law_small T) (hr.mono (by decide)) (by rfl) T.law_small.mg T.law_small.fn.kp T.law_small.bd .nil pass0)) pe_str))), fun ds G R hF => ?_⟩
  obtain ⟨rfl, q⟩ := hF
  walk_at "go"
  change WS K _ [] _ _
  walk_at "ww"
  refine ⟨rfl, ?_⟩
  walk_at "ww"
  · refine ⟨rfl, ?_⟩
    walk_at "ww"
    · exact .inl q
    all_goals decide
  all_goals decide
def F_law_words : FD := fun ds G R => ds = [] ∧ R (.lst (WORDS_l.map fun l => .str (S l))) G
theorem ok_law_words (T : Top K mg) : FnOk P w K mg base CX0 1 T.a_law_words T.d_law_words [] (SpD K F_law_words) := by
  refine fn_ok T.law_words.fn sc_law_words (fun ds G R h => by rw [h.1]; rfl) fun cdv A outer s H E hr => ⟨_, (pss_cons (ps_set (i := 0) sc_law_words.nd rfl (Or.inl rfl) (pe_lst (pa_cons pe_str (pa_cons pe_str (pa_cons pe_str (pa_cons pe_str (pa_cons pe_str (pa_cons pe_str (pa_cons pe_str (pa_cons pe_str (pa_cons pe_str (pa_cons pe_str (pa_cons pe_str (pa_cons pe_str (pa_cons pe_str pa_nil)))))))))))))))
  (pss_one (ps_ret (pe_op op_cat (pv 0) (pe_lst (pa_cons pe_str (pa_cons pe_str (pa_cons pe_str (pa_cons pe_str (pa_cons pe_str (pa_cons pe_str pa_nil))))))))))), fun ds G R hF => ?_⟩
  obtain ⟨rfl, q⟩ := hF
  walk_at "go"
  change WS K _ [none] _ _
  walk_at "ww"
  walk_at "cold"
  walk_at "cold"
  exact rd_cat isL isL (le_size (by decide)) (.inl (.inl q))
def lmarks : List (List Nat) := [[40], [41], [123], [125], [44], [58], [61], [45, 62], [124], [46], [63], [43], [45], [42], [61, 61], [60]]
def F_law_marks : FD := fun ds G R => ds = [] ∧ R (.lst (lmarks.map fun l => .str (S l))) G
theorem ok_law_marks (T : Top K mg) : FnOk P w K mg base CX0 1 T.a_law_marks T.d_law_marks [] (SpD K F_law_marks) := by
  refine fn_ok T.law_marks.fn sc_law_marks (fun ds G R h => by rw [h.1]; rfl) fun cdv A outer s H E hr => ⟨_, (pss_one (ps_ret (pe_lst (pa_cons pe_str (pa_cons pe_str (pa_cons pe_str (pa_cons pe_str (pa_cons pe_str (pa_cons pe_str (pa_cons pe_str (pa_cons pe_str (pa_cons pe_str (pa_cons pe_str (pa_cons pe_str (pa_cons pe_str (pa_cons pe_str (pa_cons pe_str (pa_cons pe_str (pa_cons pe_str pa_nil))))))))))))))))))), fun ds G R hF => ?_⟩
  obtain ⟨rfl, q⟩ := hF
  walk_at "go"
  change WS K _ [] _ _
  walk_at "ww"
  walk_at "cold"
  exact .inl q
def F_law_remark : FD := fun ds G R => ∃ (k : Nat) (ns : List Int), ds = [.ptr k] ∧ G[k]? = some (nC ns) ∧ Pool ns ∧ ∀ (u : List Nat) (ns' : List Int), u.length ≤ 12 → (∀ c ∈ u, okc c = true) → Pool ns' → R (.str (S (45 :: 45 :: u))) (G.set k (nC ns'))
theorem ok_law_remark (T : Top K mg) : FnOk P w K mg base CX0 3 T.a_law_remark T.d_law_remark ["pool"] (SpD K F_law_remark) := by
  refine fn_ok T.law_remark.fn sc_law_remark (fun ds G R h => ?_) fun cdv A outer s H E hr => ⟨_, (pss_one (ps_ret (pe_op op_add_str pe_str (pe_join pe_str (pe_lc (own := [("k", 1)]) rfl sc_law_remark.nd (pi_range1 rfl T.range (pa_cons (pe_call (ok_law_pick T) (hr.mono (by decide)) (by rfl) T.law_pick.mg T.law_pick.fn.kp T.law_pick.bd .nil pass0 (pa_cons (pv 0) (pa_cons pe_int pa_nil))) pa_nil)) (blkOk_by (N := ["pool", "k"]) (sc := defScope s_law_remark) (by decide +kernel)) (fun _ _ _ _ _ => (pg_name (i := 1) sc_law_remark.nd rfl (Or.inl rfl))) (fun _ _ _ _ _ => pts_nil) (fun _ _ _ _ _ => (pe_call (ok_law_of T) (hr.mono (by decide)) (by rfl) T.law_of.mg T.law_of.fn.kp T.law_of.bd .nil pass0 (pa_cons (pv 0) (pa_cons (pe_op op_add_str (pe_call0 (ok_law_all T) (hr.mono (by decide)) (by rfl) T.law_all.mg T.law_all.fn.kp T.law_all.bd .nil pass0) pe_str) pa_nil))))))))), fun ds G R hF => ?_⟩
  · obtain ⟨k, ns, rfl, _⟩ := h
    rfl
  · obtain ⟨k, ns, rfl, hk, hP, q⟩ := hF
    have hkl := (List.getElem?_eq_some_iff.mp hk).1
    walk_at "go"
    change WS K _ [some _, none] _ _
    walk_at "ww"
    refine we_ofs (k := k) (G0 := G) (s := allL ++ [34]) (by decide) (fun ns d hP => ?_) (wi_rng1 ?_)
    · walk_at "ww"
      refine ⟨rfl, ?_⟩
      walk_at "ww"
      · refine ⟨k, ns, allL ++ [34], rfl, by decide, by decide, pk0 hkl, hP, fun c ns' hc hP' => ?_⟩
        rw [List.set_set]
        exact ⟨c, ns', hc, rfl, hP', rfl⟩
      · decide
    · walk_at "ww"
      refine ⟨k, ns, 12, rfl, by decide, hk, hP, fun z ns1 z0 z1 hP1 => ?_⟩
      walk_at "ww"
      refine ⟨_, rfl, by omega, by omega, z.toNat, ns1, by omega, by rw [rgD_len], fun _ => trivial, rfl, hP1, fun u ns' hu hs hP' => ?_⟩
      refine rm_joinC (by omega) ?_
      walk_at "ww"
      · exact .inl (q u ns' (by omega) (fun c hc => (by decide : ∀ c ∈ allL ++ [34], okc c = true) c (hs c hc)) hP')
      · show 2 + u.length ≤ 100000
        omega
def F_law_tight : FD := fun ds G R => ∃ (a b : List Nat), ds = [.str (S a), .str (S b)] ∧ a ≠ [] ∧ b ≠ [] ∧ a.length ≤ 1000 ∧ b.length ≤ 1000 ∧ R (.bl (tightL a b)) G
theorem ok_law_tight (T : Top K mg) : FnOk P w K mg base CX0 2 T.a_law_tight T.d_law_tight ["one", "other"] (SpD K F_law_tight) := by
  refine fn_ok T.law_tight.fn sc_law_tight (fun ds G R h => ?_) fun cdv A outer s H E hr => ⟨_, (pss_cons (ps_asg (pe_tup (pa_cons (pe_call0 (ok_law_small T) (hr.mono (by decide)) (by rfl) T.law_small.mg T.law_small.fn.kp T.law_small.bd .nil pass0) (pa_cons pe_str (pa_cons (pe_call0 (ok_law_great T) (hr.mono (by decide)) (by rfl) T.law_great.mg T.law_great.fn.kp T.law_great.bd .nil pass0) (pa_cons (pe_call0 (ok_law_wild T) (hr.mono (by decide)) (by rfl) T.law_wild.mg T.law_wild.fn.kp T.law_wild.bd .nil pass0) pa_nil))))) (show PG _ _ (gTup K 4 _) from pg_tup rfl (pgs_cons (pg_name (i := 2) sc_law_tight.nd rfl (Or.inl rfl)) (pgs_cons (pg_name (i := 3) sc_law_tight.nd rfl (Or.inl rfl)) (pgs_cons (pg_name (i := 4) sc_law_tight.nd rfl (Or.inl rfl)) (pgs_cons (pg_name (i := 5) sc_law_tight.nd rfl (Or.inl rfl)) pgs_nil))))))
  (pss_cons (ps_if (pt_cmpR op_in_sign (pe_ix ix_str (pv 0) pe_int (fun _ _ => rfl)) (pv 3) rfl)
   (pss_one (ps_ret (pe_cmpR op_notIn_sign (pe_ix ix_str (pv 1) pe_int (fun _ _ => rfl)) (pe_op op_add_str (pe_op op_add_str (pe_op op_add_str (pv 2) (pv 4)) (pv 3)) pe_str) rfl)))
   pss_nil)
  (pss_cons (ps_if (pt_cmpR op_in_sign (pe_ix ix_str (pv 0) pe_int (fun _ _ => rfl)) (pv 4) rfl)
   (pss_one (ps_ret (pe_cmpR op_notIn_sign (pe_ix ix_str (pv 1) pe_int (fun _ _ => rfl)) (pe_op op_add_str (pe_op op_add_str (pv 2) (pv 4)) (pv 3)) rfl)))
   pss_nil)
  (pss_cons (ps_if (pt_cmpR op_in_sign (pe_ix ix_str (pv 0) pe_int (fun _ _ => rfl)) (pe_op op_add_str (pv 2) pe_str) rfl)
   (pss_one (ps_ret (pe_cmpR op_notIn_sign (pe_ix ix_str (pv 1) pe_int (fun _ _ => rfl)) (pe_op op_add_str (pe_op op_add_str (pv 2) (pv 3)) pe_str) rfl)))
   pss_nil)
  (pss_cons (ps_if (pt_cmpR op_in_sign (pe_ix ix_str (pv 0) pe_int (fun _ _ => rfl)) (pv 5) rfl)
   (pss_one (ps_ret (pe_cmpR op_notIn_sign (pe_ix ix_str (pv 1) pe_int (fun _ _ => rfl)) (pv 5) rfl)))
   pss_nil)
  (pss_one (ps_ret (pe_or (pe_cmpR (show OpR _ _ (rIn K true) from op_notIn_seq) (pv 0) (pe_tup (pa_cons pe_str (pa_cons pe_str pa_nil))) (by first | rfl | exact nomark _)) (pe_one (pe_cmpR (show OpR _ _ (rIn K true) from op_notIn_seq) (pe_op op_add_str (pv 0) (pe_ix ix_str (pv 1) pe_int (fun _ _ => rfl))) (pe_tup (pa_cons pe_str (pa_cons pe_str (pa_cons pe_str pa_nil)))) (by first | rfl | exact nomark _))))))))))), fun ds G R hF => ?_⟩
  · obtain ⟨a, b, rfl, _⟩ := h
    rfl
  · obtain ⟨a, b, rfl, ha, hb, hla, hlb, q⟩ := hF
    obtain ⟨c, u, rfl⟩ : ∃ c u, a = c :: u := by
      cases a with
      | nil => exact absurd rfl ha
      | cons c u => exact ⟨c, u, rfl⟩
    obtain ⟨d, v, rfl⟩ : ∃ c u, b = c :: u := by
      cases b with
      | nil => exact absurd rfl hb
      | cons c u => exact ⟨c, u, rfl⟩
    unfold tightL at q
    rw [List.headD_cons, List.headD_cons] at q
    have i0 : ∀ {x : Nat} {r : List Nat} {Q : D → Cells → Prop}, (x :: r).length ≤ 1000 → Q (.str (S [x])) G → RD K rIxS (.str (S (x :: r))) (.int 0) G Q := fun h q => rd_ixT' (by omega) (by omega) rfl q
    walk_at "go"
    change WS K _ [some _, some _, none, none, none, none] _ _
    walk_at "ww"
    refine ⟨rfl, ?_⟩
    walk_at "ww"
    refine ⟨rfl, ?_⟩
    walk_at "ww"
    refine ⟨rfl, ?_⟩
    walk_at "ww"
    refine i0 hla ?_
    walk_at "ww"
    refine ite_P (fun h1 => ?_) (fun h1 => ?_)
    · rw [if_pos h1] at q
      walk_at "ww"
      refine i0 hlb ?_
      walk_at "ww"
      · exact .inl q
      all_goals decide
    · rw [if_neg h1] at q
      walk_at "ww"
      refine i0 hla ?_
      walk_at "ww"
      refine ite_P (fun h2 => ?_) (fun h2 => ?_)
      · rw [if_pos h2] at q
        walk_at "ww"
        refine i0 hlb ?_
        walk_at "ww"
        · exact .inl q
        all_goals decide
      · rw [if_neg h2] at q
        walk_at "ww"
        refine i0 hla ?_
        walk_at "ww"
        · refine ite_P (fun h3 => ?_) (fun h3 => ?_)
          · rw [if_pos h3] at q
            walk_at "ww"
            refine i0 hlb ?_
            walk_at "ww"
            · exact .inl q
            all_goals decide
          · rw [if_neg h3] at q
            walk_at "ww"
            refine i0 hla ?_
            walk_at "ww"
            refine ite_P (fun h4 => ?_) (fun h4 => ?_)
            · rw [if_pos h4] at q
              walk_at "ww"
              refine i0 hlb ?_
              walk_at "ww"
              exact .inl q
            · rw [if_neg h4] at q
              walk_at "ww"
              refine rd_inQ (ls := [[45], [61]]) isQt ?_
              rw [if_pos rfl]
              walk_at "ww"
              by_cases h5 : c :: u ∈ ([[45], [61]] : List (List Nat))
              · rw [decide_eq_true h5] at q ⊢
                walk_at "ww"
                refine i0 hlb ?_
                walk_at "ww"
                · refine rd_inQ (ls := [[45, 45], [45, 62], [61, 61]]) isQt ?_
                  rw [if_pos rfl]
                  exact .inl q
                · simp only [List.length_singleton]
                  omega
              · rw [decide_eq_false h5] at q ⊢
                walk_at "ww"
                exact .inl q
        all_goals decide
end

section
variable {P : Program} {w : World} {K : PySem.W.Frag} {mg : Str → Option Value} {base : Heap}
abbrev restL : List Nat := [114, 101, 115, 116]
/-- what the law draws: a word and how it is written -/
def LP (lw s : List Nat) : Prop := (∀ c ∈ lw, c < 55296) ∧ ∃ (w : List Nat) (b : Bool), Piece w s b ∧ ((b = false ∧ lw = w ∧ lw ≠ restL) ∨ (b = true ∧ w = [] ∧ lw = restL))
def F_law_sign : FD := fun ds G R => ∃ (k : Nat) (ns : List Int), ds = [.ptr k] ∧ G[k]? = some (nC ns) ∧ Pool ns ∧ ∀ (lw s : List Nat) (ns' : List Int), LP lw s → Pool ns' → R (.tup [.str (S lw), .str (S s)]) (G.set k (nC ns'))
theorem LP.fine {w s : List Nat} (h : Piece w s false) (hw : w ≠ restL ∧ ∀ c ∈ w, c < 55296) : LP w s := ⟨hw.2, w, false, h, .inl ⟨rfl, rfl, hw.1⟩⟩
theorem lp_name {c : Nat} {u : List Nat} (hc : c ∈ smallL ++ [95]) (hu : ∀ d ∈ u, d ∈ smallL ++ figL ++ [95]) (hl : u.length ≤ 11) (hw : c :: u ∉ WORDS_l) : LP [110, 97, 109, 101] (c :: u) := by
  have h := piece_small hc hu (by omega)
  rw [word_name (name_is hc hu hl hw)] at h
  exact .fine h (by decide)
theorem lp_great {c : Nat} {u : List Nat} (hc : c ∈ greatL) (hu : ∀ d ∈ u, d ∈ smallL ++ greatL ++ figL) (hl : u.length ≤ 11) : LP [103, 114, 101, 97, 116] (c :: u) := by
  have h := piece_great hc hu (by omega)
  rw [word_great (great_is hc hu hl)] at h
  exact .fine h (by decide)
theorem lp_fig {c : Nat} {u : List Nat} (hc : c ∈ [49, 50, 51, 52, 53, 54, 55, 56, 57]) (hu : ∀ d ∈ u, d ∈ figL) (hl : u.length ≤ 17) : LP [110, 117, 109, 98, 101, 114] (c :: u) := by
  have hcf := (by decide : ∀ c ∈ [49, 50, 51, 52, 53, 54, 55, 56, 57], c ∈ figL) c hc
  have h := piece_fig hcf (fun d hd => (by decide : ∀ d ∈ figL, d ∈ smallL ++ greatL ++ figL ++ [95]) d (hu d hd)) (by omega)
  rw [word_fig (s := c :: u) hcf, if_pos (fig_is hc hu hl)] at h
  exact .fine h (by decide)
theorem lp_zero : LP [110, 117, 109, 98, 101, 114] [48] := by
  have h := piece_fig (c := 48) (u := []) (by decide) (by decide) (by decide)
  exact .fine h (by decide)
theorem lp_word {s : List Nat} (h : s ∈ WORDS_l) : LP s s := by
  have h2 := (by decide : ∀ s ∈ WORDS_l, s.length ≤ 5 ∧ (s ≠ restL ∧ ∀ c ∈ s, c < 55296) ∧ s.headD 0 ∈ smallL ++ [95] ∧ ∀ c ∈ s, c ∈ smallL ++ figL ++ [95]) s h
  obtain ⟨c, u, rfl⟩ : ∃ c u, s = c :: u := by
    cases s with
    | nil => exact absurd rfl (words_head [] h).2.2.2
    | cons c u => exact ⟨c, u, rfl⟩
  have hp := piece_small (c := c) (u := u) h2.2.2.1 (fun d hd => h2.2.2.2 d (List.mem_cons_of_mem _ hd)) (by have := h2.1; rw [List.length_cons] at this; omega)
  rw [word_word h] at hp
  exact .fine hp h2.2.1
theorem lp_mark {s : List Nat} (h : s ∈ lmarks) : LP s s := by
  rcases (by decide : ∀ s ∈ lmarks, (s ≠ restL ∧ ∀ c ∈ s, c < 55296) ∧ (s ∈ LONG_MARKS_l ∨ s = [s.headD 0] ∧ s.headD 0 ∈ marksL)) s h with ⟨hr, h | ⟨h1, h2⟩⟩
  · exact .fine (piece_mark2 h) hr
  · rw [h1] at hr ⊢
    exact .fine (piece_mark1 h2) hr
theorem allL_ok : ∀ c ∈ allL, okc c = true ∧ c ≠ 34 := by decide
theorem lp_text {u : List Nat} (hu : ∀ c ∈ u, c ∈ allL) (hl : u.length ≤ 60) : LP [115, 116, 114, 105, 110, 103] (34 :: u ++ [34]) := by
  have h := piece_text (fun c hc => allL_ok c (hu c hc)) (show u.length ≤ 88 by omega)
  rw [if_pos hl] at h
  exact .fine h (by decide)
theorem lp_textN {u : List Nat} (hu : ∀ c ∈ u, c ∈ allL) (hl : 61 ≤ u.length) (hl2 : u.length ≤ 88) : LP [] (34 :: u ++ [34]) := by
  have h := piece_text (fun c hc => allL_ok c (hu c hc)) hl2
  rw [if_neg (by omega)] at h
  exact .fine h (by decide)
theorem lp_rest {u : List Nat} (hu : ∀ c ∈ u, c ∈ allL) (hl : u.length ≤ 88) : LP restL (34 :: u) := ⟨by decide, [], true, piece_rest (fun c hc => allL_ok c (hu c hc)) (by omega), .inr ⟨rfl, rfl, rfl⟩⟩
theorem lp_wild {c : Nat} {u : List Nat} (hc : c ∈ wildL) (hu : ∀ d ∈ u, d ∈ wildL) (hl : u.length ≤ 89) : LP [] (c :: u) := .fine (piece_wild (fun d hd => (List.mem_cons.mp hd).elim (fun e => e ▸ hc) (hu d)) hl) (by decide)
theorem lp_longN {c : Nat} {u : List Nat} (hc : c ∈ smallL ++ [95]) (hu : ∀ d ∈ u, d ∈ smallL ++ figL ++ [95]) (hl : 12 ≤ u.length) (hl2 : u.length ≤ 88) : LP [] (c :: u) := by
  have h := piece_small hc hu (by omega)
  rw [word_long (s := c :: u) (by rw [List.length_cons]; omega) ((by decide : ∀ c ∈ smallL ++ [95], c ∉ figL) c hc)] at h
  exact .fine h (by decide)
theorem lp_longG {c : Nat} {u : List Nat} (hc : c ∈ greatL) (hu : ∀ d ∈ u, d ∈ smallL ++ greatL ++ figL) (hl : 12 ≤ u.length) (hl2 : u.length ≤ 88) : LP [] (c :: u) := by
  have h := piece_great hc hu (by omega)
  rw [word_long (s := c :: u) (by rw [List.length_cons]; omega) ((by decide : ∀ c ∈ greatL, c ∉ figL) c hc)] at h
  exact .fine h (by decide)
theorem lp_figN {s : List Nat} (hc : s.headD 0 ∈ figL) (hu : ∀ d ∈ s, d ∈ smallL ++ greatL ++ figL ++ [95]) (hl : s.length ≤ 88) (hn : ¬ isFig s = true) : LP [] s := by
  obtain ⟨c, u, rfl⟩ : ∃ c u, s = c :: u := by
    cases s with
    | nil => exact absurd hc (by decide)
    | cons c u => exact ⟨c, u, rfl⟩
  have hc : c ∈ figL := hc
  have h := piece_fig hc (fun d hd => hu d (List.mem_cons_of_mem _ hd)) (by rw [List.length_cons] at hl; omega)
  rw [word_fig (s := c :: u) hc, if_neg hn] at h
  exact .fine h (by decide)
theorem ok_law_sign (T : Top K mg) : FnOk P w K mg base CX0 4 T.a_law_sign T.d_law_sign ["pool"] (SpD K F_law_sign) := by
  refine fn_ok T.law_sign.fn sc_law_sign (fun ds G R h => ?_) fun cdv A outer s H E hr => ⟨_, (pss_cons (ps_par3 (i := 1) (j := 2) (l := 3) rfl sc_law_sign.nd rfl rfl rfl (by decide) (by decide) (by decide) rfl rfl rfl (pa_cons (pe_call0 (ok_law_small T) (hr.mono (by decide)) (by rfl) T.law_small.mg T.law_small.fn.kp T.law_small.bd .nil pass0) (pa_cons (pe_call0 (ok_law_great T) (hr.mono (by decide)) (by rfl) T.law_great.mg T.law_great.fn.kp T.law_great.bd .nil pass0) (pa_cons pe_str pa_nil))) (by rfl))
  (pss_cons (ps_set (i := 4) sc_law_sign.nd rfl (Or.inl rfl) (pe_call (ok_law_pick T) (hr.mono (by decide)) (by rfl) T.law_pick.mg T.law_pick.fn.kp T.law_pick.bd .nil pass0 (pa_cons (pv 0) (pa_cons pe_int pa_nil))))
  (pss_cons (ps_if (pt_cmpR op_lt (pv 4) pe_int (nomark _))
   (pss_cons (ps_set (i := 5) sc_law_sign.nd rfl (Or.inl rfl) (pe_call (ok_law_run T) (hr.mono (by decide)) (by rfl) T.law_run.mg T.law_run.fn.kp T.law_run.bd .nil pass0 (pa_cons (pv 0) (pa_cons (pe_op op_add_str (pv 1) pe_str) (pa_cons (pe_op op_add_str (pe_op op_add_str (pv 1) (pv 3)) pe_str) (pa_cons (pe_ix (show IxR _ (rIxL K) from ix_list) (pe_lst (pa_cons pe_int (pa_cons pe_int (pa_cons pe_int (pa_cons pe_int (pa_cons pe_int (pa_cons pe_int (pa_cons pe_int pa_nil)))))))) (pe_call (ok_law_pick T) (hr.mono (by decide)) (by rfl) T.law_pick.mg T.law_pick.fn.kp T.law_pick.bd .nil pass0 (pa_cons (pv 0) (pa_cons pe_int pa_nil))) (fun _ _ => rfl)) pa_nil))))))
  (pss_one (ps_ret (pe_tup (pa_cons pe_str (pa_cons (pe_op op_add_str (pv 5) (pe_op op_mulS pe_str (pe_callTy call_int1 (by rfl) T.int (by decide +kernel) (pa_cons (pe_cmpR (show OpR _ _ (rIn K false) from op_in_seq) (pv 5) (pe_call0 (ok_law_words T) (hr.mono (by decide)) (by rfl) T.law_words.mg T.law_words.fn.kp T.law_words.bd .nil pass0) (by first | rfl | exact nomark _)) pa_nil)))) pa_nil))))))
   pss_nil)
  (pss_cons (ps_if (pt_cmpR op_eq (pv 4) pe_int (nomark _))
   (pss_one (ps_ret (pe_tup (pa_cons pe_str (pa_cons (pe_call (ok_law_run T) (hr.mono (by decide)) (by rfl) T.law_run.mg T.law_run.fn.kp T.law_run.bd .nil pass0 (pa_cons (pv 0) (pa_cons (pv 2) (pa_cons (pe_op op_add_str (pe_op op_add_str (pv 1) (pv 2)) (pv 3)) (pa_cons (pe_ix (show IxR _ (rIxL K) from ix_list) (pe_lst (pa_cons pe_int (pa_cons pe_int (pa_cons pe_int (pa_cons pe_int (pa_cons pe_int (pa_cons pe_int (pa_cons pe_int pa_nil)))))))) (pe_call (ok_law_pick T) (hr.mono (by decide)) (by rfl) T.law_pick.mg T.law_pick.fn.kp T.law_pick.bd .nil pass0 (pa_cons (pv 0) (pa_cons pe_int pa_nil))) (fun _ _ => rfl)) pa_nil))))) pa_nil)))))
   pss_nil)
  (pss_cons (ps_if (pt_cmpR op_eq (pv 4) pe_int (nomark _))
   (pss_cons (ps_if (pt_cmpR op_eq (pe_call (ok_law_pick T) (hr.mono (by decide)) (by rfl) T.law_pick.mg T.law_pick.fn.kp T.law_pick.bd .nil pass0 (pa_cons (pv 0) (pa_cons pe_int pa_nil))) pe_int (nomark _))
   (pss_one (ps_ret (pe_tup (pa_cons pe_str (pa_cons pe_str pa_nil)))))
   pss_nil)
  (pss_one (ps_ret (pe_tup (pa_cons pe_str (pa_cons (pe_call (ok_law_run T) (hr.mono (by decide)) (by rfl) T.law_run.mg T.law_run.fn.kp T.law_run.bd .nil pass0 (pa_cons (pv 0) (pa_cons pe_str (pa_cons (pv 3) (pa_cons (pe_ix (show IxR _ (rIxL K) from ix_list) (pe_lst (pa_cons pe_int (pa_cons pe_int (pa_cons pe_int (pa_cons pe_int (pa_cons pe_int (pa_cons pe_int pa_nil))))))) (pe_call (ok_law_pick T) (hr.mono (by decide)) (by rfl) T.law_pick.mg T.law_pick.fn.kp T.law_pick.bd .nil pass0 (pa_cons (pv 0) (pa_cons pe_int pa_nil))) (fun _ _ => rfl)) pa_nil))))) pa_nil))))))
   pss_nil)
  (pss_cons (ps_if (pt_cmpR op_eq (pv 4) pe_int (nomark _))
   (pss_cons (ps_set (i := 6) sc_law_sign.nd rfl (Or.inl rfl) (pe_ix (show IxR _ (rIxL K) from ix_list) (pe_lst (pa_cons pe_int (pa_cons pe_int (pa_cons pe_int (pa_cons pe_int (pa_cons pe_int (pa_cons pe_int pa_nil))))))) (pe_call (ok_law_pick T) (hr.mono (by decide)) (by rfl) T.law_pick.mg T.law_pick.fn.kp T.law_pick.bd .nil pass0 (pa_cons (pv 0) (pa_cons pe_int pa_nil))) (fun _ _ => rfl)))
  (pss_one (ps_ret (pe_tup (pa_cons pe_str (pa_cons (pe_op op_add_str (pe_op op_add_str pe_str (pe_join pe_str (pe_lc (own := [("k", 8)]) rfl sc_law_sign.nd (pi_range1 rfl T.range (pa_cons (pv 6) pa_nil)) (blkOk_by (N := ["pool", "small", "great", "figures", "way", "string", "many", "word", "k"]) (sc := defScope s_law_sign) (by decide +kernel)) (fun _ _ _ _ _ => (pg_name (i := 8) sc_law_sign.nd rfl (Or.inl rfl))) (fun _ _ _ _ _ => pts_nil) (fun _ _ _ _ _ => (pe_call (ok_law_of T) (hr.mono (by decide)) (by rfl) T.law_of.mg T.law_of.fn.kp T.law_of.bd .nil pass0 (pa_cons (pv 0) (pa_cons (pe_call0 (ok_law_all T) (hr.mono (by decide)) (by rfl) T.law_all.mg T.law_all.fn.kp T.law_all.bd .nil pass0) pa_nil))))))) pe_str) pa_nil))))))
   pss_nil)
  (pss_cons (ps_if (pt_cmpR op_lt (pv 4) pe_int (nomark _))
   (pss_one (ps_set (i := 7) sc_law_sign.nd rfl (Or.inl rfl) (pe_ix (show IxR _ (rIxL K) from ix_list) (pe_call0 (ok_law_marks T) (hr.mono (by decide)) (by rfl) T.law_marks.mg T.law_marks.fn.kp T.law_marks.bd .nil pass0) (pe_call (ok_law_pick T) (hr.mono (by decide)) (by rfl) T.law_pick.mg T.law_pick.fn.kp T.law_pick.bd .nil pass0 (pa_cons (pv 0) (pa_cons pe_int pa_nil))) (fun _ _ => rfl))))
   (pss_one (ps_set (i := 7) sc_law_sign.nd rfl (Or.inl rfl) (pe_ix (show IxR _ (rIxL K) from ix_list) (pe_call0 (ok_law_words T) (hr.mono (by decide)) (by rfl) T.law_words.mg T.law_words.fn.kp T.law_words.bd .nil pass0) (pe_call (ok_law_pick T) (hr.mono (by decide)) (by rfl) T.law_pick.mg T.law_pick.fn.kp T.law_pick.bd .nil pass0 (pa_cons (pv 0) (pa_cons pe_int pa_nil))) (fun _ _ => rfl)))))
  (pss_one (ps_ret (pe_tup (pa_cons (pv 7) (pa_cons (pv 7) pa_nil)))))))))))), fun ds G R hF => ?_⟩
  · obtain ⟨k, ns, rfl, _⟩ := h
    rfl
  · obtain ⟨k, ns, rfl, hk, hP, q⟩ := hF
    have hkl := (List.getElem?_eq_some_iff.mp hk).1
    walk_at "go"
    change WS K _ [some _, none, none, none, none, none, none, none, none] _ _
    walk_at "ww"
    refine ⟨rfl, ?_⟩
    walk_at "ww"
    refine ⟨rfl, ?_⟩
    walk_at "ww"
    refine ⟨k, ns, 9, rfl, by decide, hk, hP, fun z ns1 z0 z1 hP1 => ?_⟩
    walk_at "ww"
    refine ite_P (fun h1 => ?_) (fun h1 => ?_)
    · walk_at "ww"
      · walk_at "cold"
        refine ⟨k, ns1, 7, rfl, by decide, pk0 hkl, hP1, fun y ns2 y0 y1 hP2 => ?_⟩
        rw [List.set_set]
        walk_at "ww"
        obtain ⟨m, hm, em⟩ := lit_get (enc := fun n : Nat => D.int n) (l := [1, 1, 2, 3, 7, 11, 12]) y0 y1
        have hm := (by decide : ∀ m ∈ [1, 1, 2, 3, 7, 11, 12], 1 ≤ m ∧ m ≤ 12) m hm
        refine rd_ixL isR em ?_
        walk_at "ww"
        refine ⟨k, ns2, _, _, m, rfl, by decide, by decide, by decide, by decide, hm.1, by omega, pk0 hkl, hP2, fun c u ns3 hc hu hul hP3 => ?_⟩
        rw [List.set_set]
        walk_at "ww"
        refine ⟨rfl, ?_⟩
        walk_at "ww"
        refine rd_inQ isQ ?_
        rw [if_neg (by decide)]
        walk_at "ww"
        by_cases hw : c :: u ∈ WORDS_l
        · rw [decide_eq_true hw]
          refine rd_mulT (l := [95]) (n := 1) (by decide) (by decide) ?_
          walk_at "ww"
          · have hl5 := (words_head _ hw).2.1
            rw [List.length_cons] at hl5
            rw [show (c :: u ++ (List.replicate 1 [95]).flatten) = c :: (u ++ [95]) by simp]
            refine .inl (q [110, 97, 109, 101] (c :: (u ++ [95])) ns3 (lp_name hc (fun d hd => ?_) ?_ fun z => (words_head _ z).2.2.1 (by simp)) hP3)
            · rcases List.mem_append.mp hd with h | h
              · exact hu d h
              · rw [List.mem_singleton.mp h]; decide
            · rw [List.length_append, List.length_singleton]
              omega
          · show (c :: u).length + 1 ≤ 100000
            rw [List.length_cons]
            omega
        · rw [decide_eq_false hw]
          refine rd_mulT (l := [95]) (n := 0) (by decide) (by decide) ?_
          walk_at "ww"
          · have e : (c :: u) ++ (List.replicate 0 [95]).flatten = c :: u := by simp
            rw [e]
            exact .inl (q [110, 97, 109, 101] (c :: u) ns3 (lp_name hc hu (by omega) hw) hP3)
          · show (c :: u).length + 0 ≤ 100000
            rw [List.length_cons]
            omega
      all_goals decide
    · walk_at "ww"
      refine ite_P (fun h2 => ?_) (fun h2 => ?_)
      · walk_at "ww"
        · walk_at "cold"
          refine ⟨k, ns1, 7, rfl, by decide, pk0 hkl, hP1, fun y ns2 y0 y1 hP2 => ?_⟩
          rw [List.set_set]
          walk_at "ww"
          obtain ⟨m, hm, em⟩ := lit_get (enc := fun n : Nat => D.int n) (l := [1, 1, 2, 3, 7, 11, 12]) y0 y1
          have hm := (by decide : ∀ m ∈ [1, 1, 2, 3, 7, 11, 12], 1 ≤ m ∧ m ≤ 12) m hm
          refine rd_ixL isR em ?_
          walk_at "ww"
          refine ⟨k, ns2, _, _, m, rfl, by decide, by decide, by decide, by decide, hm.1, by omega, pk0 hkl, hP2, fun c u ns3 hc hu hul hP3 => ?_⟩
          rw [List.set_set]
          walk_at "ww"
          exact .inl (q _ _ ns3 (lp_great hc hu (by omega)) hP3)
        all_goals decide
      · walk_at "ww"
        refine ite_P (fun h3 => ?_) (fun h3 => ?_)
        · walk_at "ww"
          refine ⟨k, ns1, 4, rfl, by decide, pk0 hkl, hP1, fun y ns2 y0 y1 hP2 => ?_⟩
          rw [List.set_set]
          walk_at "ww"
          refine ite_P (fun h4 => ?_) (fun h4 => ?_)
          · walk_at "ww"
            exact .inl (q _ _ ns2 lp_zero hP2)
          · walk_at "ww"
            walk_at "cold"
            refine ⟨k, ns2, 6, rfl, by decide, pk0 hkl, hP2, fun y ns3 y0 y1 hP3 => ?_⟩
            rw [List.set_set]
            walk_at "ww"
            obtain ⟨m, hm, em⟩ := lit_get (enc := fun n : Nat => D.int n) (l := [1, 2, 3, 9, 17, 18]) y0 y1
            have hm := (by decide : ∀ m ∈ [1, 2, 3, 9, 17, 18], 1 ≤ m ∧ m ≤ 18) m hm
            refine rd_ixL isR em ?_
            walk_at "ww"
            refine ⟨k, ns3, _, _, m, rfl, by decide, by decide, by decide, by decide, hm.1, by omega, pk0 hkl, hP3, fun c u ns4 hc hu hul hP4 => ?_⟩
            rw [List.set_set]
            walk_at "ww"
            exact .inl (q _ _ ns4 (lp_fig hc hu (by omega)) hP4)
        · walk_at "ww"
          refine ite_P (fun h4 => ?_) (fun h4 => ?_)
          · walk_at "ww"
            walk_at "cold"
            refine ⟨k, ns1, 6, rfl, by decide, pk0 hkl, hP1, fun y ns2 y0 y1 hP2 => ?_⟩
            rw [List.set_set]
            walk_at "ww"
            obtain ⟨m, hm, em⟩ := lit_get (enc := fun n : Nat => D.int n) (l := [0, 1, 2, 5, 59, 60]) y0 y1
            have hm := (by decide : ∀ m ∈ [0, 1, 2, 5, 59, 60], m ≤ 60) m hm
            refine rd_ixL isR em ?_
            walk_at "ww"
            refine we_ofs (k := k) (G0 := G) (s := allL) (by decide) (fun ns d hP => ?_) (wi_rng1 ?_)
            · walk_at "ww"
              refine ⟨rfl, ?_⟩
              walk_at "ww"
              refine ⟨k, ns, allL, rfl, by decide, by decide, pk0 hkl, hP, fun c ns' hc hP' => ?_⟩
              rw [List.set_set]
              exact ⟨c, ns', hc, rfl, hP', rfl⟩
            · walk_at "ww"
              refine ⟨_, rfl, by omega, by omega, m, ns2, by omega, by rw [rgD_len]; omega, fun _ => trivial, rfl, hP2, fun u ns' hu hs hP' => ?_⟩
              refine rm_joinC (by omega) ?_
              walk_at "ww"
              · exact .inl (q _ _ ns' (lp_text (u := u) hs (by omega)) hP')
              all_goals (simp; omega)
          · walk_at "ww"
            refine ite_P (fun h5 => ?_) (fun h5 => ?_)
            · walk_at "ww"
              refine ⟨rfl, ?_⟩
              walk_at "ww"
              refine ⟨k, ns1, 16, rfl, by decide, pk0 hkl, hP1, fun y ns2 y0 y1 hP2 => ?_⟩
              rw [List.set_set]
              walk_at "ww"
              obtain ⟨m, hm, em⟩ := lit_get (enc := fun l : List Nat => D.str (S l)) (l := lmarks) y0 y1
              refine rd_ixL isR em ?_
              walk_at "ww"
              exact .inl (q _ _ ns2 (lp_mark hm) hP2)
            · walk_at "ww"
              refine ⟨rfl, ?_⟩
              walk_at "ww"
              refine ⟨k, ns1, 19, rfl, by decide, pk0 hkl, hP1, fun y ns2 y0 y1 hP2 => ?_⟩
              rw [List.set_set]
              walk_at "ww"
              obtain ⟨m, hm, em⟩ := lit_get (enc := fun l : List Nat => D.str (S l)) (l := WORDS_l) y0 y1
              refine rd_ixL isR em ?_
              walk_at "ww"
              exact .inl (q _ _ ns2 (lp_word hm) hP2)
theorem ok_law_none (T : Top K mg) : FnOk P w K mg base CX0 4 T.a_law_none T.d_law_none ["pool"] (SpD K F_law_sign) := by
  refine fn_ok T.law_none.fn sc_law_none (fun ds G R h => ?_) fun cdv A outer s H E hr => ⟨_, (pss_cons (ps_par3 (i := 1) (j := 2) (l := 3) rfl sc_law_none.nd rfl rfl rfl (by decide) (by decide) (by decide) rfl rfl rfl (pa_cons (pe_call0 (ok_law_small T) (hr.mono (by decide)) (by rfl) T.law_small.mg T.law_small.fn.kp T.law_small.bd .nil pass0) (pa_cons (pe_call0 (ok_law_great T) (hr.mono (by decide)) (by rfl) T.law_great.mg T.law_great.fn.kp T.law_great.bd .nil pass0) (pa_cons pe_str pa_nil))) (by rfl))
  (pss_cons (ps_par (i := 4) (j := 5) rfl sc_law_none.nd rfl rfl (by decide) rfl rfl (pa_cons (pe_call (ok_law_pick T) (hr.mono (by decide)) (by rfl) T.law_pick.mg T.law_pick.fn.kp T.law_pick.bd .nil pass0 (pa_cons (pv 0) (pa_cons pe_int pa_nil))) (pa_cons (pe_ix (show IxR _ (rIxL K) from ix_list) (pe_lst (pa_cons pe_int (pa_cons pe_int (pa_cons pe_int (pa_cons pe_int pa_nil))))) (pe_call (ok_law_pick T) (hr.mono (by decide)) (by rfl) T.law_pick.mg T.law_pick.fn.kp T.law_pick.bd .nil pass0 (pa_cons (pv 0) (pa_cons pe_int pa_nil))) (fun _ _ => rfl)) pa_nil)) (by rfl))
  (pss_cons (ps_if (pt_cmpR op_eq (pv 4) pe_int (nomark _))
   (pss_one (ps_ret (pe_tup (pa_cons pe_str (pa_cons (pe_call (ok_law_run T) (hr.mono (by decide)) (by rfl) T.law_run.mg T.law_run.fn.kp T.law_run.bd .nil pass0 (pa_cons (pv 0) (pa_cons (pe_op op_add_str (pv 1) pe_str) (pa_cons (pe_op op_add_str (pe_op op_add_str (pv 1) (pv 3)) pe_str) (pa_cons (pv 5) pa_nil))))) pa_nil)))))
   pss_nil)
  (pss_cons (ps_if (pt_cmpR op_eq (pv 4) pe_int (nomark _))
   (pss_one (ps_ret (pe_tup (pa_cons pe_str (pa_cons (pe_call (ok_law_run T) (hr.mono (by decide)) (by rfl) T.law_run.mg T.law_run.fn.kp T.law_run.bd .nil pass0 (pa_cons (pv 0) (pa_cons (pv 2) (pa_cons (pe_op op_add_str (pe_op op_add_str (pv 1) (pv 2)) (pv 3)) (pa_cons (pv 5) pa_nil))))) pa_nil)))))
   pss_nil)
  (pss_cons (ps_if (pt_cmpR op_eq (pv 4) pe_int (nomark _))
   (pss_cons (ps_set (i := 6) sc_law_none.nd rfl (Or.inl rfl) (pe_lst (pa_cons pe_str (pa_cons pe_str (pa_cons pe_str (pa_cons (pe_call (ok_law_run T) (hr.mono (by decide)) (by rfl) T.law_run.mg T.law_run.fn.kp T.law_run.bd .nil pass0 (pa_cons (pv 0) (pa_cons (pe_op op_add_str (pe_op op_add_str (pv 1) (pv 2)) pe_str) (pa_cons (pe_op op_add_str (pe_op op_add_str (pe_op op_add_str (pv 1) (pv 2)) (pv 3)) pe_str) (pa_cons (pe_op op_add pe_int (pe_call (ok_law_pick T) (hr.mono (by decide)) (by rfl) T.law_pick.mg T.law_pick.fn.kp T.law_pick.bd .nil pass0 (pa_cons (pv 0) (pa_cons pe_int pa_nil)))) pa_nil))))) pa_nil))))))
  (pss_one (ps_ret (pe_tup (pa_cons pe_str (pa_cons (pe_op op_add_str pe_str (pe_ix (show IxR _ (rIxL K) from ix_list) (pv 6) (pe_call (ok_law_pick T) (hr.mono (by decide)) (by rfl) T.law_pick.mg T.law_pick.fn.kp T.law_pick.bd .nil pass0 (pa_cons (pv 0) (pa_cons pe_int pa_nil))) (fun _ _ => rfl))) pa_nil))))))
   pss_nil)
  (pss_cons (ps_if (pt_cmpR op_eq (pv 4) pe_int (nomark _))
   (pss_cons (ps_set (i := 7) sc_law_none.nd rfl (Or.inl rfl) (pe_call (ok_law_run T) (hr.mono (by decide)) (by rfl) T.law_run.mg T.law_run.fn.kp T.law_run.bd .nil pass0 (pa_cons (pv 0) (pa_cons pe_str (pa_cons (pv 3) (pa_cons (pe_ix (show IxR _ (rIxL K) from ix_list) (pe_lst (pa_cons pe_int (pa_cons pe_int (pa_cons pe_int (pa_cons pe_int (pa_cons pe_int pa_nil)))))) (pe_call (ok_law_pick T) (hr.mono (by decide)) (by rfl) T.law_pick.mg T.law_pick.fn.kp T.law_pick.bd .nil pass0 (pa_cons (pv 0) (pa_cons pe_int pa_nil))) (fun _ _ => rfl)) pa_nil))))))
  (pss_cons (ps_if (PW.pt (pw_and (pt_cmpR op_eq (pe_callB call_len_str (by rfl) T.len (by decide +kernel) (pa_cons (pv 7) pa_nil)) pe_int (nomark _)) (pw_and1 (pt_cmpR op_eq (pe_call (ok_law_pick T) (hr.mono (by decide)) (by rfl) T.law_pick.mg T.law_pick.fn.kp T.law_pick.bd .nil pass0 (pa_cons (pv 0) (pa_cons pe_int pa_nil))) pe_int (nomark _)))))
   (pss_one (ps_ret (pe_tup (pa_cons pe_str (pa_cons (pe_op op_add_str (pv 7) (pe_call (ok_law_of T) (hr.mono (by decide)) (by rfl) T.law_of.mg T.law_of.fn.kp T.law_of.bd .nil pass0 (pa_cons (pv 0) (pa_cons (pv 3) pa_nil)))) pa_nil)))))
   pss_nil)
  (pss_one (ps_ret (pe_tup (pa_cons pe_str (pa_cons (pe_op op_add_str (pv 7) (pe_call (ok_law_run T) (hr.mono (by decide)) (by rfl) T.law_run.mg T.law_run.fn.kp T.law_run.bd .nil pass0 (pa_cons (pv 0) (pa_cons (pe_op op_add_str (pe_op op_add_str (pv 1) (pv 2)) pe_str) (pa_cons (pe_op op_add_str (pe_op op_add_str (pe_op op_add_str (pv 1) (pv 2)) (pv 3)) pe_str) (pa_cons (pe_op op_add pe_int (pe_call (ok_law_pick T) (hr.mono (by decide)) (by rfl) T.law_pick.mg T.law_pick.fn.kp T.law_pick.bd .nil pass0 (pa_cons (pv 0) (pa_cons pe_int pa_nil)))) pa_nil)))))) pa_nil)))))))
   pss_nil)
  (pss_cons (ps_if (pt_cmpR op_eq (pv 4) pe_int (nomark _))
   (pss_one (ps_ret (pe_tup (pa_cons pe_str (pa_cons (pe_op op_add_str (pe_op op_add_str pe_str (pe_join pe_str (pe_lc (own := [("k", 8)]) rfl sc_law_none.nd (pi_range1 rfl T.range (pa_cons (pe_ix (show IxR _ (rIxL K) from ix_list) (pe_lst (pa_cons pe_int (pa_cons pe_int (pa_cons pe_int (pa_cons pe_int pa_nil))))) (pe_call (ok_law_pick T) (hr.mono (by decide)) (by rfl) T.law_pick.mg T.law_pick.fn.kp T.law_pick.bd .nil pass0 (pa_cons (pv 0) (pa_cons pe_int pa_nil))) (fun _ _ => rfl)) pa_nil)) (blkOk_by (N := ["pool", "small", "great", "figures", "way", "many", "tails", "string", "k"]) (sc := defScope s_law_none) (by decide +kernel)) (fun _ _ _ _ _ => (pg_name (i := 8) sc_law_none.nd rfl (Or.inl rfl))) (fun _ _ _ _ _ => pts_nil) (fun _ _ _ _ _ => (pe_call (ok_law_of T) (hr.mono (by decide)) (by rfl) T.law_of.mg T.law_of.fn.kp T.law_of.bd .nil pass0 (pa_cons (pv 0) (pa_cons (pe_call0 (ok_law_all T) (hr.mono (by decide)) (by rfl) T.law_all.mg T.law_all.fn.kp T.law_all.bd .nil pass0) pa_nil))))))) pe_str) pa_nil)))))
   pss_nil)
  (pss_cons (ps_if (pt_cmpR op_eq (pv 4) pe_int (nomark _))
   (pss_one (ps_ret (pe_tup (pa_cons pe_str (pa_cons (pe_op op_add_str pe_str (pe_join pe_str (pe_lc (own := [("k", 8)]) rfl sc_law_none.nd (pi_range1 rfl T.range (pa_cons (pe_call (ok_law_pick T) (hr.mono (by decide)) (by rfl) T.law_pick.mg T.law_pick.fn.kp T.law_pick.bd .nil pass0 (pa_cons (pv 0) (pa_cons pe_int pa_nil))) pa_nil)) (blkOk_by (N := ["pool", "small", "great", "figures", "way", "many", "tails", "string", "k"]) (sc := defScope s_law_none) (by decide +kernel)) (fun _ _ _ _ _ => (pg_name (i := 8) sc_law_none.nd rfl (Or.inl rfl))) (fun _ _ _ _ _ => pts_nil) (fun _ _ _ _ _ => (pe_call (ok_law_of T) (hr.mono (by decide)) (by rfl) T.law_of.mg T.law_of.fn.kp T.law_of.bd .nil pass0 (pa_cons (pv 0) (pa_cons (pe_call0 (ok_law_all T) (hr.mono (by decide)) (by rfl) T.law_all.mg T.law_all.fn.kp T.law_all.bd .nil pass0) pa_nil))))))) pa_nil)))))
   pss_nil)
  (pss_one (ps_ret (pe_tup (pa_cons pe_str (pa_cons (pe_call (ok_law_run T) (hr.mono (by decide)) (by rfl) T.law_run.mg T.law_run.fn.kp T.law_run.bd .nil pass0 (pa_cons (pv 0) (pa_cons (pe_call0 (ok_law_wild T) (hr.mono (by decide)) (by rfl) T.law_wild.mg T.law_wild.fn.kp T.law_wild.bd .nil pass0) (pa_cons (pe_call0 (ok_law_wild T) (hr.mono (by decide)) (by rfl) T.law_wild.mg T.law_wild.fn.kp T.law_wild.bd .nil pass0) (pa_cons (pe_op op_add pe_int (pe_call (ok_law_pick T) (hr.mono (by decide)) (by rfl) T.law_pick.mg T.law_pick.fn.kp T.law_pick.bd .nil pass0 (pa_cons (pv 0) (pa_cons pe_int pa_nil)))) pa_nil))))) pa_nil))))))))))))), fun ds G R hF => ?_⟩
  · obtain ⟨k, ns, rfl, _⟩ := h
    rfl
  · obtain ⟨k, ns, rfl, hk, hP, q⟩ := hF
    have hkl := (List.getElem?_eq_some_iff.mp hk).1
    walk_at "go"
    change WS K _ [some _, none, none, none, none, none, none, none, none] _ _
    walk_at "ww"
    refine ⟨rfl, ?_⟩
    walk_at "ww"
    refine ⟨rfl, ?_⟩
    walk_at "ww"
    refine ⟨k, ns, 7, rfl, by decide, hk, hP, fun z ns1 z0 z1 hP1 => ?_⟩
    walk_at "ww"
    walk_at "cold"
    refine ⟨k, ns1, 4, rfl, by decide, pk0 hkl, hP1, fun y ns2 y0 y1 hP2 => ?_⟩
    rw [List.set_set]
    walk_at "ww"
    obtain ⟨m, hm, em⟩ := lit_get (enc := fun n : Nat => D.int n) (l := [13, 13, 14, 30]) y0 y1
    have hm := (by decide : ∀ m ∈ [13, 13, 14, 30], 13 ≤ m ∧ m ≤ 30) m hm
    refine rd_ixL isR em ?_
    walk_at "ww"
    refine ite_P (fun h1 => ?_) (fun h1 => ?_)
    · walk_at "ww"
      · refine ⟨k, ns2, _, _, m, rfl, by decide, by decide, by decide, by decide, by omega, by omega, pk0 hkl, hP2, fun c u ns3 hc hu hul hP3 => ?_⟩
        rw [List.set_set]
        walk_at "ww"
        exact .inl (q _ _ ns3 (lp_longN hc hu (by omega) (by omega)) hP3)
      all_goals decide
    · walk_at "ww"
      refine ite_P (fun h2 => ?_) (fun h2 => ?_)
      · walk_at "ww"
        · refine ⟨k, ns2, _, _, m, rfl, by decide, by decide, by decide, by decide, by omega, by omega, pk0 hkl, hP2, fun c u ns3 hc hu hul hP3 => ?_⟩
          rw [List.set_set]
          walk_at "ww"
          exact .inl (q _ _ ns3 (lp_longG hc hu (by omega) (by omega)) hP3)
        all_goals decide
      · walk_at "ww"
        refine ite_P (fun h3 => ?_) (fun h3 => ?_)
        · walk_at "ww"
          · refine ⟨k, ns2, 20, rfl, by decide, pk0 hkl, hP2, fun x ns3 x0 x1 hP3 => ?_⟩
            rw [List.set_set]
            walk_at "ww"
            refine ⟨k, ns3, _, _, (1 + x).toNat, by rw [show (((1 + x).toNat : Nat) : Int) = 1 + x by omega], by decide, by decide, by decide, by decide, by omega, by omega, pk0 hkl, hP3, fun c u ns4 hc hu hul hP4 => ?_⟩
            rw [List.set_set]
            walk_at "ww"
            walk_at "cold"
            refine ⟨k, ns4, 4, rfl, by decide, pk0 hkl, hP4, fun v ns5 v0 v1 hP5 => ?_⟩
            rw [List.set_set]
            walk_at "ww"
            obtain ⟨tl, htl, et⟩ := lit_get (enc := fun l : List Nat => D.str (S l)) (l := [[48], [55], [48, 49], c :: u]) v0 v1
            have ha : ∀ d ∈ c :: u, d ∈ smallL ++ greatL ++ figL ++ [95] := fun d hd => (List.mem_cons.mp hd).elim (fun e => e ▸ (by decide : ∀ c ∈ smallL ++ greatL ++ [95], c ∈ smallL ++ greatL ++ figL ++ [95]) c hc) (hu d)
            have htl2 : tl ≠ [] ∧ tl.length ≤ 30 ∧ ∀ d ∈ tl, d ∈ smallL ++ greatL ++ figL ++ [95] := by
              rcases List.mem_cons.mp htl with h | h
              · rw [h]; decide
              · rcases List.mem_cons.mp h with h | h
                · rw [h]; decide
                · rcases List.mem_cons.mp h with h | h
                  · rw [h]; decide
                  · rw [List.mem_singleton.mp h]
                    exact ⟨List.cons_ne_nil _ _, by rw [List.length_cons]; omega, ha⟩
            refine rd_ixL isR et ?_
            walk_at "ww"
            · refine .inl (q [] (48 :: tl) ns5 (lp_figN (show (48 : Nat) ∈ figL by decide) (fun d hd => ?_) (by rw [List.length_cons]; omega) (fig_not (.inr (.inr ⟨rfl, fun z => htl2.1 (by injection z)⟩)))) hP5)
              rcases List.mem_cons.mp hd with h | h
              · rw [h]; decide
              · exact htl2.2.2 d h
            · show 1 + tl.length ≤ 100000
              omega
          all_goals decide
        · walk_at "ww"
          refine ite_P (fun h4 => ?_) (fun h4 => ?_)
          · walk_at "ww"
            walk_at "cold"
            refine ⟨k, ns2, 5, rfl, by decide, pk0 hkl, hP2, fun x ns3 x0 x1 hP3 => ?_⟩
            rw [List.set_set]
            walk_at "ww"
            obtain ⟨j, hj, ej⟩ := lit_get (enc := fun n : Nat => D.int n) (l := [1, 2, 12, 18, 18]) x0 x1
            have hj := (by decide : ∀ m ∈ [1, 2, 12, 18, 18], 1 ≤ m ∧ m ≤ 18) j hj
            refine rd_ixL isR ej ?_
            walk_at "ww"
            refine ⟨k, ns3, _, _, j, rfl, by decide, by decide, by decide, by decide, by omega, by omega, pk0 hkl, hP3, fun c u ns4 hc hu hul hP4 => ?_⟩
            rw [List.set_set]
            have hcf := (by decide : ∀ c ∈ [49, 50, 51, 52, 53, 54, 55, 56, 57], c ∈ figL) c hc
            have hall : ∀ d ∈ c :: u, d ∈ smallL ++ greatL ++ figL ++ [95] := fun d hd => (by decide : ∀ d ∈ figL, d ∈ smallL ++ greatL ++ figL ++ [95]) d ((List.mem_cons.mp hd).elim (fun e => e ▸ hcf) (hu d))
            walk_at "ww"
            · rw [List.length_cons, hul]
              refine ite_P (fun h5 => ?_) (fun h5 => ?_)
              · walk_at "ww"
                refine ⟨k, ns4, 2, rfl, by decide, pk0 hkl, hP4, fun v ns5 v0 v1 hP5 => ?_⟩
                rw [List.set_set]
                walk_at "ww"
                refine ite_P (fun h6 => ?_) (fun h6 => ?_)
                · walk_at "ww"
                  refine ⟨k, ns5, figL, rfl, by decide, by decide, pk0 hkl, hP5, fun c2 ns6 hc2 hP6 => ?_⟩
                  rw [List.set_set]
                  walk_at "ww"
                  · refine .inl (q [] ((c :: u) ++ [c2]) ns6 (lp_figN hcf (fun d hd => ?_) (by rw [List.length_append, List.length_cons, List.length_singleton]; omega) (fig_not (.inl (by rw [List.length_append, List.length_cons, List.length_singleton]; omega)))) hP6)
                    rcases List.mem_append.mp hd with h | h
                    · exact hall d h
                    · rw [List.mem_singleton.mp h]
                      exact (by decide : ∀ d ∈ figL, d ∈ smallL ++ greatL ++ figL ++ [95]) c2 hc2
                  · rw [List.length_cons, List.length_singleton]
                    omega
                · walk_at "ww"
                  · refine ⟨k, ns5, 20, rfl, by decide, pk0 hkl, hP5, fun v ns6 v0 v1 hP6 => ?_⟩
                    rw [List.set_set]
                    walk_at "ww"
                    refine ⟨k, ns6, _, _, (1 + v).toNat, by rw [show (((1 + v).toNat : Nat) : Int) = 1 + v by omega], by decide, by decide, by decide, by decide, by omega, by omega, pk0 hkl, hP6, fun c2 u2 ns7 hc2 hu2 hul2 hP7 => ?_⟩
                    rw [List.set_set]
                    walk_at "ww"
                    · have hc3 := (by decide : ∀ c ∈ smallL ++ greatL ++ [95], c ∈ smallL ++ greatL ++ figL ++ [95] ∧ c ∉ figL) c2 hc2
                      refine .inl (q [] ((c :: u) ++ (c2 :: u2)) ns7 (lp_figN hcf (fun d hd => ?_) (by rw [List.length_append, List.length_cons, List.length_cons]; omega) (fig_not (.inr (.inl ⟨c2, List.mem_append_right _ List.mem_cons_self, hc3.2⟩)))) hP7)
                      rcases List.mem_append.mp hd with h | h
                      · exact hall d h
                      · exact (List.mem_cons.mp h).elim (fun e => e ▸ hc3.1) (hu2 d)
                    · rw [List.length_cons, List.length_cons]
                      omega
                  all_goals decide
              · walk_at "ww"
                · refine ⟨k, ns4, 20, rfl, by decide, pk0 hkl, hP4, fun v ns6 v0 v1 hP6 => ?_⟩
                  rw [List.set_set]
                  walk_at "ww"
                  refine ⟨k, ns6, _, _, (1 + v).toNat, by rw [show (((1 + v).toNat : Nat) : Int) = 1 + v by omega], by decide, by decide, by decide, by decide, by omega, by omega, pk0 hkl, hP6, fun c2 u2 ns7 hc2 hu2 hul2 hP7 => ?_⟩
                  rw [List.set_set]
                  walk_at "ww"
                  · have hc3 := (by decide : ∀ c ∈ smallL ++ greatL ++ [95], c ∈ smallL ++ greatL ++ figL ++ [95] ∧ c ∉ figL) c2 hc2
                    refine .inl (q [] ((c :: u) ++ (c2 :: u2)) ns7 (lp_figN hcf (fun d hd => ?_) (by rw [List.length_append, List.length_cons, List.length_cons]; omega) (fig_not (.inr (.inl ⟨c2, List.mem_append_right _ List.mem_cons_self, hc3.2⟩)))) hP7)
                    rcases List.mem_append.mp hd with h | h
                    · exact hall d h
                    · exact (List.mem_cons.mp h).elim (fun e => e ▸ hc3.1) (hu2 d)
                  · rw [List.length_cons, List.length_cons]
                    omega
                all_goals decide
            · rw [List.length_cons]
              omega
          · walk_at "ww"
            refine ite_P (fun h5 => ?_) (fun h5 => ?_)
            · walk_at "ww"
              refine we_ofs (k := k) (G0 := G) (s := allL) (by decide) (fun ns d hP => ?_) (wi_rng1 ?_)
              · walk_at "ww"
                refine ⟨rfl, ?_⟩
                walk_at "ww"
                refine ⟨k, ns, allL, rfl, by decide, by decide, pk0 hkl, hP, fun c ns' hc hP' => ?_⟩
                rw [List.set_set]
                exact ⟨c, ns', hc, rfl, hP', rfl⟩
              · walk_at "ww"
                walk_at "cold"
                refine ⟨k, ns2, 4, rfl, by decide, pk0 hkl, hP2, fun x ns3 x0 x1 hP3 => ?_⟩
                rw [List.set_set]
                walk_at "ww"
                obtain ⟨j, hj, ej⟩ := lit_get (enc := fun n : Nat => D.int n) (l := [61, 61, 62, 80]) x0 x1
                have hj := (by decide : ∀ m ∈ [61, 61, 62, 80], 61 ≤ m ∧ m ≤ 80) j hj
                refine rd_ixL isR ej ?_
                walk_at "ww"
                refine ⟨_, rfl, by omega, by omega, j, ns3, by omega, by rw [rgD_len]; omega, fun _ => trivial, rfl, hP3, fun u ns' hu hs hP' => ?_⟩
                refine rm_joinC (by omega) ?_
                walk_at "ww"
                · exact .inl (q _ _ ns' (lp_textN (u := u) hs (by omega) (by omega)) hP')
                all_goals (simp; omega)
            · walk_at "ww"
              refine ite_P (fun h6 => ?_) (fun h6 => ?_)
              · walk_at "ww"
                refine we_ofs (k := k) (G0 := G) (s := allL) (by decide) (fun ns d hP => ?_) (wi_rng1 ?_)
                · walk_at "ww"
                  refine ⟨rfl, ?_⟩
                  walk_at "ww"
                  refine ⟨k, ns, allL, rfl, by decide, by decide, pk0 hkl, hP, fun c ns' hc hP' => ?_⟩
                  rw [List.set_set]
                  exact ⟨c, ns', hc, rfl, hP', rfl⟩
                · walk_at "ww"
                  refine ⟨k, ns2, 20, rfl, by decide, pk0 hkl, hP2, fun x ns3 x0 x1 hP3 => ?_⟩
                  rw [List.set_set]
                  walk_at "ww"
                  refine ⟨_, rfl, by omega, by omega, x.toNat, ns3, by omega, by rw [rgD_len], fun _ => trivial, rfl, hP3, fun u ns' hu hs hP' => ?_⟩
                  refine rm_joinC (by omega) ?_
                  walk_at "ww"
                  · exact .inl (q _ _ ns' (lp_rest (u := u) hs (by omega)) hP')
                  all_goals (simp; omega)
              · walk_at "ww"
                refine ⟨rfl, ?_⟩
                walk_at "ww"
                refine ⟨rfl, ?_⟩
                walk_at "ww"
                refine ⟨k, ns2, 5, rfl, by decide, pk0 hkl, hP2, fun v ns3 v0 v1 hP3 => ?_⟩
                rw [List.set_set]
                walk_at "ww"
                refine ⟨k, ns3, _, _, (1 + v).toNat, by rw [show (((1 + v).toNat : Nat) : Int) = 1 + v by omega], by decide, by decide, by decide, by decide, by omega, by omega, pk0 hkl, hP3, fun c u ns4 hc hu hul hP4 => ?_⟩
                rw [List.set_set]
                walk_at "ww"
                exact .inl (q _ _ ns4 (lp_wild hc hu (by omega)) hP4)
end

section
abbrev SgT := List Nat × List Nat × Nat × Nat
/-- what is laid so far -/
def Laid (i : Nat) (lines : List (List Nat)) (sg : List SgT) (ft : List (Nat × Nat)) (last : List Nat) : Prop :=
  ∃ (done : List (List Nat)) (items : List It), lines = done ++ [lineOf items] ∧ sg = signsF 0 done ++ sgs done.length 0 items ∧ ft = faultsF 0 done ++ fts done.length 0 items ∧ Chain items [] ∧ (∀ l ∈ done, Tx.isLine l = true) ∧ (lineOf items).length ≤ 100 ∧ done.length ≤ 2 * i ∧ sg.length ≤ i ∧ ft.length ≤ i ∧ (∀ x, items.getLast? = some x → last = if x.b = true then restL else x.s) ∧ last.length ≤ 100
theorem okc_sign {c : Nat} (h : okc c = true) : Tx.isSign c = true := by
  unfold okc at h
  rw [Bool.and_eq_true] at h
  exact h.1
theorem okc_line {l : List Nat} (h : ∀ c ∈ l, okc c = true) (hl : l.length ≤ 100) : Tx.isLine l = true := by
  unfold Tx.isLine
  rw [decide_eq_true hl, Bool.true_and]
  exact List.all_eq_true.mpr fun c hc => okc_sign (h c hc)
theorem Laid.zero : Laid 0 [[]] [] [] [] := ⟨[], [], rfl, rfl, rfl, sc_nil, (fun l h => nomatch h), Nat.zero_le _, Nat.le_refl _, Nat.le_refl _, Nat.le_refl _, (fun x h => nomatch h), Nat.zero_le _⟩
def bad (lw : List Nat) : Bool := decide (lw = []) || decide (lw = restL)
theorem LP.get {lw s : List Nat} (h : LP lw s) : ∃ y : It, y.g = 0 ∧ y.s = s ∧ Piece y.w s y.b ∧ (bad lw = true ↔ y.w = []) ∧ (bad lw = false → y.w = lw) ∧ (if y.b = true then lw = restL else lw ≠ restL) := by
  obtain ⟨_, w, b, hp, ⟨rfl, rfl, hr⟩ | ⟨rfl, rfl, rfl⟩⟩ := h
  · refine ⟨⟨0, lw, s, false⟩, rfl, rfl, hp, ?_, fun _ => rfl, hr⟩
    unfold bad
    rw [decide_eq_false hr, Bool.or_false]
    exact decide_eq_true_iff
  · exact ⟨⟨0, [], s, true⟩, rfl, rfl, hp, ⟨fun _ => rfl, fun _ => rfl⟩, (fun z => absurd z (by decide)), rfl⟩
def nsg (lw s : List Nat) (n c : Nat) : List SgT := if bad lw = true then [] else [(lw, s, n, c)]
def nft (lw : List Nat) (n c : Nat) : List (Nat × Nat) := if bad lw = true then [(n, c)] else []
theorem nsg_len {lw s : List Nat} {n c : Nat} : (nsg lw s n c).length ≤ 1 := by
  unfold nsg
  split
  · exact Nat.zero_le _
  · exact Nat.le_refl _
theorem nft_len {lw : List Nat} {n c : Nat} : (nft lw n c).length ≤ 1 := by
  unfold nft
  split
  · exact Nat.le_refl _
  · exact Nat.zero_le _
theorem line_ne {items : List It} (h : Chain items []) : lineOf items ≠ [] ↔ items ≠ [] :=
  ⟨fun z e => z (by rw [e]; rfl), fun z => (line_head z (fun x hx => (h.ne x hx).ne) []).2⟩
theorem Laid.same {i g : Nat} {pre : List (List Nat)} {line : List Nat} {sg : List SgT} {ft : List (Nat × Nat)} {last lw s : List Nat} (h : Laid i (pre ++ [line]) sg ft last) (hs : LP lw s) (hr : last ≠ restL) (hl : line.length + g + s.length ≤ 100) (ht : line ≠ [] → g ≠ 0 ∨ tightL last s = true) :
    Laid (i + 1) (pre ++ [line ++ List.replicate g 32 ++ s]) (sg ++ nsg lw s pre.length (line.length + g + 1)) (ft ++ nft lw pre.length (line.length + g + 1)) (if lw = restL then restL else s) := by
  obtain ⟨done, items, e, rfl, rfl, hc, hd, hll, hdl, h1, h2, hla, hlast⟩ := h
  obtain ⟨e1, e2⟩ := List.append_inj' e rfl
  injection e2 with e2
  subst e1
  subst e2
  obtain ⟨y, _, hys, hyp, hyw, hyw2, hyb⟩ := hs.get
  have hslen := hyp.len
  have hsn : s ≠ [] := hyp.ne
  have hbe : (if lw = restL then restL else s) = if y.b = true then restL else s := by
    by_cases hb : y.b = true
    · rw [if_pos hb] at hyb
      rw [if_pos hyb, if_pos hb]
    · rw [if_neg hb] at hyb
      rw [if_neg hyb, if_neg hb]
  have hch : Chain (items ++ [⟨g, y.w, s, y.b⟩]) [] := by
    refine Chain.snoc (y := ⟨g, y.w, s, y.b⟩) hyp hc fun x hx => ?_
    have hxl := hla x hx
    have hb : x.b = false := by
      cases hb : x.b with
      | false => rfl
      | true => rw [hb] at hxl; exact absurd hxl hr
    rw [hb] at hxl
    have hxl : last = x.s := hxl
    have hi : items ≠ [] := fun z => by rw [z] at hx; exact nomatch hx
    refine .inr ⟨hb, ?_⟩
    show List.headD (List.replicate g 32 ++ s) 0 = 32 ∨ tightL x.s (List.replicate g 32 ++ s) = true
    cases g with
    | zero =>
      rcases ht ((line_ne hc).mpr hi) with h | h
      · exact absurd rfl h
      · rw [hxl] at h
        exact .inr h
    | succ g => exact .inl rfl
  have n1 := nsg_len (lw := lw) (s := s) (n := pre.length) (c := (lineOf items).length + g + 1)
  have n2 := nft_len (lw := lw) (n := pre.length) (c := (lineOf items).length + g + 1)
  refine ⟨pre, items ++ [⟨g, y.w, s, y.b⟩], ?_, ?_, ?_, hch, hd, ?_, by omega, ?_, ?_, fun x hx => ?_, ?_⟩
  · rw [lineOf_snoc, List.append_assoc]
  · rw [sgs_snoc, List.append_assoc, Nat.zero_add]
    congr 2
    unfold nsg
    by_cases hb : bad lw = true
    · rw [if_pos hb, if_pos (hyw.mp hb)]
    · rw [if_neg hb, if_neg fun z => hb (hyw.mpr z)]
      show [(lw, s, _, _)] = [(y.w, s, _, _)]
      rw [hyw2 (by simpa using hb)]
  · rw [fts_snoc, List.append_assoc, Nat.zero_add]
    congr 2
    unfold nft
    by_cases hb : bad lw = true
    · rw [if_pos hb, if_pos (hyw.mp hb)]
    · rw [if_neg hb, if_neg fun z => hb (hyw.mpr z)]
  · rw [lineOf_snoc, List.length_append, List.length_append, List.length_replicate]
    show (lineOf items).length + (g + s.length) ≤ 100
    omega
  · rw [List.length_append]; omega
  · rw [List.length_append]; omega
  · rw [List.getLast?_concat] at hx
    injection hx with hx
    rw [← hx, hbe]
  · split
    · decide
    · omega
/-- what a line of remarks may be -/
def Rem (e : List Nat) : Prop := (∀ n a, sc n e a = []) ∧ Okc e ∧ e.length ≤ 100
theorem Laid.new {i g : Nat} {pre extra : List (List Nat)} {line t : List Nat} {sg : List SgT} {ft : List (Nat × Nat)} {last lw s : List Nat} (h : Laid i (pre ++ [line]) sg ft last) (hs : LP lw s) (ht : t = [] ∨ (last ≠ restL ∧ t.headD 0 = 32 ∧ Rem t ∧ line.length + t.length ≤ 100))
    (hx1 : extra.length ≤ 1) (hx : ∀ e ∈ extra, Rem e) (hl : g + s.length ≤ 100) :
    Laid (i + 1) (pre ++ [line ++ t] ++ extra ++ [List.replicate g 32 ++ s]) (sg ++ nsg lw s (pre.length + 1 + extra.length) (g + 1)) (ft ++ nft lw (pre.length + 1 + extra.length) (g + 1)) (if lw = restL then restL else s) := by
  obtain ⟨done, items, e, rfl, rfl, hc, hd, hll, hdl, h1, h2, hla, hlast⟩ := h
  obtain ⟨e1, e2⟩ := List.append_inj' e rfl
  injection e2 with e2
  subst e1
  subst e2
  obtain ⟨y, _, hys, hyp, hyw, hyw2, hyb⟩ := hs.get
  have hslen := hyp.len
  have hbe : (if lw = restL then restL else s) = if y.b = true then restL else s := by
    by_cases hb : y.b = true
    · rw [if_pos hb] at hyb
      rw [if_pos hyb, if_pos hb]
    · rw [if_neg hb] at hyb
      rw [if_neg hyb, if_neg hb]
  have hrem : Rem t := by
    rcases ht with rfl | h
    · exact ⟨sc_nil, (fun c hc => nomatch hc), Nat.zero_le _⟩
    · exact h.2.2.1
  have hct : Chain items t := by
    refine Chain.ext hrem.1 hc fun x hx => ?_
    rcases ht with rfl | h
    · exact .inl rfl
    · have hxl := hla x hx
      cases hb : x.b with
      | true => rw [hb] at hxl; exact absurd hxl h.1
      | false => exact .inr ⟨rfl, .inl h.2.1⟩
  have hlt : (lineOf items ++ t).length ≤ 100 := by
    rw [List.length_append]
    rcases ht with rfl | h
    · exact hll
    · exact h.2.2.2
  have hli : Tx.isLine (lineOf items ++ t) = true := okc_line (fun c hc => (List.mem_append.mp hc).elim (hct.okc c) (hrem.2.1 c)) hlt
  have hall := line_all (n := pre.length) hct hrem.2.1
  have hex : ∀ n, signsF n extra = [] ∧ faultsF n extra = [] := fun n => by
    cases extra with
    | nil => exact ⟨rfl, rfl⟩
    | cons e r =>
      cases r with
      | cons e' r => exact absurd hx1 (by simp)
      | nil =>
        have he := hx e List.mem_cons_self
        have ha := line_all (n := n) (l := []) (t := e) he.1 he.2.1
        exact ⟨by show lineSigns n e (scan (e.length + 1) e 0) ++ [] = []; rw [List.append_nil]; exact ha.1, by show lineFaults n (scan (e.length + 1) e 0) ++ [] = []; rw [List.append_nil]; exact ha.2⟩
  have hdone : signsF 0 (pre ++ [lineOf items ++ t] ++ extra) = signsF 0 pre ++ sgs pre.length 0 items ∧ faultsF 0 (pre ++ [lineOf items ++ t] ++ extra) = faultsF 0 pre ++ fts pre.length 0 items := by
    rw [(signsF_app (a := pre ++ [lineOf items ++ t])).1, (signsF_app (a := pre ++ [lineOf items ++ t])).2, (signsF_app (a := pre)).1, (signsF_app (a := pre)).2, (hex _).1, (hex _).2, List.append_nil, List.append_nil, Nat.zero_add]
    exact ⟨by show _ ++ (lineSigns _ _ _ ++ []) = _; rw [List.append_nil, hall.1], by show _ ++ (lineFaults _ _ ++ []) = _; rw [List.append_nil, hall.2]⟩
  have hlen : (pre ++ [lineOf items ++ t] ++ extra).length = pre.length + 1 + extra.length := by rw [List.length_append, List.length_append]; rfl
  have n1 := nsg_len (lw := lw) (s := s) (n := pre.length + 1 + extra.length) (c := g + 1)
  have n2 := nft_len (lw := lw) (n := pre.length + 1 + extra.length) (c := g + 1)
  have e1 : lineOf [⟨g, y.w, s, y.b⟩] = List.replicate g 32 ++ s := by
    show List.replicate g 32 ++ (s ++ []) = _
    rw [List.append_nil]
  refine ⟨pre ++ [lineOf items ++ t] ++ extra, [⟨g, y.w, s, y.b⟩], by rw [e1], ?_, ?_, ⟨hyp, .inl rfl, sc_nil⟩, fun l hl => ?_, ?_, by rw [hlen]; omega, ?_, ?_, fun x hx => ?_, ?_⟩
  · rw [hdone.1, hlen]
    congr 1
    show _ = (if y.w = [] then [] else [(y.w, s, _, 0 + g + 1)]) ++ []
    rw [List.append_nil, Nat.zero_add]
    unfold nsg
    by_cases hb : bad lw = true
    · rw [if_pos hb, if_pos (hyw.mp hb)]
    · rw [if_neg hb, if_neg fun z => hb (hyw.mpr z), hyw2 (by simpa using hb)]
  · rw [hdone.2, hlen]
    congr 1
    show _ = (if y.w = [] then [(_, 0 + g + 1)] else []) ++ []
    rw [List.append_nil, Nat.zero_add]
    unfold nft
    by_cases hb : bad lw = true
    · rw [if_pos hb, if_pos (hyw.mp hb)]
    · rw [if_neg hb, if_neg fun z => hb (hyw.mpr z)]
  · rcases List.mem_append.mp hl with hl | hl
    · rcases List.mem_append.mp hl with hl | hl
      · exact hd l hl
      · rw [List.mem_singleton.mp hl]
        exact hli
    · exact okc_line (hx l hl).2.1 (hx l hl).2.2
  · rw [e1, List.length_append, List.length_replicate]
    exact hl
  · rw [List.length_append]; omega
  · rw [List.length_append]; omega
  · injection hx with hx
    rw [← hx, hbe]
    rfl
  · split
    · decide
    · omega
theorem Laid.fin {i : Nat} {lines : List (List Nat)} {sg : List SgT} {ft : List (Nat × Nat)} {last : List Nat} (h : Laid i lines sg ft last) : sg = signsF 0 lines ∧ ft = faultsF 0 lines ∧ 1 ≤ lines.length ∧ lines.length ≤ 2 * i + 1 ∧ (∀ l ∈ lines, Tx.isLine l = true) ∧ sg.length ≤ i ∧ ft.length ≤ i := by
  obtain ⟨done, items, rfl, rfl, rfl, hc, hd, hll, hdl, h1, h2, hla, hlast⟩ := h
  have hall := line_all (n := done.length) (t := []) hc (fun c hc => nomatch hc)
  rw [List.append_nil] at hall
  refine ⟨?_, ?_, by simp, by rw [List.length_append, List.length_singleton]; omega, fun l hl => ?_, h1, h2⟩
  · rw [signsF_app.1, Nat.zero_add]
    congr 1
    show _ = lineSigns _ _ _ ++ []
    rw [List.append_nil, hall.1]
  · rw [signsF_app.2, Nat.zero_add]
    congr 1
    show _ = lineFaults _ _ ++ []
    rw [List.append_nil, hall.2]
  · rcases List.mem_append.mp hl with hl | hl
    · exact hd l hl
    · rw [List.mem_singleton.mp hl]
      exact okc_line hc.okc hll
theorem Laid.last {i : Nat} {lines : List (List Nat)} {sg : List SgT} {ft : List (Nat × Nat)} {last : List Nat} (h : Laid i lines sg ft last) : ∃ pre line, lines = pre ++ [line] ∧ line.length ≤ 100 ∧ pre.length ≤ 2 * i ∧ last.length ≤ 100 ∧ (line ≠ [] → last ≠ []) ∧ sg.length ≤ i ∧ ft.length ≤ i := by
  obtain ⟨done, items, rfl, rfl, rfl, hc, hd, hll, hdl, h1, h2, hla, hlast⟩ := h
  refine ⟨done, _, rfl, hll, hdl, hlast, fun z => ?_, h1, h2⟩
  have hi := (line_ne hc).mp z
  obtain ⟨x, hx⟩ : ∃ x, items.getLast? = some x := ⟨_, List.getLast?_eq_some_getLast hi⟩
  rw [hla x hx]
  split
  · decide
  · exact (hc.ne x (List.mem_of_getLast? hx)).ne
theorem rem_nil : Rem [] := ⟨sc_nil, (fun c hc => nomatch hc), Nat.zero_le _⟩
theorem rem_dash {u : List Nat} (h : ∀ c ∈ u, okc c = true) (hl : u.length ≤ 90) : Rem (45 :: 45 :: u) := ⟨fun n a => sc_dash, fun c hc => by
  rcases List.mem_cons.mp hc with h1 | h1
  · rw [h1]; decide
  · rcases List.mem_cons.mp h1 with h1 | h1
    · rw [h1]; decide
    · exact h c h1, by rw [List.length_cons, List.length_cons]; omega⟩
theorem rem_blank {e : List Nat} (h : Rem e) (hl : e.length ≤ 99) : Rem (32 :: e) := ⟨fun n a => sc_blank h.1, fun c hc => (List.mem_cons.mp hc).elim (fun z => by rw [z]; decide) (h.2.1 c), by rw [List.length_cons]; omega⟩
theorem q30 {G : Cells} {k : Nat} {x a b c : Cell} : (G.set k x ++ [a, b, c])[G.length]? = some a := by
  have := get_app (a := G.set k x) (b := [a, b, c]) (k := 0)
  rw [List.length_set] at this
  exact this
theorem q31 {G : Cells} {k : Nat} {x a b c : Cell} : (G.set k x ++ [a, b, c])[G.length + 1]? = some b := by
  have := get_app (a := G.set k x) (b := [a, b, c]) (k := 1)
  rw [List.length_set] at this
  exact this
theorem q32 {G : Cells} {k : Nat} {x a b c : Cell} : (G.set k x ++ [a, b, c])[G.length + 2]? = some c := by
  have := get_app (a := G.set k x) (b := [a, b, c]) (k := 2)
  rw [List.length_set] at this
  exact this
theorem s30 {G : Cells} {k : Nat} {x a b c d : Cell} : (G.set k x ++ [a, b, c]).set G.length d = G.set k x ++ [d, b, c] := by
  have := set_app (a := G.set k x) (b := [a, b, c]) (k := 0) (c := d)
  rw [List.length_set] at this
  exact this
theorem s31 {G : Cells} {k : Nat} {x a b c d : Cell} : (G.set k x ++ [a, b, c]).set (G.length + 1) d = G.set k x ++ [a, d, c] := by
  have := set_app (a := G.set k x) (b := [a, b, c]) (k := 1) (c := d)
  rw [List.length_set] at this
  exact this
theorem s32 {G : Cells} {k : Nat} {x a b c d : Cell} : (G.set k x ++ [a, b, c]).set (G.length + 2) d = G.set k x ++ [a, b, d] := by
  have := set_app (a := G.set k x) (b := [a, b, c]) (k := 2) (c := d)
  rw [List.length_set] at this
  exact this
end

section
variable {P : Program} {w : World} {K : PySem.W.Frag} {mg : Str → Option Value} {base : Heap}
abbrev pcD (x : List Nat × List Nat) : D := .tup [sD x.1, sD x.2]
def F_law_laid : FD := fun ds G R => ∃ (k : Nat) (ns : List Int) (rows : List (List Nat × List Nat)), ds = [.ptr k, .lst (rows.map pcD)] ∧ rows.length ≤ 41 ∧ (∀ x ∈ rows, LP x.1 x.2) ∧ G[k]? = some (nC ns) ∧ Pool ns ∧
  ∀ (lines : List (List Nat)) (ns' : List Int), 1 ≤ lines.length → lines.length ≤ 90 → (∀ l ∈ lines, Tx.isLine l = true) → (signsF 0 lines).length ≤ 41 → (faultsF 0 lines).length ≤ 41 → (rows = [] → lines = [[]]) → Pool ns' →
  R (.tup [.lst (lines.map sD), .lst ((signsF 0 lines).map sigD), .lst ((faultsF 0 lines).map ftD)]) (G.set k (nC ns'))
theorem ok_law_laid (T : Top K mg) : FnOk P w K mg base CX0 4 T.a_law_laid T.d_law_laid ["pool", "rows"] (SpD K F_law_laid) := by
  refine fn_ok T.law_laid.fn sc_law_laid (fun ds G R h => ?_) fun cdv A outer s H E hr => ⟨_, (pss_cons (ps_asg (pe_tup (pa_cons (pe_lst (pa_cons pe_str pa_nil)) (pa_cons (pe_lst pa_nil) (pa_cons (pe_lst pa_nil) (pa_cons pe_str pa_nil))))) (show PG _ _ (gTup K 4 _) from pg_tup rfl (pgs_cons (pg_name (i := 2) sc_law_laid.nd rfl (Or.inl rfl)) (pgs_cons (pg_name (i := 3) sc_law_laid.nd rfl (Or.inl rfl)) (pgs_cons (pg_name (i := 4) sc_law_laid.nd rfl (Or.inl rfl)) (pgs_cons (pg_name (i := 5) sc_law_laid.nd rfl (Or.inl rfl)) pgs_nil))))))
  (pss_cons (ps_for PassesOwn.never rfl (pi_list (pv 1)) (show PG _ _ (gTup K 2 _) from pg_tup rfl (pgs_cons (pg_name (i := 6) sc_law_laid.nd rfl (Or.inl rfl)) (pgs_cons (pg_name (i := 7) sc_law_laid.nd rfl (Or.inl rfl)) pgs_nil)))
   (pss_cons (ps_par (i := 8) (j := 9) rfl sc_law_laid.nd rfl rfl (by decide) rfl rfl (pa_cons (pe_ix (show IxR _ (rIxL K) from ix_list) (pv 2) (pe_un un_neg pe_int) (fun _ _ => rfl)) (pa_cons (pe_call (ok_law_pick T) (hr.mono (by decide)) (by rfl) T.law_pick.mg T.law_pick.fn.kp T.law_pick.bd .nil pass0 (pa_cons (pv 0) (pa_cons pe_int pa_nil))) pa_nil)) (by rfl))
  (pss_cons (ps_set (i := 10) sc_law_laid.nd rfl (Or.inl rfl) (pe_op op_mulS pe_str (pe_ix (show IxR _ (rIxL K) from ix_list) (pe_lst (pa_cons pe_int (pa_cons pe_int (pa_cons pe_int (pa_cons pe_int (pa_cons pe_int (pa_cons pe_int (pa_cons pe_int (pa_cons pe_int (pa_cons pe_int (pa_cons pe_int (pa_cons pe_int (pa_cons pe_int pa_nil))))))))))))) (pv 9) (fun _ _ => rfl))))
  (pss_cons (ps_if (PW.pt (pw_and (pt_cmpR op_eq (pv 10) pe_str (nomark _)) (pw_and (pt_cmpR op_ne (pv 8) pe_str (nomark _)) (pw_and (pt_cmpR op_ne (pv 5) pe_str (nomark _)) (pw_and1 (pt_not (pt_val (pe_call (ok_law_tight T) (hr.mono (by decide)) (by rfl) T.law_tight.mg T.law_tight.fn.kp T.law_tight.bd .nil pass0 (pa_cons (pv 5) (pa_cons (pv 7) pa_nil))))))))))
   (pss_one (ps_set (i := 10) sc_law_laid.nd rfl (Or.inl rfl) pe_str))
   pss_nil)
  (pss_cons (ps_if (PW.pt (pw_or (pt_cmpR op_eq (pv 5) pe_str (nomark _)) (pw_or (pt_cmpR op_gt (pv 9) pe_int (nomark _)) (pw_or1 (pt_cmpR op_gt (pe_op op_add (pe_op op_add (pe_callB call_len_str (by rfl) T.len (by decide +kernel) (pa_cons (pv 8) pa_nil)) (pe_callB call_len_str (by rfl) T.len (by decide +kernel) (pa_cons (pv 10) pa_nil))) (pe_callB call_len_str (by rfl) T.len (by decide +kernel) (pa_cons (pv 7) pa_nil))) pe_int (nomark _))))))
   (pss_cons (ps_if (PW.pt (pw_and (pt_cmpR op_ne (pv 5) pe_str (nomark _)) (pw_and (pt_cmpR op_eq (pv 9) pe_int (nomark _)) (pw_and1 (pt_cmpR op_lt (pe_callB call_len_str (by rfl) T.len (by decide +kernel) (pa_cons (pv 8) pa_nil)) pe_int (nomark _))))))
   (pss_one (ps_asg (pe_op op_add_str (pe_op op_add_str (pv 8) pe_str) (pe_call (ok_law_remark T) (hr.mono (by decide)) (by rfl) T.law_remark.mg T.law_remark.fn.kp T.law_remark.bd .nil pass0 (pa_cons (pv 0) pa_nil))) (pg_sub (pv 2) (pe_un un_neg pe_int) set_list)))
   pss_nil)
  (pss_cons (ps_if (pt_cmpR op_eq (pv 9) pe_int (nomark _))
   (pss_one (ps_expr (pe_bm PySem.F.plainAttrs_list PySem.F.slot_list_append PySem.F.type_list_append mt_append (pv 2) (pa_cons (pe_ix (show IxR _ (rIxL K) from ix_list) (pe_lst (pa_cons pe_str (pa_cons pe_str (pa_cons (pe_call (ok_law_remark T) (hr.mono (by decide)) (by rfl) T.law_remark.mg T.law_remark.fn.kp T.law_remark.bd .nil pass0 (pa_cons (pv 0) pa_nil)) (pa_cons (pe_op op_add_str pe_str (pe_call (ok_law_remark T) (hr.mono (by decide)) (by rfl) T.law_remark.mg T.law_remark.fn.kp T.law_remark.bd .nil pass0 (pa_cons (pv 0) pa_nil))) pa_nil))))) (pe_call (ok_law_pick T) (hr.mono (by decide)) (by rfl) T.law_pick.mg T.law_pick.fn.kp T.law_pick.bd .nil pass0 (pa_cons (pv 0) (pa_cons pe_int pa_nil))) (fun _ _ => rfl)) pa_nil))))
   pss_nil)
  (pss_cons (ps_par (i := 8) (j := 10) rfl sc_law_laid.nd rfl rfl (by decide) rfl rfl (pa_cons pe_str (pa_cons (pe_op op_mulS pe_str (pe_call (ok_law_pick T) (hr.mono (by decide)) (by rfl) T.law_pick.mg T.law_pick.fn.kp T.law_pick.bd .nil pass0 (pa_cons (pv 0) (pa_cons pe_int pa_nil)))) pa_nil)) (by rfl))
  (pss_cons (ps_expr (pe_bm PySem.F.plainAttrs_list PySem.F.slot_list_append PySem.F.type_list_append mt_append (pv 2) (pa_cons pe_str pa_nil)))
  (pss_one (ps_if (pt_cmpR op_gt (pe_op op_add (pe_callB call_len_str (by rfl) T.len (by decide +kernel) (pa_cons (pv 10) pa_nil)) (pe_callB call_len_str (by rfl) T.len (by decide +kernel) (pa_cons (pv 7) pa_nil))) pe_int (nomark _))
   (pss_one (ps_set (i := 10) sc_law_laid.nd rfl (Or.inl rfl) pe_str))
   pss_nil))))))
   pss_nil)
  (pss_cons (ps_set (i := 11) sc_law_laid.nd rfl (Or.inl rfl) (pe_tup (pa_cons (pe_op op_sub (pe_callB (show CallR _ (Value.builtin "len") (fun xs H Q => ∃ p ys, xs = [L2.V.ref p] ∧ (SqL K H p ys ∨ SqT K H p ys) ∧ Q (L2.V.int ys.length) H) from call_len_seq) (by rfl) T.len (by decide +kernel) (pa_cons (pv 2) pa_nil)) pe_int) (pa_cons (pe_op op_add (pe_op op_add (pe_callB call_len_str (by rfl) T.len (by decide +kernel) (pa_cons (pv 8) pa_nil)) (pe_callB call_len_str (by rfl) T.len (by decide +kernel) (pa_cons (pv 10) pa_nil))) pe_int) pa_nil))))
  (pss_cons (ps_asg (pe_op op_add_str (pe_op op_add_str (pv 8) (pv 10)) (pv 7)) (pg_sub (pv 2) (pe_un un_neg pe_int) set_list))
  (pss_cons (ps_if (pt_cmpR (show OpR _ _ (rIn K false) from op_in_seq) (pv 6) (pe_tup (pa_cons pe_str (pa_cons pe_str pa_nil))) (by first | rfl | exact nomark _))
   (pss_one (ps_expr (pe_bm PySem.F.plainAttrs_list PySem.F.slot_list_append PySem.F.type_list_append mt_append (pv 4) (pa_cons (pv 11) pa_nil))))
   (pss_one (ps_expr (pe_bm PySem.F.plainAttrs_list PySem.F.slot_list_append PySem.F.type_list_append mt_append (pv 3) (pa_cons (pe_tup (pa_cons (pv 6) (pa_cons (pv 7) (pa_cons (pe_ix (show IxR _ (rIxT K) from ix_tup) (pv 11) pe_int (fun _ _ => rfl)) (pa_cons (pe_ix (show IxR _ (rIxT K) from ix_tup) (pv 11) pe_int (fun _ _ => rfl)) pa_nil))))) pa_nil)))))
  (pss_one (ps_set (i := 5) sc_law_laid.nd rfl (Or.inl rfl) (pe_ix (show IxR _ (rIxL K) from ix_list) (pe_lst (pa_cons (pv 7) (pa_cons pe_str pa_nil))) (pe_callTy call_int1 (by rfl) T.int (by decide +kernel) (pa_cons (pe_cmpR op_eq (pv 6) pe_str (nomark _)) pa_nil)) (fun _ _ => rfl))))))))))))
  (pss_one (ps_ret (pe_tup (pa_cons (pv 2) (pa_cons (pv 3) (pa_cons (pv 4) pa_nil)))))))), fun ds G R hF => ?_⟩
  · obtain ⟨k, ns, rows, rfl, _⟩ := h
    rfl
  · obtain ⟨k, ns, rows, rfl, hrl, hrows, hk, hP, q⟩ := hF
    have hkl := (List.getElem?_eq_some_iff.mp hk).1
    walk_at "go"
    change WS K _ [some _, some _, none, none, none, none, none, none, none, none, none, none] _ _
    walk_at "vv"
    walk_at "hot"
    walk_at "hot"
    walk_at "hot"
    simp only [List.length_append, List.length_singleton, List.append_assoc, List.cons_append, List.nil_append]
    refine ws_for (wi_list (we_var rfl ⟨_, isR, fun i ρ G' => ∃ (lines : List (List Nat)) (sg : List SgT) (ft : List (Nat × Nat)) (last : List Nat) (ns' : List Int) (x6 x7 x8 x9 x10 x11 : Option D),
      ρ = [some (.ptr k), some (.lst (rows.map pcD)), some (.ptr G.length), some (.ptr (G.length + 1)), some (.ptr (G.length + 2)), some (sD last), x6, x7, x8, x9, x10, x11] ∧ G' = G.set k (nC ns') ++ [.lst (lines.map sD), .lst (sg.map sigD), .lst (ft.map ftD)] ∧ Laid i lines sg ft last ∧ Pool ns' ∧ (i = 0 → lines = [[]]),
      ⟨[[]], [], [], [], ns, none, none, none, none, none, none, rfl, by rw [set_id hk]; rfl, Laid.zero, hP, fun _ => rfl⟩, fun _ _ _ _ => isR, ?_, ?_⟩))
    · rintro i d ρ G' hi ⟨lines, sg, ft, last, ns1, x6, x7, x8, x9, x10, x11, rfl, rfl, hL, hP1, _⟩
      obtain ⟨⟨lw, s⟩, hx, rfl⟩ := map_get hi
      have hi41 : i < 41 := Nat.lt_of_lt_of_le (List.getElem?_eq_some_iff.mp hx).1 hrl
      have hLP : LP lw s := hrows _ (List.mem_of_getElem? hx)
      obtain ⟨pre, line, rfl, hll, hpl, hlast, hlne, hsg, hft⟩ := hL.last
      obtain ⟨hsn, hsl⟩ : s ≠ [] ∧ s.length ≤ 90 := by
        obtain ⟨_, w, b, hp, _⟩ := hLP
        exact ⟨hp.ne, hp.len⟩
      walk_at "vv"
      refine rd_ixL (isRp q30) at_last ?_
      walk_at "vv"
      refine ⟨k, ns1, 12, rfl, by decide, pkm hkl, hP1, fun z ns2 z0 z1 hP2 => ?_⟩
      rw [psm hkl]
      walk_at "vv"
      walk_at "cold"
      obtain ⟨g, hg, eg⟩ := lit_get (enc := fun n : Nat => D.int n) (l := [0, 0, 0, 1, 1, 1, 1, 2, 9, 0, 0, 0]) z0 z1
      have hg := (by decide : ∀ g ∈ [0, 0, 0, 1, 1, 1, 1, 2, 9, 0, 0, 0], g ≤ 9) g hg
      refine rd_ixL isR eg (rd_mulT (l := [32]) (n := g) (by simp; omega) (by omega) ?_)
      rw [flat_rep]
      walk_at "vv"
      refine ws_join (Pm := fun ρ' G' => ∃ g' : Nat, g' ≤ 9 ∧ (line ≠ [] → g' ≠ 0 ∨ tightL last s = true) ∧ ρ' = [some (.ptr k), some (.lst (rows.map pcD)), some (.ptr G.length), some (.ptr (G.length + 1)), some (.ptr (G.length + 2)), some (sD last), some (sD lw), some (sD s), some (sD line), some (.int z), some (sD (List.replicate g' 32)), x11] ∧ G' = G.set k (nC ns2) ++ [.lst ((pre ++ [line]).map sD), .lst (sg.map sigD), .lst (ft.map ftD)]) ?_ ?_
      · have stay : (line ≠ [] → g ≠ 0 ∨ tightL last s = true) → ∃ g' : Nat, g' ≤ 9 ∧ (line ≠ [] → g' ≠ 0 ∨ tightL last s = true) ∧ [some (.ptr k), some (.lst (rows.map pcD)), some (.ptr G.length), some (.ptr (G.length + 1)), some (.ptr (G.length + 2)), some (sD last), some (sD lw), some (sD s), some (sD line), some (.int z), some (sD (List.replicate g 32)), x11] = [some (.ptr k), some (.lst (rows.map pcD)), some (.ptr G.length), some (.ptr (G.length + 1)), some (.ptr (G.length + 2)), some (sD last), some (sD lw), some (sD s), some (sD line), some (.int z), some (sD (List.replicate g' 32)), x11] ∧ G.set k (nC ns2) ++ [.lst ((pre ++ [line]).map sD), .lst (sg.map sigD), .lst (ft.map ftD)] = G.set k (nC ns2) ++ [.lst ((pre ++ [line]).map sD), .lst (sg.map sigD), .lst (ft.map ftD)] := fun h => ⟨g, hg, h, rfl, rfl⟩
        walk_at "ww"
        refine ite_P (fun h1 => ?_) (fun h1 => ?_)
        · walk_at "ww"
          refine ite_N (fun h2 => ?_) (fun h2 => ?_)
          · walk_at "ww"
            refine ite_N (fun h3 => ?_) (fun h3 => absurd h3 (hlne h2))
            walk_at "ww"
            refine ⟨last, s, rfl, hlne h2, hsn, by omega, by omega, ?_⟩
            walk_at "ww"
            refine ite_nb (fun h4 => ?_) (fun h4 => ?_)
            · walk_at "ww"
              exact ⟨1, by decide, fun _ => .inl (by decide), rfl, rfl⟩
            · walk_at "ww"
              exact stay fun _ => .inr h4
          · walk_at "ww"
            exact stay fun h => absurd h2 h
        · walk_at "ww"
          exact stay fun h => .inl fun z => h1 (by rw [z]; rfl)
      · rintro ρ' G' ⟨g, hg, hgt, rfl, rfl⟩
        walk_at "vv"
        refine ws_join (Pm := fun ρ' G' => ∃ (pre2 : List (List Nat)) (l2 line2 : List Nat) (g2 : Nat) (ns3 : List Int), ρ' = [some (.ptr k), some (.lst (rows.map pcD)), some (.ptr G.length), some (.ptr (G.length + 1)), some (.ptr (G.length + 2)), some (sD last), some (sD lw), some (sD s), some (sD line2), some (.int z), some (sD (List.replicate g2 32)), x11] ∧ G' = G.set k (nC ns3) ++ [.lst ((pre2 ++ [l2]).map sD), .lst (sg.map sigD), .lst (ft.map ftD)] ∧ Pool ns3 ∧ line2.length + g2 + s.length ≤ 100 ∧ g2 ≤ 9 ∧ pre2.length ≤ 2 * i + 2 ∧
          Laid (i + 1) (pre2 ++ [line2 ++ List.replicate g2 32 ++ s]) (sg ++ nsg lw s pre2.length (line2.length + g2 + 1)) (ft ++ nft lw pre2.length (line2.length + g2 + 1)) (if lw = restL then restL else s)) ?_ ?_
        · refine ws_if (wt_to (Q1 := fun b G1 => G1 = G.set k (nC ns2) ++ [.lst ((pre ++ [line]).map sD), .lst (sg.map sigD), .lst (ft.map ftD)] ∧ (b = false → last ≠ restL ∧ line.length + g + s.length ≤ 100)) ?_ ?_)
          · walk_at "ww"
            refine ite_P (fun h1 => ?_) (fun h1 => ?_)
            · exact ⟨rfl, fun z => nomatch z⟩
            · walk_at "ww"
              refine ite_P (fun h2 => ?_) (fun h2 => ?_)
              · exact ⟨rfl, fun z => nomatch z⟩
              · walk_at "ww"
                · refine ⟨rfl, fun h3 => ⟨h1, ?_⟩⟩
                  have h3 := of_decide_eq_false h3
                  rw [List.length_replicate] at h3
                  omega
                all_goals ((try rw [List.length_replicate]); omega)
          · rintro b G1 ⟨rfl, hb⟩
            cases b with
            | false =>
              obtain ⟨hb1, hb2⟩ := hb rfl
              rw [if_neg (by decide)]
              walk_at "ww"
              exact ⟨pre, line, line, g, ns2, rfl, rfl, hP2, hb2, hg, by omega, hL.same hLP hb1 hb2 hgt⟩
            | true =>
              rw [if_pos rfl]
              walk_at "vv"
              refine ws_join (Pm := fun ρ' G' => ∃ (t : List Nat) (ns3 : List Int), (t = [] ∨ (last ≠ restL ∧ t.headD 0 = 32 ∧ Rem t ∧ line.length + t.length ≤ 100)) ∧ Pool ns3 ∧ ρ' = [some (.ptr k), some (.lst (rows.map pcD)), some (.ptr G.length), some (.ptr (G.length + 1)), some (.ptr (G.length + 2)), some (sD last), some (sD lw), some (sD s), some (sD line), some (.int z), some (sD (List.replicate g 32)), x11] ∧ G' = G.set k (nC ns3) ++ [.lst ((pre ++ [line ++ t]).map sD), .lst (sg.map sigD), .lst (ft.map ftD)]) ?_ ?_
              · refine ws_if (wt_to (Q1 := fun b G1 => G1 = G.set k (nC ns2) ++ [.lst ((pre ++ [line]).map sD), .lst (sg.map sigD), .lst (ft.map ftD)] ∧ (b = true → last ≠ restL ∧ line.length < 80)) ?_ ?_)
                · walk_at "ww"
                  refine ite_N (fun h1 => ?_) (fun h1 => ?_)
                  · walk_at "ww"
                    refine ite_P (fun h2 => ?_) (fun h2 => ?_)
                    · walk_at "ww"
                      · exact ⟨rfl, fun h3 => ⟨h1, by have := of_decide_eq_true h3; omega⟩⟩
                      · omega
                    · exact ⟨rfl, fun z => nomatch z⟩
                  · exact ⟨rfl, fun z => nomatch z⟩
                · rintro b G1 ⟨rfl, hb⟩
                  cases b with
                  | false =>
                    rw [if_neg (by decide)]
                    walk_at "ww"
                    exact ⟨[], ns2, .inl rfl, hP2, rfl, by rw [List.append_nil]⟩
                  | true =>
                    obtain ⟨hb1, hb2⟩ := hb rfl
                    rw [if_pos rfl]
                    walk_at "ww"
                    refine ⟨k, ns2, rfl, pkm hkl, hP2, fun u ns3 hu hok hP3 => ?_⟩
                    rw [psm hkl]
                    walk_at "ww"
                    · refine ⟨_, _, _, pre.length, rfl, rfl, q30, by rw [List.length_map, List.length_append, List.length_singleton]; exact ix_last, ?_⟩
                      rw [s30, set_lastM]
                      exact ⟨32 :: 45 :: 45 :: u, ns3, .inr ⟨hb1, rfl, rem_blank (rem_dash hok (by omega)) (by rw [List.length_cons, List.length_cons]; omega), by rw [List.length_cons, List.length_cons, List.length_cons]; omega⟩, hP3, rfl, by rw [List.append_assoc]; rfl⟩
                    all_goals (simp; omega)
              · rintro ρ' G' ⟨t, ns3, ht, hP3, rfl, rfl⟩
                walk_at "vv"
                refine ws_join (Pm := fun ρ' G' => ∃ (extra : List (List Nat)) (ns4 : List Int), extra.length ≤ 1 ∧ (∀ e ∈ extra, Rem e) ∧ Pool ns4 ∧ ρ' = [some (.ptr k), some (.lst (rows.map pcD)), some (.ptr G.length), some (.ptr (G.length + 1)), some (.ptr (G.length + 2)), some (sD last), some (sD lw), some (sD s), some (sD line), some (.int z), some (sD (List.replicate g 32)), x11] ∧ G' = G.set k (nC ns4) ++ [.lst ((pre ++ [line ++ t] ++ extra).map sD), .lst (sg.map sigD), .lst (ft.map ftD)]) ?_ ?_
                · walk_at "ww"
                  refine ite_P (fun h1 => ?_) (fun h1 => ?_)
                  · walk_at "ww"
                    refine ⟨⟨_, isLp q30⟩, ?_⟩
                    walk_at "ww"
                    refine ⟨k, ns3, rfl, pkm hkl, hP3, fun u ns4 hu hok hP4 => ?_⟩
                    rw [psm hkl]
                    walk_at "ww"
                    refine ⟨k, ns4, rfl, pkm hkl, hP4, fun v ns5 hv hokv hP5 => ?_⟩
                    rw [psm hkl]
                    walk_at "ww"
                    · walk_at "cold"
                      refine ⟨k, ns5, 4, rfl, by decide, pkm hkl, hP5, fun y ns6 y0 y1 hP6 => ?_⟩
                      rw [psm hkl]
                      walk_at "ww"
                      obtain ⟨e, he, ee⟩ := lit_get (enc := sD) (l := [[], [32], 45 :: 45 :: u, 32 :: 32 :: 45 :: 45 :: v]) y0 y1
                      refine rd_ixL isR ee ?_
                      walk_at "ww"
                      refine rm_append q30 (by simp; exact lt_size (by omega)) ?_
                      rw [s30]
                      refine ⟨[e], ns6, Nat.le_refl _, fun e' he' => ?_, hP6, rfl, by rw [List.map_append (l₂ := [e])]; rfl⟩
                      rw [List.mem_singleton.mp he']
                      rcases List.mem_cons.mp he with h | he
                      · rw [h]; exact rem_nil
                      · rcases List.mem_cons.mp he with h | he
                        · rw [h]; exact rem_blank rem_nil (by decide)
                        · rcases List.mem_cons.mp he with h | he
                          · rw [h]; exact rem_dash hok (by omega)
                          · rw [List.mem_singleton.mp he]
                            exact rem_blank (rem_blank (rem_dash hokv (by omega)) (by simp; omega)) (by simp; omega)
                    all_goals (simp; omega)
                  · walk_at "ww"
                    exact ⟨[], ns3, by decide, (fun e he => nomatch he), hP3, rfl, by rw [List.append_nil]⟩
                · rintro ρ' G' ⟨extra, ns4, hx1, hx2, hP4, rfl, rfl⟩
                  walk_at "vv"
                  refine ⟨k, ns4, 4, rfl, by decide, pkm hkl, hP4, fun y ns5 y0 y1 hP5 => ?_⟩
                  rw [psm hkl]
                  walk_at "vv"
                  obtain ⟨g2, rfl⟩ : ∃ g2 : Nat, y = (g2 : Nat) := ⟨y.toNat, by omega⟩
                  refine rd_mulT (l := [32]) (n := g2) (by simp; omega) (by omega) ?_
                  rw [flat_rep]
                  walk_at "vv"
                  refine ⟨⟨_, isLp q30⟩, ?_⟩
                  walk_at "vv"
                  refine rm_append q30 (by simp; exact lt_size (by omega)) ?_
                  rw [s30]
                  walk_at "ww"
                  · refine ite_P (fun h1 => ?_) (fun h1 => ?_)
                    · rw [List.length_replicate] at h1
                      exact absurd h1 (by omega)
                    · walk_at "ww"
                      have hN := hL.new (g := g2) (t := t) (extra := extra) hLP ht hx1 hx2 (by omega)
                      have hpl2 : (pre ++ [line ++ t] ++ extra).length = pre.length + 1 + extra.length := by simp; omega
                      refine ⟨pre ++ [line ++ t] ++ extra, [], [], g2, ns5, rfl, by rw [List.map_append (l₂ := [[]])]; rfl, hP5, by rw [List.length_nil]; omega, by omega, by rw [hpl2]; omega, ?_⟩
                      rw [hpl2, List.length_nil, Nat.zero_add]
                      exact hN
                  all_goals ((try rw [List.length_replicate]); omega)
        · rintro ρ' G' ⟨pre2, l2, line2, g2, ns3, rfl, rfl, hP3, hlen, hg2, hp2, hN⟩
          walk_at "vv"
          refine rc_len (isQp q30) ?_
          walk_at "vv"
          · refine ⟨_, _, _, pre2.length, rfl, rfl, q30, by rw [List.length_map, List.length_append, List.length_singleton]; exact ix_last, ?_⟩
            rw [s30, set_lastM]
            have ec : ((((pre2 ++ [l2]).map sD).length : Int) - 1) = (pre2.length : Nat) := by simp
            have ed : ((line2.length : Int) + (List.replicate g2 32).length + 1) = ((line2.length + g2 + 1 : Nat) : Int) := by rw [List.length_replicate]; omega
            rw [ec, ed]
            walk_at "vv"
            refine ws_join (Pm := fun ρ' G' => ρ' = [some (.ptr k), some (.lst (rows.map pcD)), some (.ptr G.length), some (.ptr (G.length + 1)), some (.ptr (G.length + 2)), some (sD last), some (sD lw), some (sD s), some (sD line2), some (.int z), some (sD (List.replicate g2 32)), some (.tup [.int (pre2.length : Nat), .int ((line2.length + g2 + 1 : Nat) : Int)])] ∧ G' = G.set k (nC ns3) ++ [.lst ((pre2 ++ [line2 ++ List.replicate g2 32 ++ s]).map sD), .lst ((sg ++ nsg lw s pre2.length (line2.length + g2 + 1)).map sigD), .lst ((ft ++ nft lw pre2.length (line2.length + g2 + 1)).map ftD)]) ?_ ?_
            · walk_at "ww"
              refine rd_inQ (ls := [[], restL]) isQt ?_
              rw [if_neg (by decide)]
              walk_at "ww"
              have eb : decide (lw ∈ ([[], restL] : List (List Nat))) = bad lw := by
                unfold bad
                rw [Bool.eq_iff_iff, Bool.or_eq_true, decide_eq_true_iff, decide_eq_true_iff, decide_eq_true_iff]
                simp
              rw [eb]
              refine ite_b (fun h1 => ?_) (fun h1 => ?_)
              · walk_at "ww"
                refine ⟨⟨_, isLp q32⟩, ?_⟩
                walk_at "ww"
                refine rm_append q32 (by rw [List.length_map]; exact lt_size (by omega)) ?_
                rw [s32]
                refine ⟨rfl, ?_⟩
                unfold nsg nft
                rw [if_pos h1, if_pos h1, List.append_nil, List.map_append (l₂ := [(pre2.length, line2.length + g2 + 1)])]
                rfl
              · walk_at "ww"
                refine ⟨⟨_, isLp q31⟩, ?_⟩
                walk_at "ww"
                refine rm_append q31 (by rw [List.length_map]; exact lt_size (by omega)) ?_
                rw [s31]
                refine ⟨rfl, ?_⟩
                unfold nsg nft
                rw [if_neg (by rw [h1]; decide), if_neg (by rw [h1]; decide), List.append_nil, List.map_append (l₂ := [(lw, s, pre2.length, line2.length + g2 + 1)])]
                rfl
            · rintro ρ' G' ⟨rfl, rfl⟩
              walk_at "vv"
              walk_at "cold"
              by_cases h1 : lw = restL
              · rw [decide_eq_true h1]
                rw [if_pos h1] at hN
                refine rd_ixL (ds := [sD s, sD restL]) (d := sD restL) isR rfl ?_
                walk_at "ww"
                exact ⟨_, _, _, restL, ns3, _, _, _, _, _, _, rfl, rfl, hN, hP3, fun z => absurd z (Nat.succ_ne_zero i)⟩
              · rw [decide_eq_false h1]
                rw [if_neg h1] at hN
                refine rd_ixL (ds := [sD s, sD restL]) (d := sD s) isR rfl ?_
                walk_at "ww"
                exact ⟨_, _, _, s, ns3, _, _, _, _, _, _, rfl, rfl, hN, hP3, fun z => absurd z (Nat.succ_ne_zero i)⟩
          all_goals ((try simp only [List.length_append, List.length_replicate]); omega)
    · rintro ρ G' ⟨lines, sg, ft, last, ns1, x6, x7, x8, x9, x10, x11, rfl, rfl, hL, hP1, h0⟩
      rw [List.length_map] at hL h0
      obtain ⟨rfl, rfl, f1, f2, f3, f4, f5⟩ := hL.fin
      refine ws_fz 2 G.length rfl q30 (ws_fz 3 (G.length + 1) rfl (by rw [s30]; exact q31) (ws_fz 4 (G.length + 2) rfl (by rw [s30, s31]; exact q32) ?_))
      rw [s30, s31, s32]
      walk_at "ww"
      refine Gc.pool (.tup (.cons (.lst (Cls.map (fun x => .str _) _)) (.cons (.lst (Cls.map (fun x => .tup (.cons (.str _) (.cons (.str _) (.cons (.int _) (.cons (.int _) .nil))))) _)) (.cons (.lst (Cls.map (fun x => .tup (.cons (.int _) (.cons (.int _) .nil))) _)) .nil)))) (q lines ns1 f1 (by omega) f3 (by omega) (by omega) (fun z => h0 (by rw [z]; rfl)) hP1)
end

section
/-- the order of texts -/
def leS (a b : Str) : Prop := ltCps b.cps.toList a.cps.toList = false
theorem leS_iff {a b : Str} : leS a b ↔ a.cps.toList ≤ b.cps.toList := by
  unfold leS
  rw [ltCps_eq, decide_eq_false_iff_not, List.not_lt]
theorem leS_trans {a b c : Str} (h : leS a b) (g : leS b c) : leS a c := leS_iff.mpr (List.le_trans (leS_iff.mp h) (leS_iff.mp g))
theorem leS_anti {a b : Str} (h : leS a b) (g : leS b a) : a = b := by
  have e := List.le_antisymm (leS_iff.mp h) (leS_iff.mp g)
  rw [← S_eta a, ← S_eta b, e]
theorem rising_pair : ∀ (p : Str) (l : List Str), risingS p l = true → (p :: l).Pairwise leS
  | p, [], _ => List.pairwise_singleton _ _
  | p, x :: r, h => by
    have h : (!ltCps x.cps.toList p.cps.toList && risingS x r) = true := h
    rw [Bool.and_eq_true] at h
    have h1 : leS p x := by
      unfold leS
      simpa using h.1
    have h2 := rising_pair x r h.2
    refine List.pairwise_cons.mpr ⟨fun y hy => ?_, h2⟩
    rcases List.mem_cons.mp hy with e | hy
    · rw [e]; exact h1
    · exact leS_trans h1 (List.rel_of_pairwise_cons h2 hy)
theorem sorted_pair {l : List Str} (h : sortedS l = true) : l.Pairwise leS := by
  cases l with
  | nil => exact .nil
  | cons x r => exact rising_pair x r h
theorem names_uniq {sg : List SgT} {a b : List Str} (ha : NamesOf sg a) (hb : NamesOf sg b) : a = b :=
  List.Perm.eq_of_pairwise (le := leS) (fun x y _ _ h g => leS_anti h g) (sorted_pair ha.1) (sorted_pair hb.1) ((List.perm_ext_iff_of_nodup ha.2.1 hb.2.1).mpr fun z => (ha.2.2 z).trans (hb.2.2 z).symm)
/-- few strings among signs -/
def Few (sg : List SgT) : Prop := ∃ base : List Str, base.length ≤ 4000 ∧ ∀ x ∈ sg, S x.2.1 ∈ base
theorem Few.small {sg : List SgT} (h : sg.length ≤ 4000) : Few sg := ⟨sg.map fun x => S x.2.1, by rw [List.length_map]; exact h, fun x hx => List.mem_map.mpr ⟨x, hx, rfl⟩⟩
theorem Few.le {sg : List SgT} (h : Few sg) : ∀ l : List Str, l.Nodup → (∀ z ∈ l, ∃ x ∈ sg, z = S x.2.1) → l.length ≤ 4000 := fun l hn hl => by
  obtain ⟨base, h1, h2⟩ := h
  refine Nat.le_trans (List.Nodup.length_le_of_subset hn fun z hz => ?_) h1
  obtain ⟨x, hx, rfl⟩ := hl z hz
  exact h2 x hx
/-- lines that the law asks about -/
structure Fine (ls : List (List Nat)) : Prop where
  l1 : 1 ≤ ls.length
  l2 : ls.length ≤ 400
  ok : ∀ l ∈ ls, Tx.isLine l = true
  few : Few (signsF 0 ls)
  s1 : (signsF 0 ls).length ≤ 40000
  f1 : (faultsF 0 ls).length ≤ 40000
abbrev rep (n : Nat) (ls : List (List Nat)) : List (List Nat) := (List.replicate n ls).flatten
theorem rep_succ {n : Nat} {ls : List (List Nat)} : rep (n + 1) ls = rep n ls ++ ls := by
  unfold rep
  rw [List.replicate_succ', List.flatten_append, List.flatten_singleton]
theorem rep_len {n : Nat} {ls : List (List Nat)} : (rep n ls).length = n * ls.length := by simp [rep]
theorem rep_mem {n : Nat} {ls : List (List Nat)} {l : List Nat} (h : l ∈ rep n ls) : l ∈ ls := by
  obtain ⟨p, hp, hl⟩ := List.mem_flatten.mp h
  rw [(List.mem_replicate.mp hp).2] at hl
  exact hl
abbrev shS (k : Nat) (x : SgT) : SgT := (x.1, x.2.1, x.2.2.1 + k, x.2.2.2)
abbrev shF (k : Nat) (x : Nat × Nat) : Nat × Nat := (x.1 + k, x.2)
theorem rep_signs {n : Nat} {ls : List (List Nat)} : signsF 0 (rep (n + 1) ls) = signsF 0 (rep n ls) ++ (signsF 0 ls).map (shS (n * ls.length)) ∧ faultsF 0 (rep (n + 1) ls) = faultsF 0 (rep n ls) ++ (faultsF 0 ls).map (shF (n * ls.length)) := by
  rw [rep_succ, (signsF_app (a := rep n ls)).1, (signsF_app (a := rep n ls)).2, rep_len]
  have h := signsF_shift (k := n * ls.length) (a := ls) (n := 0)
  exact ⟨by rw [h.1], by rw [h.2]⟩
theorem rep_bound {ls : List (List Nat)} : ∀ {n : Nat}, (signsF 0 (rep n ls)).length = n * (signsF 0 ls).length ∧ (faultsF 0 (rep n ls)).length = n * (faultsF 0 ls).length ∧ ∀ x ∈ signsF 0 (rep n ls), ∃ y ∈ signsF 0 ls, x.2.1 = y.2.1
  | 0 => ⟨by simp [rep, signsF], by simp [rep, faultsF], fun x hx => nomatch hx⟩
  | n + 1 => by
    have ih := rep_bound (ls := ls) (n := n)
    rw [rep_signs.1, rep_signs.2]
    refine ⟨by rw [List.length_append, List.length_map, ih.1, Nat.succ_mul], by rw [List.length_append, List.length_map, ih.2.1, Nat.succ_mul], fun x hx => ?_⟩
    rcases List.mem_append.mp hx with hx | hx
    · exact ih.2.2 x hx
    · obtain ⟨y, hy, rfl⟩ := List.mem_map.mp hx
      exact ⟨y, hy, rfl⟩
theorem tall_signs {n m : Nat} {ls : List (List Nat)} : signsF 0 (rep n ls ++ List.replicate m []) = signsF 0 (rep n ls) ∧ faultsF 0 (rep n ls ++ List.replicate m []) = faultsF 0 (rep n ls) := by
  rw [signsF_app.1, signsF_app.2, signsF_blank.1, signsF_blank.2, List.append_nil, List.append_nil]
  exact ⟨rfl, rfl⟩
end

section
variable {P : Program} {w : World} {K : PySem.W.Frag} {mg : Str → Option Value} {base : Heap}
def F_law_tall : FD := fun ds G R => ∃ (ls : List (List Nat)), ds = [.lst (ls.map sD), .lst ((signsF 0 ls).map sigD), .lst ((faultsF 0 ls).map ftD)] ∧ 1 ≤ ls.length ∧ ls.length ≤ 90 ∧ (∀ l ∈ ls, Tx.isLine l = true) ∧ (signsF 0 ls).length ≤ 41 ∧ (faultsF 0 ls).length ≤ 41 ∧
  ∀ L : List (List Nat), Fine L → R (.tup [.lst (L.map sD), .lst ((signsF 0 L).map sigD), .lst ((faultsF 0 L).map ftD)]) G
theorem ok_law_tall (T : Top K mg) : FnOk P w K mg base CX0 1 T.a_law_tall T.d_law_tall ["lines", "signs", "faults"] (SpD K F_law_tall) := by
  refine fn_ok T.law_tall.fn sc_law_tall (fun ds G R h => ?_) fun cdv A outer s H E hr => ⟨_, (pss_cons (ps_asg (pe_tup (pa_cons (pe_callB (show CallR _ (Value.builtin "len") (fun xs H Q => ∃ p ys, xs = [L2.V.ref p] ∧ (SqL K H p ys ∨ SqT K H p ys) ∧ Q (L2.V.int ys.length) H) from call_len_seq) (by rfl) T.len (by decide +kernel) (pa_cons (pv 0) pa_nil)) (pa_cons (pe_lst pa_nil) (pa_cons (pe_lst pa_nil) (pa_cons (pe_lst pa_nil) pa_nil))))) (show PG _ _ (gTup K 4 _) from pg_tup rfl (pgs_cons (pg_name (i := 3) sc_law_tall.nd rfl (Or.inr rfl)) (pgs_cons (pg_name (i := 4) sc_law_tall.nd rfl (Or.inl rfl)) (pgs_cons (pg_name (i := 5) sc_law_tall.nd rfl (Or.inl rfl)) (pgs_cons (pg_name (i := 6) sc_law_tall.nd rfl (Or.inl rfl)) pgs_nil))))))
  (pss_cons (ps_for PassesOwn.never rfl (pi_range1 rfl T.range (pa_cons (pe_op op_fdiv pe_int (pv 3)) pa_nil)) (pg_name (i := 7) sc_law_tall.nd rfl (Or.inr rfl))
   (pss_cons (ps_set (i := 4) sc_law_tall.nd rfl (Or.inl rfl) (pe_op op_cat (pv 4) (pv 0)))
  (pss_cons (ps_set (i := 5) sc_law_tall.nd rfl (Or.inl rfl) (pe_op op_cat (pv 5) (pe_lc (own := [("word", 8), ("string", 9), ("line", 10), ("column", 11)]) rfl sc_law_tall.nd (pi_list (pv 1)) (blkOk_by (N := ["lines", "signs", "faults", "many", "found", "dues", "places", "k", "word", "string", "line", "column"]) (sc := defScope s_law_tall) (by decide +kernel)) (fun _ _ _ _ _ => (show PG _ _ (gTup K 4 _) from pg_tup rfl (pgs_cons (pg_name (i := 8) sc_law_tall.nd rfl (Or.inl rfl)) (pgs_cons (pg_name (i := 9) sc_law_tall.nd rfl (Or.inl rfl)) (pgs_cons (pg_name (i := 10) sc_law_tall.nd rfl (Or.inl rfl)) (pgs_cons (pg_name (i := 11) sc_law_tall.nd rfl (Or.inl rfl)) pgs_nil)))))) (fun _ _ _ _ _ => pts_nil) (fun _ _ _ _ _ => (pe_tup (pa_cons (pv 8) (pa_cons (pv 9) (pa_cons (pe_op op_add (pv 10) (pe_op op_mul (pv 7) (pv 3))) (pa_cons (pv 11) pa_nil)))))))))
  (pss_one (ps_set (i := 6) sc_law_tall.nd rfl (Or.inl rfl) (pe_op op_cat (pv 6) (pe_lc (own := [("line", 10), ("column", 11)]) rfl sc_law_tall.nd (pi_list (pv 2)) (blkOk_by (N := ["lines", "signs", "faults", "many", "found", "dues", "places", "k", "word", "string", "line", "column"]) (sc := defScope s_law_tall) (by decide +kernel)) (fun _ _ _ _ _ => (show PG _ _ (gTup K 2 _) from pg_tup rfl (pgs_cons (pg_name (i := 10) sc_law_tall.nd rfl (Or.inl rfl)) (pgs_cons (pg_name (i := 11) sc_law_tall.nd rfl (Or.inl rfl)) pgs_nil)))) (fun _ _ _ _ _ => pts_nil) (fun _ _ _ _ _ => (pe_tup (pa_cons (pe_op op_add (pv 10) (pe_op op_mul (pv 7) (pv 3))) (pa_cons (pv 11) pa_nil)))))))))))
  (pss_one (ps_ret (pe_tup (pa_cons (pe_op op_cat (pv 4) (pe_op op_rep (pe_lst (pa_cons pe_str pa_nil)) (pe_op op_sub pe_int (pe_callB (show CallR _ (Value.builtin "len") (fun xs H Q => ∃ p ys, xs = [L2.V.ref p] ∧ (SqL K H p ys ∨ SqT K H p ys) ∧ Q (L2.V.int ys.length) H) from call_len_seq) (by rfl) T.len (by decide +kernel) (pa_cons (pv 4) pa_nil))))) (pa_cons (pv 5) (pa_cons (pv 6) pa_nil)))))))), fun ds G R hF => ?_⟩
  · obtain ⟨ls, rfl, _⟩ := h
    rfl
  · obtain ⟨ls, rfl, h1, h2, h3, h4, h5, q⟩ := hF
    walk_at "go"
    change WS K _ [some _, some _, some _, none, none, none, none, none, none, none, none, none] _ _
    walk_at "ww"
    walk_at "cold"
    walk_at "cold"
    walk_at "cold"
    rw [List.length_map]
    obtain ⟨qn, hq⟩ : ∃ qn : Nat, (400 : Int) / (ls.length : Nat) = (qn : Nat) := ⟨400 / ls.length, rfl⟩
    have hqm : qn * ls.length ≤ 400 := by
      have := Int.ediv_mul_le (400 : Int) (b := (ls.length : Nat)) (by omega)
      rw [hq] at this
      exact_mod_cast this
    have hq4 : qn ≤ 400 := Nat.le_trans (Nat.le_mul_of_pos_right qn h1) hqm
    refine ws_for (wi_rng1 (by
      walk_at "ww"
      · rw [hq]
        refine ⟨_, rfl, by omega, by omega, fun i ρ G' => ∃ x7 x8 x9 x10 x11 : Option D, ρ = [some (.lst (ls.map sD)), some (.lst ((signsF 0 ls).map sigD)), some (.lst ((faultsF 0 ls).map ftD)), some (.int (ls.length : Nat)), some (.lst ((rep i ls).map sD)), some (.lst ((signsF 0 (rep i ls)).map sigD)), some (.lst ((faultsF 0 (rep i ls)).map ftD)), x7, x8, x9, x10, x11] ∧ G' = G, ⟨_, _, _, _, _, rfl, rfl⟩, fun _ _ _ _ => trivial, ?_, ?_⟩
        · rintro i d ρ G' hi ⟨x7, x8, x9, x10, x11, rfl, rfl⟩
          obtain ⟨hi2, rfl⟩ := rgD_get' hi
          have hi : i < qn := hi2
          have hb := rep_bound (ls := ls) (n := i)
          have hil : i * ls.length ≤ 400 := Nat.le_trans (Nat.mul_le_mul_right _ (by omega)) hqm
          have his : i * (signsF 0 ls).length ≤ 400 * 41 := Nat.mul_le_mul (by omega) h4
          have hif : i * (faultsF 0 ls).length ≤ 400 * 41 := Nat.mul_le_mul (by omega) h5
          have hkm : ((0 : Int) + (i : Nat)) * (ls.length : Nat) = ((i * ls.length : Nat) : Int) := by rw [Int.zero_add, Int.natCast_mul]
          walk_at "ww"
          refine rd_cat isL isL (by rw [List.length_map, List.length_map, rep_len]; exact le_size (by omega)) ?_
          rw [← List.map_append, ← rep_succ]
          walk_at "cold"
          refine we_lcmap (own_tup (owns_cons (by decide) (owns_cons (by decide) (owns_cons (by decide) (owns_cons (by decide) owns_nil))))) (wi_list (we_var rfl ⟨_, isR, signsF 0 ls, sigD, fun x => sigD (shS (i * ls.length) x), rfl, isR, by omega, fun x hx => ?_, ?_⟩))
          · obtain ⟨u, v, n, c⟩ := x
            walk_at "ww"
            · refine ⟨?_, rfl⟩
              rw [hkm]
              rfl
            · rw [Int.zero_add]
              exact .inl ⟨by omega, by omega⟩
          · refine .inl ?_
            refine rd_cat isL isL (by rw [List.length_map, List.length_map, hb.1]; exact le_size (by omega)) ?_
            have e1 := (rep_signs (n := i) (ls := ls)).1
            rw [show (signsF 0 ls).map (fun x => sigD (shS (i * ls.length) x)) = ((signsF 0 ls).map (shS (i * ls.length))).map sigD by rw [List.map_map]; rfl, ← List.map_append, ← e1]
            walk_at "cold"
            refine we_lcmap (own_tup (owns_cons (by decide) (owns_cons (by decide) owns_nil))) (wi_list (we_var rfl ⟨_, isR, faultsF 0 ls, ftD, fun x => ftD (shF (i * ls.length) x), rfl, isR, by omega, fun x hx => ?_, ?_⟩))
            · obtain ⟨n, c⟩ := x
              walk_at "ww"
              · refine ⟨?_, rfl⟩
                rw [hkm]
                rfl
              · rw [Int.zero_add]
                exact .inl ⟨by omega, by omega⟩
            · refine .inl ?_
              refine rd_cat isL isL (by rw [List.length_map, List.length_map, hb.2.1]; exact le_size (by omega)) ?_
              have e2 := (rep_signs (n := i) (ls := ls)).2
              rw [show (faultsF 0 ls).map (fun x => ftD (shF (i * ls.length) x)) = ((faultsF 0 ls).map (shF (i * ls.length))).map ftD by rw [List.map_map]; rfl, ← List.map_append, ← e2]
              walk_at "cold"
              exact ⟨_, _, _, _, _, rfl, rfl⟩
        · rintro ρ G' ⟨x7, x8, x9, x10, x11, rfl, rfl⟩
          rw [show (rgD 0 (qn : Int).toNat).length = qn by rw [rgD_len]; rfl]
          walk_at "ww"
          walk_at "cold"
          rw [List.length_map, rep_len]
          obtain ⟨m, hm⟩ : ∃ m : Nat, m + qn * ls.length = 400 := ⟨400 - qn * ls.length, by omega⟩
          have em : (400 : Int) - ((qn * ls.length : Nat) : Int) = (m : Nat) := by omega
          rw [em]
          refine rd_rep isL (by omega) (by omega) (by rw [List.length_singleton, Int.toNat_natCast]; exact le_size (by omega)) ?_
          rw [Int.toNat_natCast, show (List.replicate m [D.str (S [])]).flatten = (List.replicate m ([] : List Nat)).map sD by simp]
          walk_at "cold"
          refine rd_cat isL isL (by rw [List.length_map, List.length_map, rep_len, List.length_replicate]; exact le_size (by omega)) ?_
          rw [← List.map_append]
          walk_at "cold"
          have hb := rep_bound (ls := ls) (n := qn)
          have ht := tall_signs (n := qn) (m := m) (ls := ls)
          have qq := q (rep qn ls ++ List.replicate m []) ⟨?_, ?_, ?_, ?_, ?_, ?_⟩
          · rw [ht.1, ht.2] at qq
            exact .inl qq
          · rw [List.length_append, rep_len, List.length_replicate]; omega
          · rw [List.length_append, rep_len, List.length_replicate]; omega
          · intro l hl
            rcases List.mem_append.mp hl with hl | hl
            · exact h3 l (rep_mem hl)
            · rw [(List.mem_replicate.mp hl).2]; rfl
          · rw [ht.1]
            refine ⟨(signsF 0 ls).map fun x => S x.2.1, by rw [List.length_map]; omega, fun x hx => ?_⟩
            obtain ⟨y, hy, e⟩ := hb.2.2 x hx
            rw [e]
            exact List.mem_map.mpr ⟨y, hy, rfl⟩
          · rw [ht.1, hb.1]
            exact Nat.le_trans (Nat.mul_le_mul hq4 h4) (by decide)
          · rw [ht.2, hb.2.1]
            exact Nat.le_trans (Nat.mul_le_mul hq4 h5) (by decide)
      all_goals exact ⟨by omega, by omega⟩))
end

section
variable {P : Program} {w : World} {K : PySem.W.Frag} {mg : Str → Option Value} {base : Heap}
theorem eqv_sig {G : Cells} {n : Nat} {x : SgT} : Eqv G (n + 1) (sigD x) (sigD x) := .tups (.cons (.str _) (.cons (.str _) (.cons (.int _) (.cons (.int _) .nil)))) (show 4 ≤ 90000 by decide)
theorem eqv_ft {G : Cells} {n : Nat} {x : Nat × Nat} : Eqv G (n + 1) (ftD x) (ftD x) := .tups (.cons (.int _) (.cons (.int _) .nil)) (show 2 ≤ 90000 by decide)
/-! ### the signs' texts -/
theorem signAt_lt {l : List Nat} {a : Nat} : ∀ c ∈ (signAt l a).1, c < 55296 := by
  have hw : ∀ s : List Nat, ∀ c ∈ wordOf s, c < 55296 := fun s => by
    unfold wordOf
    split
    · rename_i h
      exact (by decide : ∀ s ∈ WORDS_l, ∀ c ∈ s, c < 55296) s h
    · split
      · decide
      · split
        · decide
        · split <;> decide
  unfold signAt
  split
  · unfold textAt
    split
    · dsimp only
      split <;> decide
    · exact fun c h => nomatch h
  · split
    · rename_i h
      exact (by decide : ∀ s ∈ LONG_MARKS_l, ∀ c ∈ s, c < 55296) _ h
    · split
      · rename_i h
        exact fun c hc => by rw [List.mem_singleton.mp hc]; exact (by decide : ∀ c ∈ marksL, c < 55296) _ h
      · split
        · exact hw _
        · split
          · exact hw _
          · split
            · exact hw _
            · exact fun c h => nomatch h
theorem scan_lt {l : List Nat} : ∀ (n a : Nat), ∀ x ∈ scan n l a, ∀ c ∈ x.1, c < 55296
  | 0, a, x, h => nomatch h
  | n + 1, a, x, h => by
    have h : x ∈ (if a < l.length ∧ (l.drop a).take 2 ≠ [45, 45] then (if l.getD a 0 = 32 then scan n l (a + 1) else ((signAt l a).1, a, (signAt l a).2) :: scan n l (signAt l a).2) else []) := h
    split at h
    · split at h
      · exact scan_lt n _ x h
      · rcases List.mem_cons.mp h with h | h
        · rw [h]; exact signAt_lt
        · exact scan_lt n _ x h
    · exact nomatch h
theorem isSign_lt {l : List Nat} (h : Tx.isLine l = true) : ∀ c ∈ l, c < 55296 := fun c hc => by
  unfold Tx.isLine at h
  rw [Bool.and_eq_true] at h
  have := List.all_eq_true.mp h.2 c hc
  unfold Tx.isSign at this
  rw [Bool.and_eq_true] at this
  have := of_decide_eq_true this.2
  omega
theorem signsF_lt : ∀ {ls : List (List Nat)} {n : Nat}, (∀ l ∈ ls, Tx.isLine l = true) → ∀ x ∈ signsF n ls, (∀ c ∈ x.1, c < 55296) ∧ ∀ c ∈ x.2.1, c < 55296
  | [], n, _, x, hx => nomatch hx
  | l :: r, n, h, x, hx => by
    have hx : x ∈ lineSigns n l (scan (l.length + 1) l 0) ++ signsF (n + 1) r := hx
    rcases List.mem_append.mp hx with hx | hx
    · unfold lineSigns at hx
      obtain ⟨y, hy, e⟩ := List.mem_filterMap.mp hx
      split at e
      · exact nomatch e
      · injection e with e
        rw [← e]
        exact ⟨scan_lt _ _ y hy, fun c hc => isSign_lt (h l List.mem_cons_self) c (List.mem_of_mem_drop (List.mem_of_mem_take hc))⟩
    · exact signsF_lt (fun l hl => h l (List.mem_cons_of_mem _ hl)) x hx
theorem pd_sigs {G : Cells} {ls : List (List Nat)} (h : ∀ l ∈ ls, Tx.isLine l = true) : PdA G ((signsF 0 ls).map sigD) ((signsF 0 ls).map fun x => .tuple [.str (S x.1), .str (S x.2.1), .int (x.2.2.1 : Nat), .int (x.2.2.2 : Nat)]) :=
  PdA.map fun x hx => .tup (.cons (.str (strOk_S (signsF_lt h x hx).1)) (.cons (.str (strOk_S (signsF_lt h x hx).2)) (.cons (.int _) (.cons (.int _) .nil))))
theorem pd_fts {G : Cells} {l : List (Nat × Nat)} : PdA G (l.map ftD) (l.map fun x => .tuple [.int (x.1 : Nat), .int (x.2 : Nat)]) := PdA.map fun x hx => .tup (.cons (.int _) (.cons (.int _) .nil))
theorem pd_lines {G : Cells} {ls : List (List Nat)} (h : ∀ l ∈ ls, Tx.isLine l = true) : PdA G (ls.map sD) (ls.map fun l => .str (S l)) := PdA.map fun x hx => .str (strOk_S (isSign_lt (h x hx)))
theorem sorted_of {zs : List Str} (h : zs.Pairwise fun a b => leS a b ∧ a ≠ b) : sortedS zs = true ∧ zs.Nodup :=
  ⟨sortedS_of_pairwise zs (h.imp fun h => h.1), h.imp fun h => h.2⟩
abbrev nmL : List (List Nat) := [[110, 97, 109, 101], [103, 114, 101, 97, 116]]
def F_law_block : FD := fun ds G R => ∃ (L : List (List Nat)), ds = [.lst (L.map sD), .lst ((signsF 0 L).map sigD), .lst ((faultsF 0 L).map ftD)] ∧ Fine L ∧ R (.bl true) G
theorem ok_law_block (T : Top K mg) : FnOk P w K mg base CX0 8 T.a_law_block T.d_law_block ["lines", "signs", "faults"] (SpD K F_law_block) := by
  refine fn_ok T.law_block.fn sc_law_block (fun ds G R h => ?_) fun cdv A outer s H E hr => ⟨_, (pss_cons (ps_set (i := 3) sc_law_block.nd rfl (Or.inr rfl) (pe_callB cr_sortA (by rfl) T.sorted (by decide +kernel) (pa_cons (pe_lc (own := [("word", 5), ("string", 6), ("line", 7), ("column", 8)]) rfl sc_law_block.nd (pi_list (pv 1)) (blkOk_by (N := ["lines", "signs", "faults", "names", "lead", "word", "string", "line", "column", "k", "name"]) (sc := defScope s_law_block) (by decide +kernel)) (fun _ _ _ _ _ => (show PG _ _ (gTup K 4 _) from pg_tup rfl (pgs_cons (pg_name (i := 5) sc_law_block.nd rfl (Or.inl rfl)) (pgs_cons (pg_name (i := 6) sc_law_block.nd rfl (Or.inl rfl)) (pgs_cons (pg_name (i := 7) sc_law_block.nd rfl (Or.inl rfl)) (pgs_cons (pg_name (i := 8) sc_law_block.nd rfl (Or.inl rfl)) pgs_nil)))))) (fun _ _ _ _ _ => (pts_one (pt_cmpR (show OpR _ _ (rIn K false) from op_in_seq) (pv 5) (pe_tup (pa_cons pe_str (pa_cons pe_str pa_nil))) (by first | rfl | exact nomark _)))) (fun _ _ _ _ _ => (pv 6))) pa_nil)))
  (pss_cons (ps_set (i := 3) sc_law_block.nd rfl (Or.inr rfl) (pe_lc (own := [("k", 9), ("name", 10)]) rfl sc_law_block.nd (pi_enum (by rfl) T.enumerate (pa_cons (pv 3) pa_nil)) (blkOk_by (N := ["lines", "signs", "faults", "names", "lead", "word", "string", "line", "column", "k", "name"]) (sc := defScope s_law_block) (by decide +kernel)) (fun _ _ _ _ _ => (show PG _ _ (gTup K 2 _) from pg_tup rfl (pgs_cons (pg_name (i := 9) sc_law_block.nd rfl (Or.inl rfl)) (pgs_cons (pg_name (i := 10) sc_law_block.nd rfl (Or.inl rfl)) pgs_nil)))) (fun _ _ _ _ _ => (pts_one (PW.pt (pw_or (pt_cmpR op_eq (pv 9) pe_int (nomark _)) (pw_or1 (pt_cmpR op_ne (pe_ix (show IxR _ (rIxL K) from ix_list) (pv 3) (pe_op op_sub (pv 9) pe_int) (fun _ _ => rfl)) (pv 10) (nomark _))))))) (fun _ _ _ _ _ => (pv 10))))
  (pss_cons (ps_if (pt_cmpR (op_neD hr.units) (pv 2) (pe_lst pa_nil) (nomark _))
   (pss_one (ps_ret (pe_call (ok_law_same T) (hr.mono (by decide)) (by rfl) T.law_same.mg T.law_same.fn.kp T.law_same.bd .nil pass0 (pa_cons (pe_call (ok_tree_of T) (hr.mono (by decide)) (by rfl) T.tree_of.mg T.tree_of.fn.kp T.tree_of.bd .nil pass0 (pa_cons (pe_lc (own := [("line", 7)]) rfl sc_law_block.nd (pi_list (pv 0)) (blkOk_by (N := ["lines", "signs", "faults", "names", "lead", "word", "string", "line", "column", "k", "name"]) (sc := defScope s_law_block) (by decide +kernel)) (fun _ _ _ _ _ => (pg_name (i := 7) sc_law_block.nd rfl (Or.inl rfl))) (fun _ _ _ _ _ => pts_nil) (fun _ _ _ _ _ => (pv 7))) pa_nil)) (pa_cons (pe_tup (pa_cons pe_str (pa_cons pe_str (pa_cons pe_int (pa_cons pe_int (pa_cons (pv 3) pa_nil)))))) pa_nil)))))
   pss_nil)
  (pss_cons (ps_if (pt_cmpR (op_eqD hr.units) (pv 1) (pe_lst pa_nil) (nomark _))
   (pss_cons (ps_set (i := 4) sc_law_block.nd rfl (Or.inl rfl) (pe_or (pe_cmpR op_eq (pe_ix (show IxR _ (rIxL K) from ix_list) (pv 0) pe_int (fun _ _ => rfl)) pe_str (nomark _)) (pe_one (pe_cmpR op_eq (pe_ix ix_str (pe_ix (show IxR _ (rIxL K) from ix_list) (pv 0) pe_int (fun _ _ => rfl)) pe_int (fun _ _ => rfl)) pe_str (nomark _)))))
  (pss_one (ps_ret (pe_call (ok_law_same T) (hr.mono (by decide)) (by rfl) T.law_same.mg T.law_same.fn.kp T.law_same.bd .nil pass0 (pa_cons (pe_call (ok_tree_of T) (hr.mono (by decide)) (by rfl) T.tree_of.mg T.tree_of.fn.kp T.tree_of.bd .nil pass0 (pa_cons (pe_lc (own := [("line", 7)]) rfl sc_law_block.nd (pi_list (pv 0)) (blkOk_by (N := ["lines", "signs", "faults", "names", "lead", "word", "string", "line", "column", "k", "name"]) (sc := defScope s_law_block) (by decide +kernel)) (fun _ _ _ _ _ => (pg_name (i := 7) sc_law_block.nd rfl (Or.inl rfl))) (fun _ _ _ _ _ => pts_nil) (fun _ _ _ _ _ => (pv 7))) pa_nil)) (pa_cons (pe_ix (show IxR _ (rIxL K) from ix_list) (pe_lst (pa_cons (pe_tup (pa_cons pe_str (pa_cons pe_str (pa_cons pe_int (pa_cons pe_int (pa_cons (pe_lst pa_nil) pa_nil)))))) (pa_cons (pe_tup (pa_cons pe_str (pa_cons pe_int (pa_cons pe_int (pa_cons (pe_lst pa_nil) (pa_cons (pe_lst pa_nil) pa_nil)))))) pa_nil))) (pe_callTy call_int1 (by rfl) T.int (by decide +kernel) (pa_cons (pv 4) pa_nil)) (fun _ _ => rfl)) pa_nil))))))
   pss_nil)
  (pss_one (ps_ret pe_bl)))))), fun ds G R hF => ?_⟩
  · obtain ⟨L, rfl, _⟩ := h
    rfl
  · obtain ⟨L, rfl, hf, q⟩ := hF
    walk_at "go"
    change WS K _ [some _, some _, some _, none, none, none, none, none, none, none, none] _ _
    walk_at "vv"
    -- the names of signs
    refine we_lc (own_tup (owns_cons (by decide) (owns_cons (by decide) (owns_cons (by decide) (owns_cons (by decide) owns_nil))))) (wi_list (we_var rfl ⟨_, isR, fun i acc G' => acc = (((signsF 0 L).take i).filter fun x => decide (x.1 ∈ nmL)).map (fun x => D.str (S x.2.1)) ∧ G' = G, ⟨rfl, rfl⟩, fun _ _ _ _ => isR, ?_, ?_⟩))
    · rintro i d acc G' hi ⟨rfl, rfl⟩
      obtain ⟨⟨u, v, n, c⟩, hx, rfl⟩ := map_get hi
      have hil := (List.getElem?_eq_some_iff.mp hx).1
      have hs1 := hf.s1
      walk_at "ww"
      refine rd_inQ (ls := nmL) isQt ?_
      rw [if_neg (by decide)]
      walk_at "ww"
      refine ite_P (fun h => ?_) (fun h => ?_)
      · walk_at "ww"
        refine ⟨?_, ?_, rfl⟩
        · rw [List.length_map]
          refine lt_size (Nat.lt_of_le_of_lt (List.length_filter_le _ _) ?_)
          rw [List.length_take]
          omega
        · rw [List.take_add_one, hx, Option.toList_some, List.filter_append, List.map_append, List.filter_cons_of_pos (by exact decide_eq_true h)]
          rfl
      · refine ⟨?_, rfl⟩
        rw [List.take_add_one, hx, Option.toList_some, List.filter_append, List.map_append, List.filter_cons_of_neg (by simpa using h)]
        exact (List.append_nil _).symm
    · rintro acc G' ⟨rfl, rfl⟩
      rw [List.length_map, List.take_of_length_le (Nat.le_refl _)]
      walk_at "cold"
      refine rc_sortA (l := ((signsF 0 L).filter fun x => decide (x.1 ∈ nmL)).map fun x => S x.2.1) (by rw [List.map_map]; exact isR) fun ys hp hs => ?_
      have hpw := sorted_pair hs
      have hyl : ys.length ≤ 40000 := by
        rw [hp.length_eq, List.length_map]
        exact Nat.le_trans (List.length_filter_le _ _) hf.s1
      have hym : ∀ z : Str, z ∈ ys ↔ ∃ x ∈ signsF 0 L, (x.1 = [110, 97, 109, 101] ∨ x.1 = [103, 114, 101, 97, 116]) ∧ z = S x.2.1 := fun z => by
        rw [hp.mem_iff, List.mem_map]
        constructor
        · rintro ⟨x, hx, rfl⟩
          obtain ⟨h1, h2⟩ := List.mem_filter.mp hx
          have h2 := of_decide_eq_true h2
          exact ⟨x, h1, by simpa using h2, rfl⟩
        · rintro ⟨x, h1, h2, rfl⟩
          exact ⟨x, List.mem_filter.mpr ⟨h1, decide_eq_true (by simpa using h2)⟩, rfl⟩
      walk_at "cold"
      -- each once
      refine we_lc (own_tup (owns_cons (by decide) (owns_cons (by decide) owns_nil))) (wi_enum (wa_cons (we_var rfl (wa_nil ⟨_, _, rfl, isR, fun i acc G2 => ∃ zs : List Str, acc = zs.map D.str ∧ G2 = G' ∧ zs.length ≤ i ∧ (∀ z, z ∈ zs ↔ z ∈ ys.take i) ∧ zs.Pairwise fun a b => leS a b ∧ a ≠ b, ⟨[], rfl, rfl, Nat.le_refl _, (fun z => by simp), .nil⟩, fun _ _ _ _ => isR, ?_, ?_⟩))))
      · rintro i d acc G2 hi ⟨zs, rfl, rfl, hzl, hzm, hzp⟩
        obtain ⟨c, hc, rfl⟩ := en_get hi
        obtain ⟨y, hy, rfl⟩ := map_get hc
        have hil := (List.getElem?_eq_some_iff.mp hy).1
        have htk : ys.take (i + 1) = ys.take i ++ [y] := by rw [List.take_add_one, hy]; rfl
        have hpre : ∀ z ∈ ys.take i, leS z y := fun z hz => by
          have h : (ys.take i ++ [y]).Pairwise leS := htk ▸ hpw.sublist (List.take_sublist _ _)
          exact (List.pairwise_append.mp h).2.2 z hz y List.mem_cons_self
        have keep : (i = 0 ∨ ∃ p, ys[i - 1]? = some p ∧ p ≠ y) → ∃ zs' : List Str, (zs ++ [y]).map D.str = zs'.map D.str ∧ G2 = G2 ∧ zs'.length ≤ i + 1 ∧ (∀ z, z ∈ zs' ↔ z ∈ ys.take (i + 1)) ∧ zs'.Pairwise fun a b => leS a b ∧ a ≠ b := fun h => by
          refine ⟨zs ++ [y], rfl, rfl, by rw [List.length_append, List.length_singleton]; omega, fun z => ?_, List.pairwise_append.mpr ⟨hzp, List.pairwise_singleton _ _, fun z hz y' hy' => ?_⟩⟩
          · rw [htk, List.mem_append, List.mem_append, hzm]
          · rw [List.mem_singleton.mp hy']
            have hz2 := (hzm z).mp hz
            refine ⟨hpre z hz2, fun e => ?_⟩
            rcases h with h | ⟨p, hp1, hp2⟩
            · subst h
              exact absurd hz2 (by simp)
            · have hi0 : i ≠ 0 := fun h => by subst h; exact absurd hz2 (by simp)
              obtain ⟨j, rfl⟩ : ∃ j, i = j + 1 := ⟨i - 1, by omega⟩
              have hp1 : ys[j]? = some p := hp1
              have htj : ys.take (j + 1) = ys.take j ++ [p] := by rw [List.take_add_one, hp1]; rfl
              have hpy : leS p y := hpre p (by rw [htj]; exact List.mem_append_right _ List.mem_cons_self)
              have hzp2 : leS z p := by
                rw [htj] at hz2
                rcases List.mem_append.mp hz2 with hz2 | hz2
                · have h : (ys.take j ++ [p]).Pairwise leS := htj ▸ hpw.sublist (List.take_sublist _ _)
                  exact (List.pairwise_append.mp h).2.2 z hz2 p List.mem_cons_self
                · rw [List.mem_singleton.mp hz2]
                  exact leS_iff.mpr (List.le_refl _)
              exact hp2 (leS_anti hpy (e ▸ hzp2))
        walk_at "ww"
        refine ite_P (fun h => ?_) (fun h => ?_)
        · have h : i = 0 := by omega
          walk_at "ww"
          exact ⟨by rw [List.length_map]; exact lt_size (by omega), by rw [← List.map_singleton (f := D.str) (a := y), ← List.map_append]; exact keep (.inl h)⟩
        · have h : i ≠ 0 := by omega
          obtain ⟨p, hpp⟩ : ∃ p, ys[i - 1]? = some p := ⟨_, List.getElem?_eq_getElem (by omega)⟩
          walk_at "ww"
          refine rd_ixL (d := D.str p) isR (atZ (by omega) (by rw [show ((i : Int) - 1).toNat = i - 1 by omega, List.getElem?_map, hpp]; rfl)) ?_
          walk_at "ww"
          refine ite_N (fun h2 => ?_) (fun h2 => ?_)
          · walk_at "ww"
            exact ⟨by rw [List.length_map]; exact lt_size (by omega), by rw [← List.map_singleton (f := D.str) (a := y), ← List.map_append]; exact keep (.inr ⟨p, hpp, h2⟩)⟩
          · refine ⟨zs, rfl, rfl, by omega, fun z => ?_, hzp⟩
            rw [htk, List.mem_append, hzm, List.mem_singleton]
            refine ⟨.inl, fun k => k.elim id fun e => ?_⟩
            rw [e, ← h2]
            exact List.mem_of_getElem? (i := i - 1) (by rw [List.getElem?_take, if_pos (by omega)]; exact hpp)
      · rintro acc G2 ⟨zs, rfl, rfl, hzl, hzm, hzp⟩
        rw [enD_len, List.length_map] at hzl hzm
        rw [List.take_of_length_le (Nat.le_refl _)] at hzm
        have hN : NamesOf (signsF 0 L) zs := ⟨(sorted_of hzp).1, (sorted_of hzp).2, fun z => (hzm z).trans (hym z)⟩
        have tree : ∀ {Q : D → Cells → Prop}, (faultsF 0 L ≠ [] ∨ signsF 0 L = []) → Q (if faultsF 0 L = [] ∧ blankL (L.headD []) = true then .tup [.str (S leadL), .int 0, .int 1, .lst [], .lst []] else .tup [.str (S [104, 111, 108, 101]), .str (S []), .int 0, .int 1, .lst (zs.map D.str)]) G2 → F_tree_of [.lst (L.map sD)] G2 Q := fun hc q => ⟨_, L, rfl, isL, hf.l1, hf.l2, hf.ok, hc, hf.few.le, fun ys' hy' => by rw [names_uniq hy' hN]; exact q⟩
        have hl1 := hf.l2
        walk_at "cold"
        walk_at "cold"
        refine rd_neE isR pd_fts (fun a _ => by exact (by decide : 1 ≤ 10)) ?_
        walk_at "ww"
        refine ite_N (fun h => ?_) (fun h => ?_)
        · walk_at "ww"
          refine isLid (ls := L.map sD) (by decide) (by rw [List.length_map]; omega) (fun d => ?_) (wi_list (we_var rfl ⟨_, isR, rfl, isR, rfl, ?_⟩))
          · walk_at "ww"
            exact ⟨rfl, rfl⟩
          · walk_at "cold"
            refine tree (.inl h) ?_
            rw [if_neg fun z => h z.1]
            walk_at "ww"
            refine ⟨_, _, rfl, .tups (.cons (.str _) (.cons (.str _) (.cons (.int _) (.cons (.int _) (.cons (.lsts isL isL (paired_map fun a _ => .str a) (by rw [List.length_map]; omega)) .nil))))) (show 5 ≤ 90000 by decide), ?_⟩
            exact .inl q
        · walk_at "ww"
          walk_at "cold"
          refine rd_eqE isR (pd_sigs hf.ok) (fun a _ => by exact (by decide : 1 ≤ 10)) ?_
          walk_at "ww"
          refine ite_P (fun h2 => ?_) (fun h2 => ?_)
          · obtain ⟨l0, r0, rfl⟩ : ∃ l0 r0, L = l0 :: r0 := by
              cases L with
              | nil => exact absurd hf.l1 (by decide)
              | cons a b => exact ⟨a, b, rfl⟩
            refine ws_seq (ws_asg (we_to (Q1 := fun d G1 => d = .bl (blankL l0) ∧ G1 = G2) ?_ ?_))
            · walk_at "ww"
              refine rd_ixL (d := sD l0) isR at0 ?_
              walk_at "ww"
              refine ite_P (fun h3 => ?_) (fun h3 => ?_)
              · rw [h3]
                exact ⟨rfl, rfl⟩
              · obtain ⟨c, r, rfl⟩ : ∃ c r, l0 = c :: r := by
                  cases l0 with
                  | nil => exact absurd rfl h3
                  | cons a b => exact ⟨a, b, rfl⟩
                walk_at "ww"
                refine rd_ixL (d := sD (c :: r)) isR at0 ?_
                walk_at "ww"
                refine rd_ixT' (c := c) (by have := line_le (hf.ok _ List.mem_cons_self); omega) (by omega) rfl ?_
                walk_at "ww"
                refine ⟨?_, rfl⟩
                show D.bl _ = D.bl (decide (c :: r = []) || decide (c = 32))
                rw [decide_eq_false h3, Bool.false_or]
                congr 1
                rw [Bool.eq_iff_iff, decide_eq_true_iff, decide_eq_true_iff]
                simp
            · rintro d G1 ⟨rfl, rfl⟩
              have hz : zs = [] := List.eq_nil_iff_forall_not_mem.mpr fun z hz => by
                obtain ⟨x, hx, _⟩ := (hN.2.2 z).mp hz
                rw [h2] at hx
                exact nomatch hx
              subst hz
              walk_at "ww"
              refine isLid (ls := (l0 :: r0).map sD) (by decide) (by rw [List.length_map]; omega) (fun d => ?_) (wi_list (we_var rfl ⟨_, isR, rfl, isR, rfl, ?_⟩))
              · walk_at "ww"
                exact ⟨rfl, rfl⟩
              · walk_at "cold"
                refine tree (.inr h2) ?_
                walk_at "ww"
                walk_at "cold"
                walk_at "cold"
                walk_at "cold"
                walk_at "cold"
                by_cases hb : blankL l0 = true
                · rw [if_pos (show faultsF 0 (l0 :: r0) = [] ∧ blankL ((l0 :: r0).headD []) = true from ⟨h, hb⟩), hb]
                  refine rd_ixL isR rfl ?_
                  walk_at "ww"
                  refine ⟨_, _, rfl, .tups (.cons (.str _) (.cons (.int _) (.cons (.int _) (.cons (.lsts isL isL .nil (by decide)) (.cons (.lsts isL isL .nil (by decide)) .nil))))) (show 5 ≤ 90000 by decide), ?_⟩
                  exact .inl q
                · rw [if_neg (show ¬ (faultsF 0 (l0 :: r0) = [] ∧ blankL ((l0 :: r0).headD []) = true) from fun z => hb z.2), show blankL l0 = false by simpa using hb]
                  refine rd_ixL isR rfl ?_
                  walk_at "ww"
                  refine ⟨_, _, rfl, .tups (.cons (.str _) (.cons (.str _) (.cons (.int _) (.cons (.int _) (.cons (.lsts isL isL .nil (by decide)) .nil))))) (show 5 ≤ 90000 by decide), ?_⟩
                  exact .inl q
          · walk_at "ww"
            exact .inl q
end

section
variable {P : Program} {w : World} {K : PySem.W.Frag} {mg : Str → Option Value} {base : Heap}
theorem c0 {G : Cells} {a : Cell} {r : Cells} : (G ++ a :: r)[G.length]? = some a := get_app (k := 0)
theorem c1 {G : Cells} {a b : Cell} {r : Cells} : (G ++ a :: b :: r)[G.length + 1]? = some b := get_app (k := 1)
theorem c2 {G : Cells} {a b c : Cell} {r : Cells} : (G ++ a :: b :: c :: r)[G.length + 2]? = some c := get_app (k := 2)
theorem c3 {G : Cells} {a b c d : Cell} {r : Cells} : (G ++ a :: b :: c :: d :: r)[G.length + 3]? = some d := get_app (k := 3)
theorem c4 {G : Cells} {a b c d e : Cell} {r : Cells} : (G ++ a :: b :: c :: d :: e :: r)[G.length + 4]? = some e := get_app (k := 4)
theorem c5 {G : Cells} {a b c d e f : Cell} {r : Cells} : (G ++ a :: b :: c :: d :: e :: f :: r)[G.length + 5]? = some f := get_app (k := 5)
theorem c6 {G : Cells} {a b c d e f g : Cell} {r : Cells} : (G ++ a :: b :: c :: d :: e :: f :: g :: r)[G.length + 6]? = some g := get_app (k := 6)
theorem u0 {G : Cells} {a x : Cell} {r : Cells} : (G ++ a :: r).set G.length x = G ++ x :: r := set_app (k := 0)
theorem u1 {G : Cells} {a b x : Cell} {r : Cells} : (G ++ a :: b :: r).set (G.length + 1) x = G ++ a :: x :: r := set_app (k := 1)
theorem u2 {G : Cells} {a b c x : Cell} {r : Cells} : (G ++ a :: b :: c :: r).set (G.length + 2) x = G ++ a :: b :: x :: r := set_app (k := 2)
theorem u3 {G : Cells} {a b c d x : Cell} {r : Cells} : (G ++ a :: b :: c :: d :: r).set (G.length + 3) x = G ++ a :: b :: c :: x :: r := set_app (k := 3)
theorem u4 {G : Cells} {a b c d e x : Cell} {r : Cells} : (G ++ a :: b :: c :: d :: e :: r).set (G.length + 4) x = G ++ a :: b :: c :: d :: x :: r := set_app (k := 4)
theorem LP.lt {lw s : List Nat} (h : LP lw s) : (∀ c ∈ lw, c < 55296) ∧ ∀ c ∈ s, c < 55296 := ⟨h.1, fun c hc => by
  obtain ⟨_, w, b, hp, _⟩ := h
  have := okc_sign (hp.pr c hc)
  unfold Tx.isSign at this
  rw [Bool.and_eq_true] at this
  have := of_decide_eq_true this.2
  omega⟩
theorem same_told {G : Cells} {n m : Nat} {L : List (List Nat)} (hf : Fine L) (h1 : G[n]? = some (.lst ((signsF 0 L).map sigD))) (h2 : G[m]? = some (.lst ((faultsF 0 L).map ftD))) : Eqv G 5 (.tup [.ptr n, .ptr m]) (.tup [.lst ((signsF 0 L).map sigD), .lst ((faultsF 0 L).map ftD)]) :=
  .tups (.cons (.lsts (isLp h1) isL (paired_map fun a _ => eqv_sig) (by rw [List.length_map]; have := hf.s1; omega)) (.cons (.lsts (isLp h2) isL (paired_map fun a _ => eqv_ft) (by rw [List.length_map]; have := hf.f1; omega)) .nil)) (show 2 ≤ 90000 by decide)
theorem rem_signs {L : List (List Nat)} : (∀ e ∈ L, Rem e) → ∀ n, signsF n L = [] ∧ faultsF n L = [] := by
  induction L with
  | nil => exact fun _ _ => ⟨rfl, rfl⟩
  | cons e r ih =>
    intro h n
    have ha := line_all (n := n) (l := []) (t := e) (h e List.mem_cons_self).1 (h e List.mem_cons_self).2.1
    have hr := ih (fun e he => h e (List.mem_cons_of_mem _ he)) (n + 1)
    exact ⟨by show lineSigns n e (scan (e.length + 1) e 0) ++ signsF (n + 1) r = []; rw [hr.1, List.append_nil]; exact ha.1, by show lineFaults n (scan (e.length + 1) e 0) ++ faultsF (n + 1) r = []; rw [hr.2, List.append_nil]; exact ha.2⟩
def F_law : FD := fun ds G R => ∃ ns : List Int, ds = [.ro (ns.map D.int)] ∧ ns.length ≤ 63 ∧ R (.bl true) G
theorem ok_law (T : Top K mg) : FnOk P w K mg base CX0 9 T.a_law T.d_law ["script"] (SpD K F_law) := by
  refine fn_ok T.law.fn sc_law (fun ds G R h => ?_) fun cdv A outer s H E hr => ⟨_, (pss_cons (ps_set (i := 1) sc_law.nd rfl (Or.inl rfl) (pe_call (ok_law_stream T) (hr.mono (by decide)) (by rfl) T.law_stream.mg T.law_stream.fn.kp T.law_stream.bd .nil pass0 (pa_cons (pv 0) pa_nil)))
  (pss_cons (ps_par (i := 2) (j := 3) rfl sc_law.nd rfl rfl (by decide) rfl rfl (pa_cons (pe_lst pa_nil) (pa_cons (pe_ix (show IxR _ (rIxL K) from ix_list) (pe_lst (pa_cons pe_int (pa_cons pe_int (pa_cons pe_int pa_nil)))) (pe_call (ok_law_pick T) (hr.mono (by decide)) (by rfl) T.law_pick.mg T.law_pick.fn.kp T.law_pick.bd .nil pass0 (pa_cons (pv 1) (pa_cons pe_int pa_nil))) (fun _ _ => rfl)) pa_nil)) (by rfl))
  (pss_cons (ps_for PassesOwn.never rfl (pi_range1 rfl T.range (pa_cons (pe_ix (show IxR _ (rIxL K) from ix_list) (pe_lst (pa_cons (pe_call (ok_law_pick T) (hr.mono (by decide)) (by rfl) T.law_pick.mg T.law_pick.fn.kp T.law_pick.bd .nil pass0 (pa_cons (pv 1) (pa_cons pe_int pa_nil))) (pa_cons (pe_call (ok_law_pick T) (hr.mono (by decide)) (by rfl) T.law_pick.mg T.law_pick.fn.kp T.law_pick.bd .nil pass0 (pa_cons (pv 1) (pa_cons pe_int pa_nil))) pa_nil))) (pe_callTy call_int1 (by rfl) T.int (by decide +kernel) (pa_cons (pe_cmpR op_eq (pe_call (ok_law_pick T) (hr.mono (by decide)) (by rfl) T.law_pick.mg T.law_pick.fn.kp T.law_pick.bd .nil pass0 (pa_cons (pv 1) (pa_cons pe_int pa_nil))) pe_int (nomark _)) pa_nil)) (fun _ _ => rfl)) pa_nil)) (pg_name (i := 4) sc_law.nd rfl (Or.inl rfl))
   (pss_one (ps_if (PW.pt (pw_and (pt_cmpR op_gt (pv 3) pe_int (nomark _)) (pw_and1 (pt_cmpR op_eq (pe_call (ok_law_pick T) (hr.mono (by decide)) (by rfl) T.law_pick.mg T.law_pick.fn.kp T.law_pick.bd .nil pass0 (pa_cons (pv 1) (pa_cons (pv 3) pa_nil))) pe_int (nomark _)))))
   (pss_one (ps_expr (pe_bm PySem.F.plainAttrs_list PySem.F.slot_list_append PySem.F.type_list_append mt_append (pv 2) (pa_cons (pe_call (ok_law_none T) (hr.mono (by decide)) (by rfl) T.law_none.mg T.law_none.fn.kp T.law_none.bd .nil pass0 (pa_cons (pv 1) pa_nil)) pa_nil))))
   (pss_one (ps_expr (pe_bm PySem.F.plainAttrs_list PySem.F.slot_list_append PySem.F.type_list_append mt_append (pv 2) (pa_cons (pe_call (ok_law_sign T) (hr.mono (by decide)) (by rfl) T.law_sign.mg T.law_sign.fn.kp T.law_sign.bd .nil pass0 (pa_cons (pv 1) pa_nil)) pa_nil)))))))
  (pss_cons (ps_asg (pe_call (ok_law_laid T) (hr.mono (by decide)) (by rfl) T.law_laid.mg T.law_laid.fn.kp T.law_laid.bd .nil pass0 (pa_cons (pv 1) (pa_cons (pv 2) pa_nil))) (show PG _ _ (gTup K 3 _) from pg_tup rfl (pgs_cons (pg_name (i := 5) sc_law.nd rfl (Or.inl rfl)) (pgs_cons (pg_name (i := 6) sc_law.nd rfl (Or.inl rfl)) (pgs_cons (pg_name (i := 7) sc_law.nd rfl (Or.inl rfl)) pgs_nil)))))
  (pss_cons (ps_if (pt_cmpR (op_eqD hr.units) (pv 2) (pe_lst pa_nil) (nomark _))
   (pss_one (ps_set (i := 5) sc_law.nd rfl (Or.inl rfl) (pe_ix (show IxR _ (rIxL K) from ix_list) (pe_lst (pa_cons (pe_lst (pa_cons pe_str pa_nil)) (pa_cons (pe_lst (pa_cons pe_str pa_nil)) (pa_cons (pe_lst (pa_cons (pe_call (ok_law_remark T) (hr.mono (by decide)) (by rfl) T.law_remark.mg T.law_remark.fn.kp T.law_remark.bd .nil pass0 (pa_cons (pv 1) pa_nil)) pa_nil)) (pa_cons (pe_lst (pa_cons (pe_op op_add_str pe_str (pe_call (ok_law_remark T) (hr.mono (by decide)) (by rfl) T.law_remark.mg T.law_remark.fn.kp T.law_remark.bd .nil pass0 (pa_cons (pv 1) pa_nil))) pa_nil)) (pa_cons (pe_lst (pa_cons (pe_call (ok_law_remark T) (hr.mono (by decide)) (by rfl) T.law_remark.mg T.law_remark.fn.kp T.law_remark.bd .nil pass0 (pa_cons (pv 1) pa_nil)) (pa_cons pe_str pa_nil))) pa_nil)))))) (pe_call (ok_law_pick T) (hr.mono (by decide)) (by rfl) T.law_pick.mg T.law_pick.fn.kp T.law_pick.bd .nil pass0 (pa_cons (pv 1) (pa_cons pe_int pa_nil))) (fun _ _ => rfl))))
   pss_nil)
  (pss_cons (ps_if (pt_cmpR op_eq (pe_call (ok_law_pick T) (hr.mono (by decide)) (by rfl) T.law_pick.mg T.law_pick.fn.kp T.law_pick.bd .nil pass0 (pa_cons (pv 1) (pa_cons pe_int pa_nil))) pe_int (nomark _))
   (pss_one (ps_asg (pe_call (ok_law_tall T) (hr.mono (by decide)) (by rfl) T.law_tall.mg T.law_tall.fn.kp T.law_tall.bd .nil pass0 (pa_cons (pv 5) (pa_cons (pv 6) (pa_cons (pv 7) pa_nil)))) (show PG _ _ (gTup K 3 _) from pg_tup rfl (pgs_cons (pg_name (i := 5) sc_law.nd rfl (Or.inl rfl)) (pgs_cons (pg_name (i := 6) sc_law.nd rfl (Or.inl rfl)) (pgs_cons (pg_name (i := 7) sc_law.nd rfl (Or.inl rfl)) pgs_nil))))))
   pss_nil)
  (pss_cons (ps_setLc (i := 8) (own := [("line", 10)]) rfl sc_law.nd rfl rfl (sw_true rfl rfl rfl (by decide +kernel)) (pi_list (pv 5)) (blkOk_by (N := ["script", "pool", "rows", "odd", "turn", "lines", "signs", "faults", "given", "told", "line"]) (sc := defScope s_law) (by decide +kernel)) (fun _ _ _ _ _ => (pg_name (i := 10) sc_law.nd rfl (Or.inl rfl))) (fun _ _ _ _ _ => pts_nil) (fun _ _ _ _ _ => (pv 10)))
  (pss_cons (ps_set (i := 9) sc_law.nd rfl (Or.inl rfl) (pe_call (ok_signs_of T) (hr.mono (by decide)) (by rfl) T.signs_of.mg T.signs_of.fn.kp T.signs_of.bd .nil pass0 (pa_cons (pv 8) pa_nil)))
  (pss_cons (ps_if (PW.pt (pw_or (pt_not (pt_val (pe_call (ok_law_same T) (hr.mono (by decide)) (by rfl) T.law_same.mg T.law_same.fn.kp T.law_same.bd .nil pass0 (pa_cons (pv 9) (pa_cons (pe_tup (pa_cons (pv 6) (pa_cons (pv 7) pa_nil))) pa_nil))))) (pw_or1 (pt_cmpR (op_neD hr.units) (pv 8) (pv 5) (nomark _)))))
   (pss_one (ps_ret pe_bl))
   pss_nil)
  (pss_cons (ps_expr (pe_bm PySem.F.plainAttrs_list PySem.F.slot_list_append PySem.F.type_list_append mt_append (pe_ix (show IxR _ (rIxT K) from ix_tup) (pv 9) pe_int (fun _ _ => rfl)) (pa_cons (pe_tup (pa_cons pe_str (pa_cons pe_str (pa_cons pe_int (pa_cons pe_int pa_nil))))) pa_nil)))
  (pss_cons (ps_expr (pe_bm PySem.F.plainAttrs_list PySem.F.slot_list_append PySem.F.type_list_append mt_append (pe_ix (show IxR _ (rIxT K) from ix_tup) (pv 9) pe_int (fun _ _ => rfl)) (pa_cons (pe_tup (pa_cons pe_int (pa_cons pe_int pa_nil))) pa_nil)))
  (pss_cons (ps_asg pe_str (pg_sub (pv 8) pe_int set_list))
  (pss_cons (ps_if (pt_not (pt_val (pe_call (ok_law_same T) (hr.mono (by decide)) (by rfl) T.law_same.mg T.law_same.fn.kp T.law_same.bd .nil pass0 (pa_cons (pe_call (ok_signs_of T) (hr.mono (by decide)) (by rfl) T.signs_of.mg T.signs_of.fn.kp T.signs_of.bd .nil pass0 (pa_cons (pe_lc (own := [("line", 10)]) rfl sc_law.nd (pi_list (pv 5)) (blkOk_by (N := ["script", "pool", "rows", "odd", "turn", "lines", "signs", "faults", "given", "told", "line"]) (sc := defScope s_law) (by decide +kernel)) (fun _ _ _ _ _ => (pg_name (i := 10) sc_law.nd rfl (Or.inl rfl))) (fun _ _ _ _ _ => pts_nil) (fun _ _ _ _ _ => (pv 10))) pa_nil)) (pa_cons (pe_tup (pa_cons (pv 6) (pa_cons (pv 7) pa_nil))) pa_nil)))))
   (pss_one (ps_ret pe_bl))
   pss_nil)
  (pss_one (ps_ret (pe_call (ok_law_block T) (hr.mono (by decide)) (by rfl) T.law_block.mg T.law_block.fn.kp T.law_block.bd .nil pass0 (pa_cons (pv 5) (pa_cons (pv 6) (pa_cons (pv 7) pa_nil))))))))))))))))))), fun ds G R hF => ?_⟩
  · obtain ⟨ns, rfl, _⟩ := h
    rfl
  · obtain ⟨ns, rfl, hn, q⟩ := hF
    walk_at "go"
    change WS K _ [some _, none, none, none, none, none, none, none, none, none, none] _ _
    walk_at "vv"
    refine ⟨ns, rfl, hn, fun ps hP => ?_⟩
    walk_at "vv"
    walk_at "hot"
    walk_at "cold"
    simp only [List.length_append, List.length_singleton, List.append_assoc, List.cons_append, List.nil_append]
    refine ⟨G.length, ps, 3, rfl, by decide, c0, hP, fun z ps1 z0 z1 hP1 => ?_⟩
    rw [u0]
    walk_at "vv"
    obtain ⟨odd, hodd, eodd⟩ := lit_get (enc := fun n : Nat => D.int n) (l := [0, 3, 6]) z0 z1
    have hodd := (by decide : ∀ m ∈ [0, 3, 6], m = 0 ∨ m = 3 ∨ m = 6) odd hodd
    refine rd_ixL isR eodd ?_
    walk_at "vv"
    refine ws_for (wi_rng1 (by
      walk_at "vv"
      refine ⟨G.length, ps1, 41, rfl, by decide, c0, hP1, fun y1 ps2 y10 y11 hP2 => ?_⟩
      rw [u0]
      walk_at "vv"
      refine ⟨G.length, ps2, 6, rfl, by decide, c0, hP2, fun y2 ps3 y20 y21 hP3 => ?_⟩
      rw [u0]
      walk_at "vv"
      walk_at "cold"
      refine ⟨G.length, ps3, 4, rfl, by decide, c0, hP3, fun y3 ps4 y30 y31 hP4 => ?_⟩
      rw [u0]
      walk_at "vv"
      obtain ⟨n, hn41, en⟩ : ∃ n : Nat, n ≤ 41 ∧ atI [D.int y1, D.int y2] (if decide (y3 = 0) = true then 1 else 0) = some (D.int n) := by
        by_cases h : y3 = 0
        · rw [decide_eq_true h]
          exact ⟨y2.toNat, by omega, by rw [show ((y2.toNat : Nat) : Int) = y2 by omega]; rfl⟩
        · rw [decide_eq_false h]
          exact ⟨y1.toNat, by omega, by rw [show ((y1.toNat : Nat) : Int) = y1 by omega]; rfl⟩
      refine rd_ixL isR en ?_
      walk_at "vv"
      refine ⟨_, rfl, by omega, by omega, fun i ρ G' => ∃ (rows : List (List Nat × List Nat)) (ps' : List Int) (x4 : Option D), ρ = [some (.ro (ns.map D.int)), some (.ptr G.length), some (.ptr (G.length + 1)), some (.int odd), x4, none, none, none, none, none, none] ∧ G' = G ++ [nC ps', .lst (rows.map pcD)] ∧ Pool ps' ∧ rows.length ≤ i ∧ ∀ x ∈ rows, LP x.1 x.2,
        ⟨[], ps4, none, rfl, rfl, hP4, Nat.le_refl _, fun x h => nomatch h⟩, fun _ _ _ _ => trivial, ?_, ?_⟩
      · rintro i d ρ G' hi ⟨rows, ps5, x4, rfl, rfl, hP5, hrl, hrows⟩
        obtain ⟨hi2, rfl⟩ := rgD_get' hi
        have hi41 : i < 41 := by
          have : i < n := hi2
          omega
        have add : ∀ x4 : Option D, ∀ ps6, Pool ps6 → WS K (tDrop (tBM K "list" rAppend (tVar 2) (tCons (tCall (SpD K F_law_sign) [] E0 (tCons (tVar 1) tNil)) tNil))) [some (.ro (ns.map D.int)), some (.ptr G.length), some (.ptr (G.length + 1)), some (.int odd), x4, none, none, none, none, none, none] (G ++ [nC ps6, .lst (rows.map pcD)])
            ⟨fun ρ G' => ∃ (rows : List (List Nat × List Nat)) (ps' : List Int) (x4 : Option D), ρ = [some (.ro (ns.map D.int)), some (.ptr G.length), some (.ptr (G.length + 1)), some (.int odd), x4, none, none, none, none, none, none] ∧ G' = G ++ [nC ps', .lst (rows.map pcD)] ∧ Pool ps' ∧ rows.length ≤ i + 1 ∧ ∀ x ∈ rows, LP x.1 x.2, fun _ _ => False, fun _ _ => False, fun _ _ => False⟩ := fun x4 ps6 hP6 => by
          walk_at "vv"
          refine ⟨⟨_, isLp c1⟩, ?_⟩
          walk_at "vv"
          refine ⟨G.length, ps6, rfl, c0, hP6, fun lw s ps7 hLP hP7 => ?_⟩
          rw [u0]
          walk_at "vv"
          refine rm_append c1 (by rw [List.length_map]; exact lt_size (by omega)) ?_
          rw [u1]
          refine ⟨rows ++ [(lw, s)], ps7, _, rfl, by rw [List.map_append]; rfl, hP7, by rw [List.length_append, List.length_singleton]; omega, fun x hx => ?_⟩
          rcases List.mem_append.mp hx with hx | hx
          · exact hrows x hx
          · rw [List.mem_singleton.mp hx]; exact hLP
        walk_at "vv"
        refine ws_if (wt_to (Q1 := fun b G1 => ∃ ps6, Pool ps6 ∧ G1 = G ++ [nC ps6, .lst (rows.map pcD)]) ?_ ?_)
        · walk_at "ww"
          refine ite_P (fun h => ?_) (fun h => ?_)
          · walk_at "ww"
            refine ⟨G.length, ps5, odd, rfl, by omega, c0, hP5, fun y ps6 y0 y1 hP6 => ?_⟩
            rw [u0]
            walk_at "ww"
            exact ⟨ps6, hP6, rfl⟩
          · exact ⟨ps5, hP5, rfl⟩
        · rintro b G1 ⟨ps6, hP6, rfl⟩
          have h := add (some (.int (0 + (i : Int)))) ps6 hP6
          refine ite_b (fun _ => ?_) (fun _ => ?_)
          all_goals exact fun w σ ok X l => h w σ ok X ⟨l.nx, fun _ _ _ _ z => z.elim, fun _ _ _ _ z => z.elim, fun _ _ _ _ z => z.elim⟩
      · rintro ρ G' ⟨rows, ps5, x4, rfl, rfl, hP5, hrl, hrows⟩
        rw [rgD_len] at hrl
        have hrl : rows.length ≤ 41 := by omega
        refine ws_fz 2 (G.length + 1) rfl c1 ?_
        rw [u1]
        walk_at "vv"
        refine ⟨G.length, ps5, rows, rfl, hrl, hrows, c0, hP5, fun L ps6 hL1 hL2 hL3 hL4 hL5 hL6 hP6 => ?_⟩
        rw [u0]
        walk_at "vv"
        -- no rows
        refine ws_join (Pm := fun ρ' G' => ∃ (L : List (List Nat)) (ps' : List Int), ρ' = [some (.ro (ns.map D.int)), some (.ptr G.length), some (.lst (rows.map pcD)), some (.int odd), x4, some (.lst (L.map sD)), some (.lst ((signsF 0 L).map sigD)), some (.lst ((faultsF 0 L).map ftD)), none, none, none] ∧ G' = G ++ [nC ps', .dead] ∧ Pool ps' ∧ 1 ≤ L.length ∧ L.length ≤ 90 ∧ (∀ l ∈ L, Tx.isLine l = true) ∧ (signsF 0 L).length ≤ 41 ∧ (faultsF 0 L).length ≤ 41) ?_ ?_
        · walk_at "ww"
          walk_at "cold"
          refine rd_eqE (f := pcD) (g := fun x => .tuple [.str (S x.1), .str (S x.2)]) isR (PdA.map fun x hx => .tup (.cons (.str (strOk_S (hrows x hx).lt.1)) (.cons (.str (strOk_S (hrows x hx).lt.2)) .nil))) (fun a _ => by exact (by decide : 1 ≤ 10)) ?_
          walk_at "ww"
          refine ite_P (fun h => ?_) (fun h => ?_)
          · obtain rfl := hL6 h
            walk_at "ww"
            walk_at "cold"
            walk_at "cold"
            refine ⟨G.length, ps6, rfl, c0, hP6, fun u ps7 hu hok hP7 => ?_⟩
            rw [u0]
            walk_at "ww"
            walk_at "cold"
            refine ⟨G.length, ps7, rfl, c0, hP7, fun v ps8 hv hokv hP8 => ?_⟩
            rw [u0]
            walk_at "ww"
            · walk_at "cold"
              refine ⟨G.length, ps8, rfl, c0, hP8, fun x ps9 hx hokx hP9 => ?_⟩
              rw [u0]
              walk_at "ww"
              walk_at "cold"
              walk_at "cold"
              refine ⟨G.length, ps9, 5, rfl, by decide, c0, hP9, fun y ps10 y0 y1 hP10 => ?_⟩
              rw [u0]
              walk_at "ww"
              have hr1 : Rem [32, 32] := rem_blank (rem_blank rem_nil (by decide)) (by decide)
              have hr2 := rem_dash hok (by omega)
              have hr3 : Rem (32 :: 45 :: 45 :: v) := rem_blank (rem_dash hokv (by omega)) (by rw [List.length_cons, List.length_cons]; omega)
              have hr4 := rem_dash hokx (by omega)
              obtain ⟨L', hL', eL'⟩ := lit_get (enc := fun ls : List (List Nat) => D.lst (ls.map sD)) (l := [[[]], [[32, 32]], [45 :: 45 :: u], [32 :: 45 :: 45 :: v], [45 :: 45 :: x, []]]) y0 y1
              refine rd_ixL isR eL' ?_
              walk_at "ww"
              have hrem : (∀ e ∈ L', Rem e) ∧ 1 ≤ L'.length ∧ L'.length ≤ 90 := by
                rcases List.mem_cons.mp hL' with h | hL'
                · rw [h]; exact ⟨fun e he => List.mem_singleton.mp he ▸ rem_nil, by decide, by decide⟩
                · rcases List.mem_cons.mp hL' with h | hL'
                  · rw [h]; exact ⟨fun e he => List.mem_singleton.mp he ▸ hr1, by decide, by decide⟩
                  · rcases List.mem_cons.mp hL' with h | hL'
                    · rw [h]; exact ⟨fun e he => List.mem_singleton.mp he ▸ hr2, Nat.le_refl _, (show 1 ≤ 90 by decide)⟩
                    · rcases List.mem_cons.mp hL' with h | hL'
                      · rw [h]; exact ⟨fun e he => List.mem_singleton.mp he ▸ hr3, Nat.le_refl _, (show 1 ≤ 90 by decide)⟩
                      · rw [List.mem_singleton.mp hL']
                        exact ⟨fun e he => (List.mem_cons.mp he).elim (fun z => z ▸ hr4) fun z => List.mem_singleton.mp z ▸ rem_nil, (show 1 ≤ 2 by decide), (show 2 ≤ 90 by decide)⟩
              have hs := rem_signs hrem.1 0
              refine ⟨L', ps10, ?_, rfl, hP10, hrem.2.1, hrem.2.2, fun l hl => okc_line (hrem.1 l hl).2.1 (hrem.1 l hl).2.2, by rw [hs.1]; decide, by rw [hs.2]; decide⟩
              rw [hs.1, hs.2]
              rfl
            all_goals (simp; omega)
          · walk_at "ww"
            exact ⟨L, ps6, rfl, rfl, hP6, hL1, hL2, hL3, hL4, hL5⟩
        · clear hL1 hL2 hL3 hL4 hL5 hL6
          rintro ρ' G' ⟨L, ps7, rfl, rfl, hP7, hL1, hL2, hL3, hL4, hL5⟩
          walk_at "vv"
          refine ws_join (Pm := fun ρ' G' => ∃ (L : List (List Nat)) (ps' : List Int), ρ' = [some (.ro (ns.map D.int)), some (.ptr G.length), some (.lst (rows.map pcD)), some (.int odd), x4, some (.lst (L.map sD)), some (.lst ((signsF 0 L).map sigD)), some (.lst ((faultsF 0 L).map ftD)), none, none, none] ∧ G' = G ++ [nC ps', .dead] ∧ Fine L) ?_ ?_
          · walk_at "ww"
            refine ⟨G.length, ps7, 30, rfl, by decide, c0, hP7, fun y ps8 y0 y1 hP8 => ?_⟩
            rw [u0]
            walk_at "ww"
            refine ite_P (fun h => ?_) (fun h => ?_)
            · walk_at "ww"
              refine ⟨L, rfl, hL1, hL2, hL3, hL4, hL5, fun L' hf => ?_⟩
              walk_at "ww"
              exact ⟨L', ps8, rfl, rfl, hf⟩
            · walk_at "ww"
              exact ⟨L, ps8, rfl, rfl, hL1, by omega, hL3, .small (by omega), by omega, by omega⟩
          · clear hL1 hL2 hL3 hL4 hL5
            rintro ρ' G' ⟨L, ps8, rfl, rfl, hf⟩
            have hl2 := hf.l2
            walk_at "vv"
            refine isLid (ls := L.map sD) (by decide) (by rw [List.length_map]; omega) (fun d => ?_) (wi_list (we_var rfl ⟨_, isR, rfl, isR, rfl, ?_⟩))
            · walk_at "vv"
              exact ⟨rfl, rfl⟩
            · refine .inr ?_
              walk_at "vv"
              simp only [List.length_append, List.length_cons, List.length_nil, List.append_assoc, List.cons_append, List.nil_append]
              refine ⟨.ptr (G.length + 2), L, rfl, isLp c2, hf.l1, hf.l2, hf.ok, ?_⟩
              walk_at "vv"
              simp only [List.length_append, List.length_cons, List.length_nil, List.append_assoc, List.cons_append, List.nil_append]
              change WS K _ [some (.ro (ns.map D.int)), some (.ptr G.length), some (.lst (rows.map pcD)), some (.int odd), x4, some (.lst (L.map sD)), some (.lst ((signsF 0 L).map sigD)), some (.lst ((faultsF 0 L).map ftD)), some (.ptr (G.length + 2)), some (.tup [.ptr (G.length + 3), .ptr (G.length + 4)]), none] _ _
              walk_at "ww"
              refine ⟨_, _, rfl, same_told hf c3 c4, ?_⟩
              walk_at "ww"
              refine rd_neD (.lst (isRp c2) (pd_lines hf.ok)) (.lst isR (pd_lines hf.ok)) (depth_l fun a _ => by exact (by decide : 0 ≤ 10)) (depth_l fun a _ => by exact (by decide : 0 ≤ 10)) ?_
              rw [show PyData.eqv (.list (L.map fun l => .str (S l))) (.list (L.map fun l => .str (S l))) = true from (eqvAll_map eqv_S).mpr rfl]
              walk_at "ww"
              refine ⟨⟨_, isLp c3⟩, ?_⟩
              walk_at "ww"
              refine rm_append c3 (by rw [List.length_map]; exact lt_size (by have := hf.s1; omega)) ?_
              rw [u3]
              walk_at "ww"
              refine ⟨⟨_, isLp c4⟩, ?_⟩
              walk_at "ww"
              refine rm_append c4 (by rw [List.length_map]; exact lt_size (by have := hf.f1; omega)) ?_
              rw [u4]
              walk_at "ww"
              refine ⟨_, _, _, _, rfl, rfl, c2, ix0 (by rw [List.length_map]; exact hf.l1), ?_⟩
              rw [u2]
              walk_at "ww"
              refine isLid (ls := L.map sD) (by decide) (by rw [List.length_map]; omega) (fun d => ?_) (wi_list (we_var rfl ⟨_, isR, rfl, isR, rfl, ?_⟩))
              · walk_at "vv"
                exact ⟨rfl, rfl⟩
              · walk_at "cold"
                refine ⟨_, L, rfl, isL, hf.l1, hf.l2, hf.ok, ?_⟩
                walk_at "ww"
                simp only [List.length_append, List.length_cons, List.length_nil, List.append_assoc, List.cons_append, List.nil_append]
                refine ⟨_, _, rfl, same_told hf c5 c6, ?_⟩
                walk_at "ww"
                refine ⟨L, rfl, hf, ?_⟩
                exact Gc.same (.bl _) q))
end

theorem reps_ns {K : PySem.W.Frag} {B : Hp} {ps : List Addr} : ∀ ns : List Int, Reps K B ps (ns.map V.int) (ns.map D.int)
  | [] => .nil
  | _ :: r => .cons (.int _) (reps_ns r)
/-- what the law is asked, as data -/
theorem law_sp {K : PySem.W.Frag} {F : FD} {H : Hp} {a : Addr} {ns : List Int} (hS : SqL K H a (ns.map V.int)) (hF : F [.ro (ns.map D.int)] [] fun d _ => d = .bl true) : SpD K F [.ref a] H (fun v _ => v = .bl true) fun _ _ _ => False := by
  refine ⟨⟨H, H, []⟩, [], [.ro (ns.map D.int)], fun d _ => d = .bl true, rfl, ?_, rfl, hF, fun v d w' G' r ok rep f => ?_⟩
  · refine ⟨fun _ _ h => h, (fun a h => nomatch h), List.nodup_nil, rfl, (fun k p c h => nomatch h), (fun k p c h => nomatch h), Nat.le_refl _, fun i d h => ?_⟩
    cases i with
    | zero =>
      cases h
      exact ⟨_, rfl, .ro hS (reps_ns ns)⟩
    | succ i => exact nomatch h
  · subst r
    cases rep
    rfl
theorem hfacts {l : PySem.W.OpenLaw} {w : World} {K : PySem.W.Frag} {h : Heap} {mg : Str → Option Value} {fa : Addr} (X : K.In h) (G : h.Ns mainGlobals mg) (hfa : mg "law" = some (.ref fa)) (c : He.SaysD My.hfa hfn K) (ce : hex K = true)
    (hlaw : ∀ (base : Heap) (T : Top K mg), FnOk l.prog w K mg base CX0 9 T.a_law T.d_law ["script"] (SpD K F_law)) :
    ∃ fd : FuncData, (∀ (s : Shared) (v : Value), BindsTo s fd ⟨[v], []⟩ [("script", v)]) ∧ ∀ base : Heap, K.In base → base.Ns mainGlobals mg → FnOk l.prog w K mg base CX0 9 fa fd ["script"] (SpD K F_law) := by
  have exat : ∀ (i : Nat) {b : Bool}, (hexs K)[i]? = some b → b = true := fun i b hb => List.all_eq_true.mp ce b (List.mem_of_getElem? hb)
  obtain ⟨d0, F0⟩ := HM.def_of c 0 (p := ("is_line", none)) (x := "is_line") (q := "is_line") (st := s_is_line) rfl
  have b0 := F0.binds (ps := ["value"]) fun _ _ _ _ _ _ us hl => match us, hl with | [_], _ => rfl
  obtain ⟨d1, F1⟩ := HM.def_of c 1 (p := ("is_word", none)) (x := "is_word") (q := "is_word") (st := s_is_word) rfl
  have b1 := F1.binds (ps := ["value", "begins", "signs"]) fun _ _ _ _ _ _ us hl => match us, hl with | [_, _, _], _ => rfl
  obtain ⟨d2, F2⟩ := HM.def_of c 2 (p := ("is_name", none)) (x := "is_name") (q := "is_name") (st := s_is_name) rfl
  have b2 := F2.binds (ps := ["value"]) fun _ _ _ _ _ _ us hl => match us, hl with | [_], _ => rfl
  obtain ⟨d3, F3⟩ := HM.def_of c 3 (p := ("is_great", none)) (x := "is_great") (q := "is_great") (st := s_is_great) rfl
  have b3 := F3.binds (ps := ["value"]) fun _ _ _ _ _ _ us hl => match us, hl with | [_], _ => rfl
  obtain ⟨d4, F4⟩ := HM.def_of c 4 (p := ("run_of", none)) (x := "run_of") (q := "run_of") (st := s_run_of) rfl
  have b4 := F4.binds (ps := ["line", "signs"]) fun _ _ _ _ _ _ us hl => match us, hl with | [_, _], _ => rfl
  obtain ⟨d5, F5⟩ := HM.def_of c 5 (p := ("begins_block", none)) (x := "begins_block") (q := "begins_block") (st := s_begins_block) rfl
  have b5 := F5.binds (ps := ["line"]) fun _ _ _ _ _ _ us hl => match us, hl with | [_], _ => rfl
  obtain ⟨d6, F6⟩ := HM.def_of c 6 (p := ("head_of", none)) (x := "head_of") (q := "head_of") (st := s_head_of) rfl
  have b6 := F6.binds (ps := ["line"]) fun _ _ _ _ _ _ us hl => match us, hl with | [_], _ => rfl
  obtain ⟨d7, F7⟩ := HM.def_of c 7 (p := ("check_lines", none)) (x := "check_lines") (q := "check_lines") (st := s_check_lines) rfl
  have b7 := F7.binds (ps := ["value"]) fun _ _ _ _ _ _ us hl => match us, hl with | [_], _ => rfl
  obtain ⟨d8, F8⟩ := HM.def_of c 8 (p := ("is_figures", none)) (x := "is_figures") (q := "is_figures") (st := s_is_figures) rfl
  have b8 := F8.binds (ps := ["value"]) fun _ _ _ _ _ _ us hl => match us, hl with | [_], _ => rfl
  obtain ⟨d9, F9⟩ := HM.def_of c 9 (p := ("run_end", none)) (x := "run_end") (q := "run_end") (st := s_run_end) rfl
  have b9 := F9.binds (ps := ["line", "at", "signs"]) fun _ _ _ _ _ _ us hl => match us, hl with | [_, _, _], _ => rfl
  obtain ⟨d10, F10⟩ := HM.def_of c 10 (p := ("wild_end", none)) (x := "wild_end") (q := "wild_end") (st := s_wild_end) rfl
  have b10 := F10.binds (ps := ["line", "at"]) fun _ _ _ _ _ _ us hl => match us, hl with | [_, _], _ => rfl
  obtain ⟨d11, F11⟩ := HM.def_of c 11 (p := ("word_of", none)) (x := "word_of") (q := "word_of") (st := s_word_of) rfl
  have b11 := F11.binds (ps := ["string"]) fun _ _ _ _ _ _ us hl => match us, hl with | [_], _ => rfl
  obtain ⟨d12, F12⟩ := HM.def_of c 12 (p := ("text_at", none)) (x := "text_at") (q := "text_at") (st := s_text_at) rfl
  have b12 := F12.binds (ps := ["line", "at"]) fun _ _ _ _ _ _ us hl => match us, hl with | [_, _], _ => rfl
  obtain ⟨d13, F13⟩ := HM.def_of c 13 (p := ("sign_at", none)) (x := "sign_at") (q := "sign_at") (st := s_sign_at) rfl
  have b13 := F13.binds (ps := ["line", "at"]) fun _ _ _ _ _ _ us hl => match us, hl with | [_, _], _ => rfl
  obtain ⟨d14, F14⟩ := HM.def_of c 14 (p := ("spans_in", none)) (x := "spans_in") (q := "spans_in") (st := s_spans_in) rfl
  have b14 := F14.binds (ps := ["line"]) fun _ _ _ _ _ _ us hl => match us, hl with | [_], _ => rfl
  obtain ⟨d15, F15⟩ := HM.def_of c 15 (p := ("signs_of", none)) (x := "signs_of") (q := "signs_of") (st := s_signs_of) rfl
  have b15 := F15.binds (ps := ["lines"]) fun _ _ _ _ _ _ us hl => match us, hl with | [_], _ => rfl
  obtain ⟨d16, F16⟩ := HM.def_of c 16 (p := ("tree_from", none)) (x := "tree_from") (q := "tree_from") (st := s_tree_from) rfl
  have b16 := F16.binds (ps := ["head", "signs", "faults"]) fun _ _ _ _ _ _ us hl => match us, hl with | [_, _, _], _ => rfl
  obtain ⟨d17, F17⟩ := HM.def_of c 17 (p := ("tree_of", none)) (x := "tree_of") (q := "tree_of") (st := s_tree_of) rfl
  have b17 := F17.binds (ps := ["lines"]) fun _ _ _ _ _ _ us hl => match us, hl with | [_], _ => rfl
  obtain ⟨d18, F18⟩ := HM.def_of c 18 (p := ("_law_pool", none)) (x := "_law_pool") (q := "_law_pool") (st := s_law_pool) rfl
  have b18 := F18.binds (ps := ["script"]) fun _ _ _ _ _ _ us hl => match us, hl with | [_], _ => rfl
  obtain ⟨d19, F19⟩ := HM.def_of c 19 (p := ("_law_stream", none)) (x := "_law_stream") (q := "_law_stream") (st := s_law_stream) rfl
  have b19 := F19.binds (ps := ["script"]) fun _ _ _ _ _ _ us hl => match us, hl with | [_], _ => rfl
  obtain ⟨d20, F20⟩ := HM.def_of c 20 (p := ("_law_pick", none)) (x := "_law_pick") (q := "_law_pick") (st := s_law_pick) rfl
  have b20 := F20.binds (ps := ["pool", "many"]) fun _ _ _ _ _ _ us hl => match us, hl with | [_, _], _ => rfl
  obtain ⟨d21, F21⟩ := HM.def_of c 21 (p := ("_law_same", none)) (x := "_law_same") (q := "_law_same") (st := s_law_same) rfl
  have b21 := F21.binds (ps := ["one", "other"]) fun _ _ _ _ _ _ us hl => match us, hl with | [_, _], _ => rfl
  obtain ⟨d22, F22⟩ := HM.def_of c 22 (p := ("_law_of", none)) (x := "_law_of") (q := "_law_of") (st := s_law_of) rfl
  have b22 := F22.binds (ps := ["pool", "signs"]) fun _ _ _ _ _ _ us hl => match us, hl with | [_, _], _ => rfl
  obtain ⟨d23, F23⟩ := HM.def_of c 23 (p := ("_law_run", none)) (x := "_law_run") (q := "_law_run") (st := s_law_run) rfl
  have b23 := F23.binds (ps := ["pool", "first", "others", "many"]) fun _ _ _ _ _ _ us hl => match us, hl with | [_, _, _, _], _ => rfl
  obtain ⟨d24, F24⟩ := HM.def_of c 24 (p := ("_law_small", none)) (x := "_law_small") (q := "_law_small") (st := s_law_small) rfl
  have b24 := F24.binds (ps := []) fun _ _ _ _ _ _ us hl => match us, hl with | [], _ => rfl
  obtain ⟨d25, F25⟩ := HM.def_of c 25 (p := ("_law_great", none)) (x := "_law_great") (q := "_law_great") (st := s_law_great) rfl
  have b25 := F25.binds (ps := []) fun _ _ _ _ _ _ us hl => match us, hl with | [], _ => rfl
  obtain ⟨d26, F26⟩ := HM.def_of c 26 (p := ("_law_wild", none)) (x := "_law_wild") (q := "_law_wild") (st := s_law_wild) rfl
  have b26 := F26.binds (ps := []) fun _ _ _ _ _ _ us hl => match us, hl with | [], _ => rfl
  obtain ⟨d27, F27⟩ := HM.def_of c 27 (p := ("_law_all", none)) (x := "_law_all") (q := "_law_all") (st := s_law_all) rfl
  have b27 := F27.binds (ps := []) fun _ _ _ _ _ _ us hl => match us, hl with | [], _ => rfl
  obtain ⟨d28, F28⟩ := HM.def_of c 28 (p := ("_law_words", none)) (x := "_law_words") (q := "_law_words") (st := s_law_words) rfl
  have b28 := F28.binds (ps := []) fun _ _ _ _ _ _ us hl => match us, hl with | [], _ => rfl
  obtain ⟨d29, F29⟩ := HM.def_of c 29 (p := ("_law_marks", none)) (x := "_law_marks") (q := "_law_marks") (st := s_law_marks) rfl
  have b29 := F29.binds (ps := []) fun _ _ _ _ _ _ us hl => match us, hl with | [], _ => rfl
  obtain ⟨d30, F30⟩ := HM.def_of c 30 (p := ("_law_sign", none)) (x := "_law_sign") (q := "_law_sign") (st := s_law_sign) rfl
  have b30 := F30.binds (ps := ["pool"]) fun _ _ _ _ _ _ us hl => match us, hl with | [_], _ => rfl
  obtain ⟨d31, F31⟩ := HM.def_of c 31 (p := ("_law_none", none)) (x := "_law_none") (q := "_law_none") (st := s_law_none) rfl
  have b31 := F31.binds (ps := ["pool"]) fun _ _ _ _ _ _ us hl => match us, hl with | [_], _ => rfl
  obtain ⟨d32, F32⟩ := HM.def_of c 32 (p := ("_law_tight", none)) (x := "_law_tight") (q := "_law_tight") (st := s_law_tight) rfl
  have b32 := F32.binds (ps := ["one", "other"]) fun _ _ _ _ _ _ us hl => match us, hl with | [_, _], _ => rfl
  obtain ⟨d33, F33⟩ := HM.def_of c 33 (p := ("_law_remark", none)) (x := "_law_remark") (q := "_law_remark") (st := s_law_remark) rfl
  have b33 := F33.binds (ps := ["pool"]) fun _ _ _ _ _ _ us hl => match us, hl with | [_], _ => rfl
  obtain ⟨d34, F34⟩ := HM.def_of c 34 (p := ("_law_laid", none)) (x := "_law_laid") (q := "_law_laid") (st := s_law_laid) rfl
  have b34 := F34.binds (ps := ["pool", "rows"]) fun _ _ _ _ _ _ us hl => match us, hl with | [_, _], _ => rfl
  obtain ⟨d35, F35⟩ := HM.def_of c 35 (p := ("_law_tall", none)) (x := "_law_tall") (q := "_law_tall") (st := s_law_tall) rfl
  have b35 := F35.binds (ps := ["lines", "signs", "faults"]) fun _ _ _ _ _ _ us hl => match us, hl with | [_, _, _], _ => rfl
  obtain ⟨d36, F36⟩ := HM.def_of c 36 (p := ("_law_block", none)) (x := "_law_block") (q := "_law_block") (st := s_law_block) rfl
  have b36 := F36.binds (ps := ["lines", "signs", "faults"]) fun _ _ _ _ _ _ us hl => match us, hl with | [_, _, _], _ => rfl
  obtain ⟨d37, F37⟩ := HM.def_of c 37 (p := ("law", none)) (x := "law") (q := "law") (st := s_law) rfl
  have b37 := F37.binds (ps := ["script"]) fun _ _ _ _ _ _ us hl => match us, hl with | [_], _ => rfl
  obtain ⟨t_MOST_SIGNS, g_MOST_SIGNS⟩ := He.int_ok X G (x := "MOST_SIGNS") (i := 100) (c.fact 40 rfl)
  obtain ⟨t_SMALL, g_SMALL⟩ := He.str_ok X G (x := "SMALL") (z := "abcdefghijklmnopqrstuvwxyz") (c.fact 41 rfl)
  obtain ⟨t_GREAT, g_GREAT⟩ := He.str_ok X G (x := "GREAT") (z := "ABCDEFGHIJKLMNOPQRSTUVWXYZ") (c.fact 42 rfl)
  obtain ⟨t_FIGURES, g_FIGURES⟩ := He.str_ok X G (x := "FIGURES") (z := "0123456789") (c.fact 43 rfl)
  obtain ⟨t_MOST_TEXT, g_MOST_TEXT⟩ := He.int_ok X G (x := "MOST_TEXT") (i := 60) (c.fact 44 rfl)
  obtain ⟨t_MOST_FIGURES, g_MOST_FIGURES⟩ := He.int_ok X G (x := "MOST_FIGURES") (i := 18) (c.fact 45 rfl)
  obtain ⟨t_MARKS, g_MARKS⟩ := He.str_ok X G (x := "MARKS") (z := "(){},:=|.?+-*<") (c.fact 47 rfl)
  obtain ⟨t_QUOTE, g_QUOTE⟩ := He.str_ok X G (x := "QUOTE") (z := "\"") (c.fact 48 rfl)
  have e := hfa.symm.trans (He.glo_ok X G (x := "law") (c.fact 37 rfl))
  cases e
  let T : Top K mg := ⟨He.fAd K ("is_line", none),
    d0,
    ⟨F0, b0, He.glo_ok X G (x := "is_line") (c.fact 0 rfl)⟩,
    He.fAd K ("is_word", none),
    d1,
    ⟨F1, b1, He.glo_ok X G (x := "is_word") (c.fact 1 rfl)⟩,
    He.fAd K ("is_name", none),
    d2,
    ⟨F2, b2, He.glo_ok X G (x := "is_name") (c.fact 2 rfl)⟩,
    He.fAd K ("is_great", none),
    d3,
    ⟨F3, b3, He.glo_ok X G (x := "is_great") (c.fact 3 rfl)⟩,
    He.fAd K ("run_of", none),
    d4,
    ⟨F4, b4, He.glo_ok X G (x := "run_of") (c.fact 4 rfl)⟩,
    He.fAd K ("begins_block", none),
    d5,
    ⟨F5, b5, He.glo_ok X G (x := "begins_block") (c.fact 5 rfl)⟩,
    He.fAd K ("head_of", none),
    d6,
    ⟨F6, b6, He.glo_ok X G (x := "head_of") (c.fact 6 rfl)⟩,
    He.fAd K ("check_lines", none),
    d7,
    ⟨F7, b7, He.glo_ok X G (x := "check_lines") (c.fact 7 rfl)⟩,
    He.fAd K ("is_figures", none),
    d8,
    ⟨F8, b8, He.glo_ok X G (x := "is_figures") (c.fact 8 rfl)⟩,
    He.fAd K ("run_end", none),
    d9,
    ⟨F9, b9, He.glo_ok X G (x := "run_end") (c.fact 9 rfl)⟩,
    He.fAd K ("wild_end", none),
    d10,
    ⟨F10, b10, He.glo_ok X G (x := "wild_end") (c.fact 10 rfl)⟩,
    He.fAd K ("word_of", none),
    d11,
    ⟨F11, b11, He.glo_ok X G (x := "word_of") (c.fact 11 rfl)⟩,
    He.fAd K ("text_at", none),
    d12,
    ⟨F12, b12, He.glo_ok X G (x := "text_at") (c.fact 12 rfl)⟩,
    He.fAd K ("sign_at", none),
    d13,
    ⟨F13, b13, He.glo_ok X G (x := "sign_at") (c.fact 13 rfl)⟩,
    He.fAd K ("spans_in", none),
    d14,
    ⟨F14, b14, He.glo_ok X G (x := "spans_in") (c.fact 14 rfl)⟩,
    He.fAd K ("signs_of", none),
    d15,
    ⟨F15, b15, He.glo_ok X G (x := "signs_of") (c.fact 15 rfl)⟩,
    He.fAd K ("tree_from", none),
    d16,
    ⟨F16, b16, He.glo_ok X G (x := "tree_from") (c.fact 16 rfl)⟩,
    He.fAd K ("tree_of", none),
    d17,
    ⟨F17, b17, He.glo_ok X G (x := "tree_of") (c.fact 17 rfl)⟩,
    He.fAd K ("_law_pool", none),
    d18,
    ⟨F18, b18, He.glo_ok X G (x := "_law_pool") (c.fact 18 rfl)⟩,
    He.fAd K ("_law_stream", none),
    d19,
    ⟨F19, b19, He.glo_ok X G (x := "_law_stream") (c.fact 19 rfl)⟩,
    He.fAd K ("_law_pick", none),
    d20,
    ⟨F20, b20, He.glo_ok X G (x := "_law_pick") (c.fact 20 rfl)⟩,
    He.fAd K ("_law_same", none),
    d21,
    ⟨F21, b21, He.glo_ok X G (x := "_law_same") (c.fact 21 rfl)⟩,
    He.fAd K ("_law_of", none),
    d22,
    ⟨F22, b22, He.glo_ok X G (x := "_law_of") (c.fact 22 rfl)⟩,
    He.fAd K ("_law_run", none),
    d23,
    ⟨F23, b23, He.glo_ok X G (x := "_law_run") (c.fact 23 rfl)⟩,
    He.fAd K ("_law_small", none),
    d24,
    ⟨F24, b24, He.glo_ok X G (x := "_law_small") (c.fact 24 rfl)⟩,
    He.fAd K ("_law_great", none),
    d25,
    ⟨F25, b25, He.glo_ok X G (x := "_law_great") (c.fact 25 rfl)⟩,
    He.fAd K ("_law_wild", none),
    d26,
    ⟨F26, b26, He.glo_ok X G (x := "_law_wild") (c.fact 26 rfl)⟩,
    He.fAd K ("_law_all", none),
    d27,
    ⟨F27, b27, He.glo_ok X G (x := "_law_all") (c.fact 27 rfl)⟩,
    He.fAd K ("_law_words", none),
    d28,
    ⟨F28, b28, He.glo_ok X G (x := "_law_words") (c.fact 28 rfl)⟩,
    He.fAd K ("_law_marks", none),
    d29,
    ⟨F29, b29, He.glo_ok X G (x := "_law_marks") (c.fact 29 rfl)⟩,
    He.fAd K ("_law_sign", none),
    d30,
    ⟨F30, b30, He.glo_ok X G (x := "_law_sign") (c.fact 30 rfl)⟩,
    He.fAd K ("_law_none", none),
    d31,
    ⟨F31, b31, He.glo_ok X G (x := "_law_none") (c.fact 31 rfl)⟩,
    He.fAd K ("_law_tight", none),
    d32,
    ⟨F32, b32, He.glo_ok X G (x := "_law_tight") (c.fact 32 rfl)⟩,
    He.fAd K ("_law_remark", none),
    d33,
    ⟨F33, b33, He.glo_ok X G (x := "_law_remark") (c.fact 33 rfl)⟩,
    He.fAd K ("_law_laid", none),
    d34,
    ⟨F34, b34, He.glo_ok X G (x := "_law_laid") (c.fact 34 rfl)⟩,
    He.fAd K ("_law_tall", none),
    d35,
    ⟨F35, b35, He.glo_ok X G (x := "_law_tall") (c.fact 35 rfl)⟩,
    He.fAd K ("_law_block", none),
    d36,
    ⟨F36, b36, He.glo_ok X G (x := "_law_block") (c.fact 36 rfl)⟩,
    He.fAd K ("law", none),
    d37,
    ⟨F37, b37, He.glo_ok X G (x := "law") (c.fact 37 rfl)⟩,
    He.ga K "WORDS",
    He.glo_ok X G (x := "WORDS") (c.fact 38 rfl),
    fun H => He.tupB_ok (x := "WORDS") (vs := [.str "use", .str "data", .str "let", .str "fun", .str "if", .str "then", .str "else", .str "in", .str "match", .str "with", .str "end", .str "true", .str "false", .str "and", .str "or", .str "not", .str "int", .str "bool", .str "text"]) (exat 0 rfl) H,
    He.ga K "HEAD_WORDS",
    He.glo_ok X G (x := "HEAD_WORDS") (c.fact 39 rfl),
    fun H => He.tupB_ok (x := "HEAD_WORDS") (vs := [.str "use", .str "data", .str "let", .str "fun"]) (exat 1 rfl) H,
    t_MOST_SIGNS,
    g_MOST_SIGNS,
    t_SMALL,
    g_SMALL,
    t_GREAT,
    g_GREAT,
    t_FIGURES,
    g_FIGURES,
    t_MOST_TEXT,
    g_MOST_TEXT,
    t_MOST_FIGURES,
    g_MOST_FIGURES,
    He.ga K "LONG_MARKS",
    He.glo_ok X G (x := "LONG_MARKS") (c.fact 46 rfl),
    fun H => He.tupB_ok (x := "LONG_MARKS") (vs := [.str "->", .str "=="]) (exat 2 rfl) H,
    t_MARKS,
    g_MARKS,
    t_QUOTE,
    g_QUOTE,
    He.free_ok X G (x := "range") (c.fact 49 rfl),
    He.free_ok X G (x := "int") (c.fact 50 rfl),
    He.free_ok X G (x := "len") (c.fact 51 rfl),
    He.free_ok X G (x := "bool") (c.fact 52 rfl),
    He.free_ok X G (x := "str") (c.fact 53 rfl),
    He.free_ok X G (x := "list") (c.fact 54 rfl),
    He.free_ok X G (x := "tuple") (c.fact 55 rfl),
    He.free_ok X G (x := "isinstance") (c.fact 56 rfl),
    He.free_ok X G (x := "all") (c.fact 57 rfl),
    He.free_ok X G (x := "sum") (c.fact 58 rfl),
    He.free_ok X G (x := "enumerate") (c.fact 59 rfl),
    He.free_ok X G (x := "min") (c.fact 60 rfl),
    He.free_ok X G (x := "max") (c.fact 61 rfl),
    He.free_ok X G (x := "sorted") (c.fact 62 rfl)⟩
  exact ⟨T.d_law, fun s v => by
    obtain ⟨oc, od, kV, doc, pm, an, cdv, ct, osl, e, _, _⟩ := F37.ex
    have e2 : T.d_law = _ := e
    rw [e2]
    exact .of_eq rfl, fun base _ _ => hlaw base T⟩
end My
open PySem PySem.W PyProof.Rows
set_option maxHeartbeats 0 in
theorem PySem.Challenge.cw_asifnew_k10_whole_signs_by_the_making_holds : PySem.Challenge.rw_asifnew_k10_whole_signs_by_the_making.Holds := by
  w_on; o_law
  refine HandSHeadRun.head_any (r := PySem.W.OpenLaw.row PySem.Challenge.rw_asifnew_k10_whole_signs_by_the_making) (q := PySem.W.view (PySem.W.OpenLaw.row PySem.Challenge.rw_asifnew_k10_whole_signs_by_the_making).prog [90]) (H := My.hH) (ob := My.hob) (M := 12000) (loose := (My.loose0 ++ My.loose1 ++ My.loose2)) (d := HandSHeadRun.topDef (PySem.W.OpenLaw.row PySem.Challenge.rw_asifnew_k10_whole_signs_by_the_making).prog 90) (kwd := []) My.hob_eq
    (by kernel_rfl) (fun s => by kernel_rfl) My.hrun (by kernel_rfl) (by kernel_rfl) (by kernel_rfl) (by rfl) (by first | assumption | decide +kernel) (by decide +kernel) ⟨rfl, rfl, rfl, rfl, rfl, by decide +kernel⟩ ?hw ?hc
  case hw => w_witness2
  case hc =>
    refine L2.walk_ofE (l := PySem.Challenge.rw_asifnew_k10_whole_signs_by_the_making) (n := 63) (k := 9) (x := "script") (CX := L2.CX0) rfl (by decide) (by kernel_rfl) ⟨rfl, by decide, by decide⟩ ?F (fun _ _ _ _ z => z)
    intro w mg fa h Y G hmg0
    obtain ⟨K, KX, c, ce⟩ := Y
    have hmg : mg ("law" : PySem.Str) = some (.ref fa) := by
      have e : (HandSHeadRun.topDef (PySem.W.OpenLaw.row PySem.Challenge.rw_asifnew_k10_whole_signs_by_the_making).prog 90).name = ("law" : PySem.Str) := by kernel_rfl
      rw [← e]
      exact hmg0
    obtain ⟨fd, hb, hF⟩ := My.hfacts (l := PySem.Challenge.rw_asifnew_k10_whole_signs_by_the_making) (w := w) KX G hmg c ce fun base T => My.ok_law T
    exact ⟨K, fd, DL.SpD K My.F_law, KX, hb, fun H a ns hl _ hS => My.law_sp hS ⟨ns, rfl, hl, rfl⟩, hF⟩
namespace My
end My
